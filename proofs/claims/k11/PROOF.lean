import PyProof.Rows.All
import Wide.All
import OpenK.AllK
import Wide.FinOn
import HandS.ForMost
import HandS.IsInst
import HandS.Exc
import HandS.Lambda
import KE.KDflt
import HandS.Flow
import HandS.ExcOwn
import HandS.CallSlots
import HandS.Deep
import PyProof.StrBlock2
import KE.GoesMore
import KE.GoesZip
import KE.GoesEnum
import PySem.Challenge.RW_oncethrough_k11_limits_of_sayings
import HandS.Codes
import HandS.MakeKwOnly
import HandS.ClsMeth
import HandS.Style
import HandS.ExcBuiltin
import HandS.Ends
import KE.KExcPX
import KE.KExcInit
import KE.KExcMake
import KE.KExcSuper
import KE.KSuper
import HandS.WordsExc
import KE.KTryMore
import HandS.HotCalls
import HandS.ExcField
import HandS.ExcIs
import HandS.HeadHook4
import HandS.Conv
import HandS.Star
import HandS.OwnEq
import HandS.Strs
import OpenK.KMeth
import PyProof.ByEval2
import KE.KStateDown
import Lean
import HandS.More
import HandS.Words
import HandS.Defaults
import HandS.Head0
import HandS.Head1
import HandS.Head2
import HandS.HeadEnd
import HandS.HeadHook1
import HandS.HeadHook2
import HandS.HeadWalk
set_option Elab.async false
set_option linter.all false
set_option maxRecDepth 100000
set_option maxHeartbeats 4000000
/-! By-value layer: data trees D, what represents them (Rp), readings without the heap. -/
namespace EV
open PySem PySem.Spec PyProof.Rows L2

/-- a lambda: its text, the cells that it captured -/
structure LamD where
  qual : Str
  params : Arguments
  body : Expr
  scope : Scope
  cells : List (Str × Addr)
/-- data as a tree -/
inductive D where
  | non | bl (b : Bool) | int (i : Int) | str (x : Str) | opq (v : V)
  | lst (xs : List D) | tup (xs : List D) | dic (kvs : List (Key × D)) | ins (C : Addr) (fs : List (Str × D)) | exc (C : Addr) (fs : List (Str × D)) | lam (l : LamD)

/-- an exception object of the class at C, its dict at dx: the very object -/
def ExO (C dx : Addr) (u : HO) : Prop := ∃ (oe : Obj) (vs : Array Value), u = .frz oe (.own 0) ∧ Zc (.ref C) (some dx) oe ∧ oe.data = .fields vs
/-- the def's data of a lambda, its code at c -/
def LamFd (G : Hp) (l : LamD) (c : Addr) (fd : FuncData) : Prop := ∃ (dV doc pm ctv : Value) (binds : List (Str × Value)), fd = PySem.W.kdv_fn "<lambda>" l.qual l.params (.expr l.body) l.scope l.cells dV doc pm (.ref c) ctv ∧
  (∀ y ∈ binds, l.scope.names.lookup y.1 = some .local) ∧ ((∀ s, BindsTo s fd ⟨[], []⟩ binds) ∨ ∃ t o its n, G t = some (.frz o (.own 0)) ∧ o.data = .seq its n ∧ ∀ s : Shared, s.heap.get? t = some o → BindsTo s fd ⟨[], []⟩ binds)
mutual
/-- the value v stands for the datum d in the visible heap G -/
inductive Rp (K : PySem.W.Frag) (G : Hp) : V → D → Prop
  | non : Rp K G .non .non
  | bl (b : Bool) : Rp K G (.bl b) (.bl b)
  | int (i : Int) : Rp K G (.int i) (.int i)
  | str (x : Str) : Rp K G (.str x) (.str x)
  | opq (v : V) : Rp K G v (.opq v)
  | lst {a : Addr} {vs : List V} {ds : List D} : G a = some (.lst vs) → RpL K G vs ds → Rp K G (.ref a) (.lst ds)
  | tup {a : Addr} {vs : List V} {ds : List D} : SqT K G a vs → RpL K G vs ds → Rp K G (.ref a) (.tup ds)
  | dic {a : Addr} {od : Obj} {kvs : List (Key × V)} {kds : List (Key × D)} : G a = some (.frz od (.dK kvs)) → RpK K G kvs kds → Rp K G (.ref a) (.dic kds)
  | ins {a C dx : Addr} {fs : List (Str × V)} {ds : List (Str × D)} : G a = some (.ins C dx fs) → RpF K G fs ds → Rp K G (.ref a) (.ins C ds)
  | exc {a C dx : Addr} {u : HO} {fs : List (Str × V)} {ds : List (Str × D)} : G a = some u → ExO C dx u → G dx = some (.xd fs) → RpF K G fs ds → Rp K G (.ref a) (.exc C ds)
  | lam {f c : Addr} {l : LamD} {fd : FuncData} : G f = some (.frz { cls := .type "function", data := .func fd } (.own 0)) → G c = some (LamX.CodeO c l.qual) → LamFd G l c fd → Rp K G (.ref f) (.lam l)
inductive RpL (K : PySem.W.Frag) (G : Hp) : List V → List D → Prop
  | nil : RpL K G [] []
  | cons {v : V} {vs : List V} {d : D} {ds : List D} : Rp K G v d → RpL K G vs ds → RpL K G (v :: vs) (d :: ds)
inductive RpK (K : PySem.W.Frag) (G : Hp) : List (Key × V) → List (Key × D) → Prop
  | nil : RpK K G [] []
  | cons {k : Key} {v : V} {vs : List (Key × V)} {d : D} {ds : List (Key × D)} : Rp K G v d → RpK K G vs ds → RpK K G ((k, v) :: vs) ((k, d) :: ds)
inductive RpF (K : PySem.W.Frag) (G : Hp) : List (Str × V) → List (Str × D) → Prop
  | nil : RpF K G [] []
  | cons {k : Str} {v : V} {vs : List (Str × V)} {d : D} {ds : List (Str × D)} : Rp K G v d → RpF K G vs ds → RpF K G ((k, v) :: vs) ((k, d) :: ds)
end

def Sub (G H : Hp) : Prop := ∀ a o, G a = some o → H a = some o
theorem Sub.refl (G : Hp) : Sub G G := fun _ _ h => h
theorem Sub.trans {G H I : Hp} (a : Sub G H) (b : Sub H I) : Sub G I := fun x o h => b x o (a x o h)
theorem Sub.rd {G H : Hp} (e : Sub G H) {a : Addr} {u : HO} (h : Rd G a u) : Rd H a u := by
  rcases h with h | ⟨o, h⟩
  · exact .inl (e _ _ h)
  · exact .inr ⟨o, e _ _ h⟩
theorem Sub.sqL {K : PySem.W.Frag} {G H : Hp} (e : Sub G H) {a : Addr} {xs : List V} (h : SqL K G a xs) : SqL K H a xs := by
  rcases h with h | h
  · exact .inl (e.rd h)
  · exact .inr h
theorem Sub.lstL {K : PySem.W.Frag} {G H : Hp} (e : Sub G H) {a : Addr} {xs : List V} (h : G a = some (.lst xs)) : SqL K H a xs := .inl (.inl (e _ _ h))
theorem Sub.sqT {K : PySem.W.Frag} {G H : Hp} (e : Sub G H) {a : Addr} {xs : List V} (h : SqT K G a xs) : SqT K H a xs := by
  rcases h with h | h
  · exact .inl (e.rd h)
  · exact .inr h

theorem LamFd.mono {G G' : Hp} (e : Sub G G') {l : LamD} {c : Addr} {fd : FuncData} (h : LamFd G l c fd) : LamFd G' l c fd := by
  obtain ⟨dV, doc, pm, ctv, bs, h1, h2, h3⟩ := h
  refine ⟨dV, doc, pm, ctv, bs, h1, h2, ?_⟩
  rcases h3 with h3 | ⟨t, o, its, n, h4, h6, h5⟩
  · exact .inl h3
  · exact .inr ⟨t, o, its, n, e _ _ h4, h6, h5⟩
section
variable {K : PySem.W.Frag} {G G' : Hp}
mutual
theorem Rp.mono (e : Sub G G') : ∀ {d : D} {v : V}, Rp K G v d → Rp K G' v d
  | .non, _, .non => .non
  | .bl _, _, .bl b => .bl b
  | .int _, _, .int i => .int i
  | .str _, _, .str x => .str x
  | .opq _, _, .opq v => .opq v
  | .lst _, _, .lst h r => .lst (e _ _ h) (RpL.mono e r)
  | .tup _, _, .tup h r => .tup (e.sqT h) (RpL.mono e r)
  | .dic _, _, .dic h r => .dic (e _ _ h) (RpK.mono e r)
  | .ins _ _, _, .ins h r => .ins (e _ _ h) (RpF.mono e r)
  | .exc _ _, _, .exc h x q r => .exc (e _ _ h) x (e _ _ q) (RpF.mono e r)
  | .lam _, _, .lam h q r => .lam (e _ _ h) (e _ _ q) (r.mono e)
theorem RpL.mono (e : Sub G G') : ∀ {ds : List D} {vs : List V}, RpL K G vs ds → RpL K G' vs ds
  | [], _, .nil => .nil
  | _ :: _, _, .cons h r => .cons (Rp.mono e h) (RpL.mono e r)
theorem RpK.mono (e : Sub G G') : ∀ {ds : List (Key × D)} {vs : List (Key × V)}, RpK K G vs ds → RpK K G' vs ds
  | [], _, .nil => .nil
  | _ :: _, _, .cons h r => .cons (Rp.mono e h) (RpK.mono e r)
theorem RpF.mono (e : Sub G G') : ∀ {ds : List (Str × D)} {vs : List (Str × V)}, RpF K G vs ds → RpF K G' vs ds
  | [], _, .nil => .nil
  | _ :: _, _, .cons h r => .cons (Rp.mono e h) (RpF.mono e r)
end
theorem RpL.length : ∀ {vs : List V} {ds : List D}, RpL K G vs ds → vs.length = ds.length
  | _, _, .nil => rfl
  | _, _, .cons _ r => congrArg (· + 1) (RpL.length r)
theorem RpL.get : ∀ {vs : List V} {ds : List D} {i : Nat} {d : D}, RpL K G vs ds → ds[i]? = some d → ∃ v, vs[i]? = some v ∧ Rp K G v d
  | _, _, _, _, .nil, e => by simp at e
  | _, _, 0, _, .cons r _, e => by simp at e; subst e; exact ⟨_, rfl, r⟩
  | _, _, i + 1, d, .cons _ t, e => by
    obtain ⟨u, h1, h2⟩ := RpL.get (i := i) (d := d) t (by simpa using e)
    exact ⟨u, by simpa using h1, h2⟩
theorem RpL.getV : ∀ {vs : List V} {ds : List D} {i : Nat} {v : V}, RpL K G vs ds → vs[i]? = some v → ∃ d, ds[i]? = some d ∧ Rp K G v d
  | _, _, _, _, .nil, e => by simp at e
  | _, _, 0, _, .cons r _, e => by simp at e; subst e; exact ⟨_, rfl, r⟩
  | _, _, i + 1, d, .cons _ t, e => by
    obtain ⟨u, h1, h2⟩ := RpL.getV (i := i) (v := d) t (by simpa using e)
    exact ⟨u, by simpa using h1, h2⟩
theorem RpL.append : ∀ {xs ys : List V} {us ws : List D}, RpL K G xs us → RpL K G ys ws → RpL K G (xs ++ ys) (us ++ ws)
  | _, _, _, _, .nil, s => s
  | _, _, _, _, .cons r t, s => .cons r (RpL.append t s)
theorem RpL.take : ∀ {xs : List V} {us : List D} (n : Nat), RpL K G xs us → RpL K G (xs.take n) (us.take n)
  | _, _, 0, _ => .nil
  | _, _, _ + 1, .nil => .nil
  | _, _, n + 1, .cons r t => .cons r (RpL.take n t)
theorem RpL.drop : ∀ {xs : List V} {us : List D} (n : Nat), RpL K G xs us → RpL K G (xs.drop n) (us.drop n)
  | _, _, 0, r => r
  | _, _, _ + 1, .nil => .nil
  | _, _, n + 1, .cons _ t => RpL.drop n t
theorem RpL.set {x : V} {u : D} (r : Rp K G x u) : ∀ {xs : List V} {us : List D} (i : Nat), RpL K G xs us → RpL K G (xs.set i x) (us.set i u)
  | _, _, _, .nil => .nil
  | _, _, 0, .cons _ t => .cons r t
  | _, _, i + 1, .cons q t => .cons q (RpL.set r i t)
theorem RpL.ints : ∀ {vs : List V} {ns : List Int}, RpL K G vs (ns.map D.int) → vs = ns.map V.int
  | _, [], h => by cases h; rfl
  | _, n :: ns, h => by cases h with | cons a b => cases a; rw [RpL.ints b]; rfl
theorem RpL.of_ints : ∀ {ns : List Int}, RpL K G (ns.map V.int) (ns.map D.int)
  | [] => .nil
  | n :: ns => .cons (.int n) RpL.of_ints
end

/-! ### the state: G visible, H whole; B: the box and its list, the tables of code objects -/
/-- bx: the box, its list, the tables; amb: what is visible all along -/
structure Bo where
  bx : Option (Addr × Addr × List (Addr × Str))
  amb : Hp
def bo0 : Bo := ⟨none, fun _ => none⟩
def boB (b l : Addr) (T : List (Addr × Str)) : Bo := ⟨some (b, l, T), fun _ => none⟩
/-- what is hidden and changes on its own -/
def Hid (B : Bo) (a : Addr) : Prop := ∃ b l T, B.bx = some (b, l, T) ∧ (a = b ∨ ∃ p ∈ T, a = p.1)
/-- the tables: their code objects are visible -/
def TabG (T : List (Addr × Str)) (G H : Hp) : Prop := ∀ p ∈ T, ∃ ps : Array Value, H p.1 = some (.tbl ps) ∧ TriplesOk ps.toList ∧ ∀ (pos : Pos) (cv : Value), codeAmong pos ps.toList = some cv → ∃ c, cv = .ref c ∧ G c = some (LamX.CodeO c p.2)
theorem TabG.tabs {T : List (Addr × Str)} {G H : Hp} (s : Sub G H) (h : TabG T G H) : LamX.Tabs T H := fun p hp => by
  obtain ⟨ps, a, b, c⟩ := h p hp
  exact ⟨ps, a, b, fun pos cv e => by obtain ⟨x, e1, e2⟩ := c pos cv e; exact ⟨x, e1, s _ _ e2⟩⟩
structure Bx (K : PySem.W.Frag) (G H : Hp) (b l : Addr) (T : List (Addr × Str)) : Prop where
  hid : G b = none
  has : ∃ (ns : List Int) (i r m c : Int), H b = some (.lst [.ref l, .int i, .int r, .int m, .int c]) ∧ SqL K G l (ns.map V.int) ∧ 0 ≤ i ∧ 0 ≤ r ∧ 0 ≤ m ∧ m < 2147483587 ∧ 0 ≤ c
  tab : TabG T G H
  tv : ∀ p ∈ T, G p.1 = none
/-- objects that may change: their contents, by address -/
abbrev Ow := Addr → Option D
def oset (O : Ow) (p : Addr) (d : D) : Ow := fun q => if q = p then some d else O q
def odel (O : Ow) (p : Addr) : Ow := fun q => if q = p then none else O q
theorem oset_same {O : Ow} {p : Addr} {d : D} : oset O p d p = some d := by unfold oset; rw [if_pos rfl]
theorem oset_ne {O : Ow} {p q : Addr} {d : D} (h : q ≠ p) : oset O p d q = O q := by unfold oset; rw [if_neg h]
theorem odel_same {O : Ow} {p : Addr} : odel O p p = none := by unfold odel; rw [if_pos rfl]
theorem odel_ne {O : Ow} {p q : Addr} (h : q ≠ p) : odel O p q = O q := by unfold odel; rw [if_neg h]
theorem oset_oset {O : Ow} {p : Addr} {d e : D} : oset (oset O p d) p e = oset O p e := by funext q; unfold oset; split <;> rfl
theorem odel_oset {O : Ow} {p : Addr} {d : D} (h : O p = none) : odel (oset O p d) p = O := by
  funext q; unfold oset odel
  by_cases e : q = p
  · rw [if_pos e, e, h]
  · rw [if_neg e]; exact if_neg e
/-- an object that may change: its items are visible, itself is not -/
def RpO (K : PySem.W.Frag) (G H : Hp) (p : Addr) : D → Prop
  | .lst ds => ∃ vs, H p = some (.lst vs) ∧ RpL K G vs ds
  | .dic ds => ∃ vs, H p = some (.dK vs) ∧ RpK K G vs ds
  | .ins C ds => ∃ dx fs, H p = some (.ins C dx fs) ∧ RpF K G fs ds
  | _ => False
theorem RpO.some_of {K : PySem.W.Frag} {G H : Hp} {p : Addr} : ∀ {d : D}, RpO K G H p d → ∃ o, H p = some o
  | .lst _, ⟨_, h, _⟩ => ⟨_, h⟩
  | .dic _, ⟨_, h, _⟩ => ⟨_, h⟩
  | .ins _ _, ⟨_, _, h, _⟩ => ⟨_, h⟩
theorem RpO.mono {K : PySem.W.Frag} {G H G' H' : Hp} {p : Addr} (s : Sub G G') (k : ∀ o, H p = some o → H' p = some o) : ∀ {d : D}, RpO K G H p d → RpO K G' H' p d
  | .lst _, ⟨vs, h, r⟩ => ⟨vs, k _ h, r.mono s⟩
  | .dic _, ⟨vs, h, r⟩ => ⟨vs, k _ h, r.mono s⟩
  | .ins _ _, ⟨dx, fs, h, r⟩ => ⟨dx, fs, k _ h, r.mono s⟩
/-- what p holds, as a visible thing -/
theorem RpO.rp {K : PySem.W.Frag} {G H : Hp} {p : Addr} {o : HO} (e : H p = some o) (n : G p = none) : ∀ {d : D}, (∀ ks, d ≠ .dic ks) → RpO K G H p d → Rp K (upd G p o) (.ref p) d := fun {d} nd r => by
  have s : Sub G (upd G p o) := fun a u h => by rw [upd_ne (fun z => by rw [z, n] at h; cases h)]; exact h
  cases d <;> first
    | exact r.elim
    | exact absurd rfl (nd _)
    | (obtain ⟨vs, h, r⟩ := r; rw [e] at h; cases h; exact .lst upd_same (r.mono s))
    | (obtain ⟨dx, fs, h, r⟩ := r; rw [e] at h; cases h; exact .ins upd_same (r.mono s))
structure Good (K : PySem.W.Frag) (B : Bo) (O : Ow) (G H : Hp) : Prop where
  sub : Sub G H
  box : ∀ b l T, B.bx = some (b, l, T) → Bx K G H b l T
  amb : Sub B.amb G
  own : ∀ p d, O p = some d → G p = none ∧ ¬ Hid B p ∧ RpO K G H p d
structure Step (K : PySem.W.Frag) (B : Bo) (O : Ow) (G H : Hp) (O' : Ow) (G' H' : Hp) : Prop where
  grow : Sub G G'
  good : Good K B O' G' H'
  keep : ∀ a o, H a = some o → ¬ Hid B a → O a = none → H' a = some o
  hid : ∀ a o, H a = some o → G a = none → O a = none → G' a = none ∧ O' a = none
  still : ∀ a, H a ≠ none → H' a ≠ none
theorem upd_still {H : Hp} {p : Addr} {o : HO} (a : Addr) (h : H a ≠ none) : upd H p o a ≠ none := by
  unfold upd
  split
  · exact Option.some_ne_none _
  · exact h
section
variable {K : PySem.W.Frag} {B : Bo} {O O' O'' : Ow} {G H G' H' G'' H'' : Hp}
theorem Good.vis {a : Addr} {o : HO} (g : Good K B O G H) (h : G a = some o) : O a = none := by
  cases e : O a with
  | none => rfl
  | some d => have := (g.own a d e).1; rw [h] at this; cases this
theorem Good.fresh {a : Addr} (g : Good K B O G H) (h : H a = none) : O a = none := by
  cases e : O a with
  | none => rfl
  | some d => obtain ⟨o, z⟩ := (g.own a d e).2.2.some_of; rw [h] at z; cases z
theorem Good.freshG {a : Addr} (g : Good K B O G H) (h : H a = none) : G a = none := by
  cases e : G a with
  | none => rfl
  | some d => rw [g.sub _ _ e] at h; cases h
theorem Good.hidH {a : Addr} (g : Good K B O G H) (h : Hid B a) : ∃ o, H a = some o ∧ (∀ φ, o ≠ .ext φ) := by
  obtain ⟨b, l, T, e, h⟩ := h
  have bx := g.box b l T e
  rcases h with rfl | ⟨p, hp, rfl⟩
  · obtain ⟨ns, i, r, m, c, h2, _⟩ := bx.has
    exact ⟨_, h2, fun φ z => by cases z⟩
  · obtain ⟨ps, h2, _⟩ := bx.tab p hp
    exact ⟨_, h2, fun φ z => by cases z⟩
theorem Good.hidG {a : Addr} (g : Good K B O G H) (h : Hid B a) : G a = none := by
  obtain ⟨b, l, T, e, h⟩ := h
  have bx := g.box b l T e
  rcases h with rfl | ⟨p, hp, rfl⟩
  · exact bx.hid
  · exact bx.tv p hp
theorem Good.hidO {a : Addr} (g : Good K B O G H) (h : Hid B a) : O a = none := by
  cases q : O a with
  | none => rfl
  | some d => exact absurd h (g.own a d q).2.1
theorem Good.nhid {a : Addr} (g : Good K B O G H) (h : H a = none) : ¬ Hid B a := fun z => by
  obtain ⟨o, e, _⟩ := g.hidH z
  rw [h] at e; cases e
theorem Good.boxO {b l : Addr} {T : List (Addr × Str)} (g : Good K B O G H) (e : B.bx = some (b, l, T)) : O b = none := g.hidO ⟨b, l, T, e, .inl rfl⟩
theorem Step.refl (g : Good K B O G H) : Step K B O G H O G H := ⟨Sub.refl G, g, fun _ _ h _ _ => h, fun _ _ _ h n => ⟨h, n⟩, fun _ h => h⟩
theorem Step.visO {a : Addr} {o : HO} (s : Step K B O G H O' G' H') (h : H a = some o) (n : O a = none) : O' a = none := by
  cases e : G a with
  | none => exact (s.hid a o h e n).2
  | some u => exact s.good.vis (s.grow _ _ e)
theorem Step.trans (s : Step K B O G H O' G' H') (t : Step K B O' G' H' O'' G'' H'') : Step K B O G H O'' G'' H'' := by
  refine ⟨s.grow.trans t.grow, t.good, fun a o h n z => t.keep a o (s.keep a o h n z) n (s.visO h z), fun a o h g z => ?_, fun a h => t.still a (s.still a h)⟩
  by_cases hb : Hid B a
  · exact ⟨t.good.hidG hb, t.good.hidO hb⟩
  · have q := s.hid a o h g z
    exact t.hid a o (s.keep a o h hb z) q.1 q.2
/-- the box stays: what is hidden is as it was, and so is every code object -/
theorem Bx.step {b l : Addr} {T : List (Addr × Str)} (h : Bx K G H b l T) (s : Sub G G') (n : ∀ a, (a = b ∨ ∃ p ∈ T, a = p.1) → G' a = none) (k : ∀ a o, (a = b ∨ ∃ p ∈ T, a = p.1) ∨ (∃ φ, o = .ext φ) → H a = some o → H' a = some o) : Bx K G' H' b l T := by
  obtain ⟨h1, ⟨ns, i, r, m, c, h2, h3, h4⟩, h5, h6⟩ := h
  refine ⟨n b (.inl rfl), ⟨ns, i, r, m, c, k _ _ (.inl (.inl rfl)) h2, s.sqL h3, h4⟩, fun p hp => ?_, fun p hp => n p.1 (.inr ⟨p, hp, rfl⟩)⟩
  obtain ⟨ps, a1, a2, a3⟩ := h5 p hp
  refine ⟨ps, k _ _ (.inl (.inr ⟨p, hp, rfl⟩)) a1, a2, fun pos cv hc => ?_⟩
  obtain ⟨c, e1, e2⟩ := a3 pos cv hc
  exact ⟨c, e1, s _ _ e2⟩
theorem Bx.there {b l : Addr} {T : List (Addr × Str)} (h : Bx K G H b l T) : ∃ o, H b = some o := by
  obtain ⟨h1, ⟨ns, i, r, m, c, h2, _⟩, _⟩ := h
  exact ⟨_, h2⟩
/-- a new visible object -/
theorem Step.new (g : Good K B O G H) {p : Addr} {o : HO} (n : H p = none) : Step K B O G H O (upd G p o) (upd H p o) := by
  have n0 : ∀ q u, H q = some u → q ≠ p := fun q u h e => by rw [e, n] at h; cases h
  have n1 : ∀ q u, G q = some u → q ≠ p := fun q u h => n0 q u (g.sub q u h)
  have sG : Sub G (upd G p o) := fun a u h => by rw [upd_ne (n1 a u h)]; exact h
  have sH : Sub H (upd H p o) := fun a u h => by rw [upd_ne (n0 a u h)]; exact h
  refine ⟨sG, ⟨fun a u h => ?_, fun b l T e => ?_, g.amb.trans sG, fun q d e => ?_⟩, fun a u h _ _ => sH _ _ h, fun a u h z nO => ⟨?_, nO⟩, upd_still⟩
  · by_cases e : a = p
    · subst e; rw [upd_same] at h ⊢; exact h
    · rw [upd_ne e] at h ⊢; exact g.sub a u h
  · refine (g.box b l T e).step sG (fun a ha => ?_) fun a o _ h => sH _ _ h
    have ha : Hid B a := ⟨b, l, T, e, ha⟩
    obtain ⟨u, hu, _⟩ := g.hidH ha
    rw [upd_ne (n0 _ _ hu)]; exact g.hidG ha
  · obtain ⟨a, b, c⟩ := g.own q d e
    obtain ⟨u, hu⟩ := c.some_of
    exact ⟨by rw [upd_ne (n0 _ _ hu)]; exact a, b, c.mono sG fun u h => sH _ _ h⟩
  · rw [upd_ne (n0 a u h)]; exact z
/-- a new hidden object -/
theorem Step.newH (g : Good K B O G H) {p : Addr} {o : HO} (n : H p = none) : Step K B O G H O G (upd H p o) := by
  have n0 : ∀ q u, H q = some u → q ≠ p := fun q u h e => by rw [e, n] at h; cases h
  have sH : Sub H (upd H p o) := fun a u h => by rw [upd_ne (n0 a u h)]; exact h
  refine ⟨Sub.refl _, ⟨g.sub.trans sH, fun b l T e => ?_, g.amb, fun q d e => ?_⟩, fun a u h _ _ => sH _ _ h, fun a u h z nO => ⟨z, nO⟩, upd_still⟩
  · exact (g.box b l T e).step (Sub.refl _) (fun a ha => g.hidG ⟨b, l, T, e, ha⟩) fun a o _ h => sH _ _ h
  · obtain ⟨a, b, c⟩ := g.own q d e
    exact ⟨a, b, c.mono (Sub.refl _) fun u h => sH _ _ h⟩
/-- what p holds changes, p being one's own or hidden and new -/
theorem Step.put (g : Good K B O G H) {p : Addr} {o : HO} {d : D} (nG : G p = none) (nb : ¬ Hid B p) (r : RpO K G (upd H p o) p d) (z : O p ≠ none ∨ H p = none) : Step K B O G H (oset O p d) G (upd H p o) := by
  have k : ∀ q, q ≠ p → ∀ u, H q = some u → upd H p o q = some u := fun q n u h => by rw [upd_ne n]; exact h
  have np : ∀ a u, H a = some u → O a = none → a ≠ p := fun a u h n e => by
    subst e
    rcases z with z | z
    · exact z n
    · rw [z] at h; cases h
  have nx : ∀ a φ, H a = some (.ext φ) → a ≠ p := fun a φ h e => by
    subst e
    rcases z with z | z
    · cases q : O a with
      | none => exact z q
      | some d' =>
        have := (g.own a d' q).2.2
        cases d' <;> first
          | exact this.elim
          | (obtain ⟨vs, h', _⟩ := this; rw [h] at h'; cases h')
          | (obtain ⟨dx, fs, h', _⟩ := this; rw [h] at h'; cases h')
    · rw [z] at h; cases h
  refine ⟨Sub.refl _, ⟨fun a u h => k a (fun e => by rw [e, nG] at h; cases h) u (g.sub _ _ h), fun b l T e => ?_, g.amb, fun q d' e => ?_⟩, fun a u h _ n => k a (np a u h n) u h, fun a u h zz n => ⟨zz, by rw [oset_ne (np a u h n)]; exact n⟩, upd_still⟩
  · refine (g.box b l T e).step (Sub.refl _) (fun a ha => g.hidG ⟨b, l, T, e, ha⟩) fun a o ha h => k a (fun z => ?_) o h
    rcases ha with ha | ⟨φ, rfl⟩
    · subst z; exact nb ⟨b, l, T, e, ha⟩
    · exact nx a φ h z
  · by_cases hq : q = p
    · subst hq; rw [oset_same] at e; cases e; exact ⟨nG, nb, r⟩
    · rw [oset_ne hq] at e
      obtain ⟨a, b, c⟩ := g.own q d' e
      exact ⟨a, b, c.mono (Sub.refl _) (k q hq)⟩
/-- what is one's own is shown, and changes no more -/
theorem Step.freeze (g : Good K B O G H) {p : Addr} {d : D} (nd : ∀ ks, d ≠ .dic ks) (e : O p = some d) : ∃ G', Step K B O G H (odel O p) G' H ∧ Rp K G' (.ref p) d := by
  obtain ⟨nG, nb, r⟩ := g.own p d e
  obtain ⟨o, ho⟩ := r.some_of
  have sG : Sub G (upd G p o) := fun a u h => by rw [upd_ne (fun z => by rw [z, nG] at h; cases h)]; exact h
  refine ⟨upd G p o, ⟨sG, ⟨fun a u h => ?_, fun b l T eb => ?_, g.amb.trans sG, fun q d' eq => ?_⟩, fun a u h _ _ => h, fun a u h z n => ?_, fun _ h => h⟩, r.rp ho nG nd⟩
  · by_cases z : a = p
    · subst z; rw [upd_same] at h; cases h; exact ho
    · rw [upd_ne z] at h; exact g.sub _ _ h
  · refine (g.box b l T eb).step sG (fun a ha => ?_) fun a o _ h => h
    have ha : Hid B a := ⟨b, l, T, eb, ha⟩
    rw [upd_ne (fun z => nb (by rw [← z]; exact ha))]; exact g.hidG ha
  · by_cases z : q = p
    · subst z; rw [odel_same] at eq; cases eq
    · rw [odel_ne z] at eq
      obtain ⟨a, b, c⟩ := g.own q d' eq
      exact ⟨by rw [upd_ne z]; exact a, b, c.mono sG fun _ h => h⟩
  · have np : a ≠ p := fun q => by subst q; rw [e] at n; cases n
    exact ⟨by rw [upd_ne np]; exact z, by rw [odel_ne np]; exact n⟩
/-- a dict is shown: from then on its object stays -/
theorem Step.freezeD (g : Good K B O G H) {p : Addr} {kds : List (Key × D)} (e : O p = some (.dic kds)) : ∃ kvs, H p = some (.dK kvs) ∧ ∀ od, ∃ G', Step K B O G H (odel O p) G' (upd H p (.frz od (.dK kvs))) ∧ Rp K G' (.ref p) (.dic kds) := by
  obtain ⟨nG, nb, kvs, ho, r⟩ := g.own p _ e
  refine ⟨kvs, ho, fun od => ?_⟩
  have neG : ∀ a u, G a = some u → a ≠ p := fun a u h z => by rw [z, nG] at h; cases h
  have sG : Sub G (upd G p (.frz od (.dK kvs))) := fun a u h => by rw [upd_ne (neG a u h)]; exact h
  refine ⟨upd G p (.frz od (.dK kvs)), ⟨sG, ⟨fun a u h => ?_, fun b l T eb => ?_, g.amb.trans sG, fun q d' eq => ?_⟩, fun a u h _ n => ?_, fun a u h z n => ?_, upd_still⟩, .dic upd_same (r.mono sG)⟩
  · by_cases z : a = p
    · subst z; rw [upd_same] at h ⊢; exact h
    · rw [upd_ne z] at h ⊢; exact g.sub _ _ h
  · refine (g.box b l T eb).step sG (fun a ha => ?_) fun a o ha h => ?_
    · have ha : Hid B a := ⟨b, l, T, eb, ha⟩
      rw [upd_ne (fun z => nb (by rw [← z]; exact ha))]; exact g.hidG ha
    · have z : a ≠ p := fun z => by
        subst z
        rcases ha with ha | ⟨φ, rfl⟩
        · exact nb ⟨b, l, T, eb, ha⟩
        · rw [ho] at h; cases h
      rw [upd_ne z]; exact h
  · have z : q ≠ p := fun z => by subst z; rw [odel_same] at eq; cases eq
    rw [odel_ne z] at eq
    obtain ⟨a, b, c⟩ := g.own q d' eq
    exact ⟨by rw [upd_ne z]; exact a, b, c.mono sG fun u h => by rw [upd_ne z]; exact h⟩
  · have np : a ≠ p := fun q => by subst q; rw [e] at n; cases n
    rw [upd_ne np]; exact h
  · have np : a ≠ p := fun q => by subst q; rw [e] at n; cases n
    exact ⟨by rw [upd_ne np]; exact z, by rw [odel_ne np]; exact n⟩
end
end EV
set_option Elab.async false
set_option linter.all false
set_option maxRecDepth 100000
set_option maxHeartbeats 4000000
namespace EV
open PySem PySem.Spec PyProof.Rows L2
/-! ### slots -/
inductive Sl where
  | un | sh (d : D)
abbrev Slots := List Sl
structure RpS (K : PySem.W.Frag) (G : Hp) (σ : L2.St) (ρ : Slots) : Prop where
  len : σ.length = ρ.length
  sh : ∀ (i : Nat) (d : D), ρ[i]? = some (.sh d) → ∃ v, σ[i]? = some (some v) ∧ Rp K G v d
/-- an exception: its class, its attributes -/
abbrev Xc := Addr × List (Str × D)
abbrev QD := D → Ow → Prop
abbrev QX := Xc → Ow → Prop
abbrev DE := Slots → Ow → QD → QX → Prop
abbrev DT := Slots → Ow → (Bool → Ow → Prop) → QX → Prop
abbrev DA := Slots → Ow → (List D → Ow → Prop) → QX → Prop
def kv (K : PySem.W.Frag) (B : Bo) (O : Ow) (G H : Hp) (Q : VK) : QD := fun d O' => ∀ v G' H', Step K B O G H O' G' H' → Rp K G' v d → Q v H'
def kb (K : PySem.W.Frag) (B : Bo) (O : Ow) (G H : Hp) (Q : Bool → Hp → Prop) : Bool → Ow → Prop := fun b O' => ∀ G' H', Step K B O G H O' G' H' → Q b H'
def ka (K : PySem.W.Frag) (B : Bo) (O : Ow) (G H : Hp) (Q : List V → Hp → Prop) : List D → Ow → Prop := fun ds O' => ∀ vs G' H', Step K B O G H O' G' H' → RpL K G' vs ds → Q vs H'
def kx (K : PySem.W.Frag) (B : Bo) (O : Ow) (G H : Hp) (E : XK) : QX := fun x O' => ∀ d fs G' H', Step K B O G H O' G' H' → G' d = some (.xd fs) → RpF K G' fs x.2 → E (.ref x.1) (some d) H'
section
variable {K : PySem.W.Frag} {B : Bo} {O O' O'' : Ow} {G H G' H' : Hp}
theorem kv.step {Q : VK} {d : D} (s : Step K B O G H O' G' H') (h : kv K B O G H Q d O'') : kv K B O' G' H' Q d O'' := fun v G2 H2 t r => h v G2 H2 (s.trans t) r
theorem kb.step {Q : Bool → Hp → Prop} {d : Bool} (s : Step K B O G H O' G' H') (h : kb K B O G H Q d O'') : kb K B O' G' H' Q d O'' := fun G2 H2 t => h G2 H2 (s.trans t)
theorem ka.step {Q : List V → Hp → Prop} {d : List D} (s : Step K B O G H O' G' H') (h : ka K B O G H Q d O'') : ka K B O' G' H' Q d O'' := fun v G2 H2 t r => h v G2 H2 (s.trans t) r
theorem kx.step {E : XK} {x : Xc} (s : Step K B O G H O' G' H') (h : kx K B O G H E x O'') : kx K B O' G' H' E x O'' := fun d fs G2 H2 t a r => h d fs G2 H2 (s.trans t) a r
theorem RpS.mono {σ : L2.St} {ρ : Slots} (s : Sub G G') (r : RpS K G σ ρ) : RpS K G' σ ρ :=
  ⟨r.len, fun i d h => by obtain ⟨v, e, q⟩ := r.sh i d h; exact ⟨v, e, q.mono s⟩⟩
theorem RpS.step {σ : L2.St} {ρ : Slots} (s : Step K B O G H O' G' H') (r : RpS K G σ ρ) : RpS K G' σ ρ := r.mono s.grow
end
def up (K : PySem.W.Frag) (B : Bo) (W : L2.St → XK) (m : DE) : TE := fun σ H Q => ∃ G O ρ, Good K B O G H ∧ RpS K G σ ρ ∧ m ρ O (kv K B O G H Q) (kx K B O G H (W σ))
def upT (K : PySem.W.Frag) (B : Bo) (W : L2.St → XK) (m : DT) : TT := fun σ H Q => ∃ G O ρ, Good K B O G H ∧ RpS K G σ ρ ∧ m ρ O (kb K B O G H Q) (kx K B O G H (W σ))
def upA (K : PySem.W.Frag) (B : Bo) (W : L2.St → XK) (m : DA) : TA := fun σ H Q => ∃ G O ρ, Good K B O G H ∧ RpS K G σ ρ ∧ m ρ O (ka K B O G H Q) (kx K B O G H (W σ))
def Mo {α : Type} (m : Slots → Ow → (α → Ow → Prop) → QX → Prop) : Prop := ∀ ρ O Q Q' E E', (∀ d O, Q d O → Q' d O) → (∀ x O, E x O → E' x O) → m ρ O Q E → m ρ O Q' E'
/-- where one stands: the box, the wish of exceptions -/
structure Pl where
  B : Bo
  W : L2.St → XK
structure DPE (X : Cx) (L : Pl) (e : Expr) (m : DE) : Prop where
  mo : Mo m
  run : PE X e (up X.K L.B L.W m)
structure DPT (X : Cx) (L : Pl) (e : Expr) (m : DT) : Prop where
  mo : Mo m
  run : PT X e (upT X.K L.B L.W m)
structure DPW (X : Cx) (L : Pl) (e : Expr) (m : DT) : Prop where
  mo : Mo m
  run : PW X e (upT X.K L.B L.W m)
structure DPA (X : Cx) (L : Pl) (es : List Expr) (m : DA) : Prop where
  mo : Mo m
  run : PA X es (upA X.K L.B L.W m)
section
variable {X : Cx} {L : Pl} {e a b c : Expr} {es : List Expr} {m ma mb mc : DE} {mt mu : DT} {mA : DA} {pos p : Pos}
theorem pe_imp {t t' : TE} (h : PE X e t) (i : ∀ σ H Q, t' σ H Q → t σ H Q) : PE X e t' := ⟨fun pins s σ H Q I q => h.run pins s σ H Q I (i _ _ _ q)⟩
theorem pt_imp {t t' : TT} (h : PT X e t) (i : ∀ σ H Q, t' σ H Q → t σ H Q) : PT X e t' := ⟨fun pins s σ H Q I q => h.run pins s σ H Q I (i _ _ _ q)⟩
theorem pw_imp {t t' : TT} (h : PW X e t) (i : ∀ σ H Q, t' σ H Q → t σ H Q) : PW X e t' := ⟨fun wh pins s σ H Q I q => h.run wh pins s σ H Q I (i _ _ _ q)⟩
theorem pa_imp {t t' : TA} (h : PA X es t) (i : ∀ σ H Q, t' σ H Q → t σ H Q) : PA X es t' := ⟨fun pos pins s σ H Q I q => h.run pos pins s σ H Q I (i _ _ _ q)⟩
variable {K : PySem.W.Frag} {B : Bo} {O O1 O2 O3 : Ow} {W : L2.St → XK} {G H : Hp} {σ : L2.St} {ρ : Slots}
theorem up_of {R : VK} {P : QD} (mo : Mo m) (g : Good K B O G H) (r : RpS K G σ ρ) (h : m ρ O P (kx K B O G H (W σ)))
    (k : ∀ d v O' G' H', P d O' → Step K B O G H O' G' H' → Rp K G' v d → R v H') : up K B W m σ H R :=
  ⟨G, O, ρ, g, r, mo ρ _ _ _ _ _ (fun d O' p v G' H' s q => k d v O' G' H' p s q) (fun _ _ x => x) h⟩
theorem upT_of {R : Bool → Hp → Prop} {P : Bool → Ow → Prop} (mo : Mo mt) (g : Good K B O G H) (r : RpS K G σ ρ) (h : mt ρ O P (kx K B O G H (W σ)))
    (k : ∀ b O' G' H', P b O' → Step K B O G H O' G' H' → R b H') : upT K B W mt σ H R :=
  ⟨G, O, ρ, g, r, mo ρ _ _ _ _ _ (fun d O' p G' H' s => k d O' G' H' p s) (fun _ _ x => x) h⟩
theorem upA_of {R : List V → Hp → Prop} {P : List D → Ow → Prop} (mo : Mo mA) (g : Good K B O G H) (r : RpS K G σ ρ) (h : mA ρ O P (kx K B O G H (W σ)))
    (k : ∀ d v O' G' H', P d O' → Step K B O G H O' G' H' → RpL K G' v d → R v H') : upA K B W mA σ H R :=
  ⟨G, O, ρ, g, r, mo ρ _ _ _ _ _ (fun d O' p v G' H' s q => k d v O' G' H' p s q) (fun _ _ x => x) h⟩
/-- the wish of exceptions carried on -/
theorem mo_step {α : Type} {n : Slots → Ow → (α → Ow → Prop) → QX → Prop} {P : α → Ow → Prop} {O' O'' : Ow} {G' H' : Hp} {E : XK} (mo : Mo n) (s : Step K B O G H O' G' H') (h : n ρ O'' P (kx K B O G H E)) : n ρ O'' P (kx K B O' G' H' E) :=
  mo ρ _ _ _ _ _ (fun _ _ x => x) (fun _ _ x => x.step s) h

/-! ### names, constants -/
def dVar (i : Nat) : DE := fun ρ O Q _ => match ρ[i]? with
  | some (.sh d) => Q d O
  | _ => False
theorem mo_var (i : Nat) : Mo (dVar i) := fun ρ O Q Q' E E' h _ x => by
  unfold dVar at x ⊢
  split <;> simp_all
theorem d_var {i : Nat} {x : Str} (hN : X.N[i]? = some x) (hv : Vis X.env.scope x) (hd : (x == ("__debug__" : Str)) = false) (hcd : (x == ("__classdict__" : Str)) = false) : DPE X L (.Name x pos) (dVar i) := by
  refine ⟨mo_var i, pe_imp (pe_var hN hv hd hcd) fun σ H Q ⟨G, O, ρ, g, r, h⟩ => ?_⟩
  unfold dVar at h
  split at h
  · rename_i d e
    obtain ⟨v, ev, q⟩ := r.sh i d e
    exact ⟨v, ev, h v G H (Step.refl g) q⟩
  · exact h.elim
/-- the handle in a slot, from now on shown -/
def dVarF (i : Nat) : DE := fun ρ O Q _ => match ρ[i]? with
  | some (.sh (.opq (.ref p))) => ∃ d, O p = some d ∧ Q d (odel O p)
  | _ => False
theorem mo_varF (i : Nat) : Mo (dVarF i) := fun ρ O Q Q' E E' h _ x => by
  unfold dVarF at x ⊢
  split at x
  · obtain ⟨d, e, q⟩ := x
    exact ⟨d, e, h _ _ q⟩
  · exact x
/-- a dict may be locked where one stands -/
theorem pe_lk {t : TE} (h : PE X e t) : PE X e (fun σ H Q => t σ H fun v H1 => Q v H1 ∨ ∃ p u, v = .ref p ∧ H1 p = some u ∧ Mut (some u) ∧ ∀ od, Q v (upd H1 p (.frz od u))) := by
  refine ⟨fun pins s σ H Q I hw => wpAny_mono (h.run pins s σ H _ I hw) (fun v s1 ⟨x, H1, I1, r, q⟩ => ?_) fun _ _ z => z⟩
  rcases q with q | ⟨p, u, rfl, hp, mu, q⟩
  · exact ⟨x, H1, I1, r, q⟩
  · obtain ⟨od, I2⟩ := I1.lock hp mu
    exact ⟨.ref p, _, I2, r, q od⟩
theorem d_varF {i : Nat} {x : Str} (hN : X.N[i]? = some x) (hv : Vis X.env.scope x) (hd : (x == ("__debug__" : Str)) = false) (hcd : (x == ("__classdict__" : Str)) = false) : DPE X L (.Name x pos) (dVarF i) := by
  refine ⟨mo_varF i, pe_imp (pe_lk (pe_var hN hv hd hcd)) fun σ H Q ⟨G, O, ρ, g, r, h⟩ => ?_⟩
  unfold dVarF at h
  split at h
  · rename_i p e
    obtain ⟨d, ed, h⟩ := h
    obtain ⟨v, ev, q⟩ := r.sh i _ e
    cases q
    by_cases nd : ∀ ks, d ≠ .dic ks
    · obtain ⟨G', s, rp⟩ := Step.freeze g nd ed
      exact ⟨_, ev, .inl (h _ G' H s rp)⟩
    · have : ∃ ks, d = .dic ks := Classical.byContradiction fun z => nd fun ks e => z ⟨ks, e⟩
      obtain ⟨ks, rfl⟩ := this
      obtain ⟨kvs, hp, f⟩ := Step.freezeD g ed
      refine ⟨_, ev, .inr ⟨p, _, rfl, hp, trivial, fun od => ?_⟩⟩
      obtain ⟨G', s, rp⟩ := f od
      exact h _ G' _ s rp
  · exact h.elim
def dC (d : D) : DE := fun _ O Q _ => Q d O
theorem mo_c (d : D) : Mo (dC d) := fun _ _ _ _ _ _ h _ x => h _ _ x
theorem d_c {v : V} {d : D} (h : PE X e (tC v)) (r : ∀ G, Rp X.K G v d) : DPE X L e (dC d) :=
  ⟨mo_c d, pe_imp h fun σ H Q ⟨G, O, ρ, g, _, q⟩ => q v G H (Step.refl g) (r G)⟩
theorem d_int {i j} : DPE X L (.Constant (.int i) j pos) (dC (.int i)) := d_c pe_int fun _ => .int i
theorem d_bl {i j} : DPE X L (.Constant (.bool i) j pos) (dC (.bl i)) := d_c pe_bl fun _ => .bl i
theorem d_str {i j} : DPE X L (.Constant (.str i) j pos) (dC (.str i)) := d_c pe_str fun _ => .str i
theorem d_non {j} : DPE X L (.Constant .none j pos) (dC .non) := d_c pe_non fun _ => .non

/-! ### operators -/
abbrev D2 := Ow → D → D → (D → Prop) → Prop
abbrev pu (o : D → D → (D → Prop) → Prop) : D2 := fun _ => o
def MoO (o : D2) : Prop := ∀ O x y Q Q', (∀ d, Q d → Q' d) → o O x y Q → o O x y Q'
def RunO (K : PySem.W.Frag) (B : Bo) (r : R2) (o : D2) : Prop := ∀ O G H x y a b Q, Good K B O G H → Rp K G x a → Rp K G y b → o O a b (fun d => kv K B O G H Q d O) → r x y H Q
structure OpD (X : Cx) (B : Bo) (f : Value → Value → Sem Value) (o : D2) : Prop where
  mo : MoO o
  run : ∃ r, OpR X f r ∧ RunO X.K B r o
def dOp (o : D2) (ma mb : DE) : DE := fun ρ O Q E => ma ρ O (fun x O1 => mb ρ O1 (fun y O2 => o O2 x y fun d => Q d O2) E) E
theorem mo_op {o : D2} (ho : MoO o) (ha : Mo ma) (hb : Mo mb) : Mo (dOp o ma mb) := fun ρ O Q Q' E E' h hx x =>
  ha ρ _ _ _ _ _ (fun _ _ q => hb ρ _ _ _ _ _ (fun _ _ z => ho _ _ _ _ _ (fun _ => h _ _) z) hx q) hx x
theorem run_op {r : R2} {o : D2} {B : Bo} {Q : VK} (hr : RunO K B r o) (mo : MoO o) (ha : Mo ma) (hb : Mo mb)
    (h : up K B W (dOp o ma mb) σ H Q) : tOp r (up K B W ma) (up K B W mb) σ H Q := by
  obtain ⟨G, O, ρ, g, rs, q⟩ := h
  refine up_of ha g rs q fun x vx O1 G1 H1 q1 s1 r1 => ?_
  refine up_of hb s1.good (rs.step s1) (mo_step hb s1 q1) fun y vy O2 G2 H2 q2 s2 r2 => ?_
  exact hr O2 G2 H2 vx vy x y Q s2.good (r1.mono s2.grow) r2 (mo _ _ _ _ _ (fun _ z => z.step (s1.trans s2)) q2)
theorem d_op {op : Operator} {o : D2} (ho : OpD X L.B (binaryOp op) o) (ha : DPE X L a ma) (hb : DPE X L b mb) : DPE X L (.BinOp a op b pos) (dOp o ma mb) := by
  obtain ⟨mo, r, hr, h⟩ := ho
  exact ⟨mo_op mo ha.mo hb.mo, pe_imp (pe_op hr ha.run hb.run) fun σ H Q q => run_op h mo ha.mo hb.mo q⟩
theorem d_cmp {op : CmpOp} {o : D2} (ho : OpD X L.B (compareOp op) o) (ha : DPE X L a ma) (hb : DPE X L b mb) (hm : behindInMarks op b = false) : DPE X L (.Compare a [op] [b] pos) (dOp o ma mb) := by
  obtain ⟨mo, r, hr, h⟩ := ho
  exact ⟨mo_op mo ha.mo hb.mo, pe_imp (pe_cmpR hr ha.run hb.run hm) fun σ H Q q => run_op h mo ha.mo hb.mo q⟩
/-- by a bool -/
def bc (c : Bool) (A B : Prop) : Prop := match c with
  | true => A
  | false => B
/-- a bool -/
def bD : D → (Bool → Prop) → Prop
  | .bl b, Q => Q b
  | _, _ => False
theorem bD_mo {d : D} {Q Q' : Bool → Prop} (h : ∀ b, Q b → Q' b) (z : bD d Q) : bD d Q' := by
  cases d <;> first | exact h _ z | exact z
theorem bD_run {d : D} {v : V} {Q : Bool → Prop} (r : Rp K G v d) (z : bD d Q) : ∃ k, v = .bl k ∧ Q k := by
  cases r <;> first | exact ⟨_, rfl, z⟩ | exact z.elim
/-- a op b op' c -/
def dChain (o o' : D2) (ma mb mc : DE) : DE := fun ρ O Q E => ma ρ O (fun x O1 => mb ρ O1 (fun y O2 => o O2 x y fun z => bD z fun k => bc k (mc ρ O2 (fun w O3 => o' O3 y w fun d => Q d O3) E) (Q (.bl false) O2)) E) E
theorem mo_chain {o o' : D2} (ho : MoO o) (ho' : MoO o') (ha : Mo ma) (hb : Mo mb) (hc : Mo mc) : Mo (dChain o o' ma mb mc) := fun ρ O Q Q' E E' h hx x =>
  ha ρ _ _ _ _ _ (fun _ _ q => hb ρ _ _ _ _ _ (fun _ _ z => ho _ _ _ _ _ (fun d y => bD_mo (fun k y => by
    cases k with
    | true => exact hc ρ _ _ _ _ _ (fun _ _ w => ho' _ _ _ _ _ (fun _ => h _ _) w) hx y
    | false => exact h _ _ y) y) z) hx q) hx x
theorem run_chain {r r' : R2} {o o' : D2} {B : Bo} {Q : VK} (h : RunO K B r o) (mo : MoO o) (h' : RunO K B r' o') (mo' : MoO o') (ha : Mo ma) (hb : Mo mb) (hc : Mo mc)
    (q : up K B W (dChain o o' ma mb mc) σ H Q) : tChain r r' (up K B W ma) (up K B W mb) (up K B W mc) σ H Q := by
  obtain ⟨G, O, ρ, g, rs, q⟩ := q
  refine up_of ha g rs q fun x vx O1 G1 H1 q1 s1 r1 => ?_
  refine up_of hb s1.good (rs.step s1) (mo_step hb s1 q1) fun y vy O2 G2 H2 q2 s2 r2 => ?_
  refine h O2 G2 H2 vx vy x y _ s2.good (r1.mono s2.grow) r2 (mo _ _ _ _ _ (fun z hz v G3 H3 s3 r3 => ?_) q2)
  have s13 := (s1.trans s2).trans s3
  obtain ⟨k, rfl, hz⟩ := bD_run r3 hz
  cases k with
  | true =>
    refine ⟨true, rfl, iteT ?_⟩
    refine up_of hc s3.good (rs.step s13) (mo_step hc s13 hz) fun w vw O4 G4 H4 q4 s4 r4 => ?_
    exact h' O4 G4 H4 vy vw y w Q s4.good (r2.mono (s3.trans s4).grow) r4 (mo' _ _ _ _ _ (fun _ z => z.step (s13.trans s4)) q4)
  | false => exact ⟨false, rfl, iteF (hz _ _ _ s13 (.bl false))⟩
theorem d_chain {op op' : CmpOp} {o o' : D2} (ho : OpD X L.B (compareOp op) o) (ho' : OpD X L.B (compareOp op') o') (ha : DPE X L a ma) (hb : DPE X L b mb) (hc : DPE X L c mc) (hm : lastMarks [op, op'] [b, c] = false) :
    DPE X L (.Compare a [op, op'] [b, c] pos) (dChain o o' ma mb mc) := by
  obtain ⟨mo, r, hr, h⟩ := ho
  obtain ⟨mo', r', hr', h'⟩ := ho'
  exact ⟨mo_chain mo mo' ha.mo hb.mo hc.mo, pe_imp (pe_chain hr hr' ha.run hb.run hc.run hm) fun σ H Q q => run_chain h mo h' mo' ha.mo hb.mo hc.mo q⟩
end
end EV
set_option Elab.async false
set_option linter.all false
set_option maxRecDepth 100000
set_option maxHeartbeats 4000000
namespace EV
open PySem PySem.Spec PyProof.Rows L2
/-! ### handles -/
/-- what a handle holds -/
def lk (O : Ow) : D → D
  | .opq (.ref p) => (O p).getD (.opq (.ref p))
  | d => d
def RpX (K : PySem.W.Frag) (G H : Hp) (v : V) (d : D) : Prop := Rp K G v d ∨ ∃ p, v = .ref p ∧ RpO K G H p d
theorem lk_of {O : Ow} {p : Addr} {d : D} (h : O p = some d) : lk O (.opq (.ref p)) = d := by unfold lk; simp [h]
section
variable {K : PySem.W.Frag} {B : Bo} {O : Ow} {G H : Hp}
theorem lk_rp {v : V} {d : D} (g : Good K B O G H) (r : Rp K G v d) : RpX K G H v (lk O d) := by
  cases r with
  | opq v =>
    cases v with
    | ref p =>
      cases e : O p with
      | none => exact .inl (by have q : lk O (.opq (.ref p)) = .opq (.ref p) := by unfold lk; simp [e]
                               rw [q]; exact .opq _)
      | some d => exact .inr ⟨p, rfl, by
          have q : lk O (.opq (.ref p)) = d := by unfold lk; simp [e]
          rw [q]; exact (g.own p d e).2.2⟩
    | _ => exact .inl (.opq _)
  | non => exact .inl .non
  | bl => exact .inl (.bl _)
  | int => exact .inl (.int _)
  | str => exact .inl (.str _)
  | lst a b => exact .inl (.lst a b)
  | tup a b => exact .inl (.tup a b)
  | dic a b => exact .inl (.dic a b)
  | ins a b => exact .inl (.ins a b)
  | exc a b c d => exact .inl (.exc a b c d)
  | lam a b c => exact .inl (.lam a b c)
theorem RpX.lst {v : V} {ds : List D} (s : Sub G H) (h : RpX K G H v (.lst ds)) : ∃ a vs, v = .ref a ∧ H a = some (.lst vs) ∧ RpL K G vs ds := by
  rcases h with h | ⟨p, rfl, vs, e, r⟩
  · cases h with | lst a b => exact ⟨_, _, rfl, s _ _ a, b⟩
  · exact ⟨p, vs, rfl, e, r⟩
theorem RpX.tup {v : V} {ds : List D} (s : Sub G H) (h : RpX K G H v (.tup ds)) : ∃ a vs, v = .ref a ∧ SqT K H a vs ∧ RpL K G vs ds := by
  rcases h with h | ⟨p, rfl, r⟩
  · cases h with | tup a b => exact ⟨_, _, rfl, s.sqT a, b⟩
  · exact r.elim
theorem RpX.dic {v : V} {ds : List (Key × D)} (s : Sub G H) (h : RpX K G H v (.dic ds)) : ∃ a vs, v = .ref a ∧ Rd H a (.dK vs) ∧ RpK K G vs ds := by
  rcases h with h | ⟨p, rfl, vs, e, r⟩
  · cases h with | dic a b => exact ⟨_, _, rfl, .inr ⟨_, s _ _ a⟩, b⟩
  · exact ⟨p, vs, rfl, .inl e, r⟩
theorem RpX.ins {v : V} {C : Addr} {ds : List (Str × D)} (s : Sub G H) (h : RpX K G H v (.ins C ds)) : ∃ a dx fs, v = .ref a ∧ H a = some (.ins C dx fs) ∧ RpF K G fs ds := by
  rcases h with h | ⟨p, rfl, dx, fs, e, r⟩
  · cases h with | ins a b => exact ⟨_, _, _, rfl, s _ _ a, b⟩
  · exact ⟨p, dx, fs, rfl, e, r⟩
theorem RpX.str {v : V} {x : Str} (h : RpX K G H v (.str x)) : v = .str x := by
  rcases h with h | ⟨p, rfl, r⟩
  · cases h; rfl
  · exact r.elim
theorem RpX.int {v : V} {x : Int} (h : RpX K G H v (.int x)) : v = .int x := by
  rcases h with h | ⟨p, rfl, r⟩
  · cases h; rfl
  · exact r.elim
theorem RpX.bl {v : V} {x : Bool} (h : RpX K G H v (.bl x)) : v = .bl x := by
  rcases h with h | ⟨p, rfl, r⟩
  · cases h; rfl
  · exact r.elim
theorem RpX.non {v : V} (h : RpX K G H v .non) : v = .non := by
  rcases h with h | ⟨p, rfl, r⟩
  · cases h; rfl
  · exact r.elim
theorem RpL.isEmpty {vs : List V} {ds : List D} (r : RpL K G vs ds) : vs.isEmpty = ds.isEmpty := by cases r <;> rfl
end
section
variable {X : Cx} {L : Pl} {e a b c : Expr} {es rest : List Expr} {m ma mb mc : DE} {mt mu : DT} {mA : DA} {pos p : Pos}
variable {K : PySem.W.Frag} {B : Bo} {O : Ow} {W : L2.St → XK} {G H : Hp} {σ : L2.St} {ρ : Slots}
/-! ### truth -/
def truD : D → (Bool → Prop) → Prop
  | .non, Q => Q false
  | .bl b, Q => Q b
  | .int i, Q => Q (i != 0)
  | .str y, Q => y.length ≤ sizeLine ∧ Q ((y.length : Int) != 0)
  | .lst xs, Q => Q (!xs.isEmpty)
  | .tup xs, Q => Q (!xs.isEmpty)
  | _, _ => False
theorem truD_mo : ∀ {d : D} {Q Q' : Bool → Prop}, (∀ b, Q b → Q' b) → truD d Q → truD d Q'
  | .non, _, _, h, x => h _ x
  | .bl _, _, _, h, x => h _ x
  | .int _, _, _, h, x => h _ x
  | .str _, _, _, h, x => ⟨x.1, h _ x.2⟩
  | .lst _, _, _, h, x => h _ x
  | .tup _, _, _, h, x => h _ x
theorem truD_run {d : D} {v : V} {Q : Bool → Prop} (s : Sub G H) (r : RpX K G H v d) (h : truD d Q) : ∃ k, TruV K v H k ∧ Q k := by
  cases d with
  | non => rw [r.non]; exact ⟨_, rfl, h⟩
  | bl b => rw [r.bl]; exact ⟨_, rfl, h⟩
  | int i => rw [r.int]; exact ⟨_, rfl, h⟩
  | str x => rw [r.str]; exact ⟨_, ⟨h.1, rfl⟩, h.2⟩
  | lst q => obtain ⟨a, vs, rfl, e, rl⟩ := r.lst s; exact ⟨_, .inl ⟨_, .inl (.inl e), rfl⟩, by rw [rl.isEmpty]; exact h⟩
  | tup q => obtain ⟨a, vs, rfl, e, rl⟩ := r.tup s; exact ⟨_, .inr (.inl ⟨_, e, rfl⟩), by rw [rl.isEmpty]; exact h⟩
  | _ => exact h.elim
/-! ### tests -/
def dTest (m : DE) : DT := fun ρ O Q E => m ρ O (fun x O1 => truD (lk O1 x) fun b => Q b O1) E
theorem mo_test (h : Mo m) : Mo (dTest m) := fun ρ O Q Q' E E' q hx x => h ρ _ _ _ _ _ (fun _ _ z => truD_mo (fun _ => q _ _) z) hx x
theorem d_test (h : DPE X L a m) (he : ∀ whole, isTrue a X.env whole = (do let v ← whole; standAt a.pos; holding [v] (truthy v))) : DPT X L a (dTest m) := by
  refine ⟨mo_test h.mo, pt_imp (pt_truth h.run he) fun σ H Q ⟨G, O, ρ, g, rs, q⟩ => ?_⟩
  refine up_of h.mo g rs q fun x v O1 G1 H1 q1 s1 r1 => ?_
  obtain ⟨k, t, z⟩ := truD_run s1.good.sub (lk_rp s1.good r1) q1
  exact ⟨k, t, z _ _ s1⟩
/-- a comparison as a test: its answer is a bool -/
def dTestB (m : DE) : DT := fun ρ O Q E => m ρ O (fun x O1 => bD x fun b => Q b O1) E
theorem mo_testB (h : Mo m) : Mo (dTestB m) := fun ρ O Q Q' E E' q hx x => h ρ _ _ _ _ _ (fun d _ z => bD_mo (fun _ => q _ _) z) hx x
theorem run_testB {Q : Bool → Hp → Prop} (hm : Mo m) (h : upT K B W (dTestB m) σ H Q) : up K B W m σ H (fun x H' => ∃ k, x = .bl k ∧ Q k H') := by
  obtain ⟨G, O, ρ, g, rs, q⟩ := h
  refine up_of hm g rs q fun x v O1 G1 H1 q1 s1 r1 => ?_
  obtain ⟨k, rfl, q1⟩ := bD_run r1 q1
  exact ⟨_, rfl, q1 _ _ s1⟩
theorem d_tcmp {op : CmpOp} {o : D2} (ho : OpD X L.B (compareOp op) o) (ha : DPE X L a ma) (hb : DPE X L b mb) (hm : behindInMarks op b = false) : DPT X L (.Compare a [op] [b] pos) (dTestB (dOp o ma mb)) := by
  obtain ⟨mo, r, hr, h⟩ := ho
  refine ⟨mo_testB (mo_op mo ha.mo hb.mo), pt_imp (pt_cmpR hr ha.run hb.run hm) fun σ H Q q => ?_⟩
  exact run_op h mo ha.mo hb.mo (run_testB (mo_op mo ha.mo hb.mo) q)
theorem d_tchain {op op' : CmpOp} {o o' : D2} (ho : OpD X L.B (compareOp op) o) (ho' : OpD X L.B (compareOp op') o') (ha : DPE X L a ma) (hb : DPE X L b mb) (hc : DPE X L c mc) (hm : lastMarks [op, op'] [b, c] = false) :
    DPT X L (.Compare a [op, op'] [b, c] pos) (dTestB (dChain o o' ma mb mc)) := by
  obtain ⟨mo, r, hr, h⟩ := ho
  obtain ⟨mo', r', hr', h'⟩ := ho'
  have mm := mo_chain mo mo' ha.mo hb.mo hc.mo
  refine ⟨mo_testB mm, pt_imp (pt_chain hr hr' ha.run hb.run hc.run hm) fun σ H Q q => ?_⟩
  exact run_chain h mo h' mo' ha.mo hb.mo hc.mo (run_testB mm q)
def dAnd (t u : DT) : DT := fun ρ O Q E => t ρ O (fun c O1 => bc c (u ρ O1 Q E) (Q false O1)) E
def dOr (t u : DT) : DT := fun ρ O Q E => t ρ O (fun c O1 => bc c (Q true O1) (u ρ O1 Q E)) E
def dNot (t : DT) : DT := fun ρ O Q E => t ρ O (fun c O1 => Q (!c) O1) E
theorem mo_and (ht : Mo mt) (hu : Mo mu) : Mo (dAnd mt mu) := fun ρ O Q Q' E E' q hx x => ht ρ _ _ _ _ _ (fun c _ z => by cases c <;> first | exact hu ρ _ _ _ _ _ q hx z | exact q _ _ z) hx x
theorem mo_or (ht : Mo mt) (hu : Mo mu) : Mo (dOr mt mu) := fun ρ O Q Q' E E' q hx x => ht ρ _ _ _ _ _ (fun c _ z => by cases c <;> first | exact hu ρ _ _ _ _ _ q hx z | exact q _ _ z) hx x
theorem mo_not (ht : Mo mt) : Mo (dNot mt) := fun ρ O Q Q' E E' q hx x => ht ρ _ _ _ _ _ (fun _ _ z => q _ _ z) hx x
theorem d_and1 (h : DPT X L a mt) : DPW X L (.BoolOp .And [a] pos) mt := ⟨h.mo, pw_and1 h.run⟩
theorem d_or1 (h : DPT X L a mt) : DPW X L (.BoolOp .Or [a] pos) mt := ⟨h.mo, pw_or1 h.run⟩
/-- go on from a later state -/
theorem upT_on {R : Bool → Hp → Prop} {O1 : Ow} {G1 H1 : Hp} (mo : Mo mt) (rs : RpS K G σ ρ) (s : Step K B O G H O1 G1 H1) (h : mt ρ O1 (kb K B O G H R) (kx K B O G H (W σ))) : upT K B W mt σ H1 R :=
  ⟨G1, O1, ρ, s.good, rs.step s, mo ρ _ _ _ _ _ (fun _ _ z => z.step s) (fun _ _ z => z.step s) h⟩
theorem up_on {R : VK} {O1 : Ow} {G1 H1 : Hp} (mo : Mo m) (rs : RpS K G σ ρ) (s : Step K B O G H O1 G1 H1) (h : m ρ O1 (kv K B O G H R) (kx K B O G H (W σ))) : up K B W m σ H1 R :=
  ⟨G1, O1, ρ, s.good, rs.step s, mo ρ _ _ _ _ _ (fun _ _ z => z.step s) (fun _ _ z => z.step s) h⟩
theorem d_wand (h : DPT X L a mt) (hb : DPW X L (.BoolOp .And (b :: rest) pos) mu) : DPW X L (.BoolOp .And (a :: b :: rest) pos) (dAnd mt mu) := by
  refine ⟨mo_and h.mo hb.mo, pw_imp (pw_and h.run hb.run) fun σ H Q ⟨G, O, ρ, g, rs, q⟩ => ?_⟩
  refine upT_of h.mo g rs q fun c O1 G1 H1 q1 s1 => ?_
  cases c with
  | true => exact iteT (upT_on hb.mo rs s1 q1)
  | false => exact iteF (q1 _ _ s1)
theorem d_wor (h : DPT X L a mt) (hb : DPW X L (.BoolOp .Or (b :: rest) pos) mu) : DPW X L (.BoolOp .Or (a :: b :: rest) pos) (dOr mt mu) := by
  refine ⟨mo_or h.mo hb.mo, pw_imp (pw_or h.run hb.run) fun σ H Q ⟨G, O, ρ, g, rs, q⟩ => ?_⟩
  refine upT_of h.mo g rs q fun c O1 G1 H1 q1 s1 => ?_
  cases c with
  | false => exact iteF (upT_on hb.mo rs s1 q1)
  | true => exact iteT (q1 _ _ s1)
theorem DPW.pt (h : DPW X L e mt) : DPT X L e mt := ⟨h.mo, h.run.pt⟩
theorem d_tnot (h : DPT X L a mt) : DPT X L (.UnaryOp .Not a pos) (dNot mt) := by
  refine ⟨mo_not h.mo, pt_imp (pt_not h.run) fun σ H Q ⟨G, O, ρ, g, rs, q⟩ => ?_⟩
  exact upT_of h.mo g rs q fun c O1 G1 H1 q1 s1 => q1 _ _ s1
/-! ### and, or, not as values -/
def dAndV (ma mb : DE) : DE := fun ρ O Q E => ma ρ O (fun x O1 => truD (lk O1 x) fun k => bc k (mb ρ O1 Q E) (Q x O1)) E
def dOrV (ma mb : DE) : DE := fun ρ O Q E => ma ρ O (fun x O1 => truD (lk O1 x) fun k => bc k (Q x O1) (mb ρ O1 Q E)) E
def dNotV (ma : DE) : DE := fun ρ O Q E => ma ρ O (fun x O1 => truD (lk O1 x) fun k => Q (.bl (!k)) O1) E
theorem mo_andV (ha : Mo ma) (hb : Mo mb) : Mo (dAndV ma mb) := fun ρ O Q Q' E E' q hx x => ha ρ _ _ _ _ _ (fun _ _ z => truD_mo (fun k y => by cases k <;> first | exact hb ρ _ _ _ _ _ q hx y | exact q _ _ y) z) hx x
theorem mo_orV (ha : Mo ma) (hb : Mo mb) : Mo (dOrV ma mb) := fun ρ O Q Q' E E' q hx x => ha ρ _ _ _ _ _ (fun _ _ z => truD_mo (fun k y => by cases k <;> first | exact hb ρ _ _ _ _ _ q hx y | exact q _ _ y) z) hx x
theorem mo_notV (ha : Mo ma) : Mo (dNotV ma) := fun ρ O Q Q' E E' q hx x => ha ρ _ _ _ _ _ (fun _ _ z => truD_mo (fun k y => q _ _ y) z) hx x
theorem d_one {op} (h : DPE X L a m) : DPE X L (.BoolOp op [a] pos) m := ⟨h.mo, pe_one h.run⟩
theorem d_and (ha : DPE X L a ma) (hb : DPE X L (.BoolOp .And (b :: rest) pos) mb) : DPE X L (.BoolOp .And (a :: b :: rest) pos) (dAndV ma mb) := by
  refine ⟨mo_andV ha.mo hb.mo, pe_imp (pe_andT ha.run hb.run) fun σ H Q ⟨G, O, ρ, g, rs, q⟩ => ?_⟩
  refine up_of ha.mo g rs q fun x v O1 G1 H1 q1 s1 r1 => ?_
  obtain ⟨k, t, z⟩ := truD_run s1.good.sub (lk_rp s1.good r1) q1
  refine ⟨k, t, ?_⟩
  cases k with
  | true => exact iteT (up_on hb.mo rs s1 z)
  | false => exact iteF (z _ _ _ s1 r1)
theorem d_or (ha : DPE X L a ma) (hb : DPE X L (.BoolOp .Or (b :: rest) pos) mb) : DPE X L (.BoolOp .Or (a :: b :: rest) pos) (dOrV ma mb) := by
  refine ⟨mo_orV ha.mo hb.mo, pe_imp (pe_orT ha.run hb.run) fun σ H Q ⟨G, O, ρ, g, rs, q⟩ => ?_⟩
  refine up_of ha.mo g rs q fun x v O1 G1 H1 q1 s1 r1 => ?_
  obtain ⟨k, t, z⟩ := truD_run s1.good.sub (lk_rp s1.good r1) q1
  refine ⟨k, t, ?_⟩
  cases k with
  | false => exact iteF (up_on hb.mo rs s1 z)
  | true => exact iteT (z _ _ _ s1 r1)
theorem d_not (ha : DPE X L a ma) : DPE X L (.UnaryOp .Not a pos) (dNotV ma) := by
  refine ⟨mo_notV ha.mo, pe_imp (pe_notT ha.run) fun σ H Q ⟨G, O, ρ, g, rs, q⟩ => ?_⟩
  refine up_of ha.mo g rs q fun x v O1 G1 H1 q1 s1 r1 => ?_
  obtain ⟨k, t, z⟩ := truD_run s1.good.sub (lk_rp s1.good r1) q1
  exact ⟨k, t, z _ _ _ s1 (.bl _)⟩
def dIf (t : DT) (ma mb : DE) : DE := fun ρ O Q E => t ρ O (fun c O1 => bc c (ma ρ O1 Q E) (mb ρ O1 Q E)) E
theorem mo_if (ht : Mo mt) (ha : Mo ma) (hb : Mo mb) : Mo (dIf mt ma mb) := fun ρ O Q Q' E E' q hx x => ht ρ _ _ _ _ _ (fun c _ z => by cases c <;> first | exact hb ρ _ _ _ _ _ q hx z | exact ha ρ _ _ _ _ _ q hx z) hx x
theorem d_if (hc : DPT X L c mt) (ha : DPE X L a ma) (hb : DPE X L b mb) : DPE X L (.IfExp c a b pos) (dIf mt ma mb) := by
  refine ⟨mo_if hc.mo ha.mo hb.mo, pe_imp (pe_ifExp hc.run ha.run hb.run) fun σ H Q ⟨G, O, ρ, g, rs, q⟩ => ?_⟩
  refine upT_of hc.mo g rs q fun c O1 G1 H1 q1 s1 => ?_
  cases c with
  | true => exact iteT (up_on ha.mo rs s1 q1)
  | false => exact iteF (up_on hb.mo rs s1 q1)
/-! ### argument lists, displays -/
def dNil : DA := fun _ O Q _ => Q [] O
def dCons (ma : DE) (mr : DA) : DA := fun ρ O Q E => ma ρ O (fun x O1 => mr ρ O1 (fun xs O2 => Q (x :: xs) O2) E) E
theorem mo_nil : Mo dNil := fun _ _ _ _ _ _ q _ x => q _ _ x
theorem mo_cons (ha : Mo ma) (hr : Mo mA) : Mo (dCons ma mA) := fun ρ O Q Q' E E' q hx x => ha ρ _ _ _ _ _ (fun _ _ z => hr ρ _ _ _ _ _ (fun _ _ y => q _ _ y) hx z) hx x
theorem d_nil : DPA X L [] dNil := ⟨mo_nil, pa_imp pa_nil fun σ H Q ⟨G, O, ρ, g, rs, q⟩ => q _ _ _ (Step.refl g) .nil⟩
theorem d_cons (ha : DPE X L e m) (hr : DPA X L es mA) (hs : starEach (e :: es) X.env = (false, eval e X.env) :: starEach es X.env) : DPA X L (e :: es) (dCons m mA) := by
  refine ⟨mo_cons ha.mo hr.mo, pa_imp (pa_cons ha.run hr.run hs) fun σ H Q ⟨G, O, ρ, g, rs, q⟩ => ?_⟩
  refine up_of ha.mo g rs q fun x v O1 G1 H1 q1 s1 r1 => ?_
  exact upA_of hr.mo s1.good (rs.step s1) (mo_step hr.mo s1 q1) fun xs vs O2 G2 H2 q2 s2 r2 => q2 _ _ _ (s1.trans s2) (.cons (r1.mono s2.grow) r2)
def dTup (mA : DA) : DE := fun ρ O Q E => mA ρ O (fun xs O1 => xs.length ≤ sizeLine ∧ Q (.tup xs) O1) E
def dLst (mA : DA) : DE := fun ρ O Q E => mA ρ O (fun xs O1 => xs.length ≤ sizeLine ∧ Q (.lst xs) O1) E
theorem mo_tup (h : Mo mA) : Mo (dTup mA) := fun ρ O Q Q' E E' q hx x => h ρ _ _ _ _ _ (fun _ _ z => ⟨z.1, q _ _ z.2⟩) hx x
theorem mo_lst (h : Mo mA) : Mo (dLst mA) := fun ρ O Q Q' E E' q hx x => h ρ _ _ _ _ _ (fun _ _ z => ⟨z.1, q _ _ z.2⟩) hx x
theorem new_tup {vs : List V} {ds : List D} {q : Addr} (g : Good K B O G H) (n : H q = none) (r : RpL K G vs ds) : Rp K (upd G q (.tup vs)) (.ref q) (.tup ds) :=
  .tup (.inl (.inl upd_same)) (r.mono (Step.new g n).grow)
theorem new_lst {vs : List V} {ds : List D} {q : Addr} (g : Good K B O G H) (n : H q = none) (r : RpL K G vs ds) : Rp K (upd G q (.lst vs)) (.ref q) (.lst ds) :=
  .lst upd_same (r.mono (Step.new g n).grow)
theorem d_tup {x1} (h : DPA X L es mA) : DPE X L (.Tuple es x1 pos) (dTup mA) := by
  refine ⟨mo_tup h.mo, pe_imp (pe_tup h.run) fun σ H Q ⟨G, O, ρ, g, rs, q⟩ => ?_⟩
  exact upA_of h.mo g rs q fun xs vs O1 G1 H1 q1 s1 r1 => ⟨by rw [r1.length]; exact q1.1, fun p np => q1.2 _ _ _ (s1.trans (Step.new s1.good np)) (new_tup s1.good np r1)⟩
theorem d_lst (h : DPA X L es mA) : DPE X L (.List es pos) (dLst mA) := by
  refine ⟨mo_lst h.mo, pe_imp (pe_lst h.run) fun σ H Q ⟨G, O, ρ, g, rs, q⟩ => ?_⟩
  exact upA_of h.mo g rs q fun xs vs O1 G1 H1 q1 s1 r1 => ⟨by rw [r1.length]; exact q1.1, fun p np => q1.2 _ _ _ (s1.trans (Step.new s1.good np)) (new_lst s1.good np r1)⟩
/-- a new handle -/
theorem new_own {q : Addr} {o : HO} {d : D} (g : Good K B O G H) (n : H q = none) (r : RpO K G (upd H q o) q d) : Step K B O G H (oset O q d) G (upd H q o) :=
  Step.put g (g.freshG n) (g.nhid n) r (.inr n)
/-- a list of one's own -/
def dLstO (mA : DA) : DE := fun ρ O Q E => mA ρ O (fun xs O1 => xs.length ≤ sizeLine ∧ ∀ p, O1 p = none → Q (.opq (.ref p)) (oset O1 p (.lst xs))) E
theorem mo_lstO (h : Mo mA) : Mo (dLstO mA) := fun ρ O Q Q' E E' q hx x => h ρ _ _ _ _ _ (fun _ _ z => ⟨z.1, fun p n => q _ _ (z.2 p n)⟩) hx x
theorem d_lstO (h : DPA X L es mA) : DPE X L (.List es pos) (dLstO mA) := by
  refine ⟨mo_lstO h.mo, pe_imp (pe_lst h.run) fun σ H Q ⟨G, O, ρ, g, rs, q⟩ => ?_⟩
  exact upA_of h.mo g rs q fun xs vs O1 G1 H1 q1 s1 r1 => ⟨by rw [r1.length]; exact q1.1, fun p np => q1.2 p (s1.good.fresh np) _ _ _ (s1.trans (new_own s1.good np ⟨vs, upd_same, r1⟩)) (.opq _)⟩
/-! ### built-ins by values -/
abbrev DC := Ow → List D → (D → Prop) → Prop
abbrev pc (o : List D → (D → Prop) → Prop) : DC := fun _ => o
def MoC (o : DC) : Prop := ∀ O x Q Q', (∀ d, Q d → Q' d) → o O x Q → o O x Q'
def RunC (K : PySem.W.Frag) (B : Bo) (r : List V → Hp → VK → Prop) (o : DC) : Prop := ∀ O G H vs ds Q, Good K B O G H → RpL K G vs ds → o O ds (fun d => kv K B O G H Q d O) → r vs H Q
structure CallD (X : Cx) (B : Bo) (f : Value) (o : DC) : Prop where
  mo : MoC o
  run : ∃ r, CallR X f r ∧ RunC X.K B r o
def dCB (o : DC) (mA : DA) : DE := fun ρ O Q E => mA ρ O (fun xs O1 => o O1 xs fun d => Q d O1) E
theorem mo_cb {o : DC} (ho : MoC o) (h : Mo mA) : Mo (dCB o mA) := fun ρ O Q Q' E E' q hx x => h ρ _ _ _ _ _ (fun _ _ z => ho _ _ _ _ (fun _ => q _ _) z) hx x
theorem run_cb {r : List V → Hp → VK → Prop} {o : DC} {Q : VK} (hr : RunC K B r o) (mo : MoC o) (h : Mo mA)
    (q : up K B W (dCB o mA) σ H Q) : tCB r (upA K B W mA) σ H Q := by
  obtain ⟨G, O, ρ, g, rs, q⟩ := q
  exact upA_of h g rs q fun xs vs O1 G1 H1 q1 s1 r1 => hr O1 G1 H1 vs xs Q s1.good r1 (mo _ _ _ _ (fun _ z => z.step s1) q1)
theorem d_callB {x : Str} {id : String} {o : DC} (hc : CallD X L.B (.builtin id) o) (hg : Gl X x) (hm : X.mg x = none) (hv : bootBuiltins x = some (.builtin id)) (ha : DPA X L (e :: es) mA) (hn : x ≠ "__name__") (hdb : (x == ("__debug__" : Str)) = false)
    (he : starEach (e :: es) X.env = (false, eval e X.env) :: starEach es X.env) (hpl : (backTo pos (starEach es X.env)).any (·.1) = false) : DPE X L (.Call (.Name x p) (e :: es) [] pos) (dCB o mA) := by
  obtain ⟨mo, r, hr, h⟩ := hc
  exact ⟨mo_cb mo ha.mo, pe_imp (pe_callB hr hg hm hv ha.run hn hdb he hpl) fun σ H Q q => run_cb h mo ha.mo q⟩
theorem d_callTy {x : Str} {T : String} {o : DC} (hc : CallD X L.B (.type T) o) (hg : Gl X x) (hm : X.mg x = none) (hv : bootBuiltins x = some (.type T)) (ha : DPA X L (e :: es) mA) (hn : x ≠ "__name__") (hdb : (x == ("__debug__" : Str)) = false)
    (he : starEach (e :: es) X.env = (false, eval e X.env) :: starEach es X.env) (hpl : (backTo pos (starEach es X.env)).any (·.1) = false) : DPE X L (.Call (.Name x p) (e :: es) [] pos) (dCB o mA) := by
  obtain ⟨mo, r, hr, h⟩ := hc
  exact ⟨mo_cb mo ha.mo, pe_imp (pe_callTy hr hg hm hv ha.run hn hdb he hpl) fun σ H Q q => run_cb h mo ha.mo q⟩
end
/-! ### what a def promises of data -/
abbrev DSp := List D → Ow → QD → QX → Prop
/-- closed upward -/
def spM (sp : DSp) : DSp := fun ds O Q E => ∃ Q0 E0, sp ds O Q0 E0 ∧ (∀ d O, Q0 d O → Q d O) ∧ ∀ x O, E0 x O → E x O
theorem spM.of {sp : DSp} {ds : List D} {O : Ow} {Q : QD} {E : QX} (h : sp ds O Q E) : spM sp ds O Q E := ⟨Q, E, h, fun _ _ x => x, fun _ _ x => x⟩
def spD (K : PySem.W.Frag) (sp : DSp) : Sp := fun vs H Q E => ∃ G O ds, Good K bo0 O G H ∧ RpL K G vs ds ∧ spM sp ds O (kv K bo0 O G H Q) (kx K bo0 O G H E)
def spB (K : PySem.W.Frag) (sp : DSp) : Sp := fun vs H Q E => ∃ b l T ws G O ds, vs = .ref b :: ws ∧ Good K (boB b l T) O G H ∧ RpL K G ws ds ∧ spM sp ds O (kv K (boB b l T) O G H Q) (kx K (boB b l T) O G H E)
theorem no_hid {a : Addr} : ¬ Hid bo0 a := fun ⟨_, _, _, e, _⟩ => nomatch e
theorem Good.none {K : PySem.W.Frag} {B : Bo} {O : Ow} {G H : Hp} (g : Good K B O G H) : Good K bo0 O G H := ⟨g.sub, (fun _ _ _ e => nomatch e), (fun _ _ e => nomatch e), fun p d e => ⟨(g.own p d e).1, no_hid, (g.own p d e).2.2⟩⟩
theorem Step.lift {K : PySem.W.Frag} {B : Bo} {O O' : Ow} {G H G' H' : Hp} (g : Good K B O G H) (s : Step K bo0 O G H O' G' H') : Step K B O G H O' G' H' := by
  have hb : ∀ a, Hid B a → ∃ o, H a = some o ∧ G a = Option.none ∧ O a = Option.none := fun a h => by
    obtain ⟨o, e, _⟩ := g.hidH h
    exact ⟨o, e, g.hidG h, g.hidO h⟩
  refine ⟨s.grow, ⟨s.good.sub, fun b l T e => ?_, g.amb.trans s.grow, fun p d e => ⟨(s.good.own p d e).1, fun z => ?_, (s.good.own p d e).2.2⟩⟩, fun a o h _ n => s.keep a o h no_hid n, s.hid, s.still⟩
  · refine (g.box b l T e).step s.grow (fun a ha => ?_) fun a o ha h => ?_
    · obtain ⟨o, h, hG, hO⟩ := hb a ⟨b, l, T, e, ha⟩
      exact (s.hid _ _ h hG hO).1
    · rcases ha with ha | ⟨φ, rfl⟩
      · exact s.keep _ _ h no_hid (g.hidO ⟨b, l, T, e, ha⟩)
      · refine s.keep _ _ h no_hid ?_
        cases q : O a with
        | none => rfl
        | some d' =>
          have := (g.own a d' q).2.2
          cases d' <;> first
            | exact this.elim
            | (obtain ⟨vs, h', _⟩ := this; rw [h] at h'; cases h')
            | (obtain ⟨dx, fs, h', _⟩ := this; rw [h] at h'; cases h')
  · obtain ⟨o, h, hG, hO⟩ := hb p z
    have := (s.hid _ _ h hG hO).2
    rw [e] at this; cases this
/-- the box alone, without what is around -/
theorem Good.box0 {K : PySem.W.Frag} {B : Bo} {b l : Addr} {T : List (Addr × Str)} {O : Ow} {G H : Hp} (g : Good K B O G H) (e : B.bx = some (b, l, T)) : Good K (boB b l T) O G H := ⟨g.sub, fun b' l' T' e' => g.box b' l' T' (e.trans e'), (fun _ _ e => nomatch e), fun p d q => ⟨(g.own p d q).1, fun ⟨b', l', T', e', h⟩ => (g.own p d q).2.1 ⟨b', l', T', e.trans e', h⟩, (g.own p d q).2.2⟩⟩
theorem Step.lift0 {K : PySem.W.Frag} {B : Bo} {b l : Addr} {T : List (Addr × Str)} {O O' : Ow} {G H G' H' : Hp} (g : Good K B O G H) (e : B.bx = some (b, l, T)) (s : Step K (boB b l T) O G H O' G' H') : Step K B O G H O' G' H' := by
  have hb : ∀ {a : Addr}, Hid (boB b l T) a ↔ Hid B a := fun {a} => ⟨fun ⟨b', l', T', e', h⟩ => ⟨b', l', T', e.trans e', h⟩, fun ⟨b', l', T', e', h⟩ => ⟨b', l', T', e.symm.trans e', h⟩⟩
  exact ⟨s.grow, ⟨s.good.sub, fun b' l' T' e' => s.good.box b' l' T' (e.symm.trans e'), g.amb.trans s.grow, fun p d q => ⟨(s.good.own p d q).1, fun z => (s.good.own p d q).2.1 (hb.mpr z), (s.good.own p d q).2.2⟩⟩, fun a o h n z => s.keep a o h (fun y => n (hb.mp y)) z, s.hid, s.still⟩
theorem kv.lift {K : PySem.W.Frag} {B : Bo} {O O' : Ow} {G H : Hp} {Q : VK} {d : D} (g : Good K B O G H) (h : kv K B O G H Q d O') : kv K bo0 O G H Q d O' := fun v G' H' s r => h v G' H' (s.lift g) r
theorem kx.lift {K : PySem.W.Frag} {B : Bo} {O O' : Ow} {G H : Hp} {E : XK} {x : Xc} (g : Good K B O G H) (h : kx K B O G H E x O') : kx K bo0 O G H E x O' := fun d fs G' H' s a r => h d fs G' H' (s.lift g) a r
end EV
set_option Elab.async false
set_option linter.all false
set_option maxRecDepth 100000
set_option maxHeartbeats 4000000
namespace EV
open PySem PySem.Spec PyProof.Rows L2
section
variable {X : Cx} {L : Pl} {e a b c : Expr} {es rest : List Expr} {m ma mb mc : DE} {mt mu : DT} {mA : DA} {pos p : Pos}
variable {K : PySem.W.Frag} {B : Bo} {O : Ow} {W : L2.St → XK} {G H : Hp} {σ : L2.St} {ρ : Slots}
/-! ### calls of defs -/
def dCall (sp : DSp) (mA : DA) : DE := fun ρ O Q E => mA ρ O (fun ds O1 => spM sp ds O1 Q E) E
theorem spM_mo {sp : DSp} {ds : List D} {O : Ow} {Q Q' : QD} {E E' : QX} (q : ∀ d O, Q d O → Q' d O) (x : ∀ d O, E d O → E' d O) (h : spM sp ds O Q E) : spM sp ds O Q' E' := by
  obtain ⟨Q0, E0, h, a, b⟩ := h
  exact ⟨Q0, E0, h, fun d O z => q _ _ (a _ _ z), fun d O z => x _ _ (b _ _ z)⟩
theorem mo_call {sp : DSp} (h : Mo mA) : Mo (dCall sp mA) := fun ρ O Q Q' E E' q hx x => h ρ _ _ _ _ _ (fun _ _ z => spM_mo q hx z) hx x
theorem d_call {CX : CXT} {k : Nat} {f : Addr} {fd : FuncData} {ps : List Str} {sp : DSp} {x : Str} (Fn : FnOk X.prog X.w X.K X.mg X.base CX k f fd ps (spD X.K sp)) (hr : Room k X.A) (hg : Gl X x) (hm : X.mg x = some (.ref f)) (hk : PySem.W.keepIn X.K (.ref f) = true) (hb : Binds X.K fd ps [])
    (hx : ∀ σ, PassesAt CX X σ (L.W σ)) (ha : DPA X L (e :: es) mA) (hdb : (x == ("__debug__" : Str)) = false) (he : starEach (e :: es) X.env = (false, eval e X.env) :: starEach es X.env) (hpl : (backTo pos (starEach es X.env)).any (·.1) = false) :
    DPE X L (.Call (.Name x p) (e :: es) [] pos) (dCall sp mA) := by
  refine ⟨mo_call ha.mo, pe_imp (pe_callSD Fn hr hg hm hk hb .nil hx ha.run hdb he hpl) fun σ H Q ⟨G, O, ρ, g, rs, q⟩ => ?_⟩
  refine upA_of ha.mo g rs q fun xs vs O1 G1 H1 q1 s1 r1 => ?_
  exact ⟨G1, O1, xs, s1.good.none, by rw [List.append_nil]; exact r1, spM_mo (fun d _ z => (z.step s1).lift s1.good) (fun x _ z => (z.step s1).lift s1.good) q1⟩
/-- f(box, ..) -/
def dCallX (bx : Addr) (sp : DSp) (mA : DA) : DE := fun ρ O Q E => mA ρ O (fun ds O1 => match ds with
  | .opq (.ref b) :: r => b = bx ∧ spM sp r O1 Q E
  | _ => False) E
theorem mo_callX {sp : DSp} {bx : Addr} (h : Mo mA) : Mo (dCallX bx sp mA) := fun ρ O Q Q' E E' q hx x => h ρ _ _ _ _ _ (fun ds O1 z => by
  split at z
  · exact ⟨z.1, spM_mo q hx z.2⟩
  · exact z) hx x
theorem d_callX {CX : CXT} {k : Nat} {f bx lx : Addr} {T : List (Addr × Str)} {fd : FuncData} {ps : List Str} {sp : DSp} {x : Str} (Fn : FnOk X.prog X.w X.K X.mg X.base CX k f fd ps (spB X.K sp)) (hB : L.B.bx = some (bx, lx, T)) (hr : Room k X.A) (hg : Gl X x) (hm : X.mg x = some (.ref f)) (hk : PySem.W.keepIn X.K (.ref f) = true) (hb : Binds X.K fd ps [])
    (hx : ∀ σ, PassesAt CX X σ (L.W σ)) (ha : DPA X L (e :: es) mA) (hdb : (x == ("__debug__" : Str)) = false) (he : starEach (e :: es) X.env = (false, eval e X.env) :: starEach es X.env) (hpl : (backTo pos (starEach es X.env)).any (·.1) = false) :
    DPE X L (.Call (.Name x p) (e :: es) [] pos) (dCallX bx sp mA) := by
  refine ⟨mo_callX ha.mo, pe_imp (pe_callSD Fn hr hg hm hk hb .nil hx ha.run hdb he hpl) fun σ H Q ⟨G, O, ρ, g, rs, q⟩ => ?_⟩
  refine upA_of ha.mo g rs q fun xs vs O1 G1 H1 q1 s1 r1 => ?_
  rw [List.append_nil]
  split at q1
  · rename_i b r
    obtain ⟨rfl, q1⟩ := q1
    cases r1 with
    | cons r2 r3 =>
      cases r2
      exact ⟨b, lx, T, _, G1, O1, r, rfl, s1.good.box0 hB, r3, spM_mo (fun d _ z v G' H' t rv => z v G' H' (s1.trans (t.lift0 s1.good hB)) rv) (fun x _ z d fs G' H' t a rf => z d fs G' H' (s1.trans (t.lift0 s1.good hB)) a rf) q1⟩
  · exact q1.elim
/-! ### subscripts, slices -/
def ixP : D → D → (D → Prop) → Prop
  | .lst xs, .int i, Q => match atI xs i with
    | some d => Q d
    | none => False
  | .tup xs, .int i, Q => match atI xs i with
    | some d => Q d
    | none => False
  | .str z, .int i, Q => z.length ≤ sizeLine ∧ match atI z.cps.toList i with
    | some c => Q (.str ⟨#[c]⟩)
    | none => False
  | _, _, _ => False
def ixD : D2 := fun O x y Q => ixP (lk O x) y Q
theorem ixP_mo {x y : D} {Q Q' : D → Prop} (h : ∀ d, Q d → Q' d) (z : ixP x y Q) : ixP x y Q' := by
  unfold ixP at z ⊢
  split at z
  · split at z
    · exact h _ z
    · exact z
  · split at z
    · exact h _ z
    · exact z
  · refine ⟨z.1, ?_⟩
    obtain ⟨_, z⟩ := z
    split at z
    · exact h _ z
    · exact z
  · exact z
theorem ixD_mo : MoO ixD := fun O x y Q Q' h z => ixP_mo h z
theorem RpL.atI {vs : List V} {ds : List D} {i : Int} {d : D} (r : RpL K G vs ds) (h : L2.atI ds i = some d) : ∃ v, L2.atI vs i = some v ∧ Rp K G v d := by
  unfold L2.atI at h ⊢
  rw [r.length]
  cases e : ixN ds.length i with
  | none => rw [e] at h; cases h
  | some j => rw [e] at h; exact r.get h
theorem d_ix (ha : DPE X L a ma) (hb : DPE X L b mb) (hs : PlainIx b) : DPE X L (.Subscript a b pos) (dOp ixD ma mb) := by
  refine ⟨mo_op ixD_mo ha.mo hb.mo, pe_imp (pe_ix ix_seq ha.run hb.run hs) fun σ H Q q => run_op (fun O G H x y a b Q g r1 r2 h => ?_) ixD_mo ha.mo hb.mo q⟩
  have r1 := lk_rp g r1
  unfold ixD ixP at h
  split at h
  · rename_i e0
    rw [e0] at r1
    split at h
    · rename_i d e
      obtain ⟨p, vs, rfl, s, rl⟩ := r1.lst g.sub
      cases r2
      obtain ⟨v, e1, r3⟩ := rl.atI e
      exact .inl ⟨_, _, _, v, rfl, rfl, .inl (.inl s), e1, h _ _ _ (Step.refl g) r3⟩
    · exact h.elim
  · rename_i e0
    rw [e0] at r1
    split at h
    · rename_i d e
      obtain ⟨p, vs, rfl, s, rl⟩ := r1.tup g.sub
      cases r2
      obtain ⟨v, e1, r3⟩ := rl.atI e
      exact .inr (.inl ⟨_, _, _, v, rfl, rfl, s, e1, h _ _ _ (Step.refl g) r3⟩)
    · exact h.elim
  · rename_i e0
    rw [e0] at r1
    obtain ⟨hz, h⟩ := h
    split at h
    · rename_i d e
      cases r1.str
      cases r2
      exact .inr (.inr ⟨_, _, _, rfl, rfl, hz, e, h _ _ _ (Step.refl g) (.str _)⟩)
    · exact h.elim
  · exact h.elim
abbrev DO := Slots → Ow → (Option Int → Ow → Prop) → QX → Prop
def ko (K : PySem.W.Frag) (B : Bo) (O : Ow) (G H : Hp) (Q : Option Int → Hp → Prop) : Option Int → Ow → Prop := fun b O' => ∀ G' H', Step K B O G H O' G' H' → Q b H'
def upO (K : PySem.W.Frag) (B : Bo) (W : L2.St → XK) (m : DO) : TO := fun σ H Q => ∃ G O ρ, Good K B O G H ∧ RpS K G σ ρ ∧ m ρ O (ko K B O G H Q) (kx K B O G H (W σ))
structure DPO (X : Cx) (L : Pl) (e : Option Expr) (m : DO) : Prop where
  mo : Mo m
  run : PO X e (upO X.K L.B L.W m)
theorem po_imp {e : Option Expr} {t t' : TO} (h : PO X e t) (i : ∀ σ H Q, t' σ H Q → t σ H Q) : PO X e t' := ⟨fun pins s σ H Q I q => h.run pins s σ H Q I (i _ _ _ q)⟩
def dNoPart : DO := fun _ O Q _ => Q none O
def dPart (m : DE) : DO := fun ρ O Q E => m ρ O (fun d O1 => match d with | .int i => Q (some i) O1 | _ => False) E
theorem d_nopart : DPO X L none dNoPart := ⟨fun _ _ _ _ _ _ q _ x => q _ _ x, po_imp po_none fun σ H Q ⟨G, O, ρ, g, rs, q⟩ => q _ _ (Step.refl g)⟩
theorem mo_part (h : Mo m) : Mo (dPart m) := fun ρ O Q Q' E E' q hx x => h ρ _ _ _ _ _ (fun d _ z => by cases d <;> first | exact q _ _ z | exact z) hx x
theorem d_part (h : DPE X L e m) : DPO X L (some e) (dPart m) := by
  refine ⟨mo_part h.mo, po_imp (po_some h.run) fun σ H Q ⟨G, O, ρ, g, rs, q⟩ => ?_⟩
  refine up_of h.mo g rs q fun x v O1 G1 H1 q1 s1 r1 => ?_
  cases r1 <;> first
    | exact ⟨_, rfl, q1 _ _ s1⟩
    | exact q1.elim
def cutD (xs : List D) (lo hi : Option Int) : List D := (xs.drop (HT.sIx xs.length 0 lo)).take (HT.sIx xs.length xs.length hi - HT.sIx xs.length 0 lo)
theorem RpL.cut {vs : List V} {ds : List D} (r : RpL K G vs ds) (lo hi : Option Int) : RpL K G (cutV vs lo hi) (cutD ds lo hi) := by
  unfold cutV cutD
  rw [r.length]
  exact (r.drop _).take _
def slD : D → Option Int → Option Int → (D → Prop) → Prop
  | .lst xs, lo, hi, Q => Q (.lst (cutD xs lo hi))
  | .tup xs, lo, hi, Q => ¬ (HT.sIx xs.length 0 lo = 0 ∧ HT.sIx xs.length xs.length hi = xs.length) ∧ Q (.tup (cutD xs lo hi))
  | .str z, lo, hi, Q => z.length ≤ sizeLine ∧ Q (.str (cutS z lo hi))
  | _, _, _, _ => False
theorem slD_mo : ∀ {x lo hi Q Q'}, (∀ d, Q d → Q' d) → slD x lo hi Q → slD x lo hi Q'
  | .lst _, _, _, _, _, h, z => h _ z
  | .tup _, _, _, _, _, h, z => ⟨z.1, h _ z.2⟩
  | .str _, _, _, _, _, h, z => ⟨z.1, h _ z.2⟩
def dSl (m : DE) (ml mh : DO) : DE := fun ρ O Q E => m ρ O (fun x O1 => ml ρ O1 (fun lo O2 => mh ρ O2 (fun hi O3 => slD (lk O3 x) lo hi fun d => Q d O3) E) E) E
theorem mo_sl {ml mh : DO} (h : Mo m) (hl : Mo ml) (hh : Mo mh) : Mo (dSl m ml mh) := fun ρ O Q Q' E E' q hx x => h ρ _ _ _ _ _ (fun _ _ z => hl ρ _ _ _ _ _ (fun _ _ y => hh ρ _ _ _ _ _ (fun _ _ w => slD_mo (fun _ => q _ _) w) hx y) hx z) hx x
theorem upO_of {R : Option Int → Hp → Prop} {P : Option Int → Ow → Prop} {mo : DO} (hm : Mo mo) (g : Good K B O G H) (r : RpS K G σ ρ) (h : mo ρ O P (kx K B O G H (W σ)))
    (k : ∀ b O' G' H', P b O' → Step K B O G H O' G' H' → R b H') : upO K B W mo σ H R :=
  ⟨G, O, ρ, g, r, hm ρ _ _ _ _ _ (fun d O' p G' H' s => k d O' G' H' p s) (fun _ _ x => x) h⟩
theorem d_sl {lo hi : Option Expr} {ml mh : DO} {p2 : Pos} (h : DPE X L e m) (hl : DPO X L lo ml) (hh : DPO X L hi mh) : DPE X L (.Subscript e (.Slice lo hi none p2) pos) (dSl m ml mh) := by
  refine ⟨mo_sl h.mo hl.mo hh.mo, pe_imp (pe_slice (sl_list.or (sl_tup.or sl_str)) h.run hl.run hh.run) fun σ H Q ⟨G, O, ρ, g, rs, q⟩ => ?_⟩
  refine up_of h.mo g rs q fun x v O1 G1 H1 q1 s1 r1 => ?_
  refine upO_of hl.mo s1.good (rs.step s1) (mo_step hl.mo s1 q1) fun l O2 G2 H2 q2 s2 => ?_
  have s12 := s1.trans s2
  refine upO_of hh.mo s2.good (rs.step s12) (mo_step hh.mo s12 q2) fun u O3 G3 H3 q3 s3 => ?_
  have s13 := s12.trans s3
  have r3 := lk_rp s3.good (r1.mono (s2.trans s3).grow)
  generalize lk O3 x = y at q3 r3
  cases y with
  | lst xs =>
    obtain ⟨p, vs, rfl, e, rl⟩ := r3.lst s3.good.sub
    refine .inl ⟨_, _, rfl, .inl (.inl e), fun p np => ?_⟩
    exact q3 _ _ _ (s13.trans (Step.new s3.good np)) (new_lst s3.good np (rl.cut _ _))
  | tup xs =>
    obtain ⟨p, vs, rfl, e, rl⟩ := r3.tup s3.good.sub
    refine .inr (.inl ⟨_, _, rfl, e, by rw [rl.length]; exact q3.1, fun p np => ?_⟩)
    exact q3.2 _ _ _ (s13.trans (Step.new s3.good np)) (new_tup s3.good np (rl.cut _ _))
  | str z => cases r3.str; exact .inr (.inr ⟨_, rfl, q3.1, q3.2 _ _ _ s13 (.str _)⟩)
  | _ => exact q3.elim
end
end EV
set_option Elab.async false
set_option linter.all false
set_option maxRecDepth 100000
set_option maxHeartbeats 4000000
namespace EV
open PySem PySem.Spec PyProof.Rows L2
/-! ### what a loop walks -/
abbrev IL := (Ow → Prop) × List D
abbrev DI := Slots → Ow → (IL → Ow → Prop) → QX → Prop
/-- J gives the data ds, one by one, while what was visible at G0 is so and the handles are as I says -/
def ItD (K : PySem.W.Frag) (B : Bo) (G0 : Hp) (J : It) (x : IL) : Prop := ∀ (i : Nat) (O : Ow) (G H : Hp), Good K B O G H → Sub G0 G → x.1 O →
  (∀ d, x.2[i]? = some d → J.go i H ∧ ∀ v H', J.yld i H v H' → ∃ G', Step K B O G H O G' H' ∧ Rp K G' v d) ∧ (i = x.2.length → J.stop i H)
def ki (K : PySem.W.Frag) (B : Bo) (O : Ow) (G H : Hp) (R : It → Hp → Prop) : IL → Ow → Prop := fun x O' => ∀ J G' H', Step K B O G H O' G' H' → ItD K B G' J x → R J H'
def upI (K : PySem.W.Frag) (B : Bo) (W : L2.St → XK) (m : DI) : TI := fun σ H R => ∃ G O ρ, Good K B O G H ∧ RpS K G σ ρ ∧ m ρ O (ki K B O G H R) (kx K B O G H (W σ))
structure DPI (X : Cx) (L : Pl) (tg e : Expr) (m : DI) : Prop where
  mo : Mo m
  run : PI X tg e (upI X.K L.B L.W m)
section
variable {X : Cx} {L : Pl} {e a b c tg : Expr} {es rest : List Expr} {m ma mb mc : DE} {mt mu : DT} {mA : DA} {pos p : Pos}
variable {K : PySem.W.Frag} {B : Bo} {O : Ow} {W : L2.St → XK} {G H : Hp} {σ : L2.St} {ρ : Slots} {I : Ow → Prop}
theorem pi_imp {t t' : TI} (h : PI X tg e t) (i : ∀ σ H Q, t' σ H Q → t σ H Q) : PI X tg e t' := ⟨fun pins s σ H Q I q => h.run pins s σ H Q I (i _ _ _ q)⟩
/-- a list, a tuple or a text -/
def iAny (K : PySem.W.Frag) (te : TE) : TI := fun σ H R => te σ H fun x H1 => (∃ a, x = .ref a ∧ (∃ xs, SqL K H1 a xs) ∧ R (Itl K a) H1) ∨ (∃ a, x = .ref a ∧ (∃ xs, SqT K H1 a xs) ∧ R (Itt K a) H1) ∨ ∃ y, x = .str y ∧ R (Its y) H1
theorem pi_any {te : TE} (he : PE X e te) : PI X tg e (iAny X.K te) := by
  refine ⟨fun pins s σ H R I h => ?_⟩
  refine thn (he.run pins s σ H _ I h) fun v s1 ⟨x, H1, I1, r1, q1⟩ => ?_
  rcases q1 with ⟨a, ex, ⟨xs, hq⟩, q⟩ | ⟨a, ex, ⟨xs, hq⟩, q⟩ | ⟨y, ex, q⟩
  · subst ex
    cases r1
    obtain ⟨its, rv, p, hz⟩ := I1.list hq
    refine wpAny_pyIter_list p.isList ?_
    refine ⟨s1.heap.objs.size, [s1.heap.objs.size], _, _, H1, rfl, I1.kept (t' := s1.toks) fun b o e => Heap.get?_push_of_some _ e, turn_list a _, ⟨_, Heap.get?_push_size _ rfl, rfl, rfl⟩, fun b hb => ?_, q⟩
    have e : b = s1.heap.objs.size := by simpa using hb
    subst e
    exact I1.fpOk (Nat.le_refl _) (I1.hok.fresh (Nat.le_refl _))
  · subst ex
    cases r1
    obtain ⟨its, rv, p, hz⟩ := I1.tuple hq
    refine wpAny_pyIter_tuple (show s1.heap.IsTuple a its.toArray from p) ?_
    refine ⟨s1.heap.objs.size, [s1.heap.objs.size], _, _, H1, rfl, I1.kept (t' := s1.toks) fun b o e => Heap.get?_push_of_some _ e, turn_tuple a _, ⟨_, Heap.get?_push_size _ rfl, rfl, rfl⟩, fun b hb => ?_, q⟩
    have e : b = s1.heap.objs.size := by simpa using hb
    subst e
    exact I1.fpOk (Nat.le_refl _) (I1.hok.fresh (Nat.le_refl _))
  · subst ex
    obtain ⟨t, rfl⟩ := r1
    cases ha : y.cps.all (· < 128)
    · exact wpAny_pyIter_wide ha (pi_one (tk := s1.toks) I1 _ (turn_str _ y t "str_iterator" (.inr rfl)) ⟨_, Heap.get?_push_size _ rfl, rfl, rfl⟩ q)
    · exact wpAny_pyIter_ascii ha (pi_one (tk := s1.toks) I1 _ (turn_str _ y t "str_ascii_iterator" (.inl rfl)) ⟨_, Heap.get?_push_size _ rfl, rfl, rfl⟩ q)
def charsD (y : Str) : List D := y.cps.toList.map fun c => .str ⟨#[c]⟩
abbrev tt1 : Ow → Prop := fun _ => True
/-- the items of a datum that is walked -/
def itemsD (O : Ow) : D → (IL → Prop) → Prop
  | .lst xs, Q => Q (tt1, xs)
  | .tup xs, Q => Q (tt1, xs)
  | .str y, Q => Q (tt1, charsD y)
  | .opq (.ref p), Q => ∃ xs, O p = some (.lst xs) ∧ Q (fun O => O p = some (.lst xs), xs)
  | _, _ => False
theorem itemsD_mo {x : D} {Q Q' : IL → Prop} (h : ∀ d, Q d → Q' d) (z : itemsD O x Q) : itemsD O x Q' := by
  unfold itemsD at z ⊢
  split at z
  · exact h _ z
  · exact h _ z
  · exact h _ z
  · obtain ⟨xs, e, z⟩ := z; exact ⟨xs, e, h _ z⟩
  · exact z
def dIter (m : DE) : DI := fun ρ O Q E => m ρ O (fun x O1 => itemsD O1 x fun l => Q l O1) E
theorem mo_iter (h : Mo m) : Mo (dIter m) := fun ρ O Q Q' E E' q hx x => h ρ _ _ _ _ _ (fun _ _ z => itemsD_mo (fun _ => q _ _) z) hx x
theorem getElem?_lt {α : Type} {l : List α} {i : Nat} {x : α} (h : l[i]? = some x) : i < l.length := by
  rcases Nat.lt_or_ge i l.length with q | q
  · exact q
  · rw [List.getElem?_eq_none q] at h; cases h
theorem itd_tup {a : Addr} {vs : List V} {ds : List D} {G0 : Hp} (s : SqT K G0 a vs) (r : RpL K G0 vs ds) : ItD K B G0 (Itt K a) (I, ds) := fun i O G H g sb _ => by
  refine ⟨fun d e => ?_, fun h => ⟨vs, g.sub.sqT (sb.sqT s), by rw [r.length]; exact Nat.le_of_eq h.symm⟩⟩
  obtain ⟨v, ev, rv⟩ := r.get e
  refine ⟨⟨vs, v, g.sub.sqT (sb.sqT s), ev⟩, fun x H' y => ?_⟩
  obtain ⟨rfl, y⟩ := y
  have := y vs (g.sub.sqT (sb.sqT s))
  rw [ev] at this
  cases this
  exact ⟨G, Step.refl g, rv.mono sb⟩
theorem itd_lst {a : Addr} {ds : List D} {G0 : Hp} (s : ∀ O G H, Good K B O G H → Sub G0 G → I O → ∃ vs, H a = some (.lst vs) ∧ RpL K G vs ds) : ItD K B G0 (Itl K a) (I, ds) := fun i O G H g sb hI => by
  obtain ⟨vs, e0, r⟩ := s O G H g sb hI
  have sq : SqL K H a vs := .inl (.inl e0)
  refine ⟨fun d e => ?_, fun h => ⟨vs, sq, by rw [r.length]; exact Nat.le_of_eq h.symm⟩⟩
  obtain ⟨v, ev, rv⟩ := r.get e
  refine ⟨⟨vs, v, sq, ev⟩, fun x H' y => ?_⟩
  obtain ⟨rfl, y⟩ := y
  have := y vs sq
  rw [ev] at this
  cases this
  exact ⟨G, Step.refl g, rv⟩
theorem itd_str {y : Str} {G0 : Hp} : ItD K B G0 (Its y) (I, charsD y) := fun i O G H g sb _ => by
  have hl : (charsD y).length = y.cps.size := by simp [charsD]
  refine ⟨fun d e => ?_, fun (h : i = (charsD y).length) => by rw [hl] at h; exact Nat.le_of_eq h.symm⟩
  have hi : i < y.cps.size := by rw [← hl]; exact getElem?_lt e
  refine ⟨hi, fun x H' q => ?_⟩
  obtain ⟨rfl, c, ec, rfl⟩ := q
  have e2 : (charsD y)[i]? = some (.str ⟨#[c]⟩) := by
    simp only [charsD, List.getElem?_map, Array.getElem?_toList, ec, Option.map_some]
  have e : (charsD y)[i]? = some d := e
  rw [e2] at e
  cases e
  exact ⟨G, Step.refl g, .str _⟩
theorem d_iter (h : DPE X L e m) : DPI X L tg e (dIter m) := by
  refine ⟨mo_iter h.mo, pi_imp (pi_any h.run) fun σ H Q ⟨G, O, ρ, g, rs, q⟩ => ?_⟩
  refine up_of h.mo g rs q fun x v O1 G1 H1 q1 s1 r1 => ?_
  cases r1 with
  | lst sq rl => exact .inl ⟨_, rfl, ⟨_, s1.good.sub.lstL sq⟩, q1 _ _ _ s1 (itd_lst fun O G H g sb _ => ⟨_, g.sub _ _ (sb _ _ sq), rl.mono sb⟩)⟩
  | tup sq rl => exact .inr (.inl ⟨_, rfl, ⟨_, s1.good.sub.sqT sq⟩, q1 _ _ _ s1 (itd_tup sq rl)⟩)
  | str y => exact .inr (.inr ⟨_, rfl, q1 _ _ _ s1 itd_str⟩)
  | opq v =>
    cases v with
    | ref p =>
      obtain ⟨xs, e, q1⟩ := q1
      obtain ⟨vs, ev, rv⟩ := (s1.good.own p _ e).2.2
      refine .inl ⟨_, rfl, ⟨_, .inl (.inl ev)⟩, q1 _ _ _ s1 (itd_lst fun O G H g sb hI => (g.own p _ hI).2.2)⟩
    | _ => exact q1.elim
  | non => exact q1.elim
  | bl => exact q1.elim
  | int => exact q1.elim
  | dic => exact q1.elim
  | ins => exact q1.elim
  | exc => exact q1.elim
  | lam => exact q1.elim
/-- range -/
def rngD (lo : Int) (n : Nat) : List D := (List.range n).map fun (i : Nat) => .int (lo + (i : Int))
theorem itd_rng {lo : Int} {n : Nat} {G0 : Hp} : ItD K B G0 (Itr lo n) (I, rngD lo n) := fun i O G H g sb _ => by
  have hl : (rngD lo n).length = n := by simp [rngD]
  refine ⟨fun d e => ?_, fun (h : i = (rngD lo n).length) => by rw [hl] at h; exact Nat.le_of_eq h.symm⟩
  have hi : i < n := by rw [← hl]; exact getElem?_lt e
  refine ⟨hi, fun x H' q => ?_⟩
  obtain ⟨rfl, rfl⟩ := q
  have e2 : (rngD lo n)[i]? = some (.int (lo + i)) := by
    simp only [rngD, List.getElem?_map, List.getElem?_range hi, Option.map_some]
  have e : (rngD lo n)[i]? = some d := e
  rw [e2] at e
  cases e
  exact ⟨G, Step.refl g, .int _⟩
def rng1D : List D → (IL → Prop) → Prop
  | [.int j], Q => -(2 ^ 62) ≤ j ∧ j < 2 ^ 62 ∧ Q (tt1, rngD 0 j.toNat)
  | _, _ => False
def rng2D : List D → (IL → Prop) → Prop
  | [.int i, .int j], Q => (-(2 ^ 62) ≤ i ∧ i < 2 ^ 62 ∧ -(2 ^ 62) ≤ j ∧ j < 2 ^ 62) ∧ Q (tt1, rngD i (j - i).toNat)
  | _, _ => False
theorem rng1D_mo {x : List D} {Q Q' : IL → Prop} (h : ∀ d, Q d → Q' d) (z : rng1D x Q) : rng1D x Q' := by
  unfold rng1D at z ⊢
  split at z
  · exact ⟨z.1, z.2.1, h _ z.2.2⟩
  · exact z
theorem rng2D_mo {x : List D} {Q Q' : IL → Prop} (h : ∀ d, Q d → Q' d) (z : rng2D x Q) : rng2D x Q' := by
  unfold rng2D at z ⊢
  split at z
  · exact ⟨z.1, h _ z.2⟩
  · exact z
def dRng1 (mA : DA) : DI := fun ρ O Q E => mA ρ O (fun xs O1 => rng1D xs fun l => Q l O1) E
def dRng2 (mA : DA) : DI := fun ρ O Q E => mA ρ O (fun xs O1 => rng2D xs fun l => Q l O1) E
theorem d_rng1 (hg : Gl X "range") (hm : X.mg "range" = none) (ha : DPA X L [a] mA) (hs : starEach [a] X.env = [(false, eval a X.env)]) : DPI X L tg (.Call (.Name "range" p) [a] [] pos) (dRng1 mA) := by
  refine ⟨fun ρ O Q Q' E E' q hx x => ha.mo ρ _ _ _ _ _ (fun _ _ z => rng1D_mo (fun _ => q _ _) z) hx x, pi_imp (pi_range1 hg hm ha.run hs) fun σ H Q ⟨G, O, ρ, g, rs, q⟩ => ?_⟩
  refine upA_of ha.mo g rs q fun xs vs O1 G1 H1 q1 s1 r1 => ?_
  unfold rng1D at q1
  split at q1
  · cases r1 with
    | cons r2 r3 =>
      cases r3
      cases r2
      exact ⟨_, rfl, q1.1, q1.2.1, q1.2.2 _ _ _ s1 itd_rng⟩
  · exact q1.elim
theorem d_rng2 (hg : Gl X "range") (hm : X.mg "range" = none) (ha : DPA X L [a, b] mA) (hs : starEach [a, b] X.env = [(false, eval a X.env), (false, eval b X.env)]) (hs2 : starEach [b] X.env = [(false, eval b X.env)]) : DPI X L tg (.Call (.Name "range" p) [a, b] [] pos) (dRng2 mA) := by
  refine ⟨fun ρ O Q Q' E E' q hx x => ha.mo ρ _ _ _ _ _ (fun _ _ z => rng2D_mo (fun _ => q _ _) z) hx x, pi_imp (pi_range2 hg hm ha.run hs hs2) fun σ H Q ⟨G, O, ρ, g, rs, q⟩ => ?_⟩
  refine upA_of ha.mo g rs q fun xs vs O1 G1 H1 q1 s1 r1 => ?_
  unfold rng2D at q1
  split at q1
  · cases r1 with
    | cons r2 r3 =>
      cases r3 with
      | cons r4 r5 =>
        cases r5
        cases r4
        cases r2
        exact ⟨_, _, rfl, q1.1, q1.2 _ _ _ s1 itd_rng⟩
  · exact q1.elim
end
/-! ### targets -/
abbrev DG := D → Slots → (Slots → Prop) → Prop
def MoG (g : DG) : Prop := ∀ d ρ Q Q', (∀ r, Q r → Q' r) → g d ρ Q → g d ρ Q'
/-- but for the slots is they are as they were -/
def Off (is : List Nat) (σ σ' : L2.St) : Prop := σ'.length = σ.length ∧ ∀ j : Nat, j ∉ is → σ'[j]? = σ[j]?
theorem Off.refl (is : List Nat) (σ : L2.St) : Off is σ σ := ⟨rfl, fun _ _ => rfl⟩
theorem Off.trans {is js : List Nat} {σ σ' σ'' : L2.St} (a : Off is σ σ') (b : Off js σ' σ'') : Off (is ++ js) σ σ'' :=
  ⟨b.1.trans a.1, fun j h => (b.2 j fun z => h (List.mem_append_right _ z)).trans (a.2 j fun z => h (List.mem_append_left _ z))⟩
def upG (K : PySem.W.Frag) (B : Bo) (is : List Nat) (g : DG) : TG := fun v σ H Q => ∃ G O ρ d, Good K B O G H ∧ RpS K G σ ρ ∧ Rp K G v d ∧ g d ρ (fun ρ' => ∀ σ', RpS K G σ' ρ' → Off is σ σ' → Q σ' H)
structure DPG (X : Cx) (L : Pl) (tg : Expr) (is : List Nat) (g : DG) : Prop where
  mo : MoG g
  run : PG X tg (upG X.K L.B is g)
abbrev DGs := List D → Slots → (Slots → Prop) → Prop
def upGs (K : PySem.W.Frag) (B : Bo) (is : List Nat) (g : DGs) : TGs := fun vs σ H Q => ∃ G O ρ ds, Good K B O G H ∧ RpS K G σ ρ ∧ RpL K G vs ds ∧ g ds ρ (fun ρ' => ∀ σ', RpS K G σ' ρ' → Off is σ σ' → Q σ' H)
structure DPGs (X : Cx) (L : Pl) (tg : List Expr) (is : List Nat) (g : DGs) : Prop where
  mo : ∀ d ρ Q Q', (∀ r, Q r → Q' r) → g d ρ Q → g d ρ Q'
  run : PGs X tg (upGs X.K L.B is g)
section
variable {X : Cx} {L : Pl} {e a b c tg : Expr} {es rest : List Expr} {m ma mb mc : DE} {mt mu : DT} {mA : DA} {pos p : Pos}
variable {K : PySem.W.Frag} {B : Bo} {O : Ow} {W : L2.St → XK} {G H : Hp} {σ : L2.St} {ρ : Slots} {I : Ow → Prop}
theorem pg_imp {t t' : TG} (h : PG X tg t) (i : ∀ v σ H Q, t' v σ H Q → t v σ H Q) : PG X tg t' := ⟨fun pins s σ H v u Q I r q => h.run pins s σ H v u Q I r (i _ _ _ _ q)⟩
theorem pgs_imp {t t' : TGs} (h : PGs X es t) (i : ∀ v σ H Q, t' v σ H Q → t v σ H Q) : PGs X es t' := ⟨fun pins s σ H v u Q I r q => h.run pins s σ H v u Q I r (i _ _ _ _ q)⟩
def dgName (i : Nat) : DG := fun d ρ Q => Q (ρ.set i (.sh d))
/-- a slot set to a visible thing -/
theorem RpS.set {i : Nat} {v : V} {d : D} (r : RpS K G σ ρ) (h : Rp K G v d) : RpS K G (σ.set i (some v)) (ρ.set i (.sh d)) := by
  refine ⟨by rw [List.length_set, List.length_set]; exact r.len, fun j x e => ?_⟩
  by_cases ij : i = j
  · subst ij
    have hl := getElem?_lt e
    rw [List.length_set] at hl
    rw [List.getElem?_set_self hl] at e
    cases e
    exact ⟨v, List.getElem?_set_self (by rw [r.len]; exact hl), h⟩
  · rw [List.getElem?_set_ne ij] at e ⊢
    exact r.sh j x e
theorem dg_name {i : Nat} {x : Str} (hN : X.N.Nodup) (hi : X.N[i]? = some x) (hx : Loc X.env.scope x) (hf : X.fn x = true ∨ X.env.scope.names.lookup x = some .local) : DPG X L (.Name x pos) [i] (dgName i) :=
  ⟨fun d ρ Q Q' h z => h _ z, pg_imp (pg_name hN hi hx hf) fun v σ H Q ⟨G, O, ρ, d, g, rs, r, q⟩ => q _ (rs.set r) ⟨List.length_set .., fun j h => List.getElem?_set_ne (fun z => h (by simp [z]))⟩⟩
def dgNil : DGs := fun ds ρ Q => match ds with
  | [] => Q ρ
  | _ => False
def dgCons (g : DG) (gs : DGs) : DGs := fun ds ρ Q => match ds with
  | d :: r => g d ρ fun ρ' => gs r ρ' Q
  | [] => False
theorem dgs_nil : DPGs X L [] [] dgNil := by
  refine ⟨fun d ρ Q Q' h z => by cases d <;> first | exact h _ z | exact z, pgs_imp pgs_nil fun v σ H Q ⟨G, O, ρ, d, g, rs, r, q⟩ => ?_⟩
  cases r with
  | nil => exact ⟨rfl, q σ rs (Off.refl _ _)⟩
  | cons _ _ => exact q.elim
theorem dgs_cons {g : DG} {gs : DGs} {is js : List Nat} (hg : DPG X L e is g) (hs : DPGs X L es js gs) (h1 : (assignEach (e :: es) X.env).map (·.2) = assign e X.env :: (assignEach es X.env).map (·.2)) : DPGs X L (e :: es) (is ++ js) (dgCons g gs) := by
  refine ⟨fun d ρ Q Q' h z => ?_, pgs_imp (pgs_cons hg.run hs.run h1) fun v σ H Q ⟨G, O, ρ, d, gd, rs, r, q⟩ => ?_⟩
  · cases d with
    | nil => exact z
    | cons x xs => exact hg.mo _ _ _ _ (fun _ y => hs.mo _ _ _ _ h y) z
  · cases r with
    | nil => exact q.elim
    | cons r1 r2 =>
      refine ⟨_, _, rfl, G, O, ρ, _, gd, rs, r1, hg.mo _ _ _ _ (fun ρ' z σ' rs' o1 => ?_) q⟩
      exact ⟨G, O, ρ', _, gd, rs', r2, hs.mo _ _ _ _ (fun ρ2 y σ2 rs2 o2 => y σ2 rs2 (o1.trans o2)) z⟩
def dgTup (n : Nat) (gs : DGs) : DG := fun d ρ Q => match d with
  | .tup xs => xs.length = n ∧ gs xs ρ Q
  | _ => False
theorem dg_tup {k n : Nat} {gs : DGs} {is : List Nat} (hc : X.calm = true) (h : DPGs X L es is gs) (hn : (assignEach es X.env).length = n) (hst : (assignEach es X.env).findIdx? (·.1) = none) : DPG X L (.Tuple es k pos) is (dgTup n gs) := by
  refine ⟨fun d ρ Q Q' h' z => ?_, pg_imp (pg_tup hc h.run hn hst) fun v σ H Q ⟨G, O, ρ, d, gd, rs, r, q⟩ => ?_⟩
  · unfold dgTup at z ⊢
    split at z
    · exact ⟨z.1, h.mo _ _ _ _ h' z.2⟩
    · exact z
  · unfold dgTup at q
    split at q
    · cases r with
      | tup sq rl => exact ⟨_, _, rfl, gd.sub.sqT sq, by rw [rl.length]; exact q.1, G, O, ρ, _, gd, rs, rl, q.2⟩
    · exact q.elim
/-! ### list comprehensions -/
def wipeD (ρ : Slots) : List Nat → Slots
  | [] => ρ
  | v :: vs => (wipeD ρ vs).set v .un
theorem RpS.wipe (r : RpS K G σ ρ) : ∀ vs : List Nat, RpS K G (L2.wipe σ vs) (wipeD ρ vs)
  | [] => r
  | v :: vs => by
    have q := RpS.wipe r vs
    unfold L2.wipe wipeD
    refine ⟨by rw [List.length_set, List.length_set]; exact q.len, fun j x e => ?_⟩
    by_cases ij : v = j
    · subst ij
      have hl := getElem?_lt e
      rw [List.length_set] at hl
      rw [List.getElem?_set_self hl] at e
      cases e
    · rw [List.getElem?_set_ne ij] at e ⊢
      exact q.sh j x e
/-- the turns of a comprehension; acc: what is gathered -/
def lcW (I : Ow → Prop) (g : DG) (tt : DT) (te : DE) (ρ : Slots) : List D → List D → Ow → (List D → Ow → Prop) → Prop
  | [], acc, O, Q => I O ∧ Q acc O
  | d :: ds, acc, O, Q => I O ∧ g d ρ fun ρ' => tt ρ' O (fun c O1 => bc c (te ρ' O1 (fun y O2 => acc.length < sizeLine ∧ lcW I g tt te ρ ds (acc ++ [y]) O2 Q) (fun _ _ => False)) (lcW I g tt te ρ ds acc O1 Q)) (fun _ _ => False)
theorem lcW_mo {g : DG} {tt : DT} {te : DE} (hg : MoG g) (ht : Mo tt) (he : Mo te) {ρ : Slots} {Q Q' : List D → Ow → Prop} (h : ∀ d O, Q d O → Q' d O) : ∀ {ds acc : List D} {O : Ow}, lcW I g tt te ρ ds acc O Q → lcW I g tt te ρ ds acc O Q'
  | [], _, _, z => ⟨z.1, h _ _ z.2⟩
  | d :: ds, acc, _, z => ⟨z.1, hg _ _ _ _ (fun ρ' z1 => ht _ _ _ _ _ _ (fun c _ z2 => by
      cases c with
      | true => exact (he _ _ _ _ _ _ (fun y _ z3 => ⟨z3.1, lcW_mo hg ht he h z3.2⟩) (fun _ _ x => x) z2)
      | false => exact (lcW_mo hg ht he h z2)) (fun _ _ x => x) z1) z.2⟩
def dLc (mi : DI) (g : DG) (tt : DT) (te : DE) (vs : List Nat) : DE := fun ρ O Q E => mi ρ O (fun x O1 => lcW x.1 g tt te (wipeD ρ vs) x.2 [] O1 fun l O2 => Q (.lst l) O2) E
/-- the list stays one's own -/
def dLcO (mi : DI) (g : DG) (tt : DT) (te : DE) (vs : List Nat) : DE := fun ρ O Q E => mi ρ O (fun x O1 => lcW x.1 g tt te (wipeD ρ vs) x.2 [] O1 fun l O2 => ∀ p, O2 p = none → Q (.opq (.ref p)) (oset O2 p (.lst l))) E
theorem mo_lc {mi : DI} {g : DG} {tt : DT} {te : DE} {vs : List Nat} (hi : Mo mi) (hg : MoG g) (ht : Mo tt) (he : Mo te) : Mo (dLc mi g tt te vs) := fun ρ O Q Q' E E' q hx x =>
  hi ρ _ _ _ _ _ (fun _ _ z => lcW_mo hg ht he (fun _ => q _) z) hx x
theorem mo_lcO {mi : DI} {g : DG} {tt : DT} {te : DE} {vs : List Nat} (hi : Mo mi) (hg : MoG g) (ht : Mo tt) (he : Mo te) : Mo (dLcO mi g tt te vs) := fun ρ O Q Q' E E' q hx x =>
  hi ρ _ _ _ _ _ (fun _ _ z => lcW_mo hg ht he (fun _ _ w p n => q _ _ (w p n)) z) hx x
structure DPTs (X : Cx) (L : Pl) (ifs : List Expr) (m : DT) : Prop where
  mo : Mo m
  run : PTs X ifs (upT X.K L.B L.W m)
def dYes : DT := fun _ O Q _ => Q true O
theorem pts_imp {ifs : List Expr} {t t' : TT} (h : PTs X ifs t) (i : ∀ σ H Q, t' σ H Q → t σ H Q) : PTs X ifs t' := ⟨fun pins s σ H Q I q => h.run pins s σ H Q I (i _ _ _ q)⟩
theorem d_ifs0 : DPTs X L [] dYes := ⟨fun _ _ _ _ _ _ q _ x => q _ _ x, pts_imp pts_nil fun σ H Q ⟨G, O, ρ, g, rs, q⟩ => q _ _ (Step.refl g)⟩
theorem d_ifs1 (h : DPT X L c mt) : DPTs X L [c] mt := ⟨h.mo, pts_one h.run⟩
/-- the place within a comprehension: nothing is raised out of it -/
abbrev Pl.blk (L : Pl) : Pl := { L with W := fun _ _ _ _ => False }
theorem wipe_get {σ : L2.St} {j : Nat} : ∀ {vs : List Nat}, (L2.wipe σ vs)[j]? = if j ∈ vs ∧ j < σ.length then some none else σ[j]?
  | [] => by simp [L2.wipe]
  | v :: vs => by
    unfold L2.wipe
    by_cases hj : v = j
    · subst hj
      by_cases hl : v < σ.length
      · rw [List.getElem?_set_self (by rw [wipe_length]; exact hl), if_pos ⟨List.mem_cons_self, hl⟩]
      · rw [List.getElem?_eq_none (by rw [List.length_set, wipe_length]; omega), if_neg (fun z => hl z.2), List.getElem?_eq_none (by omega)]
    · rw [List.getElem?_set_ne hj, wipe_get (vs := vs)]
      by_cases hm : j ∈ vs ∧ j < σ.length
      · rw [if_pos hm, if_pos ⟨List.mem_cons_of_mem _ hm.1, hm.2⟩]
      · rw [if_neg hm, if_neg (fun z => hm ⟨by
          rcases List.mem_cons.mp z.1 with q | q
          · exact absurd q.symm hj
          · exact q, z.2⟩)]
theorem wipe_off {σ σ2 : L2.St} {is vs : List Nat} (o : Off is (L2.wipe σ vs) σ2) (h : ∀ i ∈ is, i ∈ vs) : L2.wipe σ2 vs = L2.wipe σ vs := by
  have hl : σ2.length = σ.length := by rw [o.1, wipe_length]
  refine List.ext_getElem? fun j => ?_
  rw [wipe_get, wipe_get]
  by_cases hm : j ∈ vs ∧ j < σ.length
  · rw [if_pos hm, if_pos (by rw [hl]; exact hm)]
  · rw [if_neg hm, if_neg (by rw [hl]; exact hm)]
    by_cases hv : j ∈ vs
    · have : σ.length ≤ j := by
        rcases Nat.lt_or_ge j σ.length with q | q
        · exact absurd ⟨hv, q⟩ hm
        · exact q
      rw [List.getElem?_eq_none (by omega), List.getElem?_eq_none (by omega)]
    · rw [o.2 j (fun z => hv (h j z)), wipe_get, if_neg hm]
/-- the gathering of a comprehension, by HandS's reading of it -/
theorem lc_run {σ0 : L2.St} {ρ0 : Slots} {g : DG} {tt : DT} {te : DE} {vs is : List Nat} {J : It} {O0 : Ow} {G0 H0 : Hp} {ds : List D} {Q : VK} {P : List D → Ow → Prop} {Dd : Addr} (hg : MoG g) (ht : Mo tt) (he : Mo te)
    (s0 : Step K B O G H O0 G0 H0) (rs : RpS K G σ0 ρ0) (it : ItD K B G0 J (I, ds)) (h : lcW I g tt te (wipeD ρ0 vs) ds [] O0 P) (nD : H0 Dd = none) (hv : ∀ i ∈ is, i ∈ vs)
    (hP : ∀ acc vacc O1 G1 H1, P acc O1 → Step K B O G H O1 G1 H1 → O1 Dd = none → G1 Dd = none → H Dd = none → H1 Dd = some (.lst vacc) → ¬ Hid B Dd → RpL K G1 vacc acc → Q (.ref Dd) H1) :
    ∃ W : Nat → Nat → Hp → Prop, (∃ m, W 0 m (upd H0 Dd (.lst []))) ∧ ∀ i m H, W i m H →
      (J.stop i H ∧ Q (.ref Dd) H) ∨ (J.go i H ∧ ∃ Nx : Hp → Prop, (∀ H', Nx H' → ∃ m', m' < m ∧ W (i + 1) m' H') ∧ ∀ x H', J.yld i H x H' → upG K B is g x (L2.wipe σ0 vs) H' fun σ2 H2 => L2.wipe σ2 vs = L2.wipe σ0 vs ∧ upT K B (fun _ _ _ _ => False) tt σ2 H2 fun b H3 =>
        if b = true then up K B (fun _ _ _ _ => False) te σ2 H3 fun y H4 => ∃ acc, H4 Dd = some (.lst acc) ∧ acc.length < sizeLine ∧ Nx (upd H4 Dd (.lst (acc ++ [y]))) else Nx H3) := by
  have nb : ¬ Hid B Dd := s0.good.nhid nD
  have nG : G0 Dd = none := s0.good.freshG nD
  have nO : O0 Dd = none := s0.good.fresh nD
  have upk : ∀ {O1 : Ow} {G1 H1 : Hp} (l : List V), Good K B O1 G1 H1 → G1 Dd = none → O1 Dd = none → (∀ φ, H1 Dd ≠ some (.ext φ)) → Good K B O1 G1 (upd H1 Dd (.lst l)) := fun {O1 G1 H1} l gd n1 n2 n3 => by
    refine ⟨fun a o e => ?_, fun b l T e => ?_, gd.amb, fun p d e => ?_⟩
    · rw [upd_ne (fun z => by rw [z, n1] at e; cases e)]; exact gd.sub a o e
    · refine (gd.box b l T e).step (Sub.refl _) (fun a ha => gd.hidG ⟨b, l, T, e, ha⟩) fun a o ha h => ?_
      rw [upd_ne (fun z => ?_)]
      · exact h
      · subst z
        rcases ha with ha | ⟨φ, rfl⟩
        · exact nb ⟨b, l, T, e, ha⟩
        · exact n3 φ h
    · obtain ⟨a, b, c⟩ := gd.own p d e
      exact ⟨a, b, c.mono (Sub.refl _) fun o h => by rw [upd_ne (fun z => by rw [z, n2] at e; cases e)]; exact h⟩
  by_cases hHD : ∃ o, H Dd = some o
  · -- it was there at first and is no more: so it was one's own, and is dropped
    obtain ⟨o, eo⟩ := hHD
    exfalso
    cases eO : O Dd with
    | none => have := s0.keep _ _ eo nb eO; rw [nD] at this; cases this
    | some d => exact absurd nD (s0.still _ (by rw [eo]; exact Option.some_ne_none _))
  have nH : H Dd = none := by
    cases e : H Dd with
    | none => rfl
    | some o => exact absurd ⟨o, e⟩ hHD
  refine ⟨fun i m H1 => ∃ G1 O1 acc vacc, m = ds.length - i ∧ i ≤ ds.length ∧ Step K B O G H O1 G1 H1 ∧ Sub G0 G1 ∧ G1 Dd = none ∧ O1 Dd = none ∧ H1 Dd = some (.lst vacc) ∧ RpL K G1 vacc acc ∧ lcW I g tt te (wipeD ρ0 vs) (ds.drop i) acc O1 P, ⟨ds.length, G0, O0, [], [], by simp, Nat.zero_le _, ?_, Sub.refl _, nG, nO, upd_same, .nil, by simpa using h⟩, ?_⟩
  · exact ⟨s0.grow, upk [] s0.good nG nO (fun φ z => by rw [nD] at z; cases z), fun a o e n z => by rw [upd_ne (fun z => by rw [z, nH] at e; cases e)]; exact s0.keep a o e n z, s0.hid, fun a h => upd_still a (s0.still a h)⟩
  · rintro i m H1 ⟨G1, O1, acc, vacc, rfl, hi, st, sb, gD, oD, hD, ra, hl⟩
    rcases Nat.lt_or_ge i ds.length with hlt | hge
    · have ei : ds[i]? = some ds[i] := List.getElem?_eq_getElem hlt
      have ed : ds.drop i = ds[i] :: ds.drop (i + 1) := List.drop_eq_getElem_cons hlt
      rw [ed] at hl
      obtain ⟨hI, hl⟩ := hl
      obtain ⟨go, yl⟩ := (it i O1 G1 H1 st.good sb hI).1 _ ei
      refine .inr ⟨go, fun H2 => ∃ G2 O2 acc vacc, Step K B O G H O2 G2 H2 ∧ Sub G0 G2 ∧ G2 Dd = none ∧ O2 Dd = none ∧ H2 Dd = some (.lst vacc) ∧ RpL K G2 vacc acc ∧ lcW I g tt te (wipeD ρ0 vs) (ds.drop (i + 1)) acc O2 P, fun H2 ⟨G2, O2, acc2, vacc2, a, b, c, c', d, e, f⟩ => ⟨ds.length - (i + 1), by omega, G2, O2, acc2, vacc2, rfl, by omega, a, b, c, c', d, e, f⟩, fun x H2 y => ?_⟩
      obtain ⟨G2, s2, rx⟩ := yl x H2 y
      have st2 := st.trans s2
      have gD2 : G2 Dd = none := (s2.hid _ _ hD gD oD).1
      have hD2 : H2 Dd = some (.lst vacc) := s2.keep _ _ hD nb oD
      refine ⟨G2, O1, wipeD ρ0 vs, ds[i], s2.good, (rs.step st2).wipe vs, rx, hg _ _ _ _ (fun ρ' z σ2 rs2 o2 => ⟨wipe_off o2 hv, ?_⟩) hl⟩
      refine ⟨G2, O1, ρ', s2.good, rs2, ht _ _ _ _ _ _ (fun c O3 z2 G3 H3 s3 => ?_) (fun _ _ x => x.elim) z⟩
      have st3 := st2.trans s3
      have gD3 := s3.hid _ _ hD2 gD2 oD
      have hD3 : H3 Dd = some (.lst vacc) := s3.keep _ _ hD2 nb oD
      cases c with
      | false => exact iteF ⟨G3, O3, acc, vacc, st3, (sb.trans s2.grow).trans s3.grow, gD3.1, gD3.2, hD3, ra.mono (s2.trans s3).grow, z2⟩
      | true =>
        refine iteT ⟨G3, O3, ρ', s3.good, rs2.step s3, he _ _ _ _ _ _ (fun y O4 z3 vy G4 H4 s4 ry => ?_) (fun _ _ x => x.elim) z2⟩
        have st4 := st3.trans s4
        have gD4 := s4.hid _ _ hD3 gD3.1 gD3.2
        have hD4 : H4 Dd = some (.lst vacc) := s4.keep _ _ hD3 nb gD3.2
        have ra4 : RpL K G4 vacc acc := ra.mono ((s2.trans s3).trans s4).grow
        refine ⟨vacc, hD4, by rw [ra4.length]; exact z3.1, G4, O4, acc ++ [y], vacc ++ [vy], ?_, ((sb.trans s2.grow).trans s3.grow).trans s4.grow, gD4.1, gD4.2, upd_same, ra4.append (.cons ry .nil), z3.2⟩
        exact ⟨st4.grow, upk _ s4.good gD4.1 gD4.2 (fun φ z => by rw [hD4] at z; cases z), fun a o e n z => by rw [upd_ne (fun z => by rw [z, nH] at e; cases e)]; exact st4.keep a o e n z, st4.hid, fun a h => upd_still a (st4.still a h)⟩
    · rw [List.drop_eq_nil_of_le hge] at hl
      obtain ⟨hI, hl⟩ := hl
      exact .inl ⟨(it i O1 G1 H1 st.good sb hI).2 (show i = ds.length by omega), hP acc vacc O1 G1 H1 hl st oD gD nH hD nb ra⟩
theorem lc_show {Q : VK} (acc : List D) (vacc : List V) (O1 : Ow) (G1 H1 : Hp) {Dd : Addr} (h : kv K B O G H Q (.lst acc) O1) (st : Step K B O G H O1 G1 H1) (oD : O1 Dd = none) (gD : G1 Dd = none) (nH : H Dd = none) (hD : H1 Dd = some (.lst vacc)) (nb : ¬ Hid B Dd) (ra : RpL K G1 vacc acc) : Q (.ref Dd) H1 := by
  have gr : Sub G1 (upd G1 Dd (.lst vacc)) := fun a o e => by rw [upd_ne (fun z => by rw [z, gD] at e; cases e)]; exact e
  have key : Step K B O G H O1 (upd G1 Dd (.lst vacc)) H1 := by
    refine ⟨st.grow.trans gr, ⟨fun a o e => ?_, fun b l T e => ?_, st.good.amb.trans gr, fun p d e => ?_⟩, st.keep, fun a o e n z => ?_, st.still⟩
    · by_cases z : a = Dd
      · subst z; rw [upd_same] at e; cases e; exact hD
      · rw [upd_ne z] at e; exact st.good.sub a o e
    · refine (st.good.box b l T e).step gr (fun a ha => ?_) fun a o _ h => h
      have ha : Hid B a := ⟨b, l, T, e, ha⟩
      rw [upd_ne (fun z => nb (by rw [← z]; exact ha))]; exact st.good.hidG ha
    · obtain ⟨a, b, c⟩ := st.good.own p d e
      exact ⟨by rw [upd_ne (fun z => by rw [z, oD] at e; cases e)]; exact a, b, c.mono gr fun _ h => h⟩
    · have := st.hid a o e n z
      exact ⟨by rw [upd_ne (fun z => by rw [z, nH] at e; cases e)]; exact this.1, this.2⟩
  exact h (.ref Dd) _ H1 key (.lst upd_same (ra.mono gr))
theorem lc_own {Q : VK} (acc : List D) (vacc : List V) (O1 : Ow) (G1 H1 : Hp) {Dd : Addr} (h : ∀ p, O1 p = none → kv K B O G H Q (.opq (.ref p)) (oset O1 p (.lst acc))) (st : Step K B O G H O1 G1 H1) (oD : O1 Dd = none) (gD : G1 Dd = none) (nH : H Dd = none) (hD : H1 Dd = some (.lst vacc)) (nb : ¬ Hid B Dd) (ra : RpL K G1 vacc acc) : Q (.ref Dd) H1 := by
  have key : Step K B O G H (oset O1 Dd (.lst acc)) G1 H1 := by
    refine ⟨st.grow, ⟨st.good.sub, st.good.box, st.good.amb, fun p d e => ?_⟩, st.keep, fun a o e n z => ?_, st.still⟩
    · by_cases z : p = Dd
      · subst z; rw [oset_same] at e; cases e; exact ⟨gD, nb, vacc, hD, ra⟩
      · rw [oset_ne z] at e; exact st.good.own p d e
    · have := st.hid a o e n z
      exact ⟨this.1, by rw [oset_ne (fun z => by rw [z, nH] at e; cases e)]; exact this.2⟩
  exact h Dd oD (.ref Dd) _ H1 key (.opq _)
theorem in_of {is : List Nat} {vs : List Nat} (hv : is.all (fun i => vs.contains i) = true) (i : Nat) (hi : i ∈ is) : i ∈ vs := by
  have := List.all_eq_true.mp hv i hi
  simpa using this
theorem d_lc {elt tg iter : Expr} {ifs : List Expr} {scope : Scope} {own : List (Str × Nat)} {is : List Nat} {mi : DI} {g : DG} {tt : DT} {te : DE} (hc : X.calm = true) (hN : X.N.Nodup) (hi : DPI X L tg iter mi) (ok : BlkOk X.N X.env.scope scope own)
    (hg : ∀ (s : Shared) (H : Hp) (C : Addr) (cl : List (Str × Addr)) (fp : List Addr), DPG (X.blk s H scope (compEnvC scope cl C X.env) fp) L.blk tg is g)
    (ht : ∀ (s : Shared) (H : Hp) (C : Addr) (cl : List (Str × Addr)) (fp : List Addr), DPTs (X.blk s H scope (compEnvC scope cl C X.env) fp) L.blk ifs tt)
    (he : ∀ (s : Shared) (H : Hp) (C : Addr) (cl : List (Str × Addr)) (fp : List Addr), DPE (X.blk s H scope (compEnvC scope cl C X.env) fp) L.blk elt te)
    (hv : is.all (fun i => (own.map (·.2)).contains i) = true) (hs : ∀ x, foldedSetIterable iter X.env x = pure x) :
    DPE X L (.ListComp elt [⟨tg, iter, ifs, 0⟩] scope pos) (dLc mi g tt te (own.map (·.2))) := by
  have mg := (hg X.s_0 X.H_0 0 [] []).mo
  have mt := (ht X.s_0 X.H_0 0 [] []).mo
  have me := (he X.s_0 X.H_0 0 [] []).mo
  refine ⟨mo_lc hi.mo mg mt me, pe_imp (pe_lc (g := upG X.K L.B is g) (tt := upT X.K L.B (fun _ _ _ _ => False) tt) (te := up X.K L.B (fun _ _ _ _ => False) te) hc hN hi.run ok (fun s H C cl fp => (hg s H C cl fp).run) (fun s H C cl fp => (ht s H C cl fp).run) (fun s H C cl fp => (he s H C cl fp).run) hs) fun σ H Q ⟨G, O, ρ, gd, rs, q⟩ => ?_⟩
  refine ⟨G, O, ρ, gd, rs, hi.mo ρ _ _ _ _ _ (fun x O1 z J G1 H1 s1 it Dd nD => ?_) (fun _ _ x => x) q⟩
  exact lc_run mg mt me s1 rs it z nD (in_of hv) fun acc vacc O1 G1 H1 p st a b c d e f => lc_show acc vacc O1 G1 H1 p st a b c d e f
theorem d_lcO {elt tg iter : Expr} {ifs : List Expr} {scope : Scope} {own : List (Str × Nat)} {is : List Nat} {mi : DI} {g : DG} {tt : DT} {te : DE} (hc : X.calm = true) (hN : X.N.Nodup) (hi : DPI X L tg iter mi) (ok : BlkOk X.N X.env.scope scope own)
    (hg : ∀ (s : Shared) (H : Hp) (C : Addr) (cl : List (Str × Addr)) (fp : List Addr), DPG (X.blk s H scope (compEnvC scope cl C X.env) fp) L.blk tg is g)
    (ht : ∀ (s : Shared) (H : Hp) (C : Addr) (cl : List (Str × Addr)) (fp : List Addr), DPTs (X.blk s H scope (compEnvC scope cl C X.env) fp) L.blk ifs tt)
    (he : ∀ (s : Shared) (H : Hp) (C : Addr) (cl : List (Str × Addr)) (fp : List Addr), DPE (X.blk s H scope (compEnvC scope cl C X.env) fp) L.blk elt te)
    (hv : is.all (fun i => (own.map (·.2)).contains i) = true) (hs : ∀ x, foldedSetIterable iter X.env x = pure x) :
    DPE X L (.ListComp elt [⟨tg, iter, ifs, 0⟩] scope pos) (dLcO mi g tt te (own.map (·.2))) := by
  have mg := (hg X.s_0 X.H_0 0 [] []).mo
  have mt := (ht X.s_0 X.H_0 0 [] []).mo
  have me := (he X.s_0 X.H_0 0 [] []).mo
  refine ⟨mo_lcO hi.mo mg mt me, pe_imp (pe_lc (g := upG X.K L.B is g) (tt := upT X.K L.B (fun _ _ _ _ => False) tt) (te := up X.K L.B (fun _ _ _ _ => False) te) hc hN hi.run ok (fun s H C cl fp => (hg s H C cl fp).run) (fun s H C cl fp => (ht s H C cl fp).run) (fun s H C cl fp => (he s H C cl fp).run) hs) fun σ H Q ⟨G, O, ρ, gd, rs, q⟩ => ?_⟩
  refine ⟨G, O, ρ, gd, rs, hi.mo ρ _ _ _ _ _ (fun x O1 z J G1 H1 s1 it Dd nD => ?_) (fun _ _ x => x) q⟩
  exact lc_run mg mt me s1 rs it z nD (in_of hv) fun acc vacc O1 G1 H1 p st a b c d e f => lc_own acc vacc O1 G1 H1 p st a b c d e f
end
end EV
set_option Elab.async false
set_option linter.all false
set_option maxRecDepth 100000
set_option maxHeartbeats 4000000
namespace EV
open PySem PySem.Spec PyProof.Rows L2
/-! ### statements -/
structure DEnds where
  nx : Slots → Ow → Prop
  rt : D → Ow → Prop
  bk : Slots → Ow → Prop := fun _ _ => False
  ct : Slots → Ow → Prop := fun _ _ => False
  ex : Xc → Slots → Ow → Prop := fun _ _ _ => False
structure DEnds.Le (A A' : DEnds) : Prop where
  nx : ∀ r O, A.nx r O → A'.nx r O
  rt : ∀ r O, A.rt r O → A'.rt r O
  bk : ∀ r O, A.bk r O → A'.bk r O
  ct : ∀ r O, A.ct r O → A'.ct r O
  ex : ∀ x r O, A.ex x r O → A'.ex x r O
abbrev DS := DEnds → Slots → Ow → Prop
def MoS (m : DS) : Prop := ∀ A A' ρ O, DEnds.Le A A' → m A ρ O → m A' ρ O
def dn (K : PySem.W.Frag) (L : Pl) (O : Ow) (G H : Hp) (Dn : Ends) : DEnds where
  nx := fun ρ O' => ∀ σ' G' H', Step K L.B O G H O' G' H' → RpS K G' σ' ρ → Dn.nx σ' H'
  rt := fun d O' => ∀ v G' H', Step K L.B O G H O' G' H' → Rp K G' v d → Dn.rt v H'
  bk := fun ρ O' => ∀ σ' G' H', Step K L.B O G H O' G' H' → RpS K G' σ' ρ → Dn.bk σ' H'
  ct := fun ρ O' => ∀ σ' G' H', Step K L.B O G H O' G' H' → RpS K G' σ' ρ → Dn.ct σ' H'
  ex := fun x ρ O' => ∀ σ' d fs G' H', Step K L.B O G H O' G' H' → RpS K G' σ' ρ → G' d = some (.xd fs) → RpF K G' fs x.2 → L.W σ' (.ref x.1) (some d) H'
def upS (K : PySem.W.Frag) (L : Pl) (m : DS) : TS := fun Dn σ H => ∃ G O ρ, Good K L.B O G H ∧ RpS K G σ ρ ∧ m (dn K L O G H Dn) ρ O
structure DPS (X : Cx) (L : Pl) (st : Stmt) (m : DS) : Prop where
  mo : MoS m
  run : PS X st (upS X.K L m)
structure DPSs (X : Cx) (L : Pl) (st : List Stmt) (m : DS) : Prop where
  mo : MoS m
  run : PSs X st (upS X.K L m)
section
variable {X : Cx} {L : Pl} {e a b c tg : Expr} {es rest : List Expr} {m ma mb mc : DE} {mt mu : DT} {mA : DA} {pos p : Pos} {st : Stmt} {sts : List Stmt} {ms mv : DS}
variable {K : PySem.W.Frag} {O O' : Ow} {G H G' H' : Hp} {σ : L2.St} {ρ : Slots}
theorem ps_imp {t t' : TS} (h : PS X st t) (i : ∀ Dn σ H, t' Dn σ H → t Dn σ H) : PS X st t' := ⟨fun pins s σ H Dn I q => h.run pins s σ H Dn I (i _ _ _ q)⟩
theorem pss_imp {t t' : TS} (h : PSs X sts t) (i : ∀ Dn σ H, t' Dn σ H → t Dn σ H) : PSs X sts t' := ⟨fun pins s σ H Dn I q => h.run pins s σ H Dn I (i _ _ _ q)⟩
theorem dn_step {Dn : Ends} (s : Step K L.B O G H O' G' H') : DEnds.Le (dn K L O G H Dn) (dn K L O' G' H' Dn) :=
  ⟨fun _ _ h σ' G2 H2 t r => h σ' G2 H2 (s.trans t) r, fun _ _ h v G2 H2 t r => h v G2 H2 (s.trans t) r, fun _ _ h σ' G2 H2 t r => h σ' G2 H2 (s.trans t) r, fun _ _ h σ' G2 H2 t r => h σ' G2 H2 (s.trans t) r,
    fun _ _ _ h σ' d fs G2 H2 t r a b => h σ' d fs G2 H2 (s.trans t) r a b⟩
/-- the wish of an expression's exceptions, from a statement's -/
theorem kx_of {Dn : Ends} {x : Xc} {O1 : Ow} (rs : RpS K G σ ρ) (h : (dn K L O G H Dn).ex x ρ O1) : kx K L.B O G H (L.W σ) x O1 := fun d fs G' H' s a r => h σ d fs G' H' s (rs.step s) a r
theorem upE {Dn : Ends} {R : VK} {P : QD} (mo : Mo m) (g : Good K L.B O G H) (r : RpS K G σ ρ) (h : m ρ O P (fun x O1 => (dn K L O G H Dn).ex x ρ O1))
    (k : ∀ d v O' G' H', P d O' → Step K L.B O G H O' G' H' → Rp K G' v d → R v H') : up K L.B L.W m σ H R :=
  up_of mo g r (mo ρ _ _ _ _ _ (fun _ _ z => z) (fun x _ z => kx_of r z) h) k
theorem upTE {Dn : Ends} {R : Bool → Hp → Prop} {P : Bool → Ow → Prop} (mo : Mo mt) (g : Good K L.B O G H) (r : RpS K G σ ρ) (h : mt ρ O P (fun x O1 => (dn K L O G H Dn).ex x ρ O1))
    (k : ∀ d O' G' H', P d O' → Step K L.B O G H O' G' H' → R d H') : upT K L.B L.W mt σ H R :=
  upT_of mo g r (mo ρ _ _ _ _ _ (fun _ _ z => z) (fun x _ z => kx_of r z) h) k
theorem upAE {Dn : Ends} {R : List V → Hp → Prop} {P : List D → Ow → Prop} (mo : Mo mA) (g : Good K L.B O G H) (r : RpS K G σ ρ) (h : mA ρ O P (fun x O1 => (dn K L O G H Dn).ex x ρ O1))
    (k : ∀ d v O' G' H', P d O' → Step K L.B O G H O' G' H' → RpL K G' v d → R v H') : upA K L.B L.W mA σ H R :=
  upA_of mo g r (mo ρ _ _ _ _ _ (fun _ _ z => z) (fun x _ z => kx_of r z) h) k
def dNext : DS := fun A ρ O => A.nx ρ O
def dSeq (t u : DS) : DS := fun A ρ O => t { A with nx := u A } ρ O
theorem DEnds.Le.refl (A : DEnds) : DEnds.Le A A := ⟨fun _ _ h => h, fun _ _ h => h, fun _ _ h => h, fun _ _ h => h, fun _ _ _ h => h⟩
theorem mo_next : MoS dNext := fun A A' ρ O l h => l.nx _ _ h
theorem mo_seq (h1 : MoS ms) (h2 : MoS mv) : MoS (dSeq ms mv) := fun A A' ρ O l h => h1 { A with nx := mv A } { A' with nx := mv A' } ρ O ⟨fun r _ z => h2 _ _ _ _ l z, l.rt, l.bk, l.ct, l.ex⟩ h
theorem d_snil : DPSs X L [] dNext := ⟨mo_next, pss_imp pss_nil fun Dn σ H ⟨G, O, ρ, g, rs, q⟩ => q _ _ _ (Step.refl g) rs⟩
theorem d_scons (h1 : DPS X L st ms) (h2 : DPSs X L sts mv) : DPSs X L (st :: sts) (dSeq ms mv) := by
  refine ⟨mo_seq h1.mo h2.mo, pss_imp (pss_cons h1.run h2.run) fun Dn σ H ⟨G, O, ρ, g, rs, q⟩ => ?_⟩
  refine ⟨G, O, ρ, g, rs, h1.mo { dn X.K L O G H Dn with nx := mv (dn X.K L O G H Dn) } _ _ _ ⟨fun r O1 z σ' G' H' s rs' => ?_, fun _ _ z => z, fun _ _ z => z, fun _ _ z => z, fun _ _ _ z => z⟩ q⟩
  exact ⟨G', O1, r, s.good, rs', h2.mo _ _ _ _ (dn_step s) z⟩
theorem d_sone (h1 : DPS X L st ms) : DPSs X L [st] ms := ⟨h1.mo, pss_one h1.run⟩
def dRet (m : DE) : DS := fun A ρ O => m ρ O A.rt (fun x O1 => A.ex x ρ O1)
theorem d_ret (h : DPE X L e m) : DPS X L (.Return (some e) pos) (dRet m) := by
  refine ⟨fun A A' ρ O l z => h.mo _ _ _ _ _ _ l.rt (fun x _ y => l.ex _ _ _ y) z, ps_imp (ps_ret h.run) fun Dn σ H ⟨G, O, ρ, g, rs, q⟩ => ?_⟩
  exact upE h.mo g rs q fun d v O' G' H' z s r => z v G' H' s r
def dRetN : DS := fun A _ O => A.rt .non O
theorem d_retN : DPS X L (.Return none pos) dRetN := ⟨fun A A' ρ O l z => l.rt _ _ z, ps_imp ps_retN fun Dn σ H ⟨G, O, ρ, g, rs, q⟩ => q _ _ _ (Step.refl g) .non⟩
def dDrop (m : DE) : DS := fun A ρ O => m ρ O (fun _ O1 => A.nx ρ O1) (fun x O1 => A.ex x ρ O1)
theorem d_expr (h : DPE X L e m) (hs : swapsWith e none pos.line X.env = pure false) : DPS X L (.Expr e pos) (dDrop m) := by
  refine ⟨fun A A' ρ O l z => h.mo _ _ _ _ _ _ (fun d _ y => l.nx _ _ y) (fun x _ y => l.ex _ _ _ y) z, ps_imp (ps_expr h.run hs) fun Dn σ H ⟨G, O, ρ, g, rs, q⟩ => ?_⟩
  exact upE h.mo g rs q fun d v O' G' H' z s r => z σ G' H' s (rs.step s)
theorem d_pass : DPS X L (.Pass pos) dNext := ⟨mo_next, ps_imp ps_pass fun Dn σ H ⟨G, O, ρ, g, rs, q⟩ => q _ _ _ (Step.refl g) rs⟩
theorem d_doc {x j pos'} : DPS X L (.Expr (.Constant (.str x) j pos) pos') dNext := ⟨mo_next, ps_imp ps_doc fun Dn σ H ⟨G, O, ρ, g, rs, q⟩ => q _ _ _ (Step.refl g) rs⟩
def dBreak : DS := fun A ρ O => A.bk ρ O
def dCont : DS := fun A ρ O => A.ct ρ O
theorem d_break : DPS X L (.Break pos) dBreak := ⟨fun A A' ρ O l z => l.bk _ _ z, ps_imp ps_break fun Dn σ H ⟨G, O, ρ, g, rs, q⟩ => q _ _ _ (Step.refl g) rs⟩
theorem d_continue : DPS X L (.Continue pos) dCont := ⟨fun A A' ρ O l z => l.ct _ _ z, ps_imp ps_continue fun Dn σ H ⟨G, O, ρ, g, rs, q⟩ => q _ _ _ (Step.refl g) rs⟩
def dIfS (t : DT) (u v : DS) : DS := fun A ρ O => t ρ O (fun c O1 => bc c (u A ρ O1) (v A ρ O1)) (fun x O1 => A.ex x ρ O1)
theorem d_ifS {s1 s2 : List Stmt} (hc : DPT X L c mt) (h1 : DPSs X L s1 ms) (h2 : DPSs X L s2 mv) : DPS X L (.If c s1 s2 pos) (dIfS mt ms mv) := by
  refine ⟨fun A A' ρ O l z => hc.mo _ _ _ _ _ _ (fun d _ y => by cases d <;> first | exact h1.mo _ _ _ _ l y | exact h2.mo _ _ _ _ l y) (fun x _ y => l.ex _ _ _ y) z, ps_imp (ps_if hc.run h1.run h2.run) fun Dn σ H ⟨G, O, ρ, g, rs, q⟩ => ?_⟩
  refine upTE hc.mo g rs q fun d O' G' H' z s => ?_
  cases d with
  | true => exact iteT ⟨G', O', ρ, s.good, rs.step s, h1.mo _ _ _ _ (dn_step s) z⟩
  | false => exact iteF ⟨G', O', ρ, s.good, rs.step s, h2.mo _ _ _ _ (dn_step s) z⟩
/-- a statement that is never reached -/
def dNever : DS := fun _ _ _ => False
theorem d_never : DPS X L st dNever := ⟨fun _ _ _ _ _ z => z, ⟨fun pins s σ H Dn I ⟨_, _, _, _, _, q⟩ => q.elim⟩⟩
def dAsg (m : DE) (g : DG) : DS := fun A ρ O => m ρ O (fun d O1 => g d ρ fun ρ' => A.nx ρ' O1) (fun x O1 => A.ex x ρ O1)
theorem run_asg {g : DG} {is : List Nat} {Dn : Ends} (hm : Mo m) (hg : MoG g) (h : upS K L (dAsg m g) Dn σ H) : tAsg (up K L.B L.W m) (upG K L.B is g) Dn σ H := by
  obtain ⟨G, O, ρ, gd, rs, q⟩ := h
  refine upE hm gd rs q fun d v O' G' H' z s r => ?_
  exact ⟨G', O', ρ, d, s.good, rs.step s, r, hg _ _ _ _ (fun ρ' y σ' rs' _ => y σ' G' H' s rs') z⟩
theorem mo_asg {g : DG} (hm : Mo m) (hg : MoG g) : MoS (dAsg m g) := fun A A' ρ O l z => hm _ _ _ _ _ _ (fun d _ y => hg _ _ _ _ (fun _ => l.nx _ _) y) (fun x _ y => l.ex _ _ _ y) z
theorem d_asg {g : DG} {is : List Nat} (he : DPE X L e m) (hg : DPG X L tg is g) (hs : swapsWithSole [tg] e pos.line X.env = pure false) (hw : swappedStores [tg] e X.env = pure none) (h1 : (assignEach [tg] X.env).map (·.2) = [assign tg X.env]) :
    DPS X L (.Assign [tg] e pos) (dAsg m g) := ⟨mo_asg he.mo hg.mo, ps_imp (ps_asg he.run hg.run hs hw h1) fun Dn σ H q => run_asg he.mo hg.mo q⟩
theorem mog_name {i : Nat} : MoG (dgName i) := fun _ _ _ _ h z => h _ z
theorem d_set {i : Nat} {x : Str} {pos' : Pos} (hN : X.N.Nodup) (hi : X.N[i]? = some x) (hx : Loc X.env.scope x) (he : DPE X L e m) (hs : swapsWith e (some (.Name x pos')) pos.line X.env = pure false) (hf : X.fn x = true ∨ X.env.scope.names.lookup x = some .local) :
    DPS X L (.Assign [.Name x pos'] e pos) (dAsg m (dgName i)) := by
  refine ⟨mo_asg he.mo mog_name, ps_imp (ps_set hN hi hx he.run hs hf) fun Dn σ H ⟨G, O, ρ, g, rs, q⟩ => ?_⟩
  exact upE he.mo g rs q fun d v O' G' H' z s r => z _ G' H' s ((rs.step s).set r)
/-- y = [..] on one row -/
theorem d_setLc {i : Nat} {y : Str} {py spos : Pos} {elt tg iter : Expr} {ifs : List Expr} {scope : Scope} {own : List (Str × Nat)} {is : List Nat} {mi : DI} {g : DG} {tt : DT} {te : DE} (hc : X.calm = true) (hN : X.N.Nodup) (hy : X.N[i]? = some y) (hyl : X.env.scope.names.lookup y = some .local)
    (hsw : swapsWith (.ListComp elt [⟨tg, iter, ifs, 0⟩] scope pos) (some (.Name y py)) spos.line X.env = pure true) (hi : DPI X L tg iter mi) (ok : BlkOk X.N X.env.scope scope own)
    (hg : ∀ (s : Shared) (H : Hp) (C : Addr) (cl : List (Str × Addr)) (fp : List Addr), DPG (X.blk s H scope (compEnvC scope cl C X.env) fp) L.blk tg is g)
    (ht : ∀ (s : Shared) (H : Hp) (C : Addr) (cl : List (Str × Addr)) (fp : List Addr), DPTs (X.blk s H scope (compEnvC scope cl C X.env) fp) L.blk ifs tt)
    (he : ∀ (s : Shared) (H : Hp) (C : Addr) (cl : List (Str × Addr)) (fp : List Addr), DPE (X.blk s H scope (compEnvC scope cl C X.env) fp) L.blk elt te)
    (hv : is.all (fun i => (own.map (·.2)).contains i) = true) (hs : ∀ x, foldedSetIterable iter X.env x = pure x) :
    DPS X L (.Assign [.Name y py] (.ListComp elt [⟨tg, iter, ifs, 0⟩] scope pos) spos) (dAsg (dLc mi g tt te (own.map (·.2))) (dgName i)) := by
  have mg := (hg X.s_0 X.H_0 0 [] []).mo
  have mt := (ht X.s_0 X.H_0 0 [] []).mo
  have me := (he X.s_0 X.H_0 0 [] []).mo
  have ml : Mo (dLc mi g tt te (own.map (·.2))) := mo_lc hi.mo mg mt me
  refine ⟨mo_asg ml mog_name, ps_imp (ps_setLc (g := upG X.K L.B is g) (tt := upT X.K L.B (fun _ _ _ _ => False) tt) (te := up X.K L.B (fun _ _ _ _ => False) te) hc hN hy hyl hsw hi.run ok (fun s H C cl fp => (hg s H C cl fp).run) (fun s H C cl fp => (ht s H C cl fp).run) (fun s H C cl fp => (he s H C cl fp).run) hs) fun Dn σ H ⟨G, O, ρ, gd, rs, q⟩ => ?_⟩
  have q2 : up X.K L.B L.W (dLc mi g tt te (own.map (·.2))) σ H (fun x H1 => gName i x σ H1 Dn.nx) := upE ml gd rs q fun d v O' G' H' z s r => z _ G' H' s ((rs.step s).set r)
  obtain ⟨G2, O2, ρ2, gd2, rs2, q2⟩ := q2
  refine ⟨G2, O2, ρ2, gd2, rs2, hi.mo ρ2 _ _ _ _ _ (fun x O1 z J G1 H1 s1 it Dd nD => ?_) (fun _ _ x => x) q2⟩
  exact lc_run mg mt me s1 rs2 it z nD (in_of hv) fun acc vacc O1 G1 H1 p st a b c d e f => lc_show acc vacc O1 G1 H1 p st a b c d e f
/-- y = [..] on one row -/
theorem d_setLcO {i : Nat} {y : Str} {py spos : Pos} {elt tg iter : Expr} {ifs : List Expr} {scope : Scope} {own : List (Str × Nat)} {is : List Nat} {mi : DI} {g : DG} {tt : DT} {te : DE} (hc : X.calm = true) (hN : X.N.Nodup) (hy : X.N[i]? = some y) (hyl : X.env.scope.names.lookup y = some .local)
    (hsw : swapsWith (.ListComp elt [⟨tg, iter, ifs, 0⟩] scope pos) (some (.Name y py)) spos.line X.env = pure true) (hi : DPI X L tg iter mi) (ok : BlkOk X.N X.env.scope scope own)
    (hg : ∀ (s : Shared) (H : Hp) (C : Addr) (cl : List (Str × Addr)) (fp : List Addr), DPG (X.blk s H scope (compEnvC scope cl C X.env) fp) L.blk tg is g)
    (ht : ∀ (s : Shared) (H : Hp) (C : Addr) (cl : List (Str × Addr)) (fp : List Addr), DPTs (X.blk s H scope (compEnvC scope cl C X.env) fp) L.blk ifs tt)
    (he : ∀ (s : Shared) (H : Hp) (C : Addr) (cl : List (Str × Addr)) (fp : List Addr), DPE (X.blk s H scope (compEnvC scope cl C X.env) fp) L.blk elt te)
    (hv : is.all (fun i => (own.map (·.2)).contains i) = true) (hs : ∀ x, foldedSetIterable iter X.env x = pure x) :
    DPS X L (.Assign [.Name y py] (.ListComp elt [⟨tg, iter, ifs, 0⟩] scope pos) spos) (dAsg (dLcO mi g tt te (own.map (·.2))) (dgName i)) := by
  have mg := (hg X.s_0 X.H_0 0 [] []).mo
  have mt := (ht X.s_0 X.H_0 0 [] []).mo
  have me := (he X.s_0 X.H_0 0 [] []).mo
  have ml : Mo (dLcO mi g tt te (own.map (·.2))) := mo_lcO hi.mo mg mt me
  refine ⟨mo_asg ml mog_name, ps_imp (ps_setLc (g := upG X.K L.B is g) (tt := upT X.K L.B (fun _ _ _ _ => False) tt) (te := up X.K L.B (fun _ _ _ _ => False) te) hc hN hy hyl hsw hi.run ok (fun s H C cl fp => (hg s H C cl fp).run) (fun s H C cl fp => (ht s H C cl fp).run) (fun s H C cl fp => (he s H C cl fp).run) hs) fun Dn σ H ⟨G, O, ρ, gd, rs, q⟩ => ?_⟩
  have q2 : up X.K L.B L.W (dLcO mi g tt te (own.map (·.2))) σ H (fun x H1 => gName i x σ H1 Dn.nx) := upE ml gd rs q fun d v O' G' H' z s r => z _ G' H' s ((rs.step s).set r)
  obtain ⟨G2, O2, ρ2, gd2, rs2, q2⟩ := q2
  refine ⟨G2, O2, ρ2, gd2, rs2, hi.mo ρ2 _ _ _ _ _ (fun x O1 z J G1 H1 s1 it Dd nD => ?_) (fun _ _ x => x) q2⟩
  exact lc_run mg mt me s1 rs2 it z nD (in_of hv) fun acc vacc O1 G1 H1 p st a b c d e f => lc_own acc vacc O1 G1 H1 p st a b c d e f
/-! ### for -/
def forW (I : Ow → Prop) (g : DG) (b : DS) (A : DEnds) : List D → Slots → Ow → Prop
  | [], ρ, O => I O ∧ A.nx ρ O
  | d :: ds, ρ, O => I O ∧ g d ρ fun ρ' => b { A with nx := forW I g b A ds, ct := forW I g b A ds, bk := A.nx } ρ' O
theorem forW_mo {I : Ow → Prop} {g : DG} {b : DS} (hg : MoG g) (hb : MoS b) {A A' : DEnds} (l : DEnds.Le A A') : ∀ {ds : List D} {ρ : Slots} {O : Ow}, forW I g b A ds ρ O → forW I g b A' ds ρ O
  | [], _, _, z => ⟨z.1, l.nx _ _ z.2⟩
  | d :: ds, _, _, z => ⟨z.1, hg _ _ _ _ (fun ρ' y => hb { A with nx := forW I g b A ds, ct := forW I g b A ds, bk := A.nx } { A' with nx := forW I g b A' ds, ct := forW I g b A' ds, bk := A'.nx } _ _ ⟨fun r _ w => forW_mo hg hb l w, l.rt, l.nx, fun r _ w => forW_mo hg hb l w, l.ex⟩ y) z.2⟩
def dFor (mi : DI) (g : DG) (b : DS) : DS := fun A ρ O => mi ρ O (fun x O1 => forW x.1 g b A x.2 ρ O1) (fun x O1 => A.ex x ρ O1)
theorem d_for {iter : Expr} {body : List Stmt} {mi : DI} {g : DG} {is : List Nat} (hp : PassesOwn (model X.prog X.w) X.A X.env X.xe) (hc : X.calm = true) (hi : DPI X L tg iter mi) (hg : DPG X L tg is g) (hb : DPSs X L body ms)
    (hs : ∀ x, foldedSetIterable iter X.env x = pure x) : DPS X L (.For tg iter body [] pos) (dFor mi g ms) := by
  refine ⟨fun A A' ρ O l z => hi.mo _ _ _ _ _ _ (fun d _ y => forW_mo hg.mo hb.mo l y) (fun x _ y => l.ex _ _ _ y) z, ps_imp (ps_for hp hc hi.run hg.run hb.run hs) fun Dn σ H ⟨G, O, ρ, gd, rs, q⟩ => ?_⟩
  refine ⟨G, O, ρ, gd, rs, hi.mo ρ _ _ _ _ _ (fun x O1 z J G1 H1 s1 it => ?_) (fun x _ z => kx_of rs z) q⟩
  obtain ⟨I, ds⟩ := x
  refine ⟨fun i m σ2 H2 => ∃ G2 O2 ρ2, m = ds.length - i ∧ i ≤ ds.length ∧ Step X.K L.B O1 G1 H1 O2 G2 H2 ∧ RpS X.K G2 σ2 ρ2 ∧ forW I g ms (dn X.K L O2 G2 H2 Dn) (ds.drop i) ρ2 O2,
    ⟨ds.length, G1, O1, ρ, by simp, Nat.zero_le _, Step.refl s1.good, rs.step s1, ?_⟩, ?_⟩
  · rw [List.drop_zero]
    exact forW_mo hg.mo hb.mo (dn_step s1) z
  · rintro i m σ2 H2 ⟨G2, O2, ρ2, rfl, hi2, st, rs2, hf⟩
    rcases Nat.lt_or_ge i ds.length with hlt | hge
    · have ei : ds[i]? = some ds[i] := List.getElem?_eq_getElem hlt
      have ed : ds.drop i = ds[i] :: ds.drop (i + 1) := List.drop_eq_getElem_cons hlt
      rw [ed] at hf
      obtain ⟨hI, hf⟩ := hf
      obtain ⟨go, yl⟩ := (it i O2 G2 H2 st.good st.grow hI).1 _ ei
      refine .inr ⟨go, fun σ3 H3 => ∃ G3 O3 ρ3, Step X.K L.B O1 G1 H1 O3 G3 H3 ∧ RpS X.K G3 σ3 ρ3 ∧ forW I g ms (dn X.K L O3 G3 H3 Dn) (ds.drop (i + 1)) ρ3 O3, fun σ3 H3 ⟨G3, O3, ρ3, a, b, c⟩ => ⟨ds.length - (i + 1), by omega, G3, O3, ρ3, rfl, by omega, a, b, c⟩, fun x H3 y => ?_⟩
      obtain ⟨G3, s3, rx⟩ := yl x H3 y
      refine ⟨G3, O2, ρ2, ds[i], s3.good, rs2.step s3, rx, hg.mo _ _ _ _ (fun ρ' z2 σ' rs' _ => ?_) hf⟩
      refine ⟨G3, O2, ρ', s3.good, rs', hb.mo { dn X.K L O2 G2 H2 Dn with nx := forW I g ms (dn X.K L O2 G2 H2 Dn) (ds.drop (i + 1)), ct := forW I g ms (dn X.K L O2 G2 H2 Dn) (ds.drop (i + 1)), bk := (dn X.K L O2 G2 H2 Dn).nx } _ _ _ ⟨fun r O4 w σ4 G4 H4 s4 rs4 => ?_, fun r O4 w v G4 H4 s4 r4 => ?_, fun r O4 w σ4 G4 H4 s4 rs4 => ?_, fun r O4 w σ4 G4 H4 s4 rs4 => ?_, fun x r O4 w σ4 d fs G4 H4 s4 rs4 a b => ?_⟩ z2⟩
      · exact ⟨G4, O4, r, st.trans (s3.trans s4), rs4, forW_mo hg.mo hb.mo (dn_step (s3.trans s4)) w⟩
      · exact w v G4 H4 (s3.trans s4) r4
      · exact w σ4 G4 H4 (s3.trans s4) rs4
      · exact ⟨G4, O4, r, st.trans (s3.trans s4), rs4, forW_mo hg.mo hb.mo (dn_step (s3.trans s4)) w⟩
      · exact w σ4 d fs G4 H4 (s3.trans s4) rs4 a b
    · rw [List.drop_eq_nil_of_le hge] at hf
      obtain ⟨hI, hf⟩ := hf
      refine .inl ⟨(it i O2 G2 H2 st.good st.grow hI).2 (show i = ds.length by omega), ?_⟩
      exact hf _ _ _ (Step.refl st.good) rs2
end
/-! ### defs -/
def startD (N : List Str) (ds : List D) : Slots := ds.map .sh ++ List.replicate (N.length - ds.length) .un
theorem start_rp {K : PySem.W.Frag} {G : Hp} {N : List Str} {vs : List V} {ds : List D} (r : RpL K G vs ds) : RpS K G (L2.start N vs) (startD N ds) := by
  have hl := r.length
  unfold L2.start startD
  refine ⟨by simp [hl], fun i d e => ?_⟩
  by_cases hi : i < ds.length
  · rw [List.getElem?_append_left (by simpa using hi), List.getElem?_map] at e
    cases q : ds[i]? with
    | none => rw [q] at e; cases e
    | some x =>
      rw [q] at e
      cases e
      obtain ⟨v, ev, rv⟩ := r.get q
      exact ⟨v, by rw [List.getElem?_append_left (by simpa [hl] using hi), List.getElem?_map, ev]; rfl, rv⟩
  · rw [List.getElem?_append_right (by simpa using hi)] at e
    rw [List.getElem?_replicate] at e
    split at e <;> cases e
/-- the ends of a def's body -/
def endsD (Q : QD) (E : QX) : DEnds := { nx := fun _ O => Q .non O, rt := Q, ex := fun x _ O => E x O }
section
variable {P : Program} {w : World} {K : PySem.W.Frag} {mg : Str → Option Value} {base : Heap}
/-- a def that raises nothing -/
theorem fn_pure {x qual : Str} {st : Stmt} {f : Addr} {fd : FuncData} {N ps : List Str} {k : Nat} {sp : DSp} {ms : DS} (Fn : Fun K x qual st f fd) (S : FnScope N ps (defScope st)) (len : ∀ ds O Q E, sp ds O Q E → ds.length = ps.length)
    (hb : ∀ (cdv : Value) (A : Around) (outer : List Env) (s : Shared) (H : Hp) (E : XK), Room k (A.deeper (envOfC qual (defScope st) s.heap.objs.size f cdv)) →
      DPSs (cxOf CX0 P w K mg base N qual (defScope st) f cdv A outer s H E).nox ⟨bo0, fun _ _ _ _ => False⟩ (defBody st) ms)
    (h : ∀ ds O Q E, sp ds O Q E → ms (endsD Q E) (startD N ds) O) (noex : ∀ ds O Q E, sp ds O Q E → sp ds O Q fun _ _ => False) : FnOk P w K mg base CX0 (k + 1) f fd ps (spD K sp) := by
  refine Fn.ok S (fun vs H Q E ⟨G, O, ds, g, r, Q0, E0, h0, _⟩ => ?_) (fun cdv A outer s H vs Q E hr ⟨G, O, ds, g, r, Q0, E0, h0, hq, hx⟩ => ?_)
  · rw [r.length]; exact len _ _ _ _ h0
  · have b := hb cdv A outer s H E hr
    refine ⟨_, b.run, G, O, startD N ds, g, start_rp r, b.mo (endsD Q0 fun _ _ => False) _ _ _ ⟨fun ρ O1 z σ' G' H' s _ => hq _ _ z _ G' H' s .non, fun d O1 z v G' H' s rv => hq _ _ z v G' H' s rv, fun _ _ z => z.elim, fun _ _ z => z.elim, fun x ρ _ z => z.elim⟩ (h ds O Q0 (fun _ _ => False) (noex _ _ _ _ h0))⟩
/-- a def that takes the box first and raises nothing -/
theorem fn_box {x qual : Str} {st : Stmt} {f : Addr} {fd : FuncData} {N ps : List Str} {k : Nat} {sp : DSp} {ms : Addr → DS} (Fn : Fun K x qual st f fd) (S : FnScope N ps (defScope st)) (len : ∀ ds O Q E, sp ds O Q E → ds.length + 1 = ps.length)
    (hb : ∀ (cdv : Value) (A : Around) (outer : List Env) (s : Shared) (H : Hp) (E : XK) (b l : Addr) (T : List (Addr × Str)), Room k (A.deeper (envOfC qual (defScope st) s.heap.objs.size f cdv)) →
      DPSs (cxOf CX0 P w K mg base N qual (defScope st) f cdv A outer s H E).nox ⟨boB b l T, fun _ _ _ _ => False⟩ (defBody st) (ms b))
    (h : ∀ b ds O Q E, sp ds O Q E → ms b (endsD Q E) (startD N (.opq (.ref b) :: ds)) O) (noex : ∀ ds O Q E, sp ds O Q E → sp ds O Q fun _ _ => False) : FnOk P w K mg base CX0 (k + 1) f fd ps (spB K sp) := by
  refine Fn.ok S (fun vs H Q E ⟨b, l, T, ws, G, O, ds, ev, g, r, Q0, E0, h0, _⟩ => ?_) (fun cdv A outer s H vs Q E hr ⟨b, l, T, ws, G, O, ds, ev, g, r, Q0, E0, h0, hq, hx⟩ => ?_)
  · rw [ev, List.length_cons, r.length]; exact len _ _ _ _ h0
  · subst ev
    have bb := hb cdv A outer s H E b l T hr
    refine ⟨_, bb.run, G, O, startD N (.opq (.ref b) :: ds), g, start_rp (.cons (.opq _) r), bb.mo (endsD Q0 fun _ _ => False) _ _ _ ⟨fun ρ O1 z σ' G' H' s _ => hq _ _ z _ G' H' s .non, fun d O1 z v G' H' s rv => hq _ _ z v G' H' s rv, fun _ _ z => z.elim, fun _ _ z => z.elim, fun x ρ _ z => z.elim⟩ (h b ds O Q0 (fun _ _ => False) (noex _ _ _ _ h0))⟩
end
end EV
set_option Elab.async false
set_option linter.all false
set_option maxRecDepth 100000
set_option maxHeartbeats 4000000
namespace EV
open PySem PySem.Spec PyProof.Rows L2
abbrev P2 := D → D → (D → Prop) → Prop
/-! ### plain data -/
mutual
def toP : D → Option PyData
  | .non => some .none
  | .bl b => some (.bool b)
  | .int i => some (.int i)
  | .str x => some (.str x)
  | .lst xs => (toPs xs).map .list
  | .tup xs => (toPs xs).map .tuple
  | _ => none
def toPs : List D → Option (List PyData)
  | [] => some []
  | x :: xs => match toP x, toPs xs with
    | some y, some ys => some (y :: ys)
    | _, _ => none
end
section
variable {K : PySem.W.Frag} {G H : Hp}
mutual
theorem Rp.dp (s : Sub G H) : ∀ {d : D} {v : V} {q : PyData}, Rp K G v d → toP d = some q → Dp K H v q
  | .non, _, _, .non, e => by cases e; exact .non
  | .bl _, _, _, .bl b, e => by cases e; exact .bl b
  | .int _, _, _, .int i, e => by cases e; exact .int i
  | .str _, _, _, .str x, e => by cases e; exact .str x
  | .opq _, _, _, .opq v, e => by simp [toP] at e
  | .lst ds, _, _, .lst h r, e => by
    simp only [toP, Option.map_eq_some_iff] at e
    obtain ⟨qs, e1, rfl⟩ := e
    exact .lst (s.lstL h) (RpL.dp s r e1)
  | .tup ds, _, _, .tup h r, e => by
    simp only [toP, Option.map_eq_some_iff] at e
    obtain ⟨qs, e1, rfl⟩ := e
    exact .tup (s.sqT h) (RpL.dp s r e1)
  | .dic _, _, _, .dic h r, e => by simp [toP] at e
  | .ins _ _, _, _, .ins h r, e => by simp [toP] at e
  | .exc _ _, _, _, .exc h _ _ r, e => by simp [toP] at e
theorem RpL.dp (s : Sub G H) : ∀ {ds : List D} {vs : List V} {qs : List PyData}, RpL K G vs ds → toPs ds = some qs → DpAll K H vs qs
  | [], _, _, .nil, e => by cases e; exact .nil
  | d :: ds, _, _, .cons h r, e => by
    simp only [toPs] at e
    split at e
    · rename_i y ys e1 e2
      cases e
      exact .cons (Rp.dp s h e1) (RpL.dp s r e2)
    · cases e
end
end
/-! ### operators of data -/
def addD : P2
  | .int i, .int j, Q => Q (.int (i + j))
  | .str x, .str y, Q => x.length + y.length ≤ sizeLine ∧ Q (.str (x ++ y))
  | .lst xs, .lst ys, Q => xs.length + ys.length ≤ sizeLine ∧ Q (.lst (xs ++ ys))
  | .tup xs, .tup ys, Q => xs ≠ [] ∧ xs.length + ys.length ≤ sizeLine ∧ Q (.tup (xs ++ ys))
  | _, _, _ => False
def iI (C : Int → Int → Prop) (g : Int → Int → D) : P2
  | .int i, .int j, Q => C i j ∧ Q (g i j)
  | _, _, _ => False
def subD : P2 := iI (fun _ _ => True) fun i j => .int (i - j)
def modD : P2 := iI (fun _ j => 0 < j) fun i j => .int (i % j)
def fdivD : P2 := iI CDiv fun i j => .int (i / j)
def powD : P2 := iI CPow fun i j => .int (i ^ j.toNat)
def mulD : P2
  | .int i, .int j, Q => CMul i j ∧ Q (.int (i * j))
  | .str x, .int n, Q => MulOk x n ∧ Q (.str (Txt.mul x n))
  | .lst xs, .int k, Q => -(2 ^ 63) ≤ k ∧ k < 2 ^ 63 ∧ xs.length * k.toNat ≤ sizeLine ∧ Q (.lst (List.replicate k.toNat xs).flatten)
  | _, _, _ => False
def ordD (gi : Int → Int → Bool) (gs : Str → Str → Bool) : P2
  | .int i, .int j, Q => Q (.bl (gi i j))
  | .str x, .str y, Q => Q (.bl (gs x y))
  | _, _, _ => False
def ltD : P2 := ordD (fun i j => decide (i < j)) fun x y => decide (x.cps.toList < y.cps.toList)
def leD : P2 := ordD (fun i j => decide (i ≤ j)) fun x y => !decide (y.cps.toList < x.cps.toList)
def gtD : P2 := ordD (fun i j => decide (j < i)) fun x y => decide (y.cps.toList < x.cps.toList)
def geD : P2 := ordD (fun i j => decide (j ≤ i)) fun x y => !decide (x.cps.toList < y.cps.toList)
/-- ==, told through f -/
def eqD (f : Bool → Bool) : P2
  | .int i, .int j, Q => Q (.bl (f (decide (i = j))))
  | .str x, .str y, Q => Q (.bl (f (decide (x = y))))
  | .bl x, .bl y, Q => Q (.bl (f (decide (x = y))))
  | a, b, Q => match toP a, toP b with
    | some x, some y => SeqAt.shaped x = true ∧ SeqAt.shaped y = true ∧ Q (.bl (f (PyData.eqv x y)))
    | _, _ => False
def isNonD : D → Bool
  | .non => true
  | _ => false
/-- is None, is not None -/
def isD (f : Bool → Bool) : P2
  | .opq _, _, _ => False
  | a, .non, Q => Q (.bl (f (isNonD a)))
  | _, _, _ => False
/-- in, not in -/
def inD (f : Bool → Bool) : P2
  | .str ⟨⟨[c]⟩⟩, .str z, Q => Q (.bl (f (decide (c ∈ z.cps.toList))))
  | a, .lst xs, Q => match toP a, toPs xs with
    | some x, some ys => SeqAt.shaped x = true ∧ SeqAt.shaped (.list ys) = true ∧ Q (.bl (f (ys.any fun z => PyData.eqv z x)))
    | _, _ => False
  | _, _, _ => False
theorem sub_i {X : Cx} {B : Bo} {f : Value → Value → Sem Value} {C : Int → Int → Prop} {g : Int → Int → D} {gv : Int → Int → V} (h : OpR X f (rI C gv)) (hg : ∀ i j K G, Rp K G (gv i j) (g i j)) : OpD X B f (pu (iI C g)) := by
  refine ⟨fun O x y Q Q' q z => ?_, _, h, fun O G H x y a b Q gd r1 r2 q => ?_⟩
  · dsimp only [pu] at z ⊢; unfold iI at z ⊢
    split at z
    · exact ⟨z.1, q _ z.2⟩
    · exact z
  · dsimp only [pu] at q; unfold iI at q
    split at q
    · cases r1
      cases r2
      exact ⟨_, _, rfl, rfl, q.1, q.2 _ _ _ (Step.refl gd) (hg _ _ _ _)⟩
    · exact q.elim
section
variable {X : Cx} {B : Bo}
theorem od_sub : OpD X B (binaryOp .Sub) (pu subD) := by
  have h : OpR X (binaryOp .Sub) (rI (fun _ _ => True) fun i j => .int (i - j)) := fun pins s σ H x y v u Q I r1 r2 ⟨i, j, e1, e2, _, q⟩ => op_sub pins s σ H x y v u Q I r1 r2 ⟨i, j, e1, e2, q⟩
  exact sub_i h fun i j K G => .int _
theorem od_mod : OpD X B (binaryOp .Mod) (pu modD) := sub_i op_mod fun i j K G => .int _
theorem od_fdiv : OpD X B (binaryOp .FloorDiv) (pu fdivD) := sub_i op_fdiv fun i j K G => .int _
theorem od_pow : OpD X B (binaryOp .Pow) (pu powD) := sub_i op_pow fun i j K G => .int _
theorem od_add : OpD X B (binaryOp .Add) (pu addD) := by
  refine ⟨fun O x y Q Q' q z => ?_, _, op_add.or (op_add_str.or (op_cat.or op_catT)), fun O G H x y a b Q gd r1 r2 q => ?_⟩
  · dsimp only [pu] at z ⊢; unfold addD at z ⊢
    split at z
    · exact q _ z
    · exact ⟨z.1, q _ z.2⟩
    · exact ⟨z.1, q _ z.2⟩
    · exact ⟨z.1, z.2.1, q _ z.2.2⟩
    · exact z
  · dsimp only [pu] at q; unfold addD at q
    split at q
    · cases r1
      cases r2
      exact .inl ⟨_, _, rfl, rfl, q _ _ _ (Step.refl gd) (.int _)⟩
    · cases r1
      cases r2
      exact .inr (.inl ⟨_, _, rfl, rfl, q.1, q.2 _ _ _ (Step.refl gd) (.str _)⟩)
    · cases r1 with
      | lst s1 l1 =>
        cases r2 with
        | lst s2 l2 => exact .inr (.inr (.inl ⟨_, _, _, _, rfl, rfl, gd.sub _ _ s1, gd.sub _ _ s2, by rw [l1.length, l2.length]; exact q.1, fun p np => q.2 _ _ _ (Step.new gd np) (new_lst gd np (l1.append l2))⟩))
    · rename_i xs ys
      cases r1 with
      | tup s1 l1 =>
        cases r2 with
        | tup s2 l2 =>
          refine .inr (.inr (.inr ⟨_, _, _, _, rfl, rfl, gd.sub.sqT s1, gd.sub.sqT s2, fun z => ?_, by rw [l1.length, l2.length]; exact q.2.1, fun z => ?_, fun z p np => q.2.2 _ _ _ (Step.new gd np) (new_tup gd np (l1.append l2))⟩))
          · subst z
            cases l1
            exact q.1 rfl
          · subst z
            cases l2
            rw [List.append_nil] at q
            exact q.2.2 _ _ _ (Step.refl gd) (.tup s1 l1)
    · exact q.elim
theorem RpL.rep {K : PySem.W.Frag} {G : Hp} {vs : List V} {ds : List D} (r : RpL K G vs ds) : ∀ n : Nat, RpL K G (List.replicate n vs).flatten (List.replicate n ds).flatten
  | 0 => .nil
  | n + 1 => by
    rw [List.replicate_succ, List.replicate_succ, List.flatten_cons, List.flatten_cons]
    exact r.append (RpL.rep r n)
theorem op_mulS : OpR X (binaryOp .Mult) (fun x y H Q => ∃ z n, x = .str z ∧ y = .int n ∧ MulOk z n ∧ Q (.str (Txt.mul z n)) H) := by
  intro pins s σ H x y v u Q I rx ry h
  obtain ⟨z, n, rfl, rfl, hk, q⟩ := h
  obtain ⟨t, rfl⟩ := rx
  obtain ⟨t', rfl⟩ := ry
  exact SB.mul hk fun t2 k => ⟨.str _, H, I.tok _, ⟨_, rfl⟩, q⟩
theorem od_mul : OpD X B (binaryOp .Mult) (pu mulD) := by
  refine ⟨fun O x y Q Q' q z => ?_, _, op_mul.or (op_mulS.or op_rep), fun O G H x y a b Q gd r1 r2 q => ?_⟩
  · dsimp only [pu] at z ⊢; unfold mulD at z ⊢
    split at z
    · exact ⟨z.1, q _ z.2⟩
    · exact ⟨z.1, q _ z.2⟩
    · exact ⟨z.1, z.2.1, z.2.2.1, q _ z.2.2.2⟩
    · exact z
  · dsimp only [pu] at q; unfold mulD at q
    split at q
    · cases r1
      cases r2
      exact .inl ⟨_, _, rfl, rfl, q.1, q.2 _ _ _ (Step.refl gd) (.int _)⟩
    · cases r1
      cases r2
      exact .inr (.inl ⟨_, _, rfl, rfl, q.1, q.2 _ _ _ (Step.refl gd) (.str _)⟩)
    · cases r1 with
      | lst s1 l1 =>
        cases r2
        exact .inr (.inr ⟨_, _, _, rfl, rfl, gd.sub _ _ s1, q.1, q.2.1, by rw [l1.length]; exact q.2.2.1, fun p np => q.2.2.2 _ _ _ (Step.new gd np) (new_lst gd np (l1.rep _))⟩)
    · exact q.elim
theorem od_ord {op : CmpOp} {gi : Int → Int → Bool} {gs : Str → Str → Bool} (h1 : OpR X (compareOp op) (rI0 fun i j => .bl (gi i j))) (h2 : OpR X (compareOp op) (fun x y H Q => ∃ i j, x = .str i ∧ y = .str j ∧ Q (.bl (gs i j)) H)) : OpD X B (compareOp op) (pu (ordD gi gs)) := by
  refine ⟨fun O x y Q Q' q z => ?_, _, h1.or h2, fun O G H x y a b Q gd r1 r2 q => ?_⟩
  · dsimp only [pu] at z ⊢; unfold ordD at z ⊢
    split at z
    · exact q _ z
    · exact q _ z
    · exact z
  · dsimp only [pu] at q; unfold ordD at q
    split at q
    · cases r1
      cases r2
      exact .inl ⟨_, _, rfl, rfl, q _ _ _ (Step.refl gd) (.bl _)⟩
    · cases r1
      cases r2
      exact .inr ⟨_, _, rfl, rfl, q _ _ _ (Step.refl gd) (.bl _)⟩
    · exact q.elim
theorem od_lt : OpD X B (compareOp .Lt) (pu ltD) := od_ord op_lt op_lt_str
theorem od_le : OpD X B (compareOp .LtE) (pu leD) := od_ord op_le op_le_str
theorem od_gt : OpD X B (compareOp .Gt) (pu gtD) := od_ord op_gt op_gt_str
theorem od_ge : OpD X B (compareOp .GtE) (pu geD) := od_ord op_ge op_ge_str
theorem od_eqf {op : CmpOp} {f : Bool → Bool} (h1 : OpR X (compareOp op) (fun x y H Q => scal x y = true ∧ Q (.bl (f (decide (x = y)))) H))
    (h2 : OpR X (compareOp op) (fun x y H Q => ∃ d e, Dp X.K H x d ∧ Dp X.K H y e ∧ SeqAt.shaped d = true ∧ SeqAt.shaped e = true ∧ Q (.bl (f (PyData.eqv d e))) H)) : OpD X B (compareOp op) (pu (eqD f)) := by
  refine ⟨fun O x y Q Q' q z => ?_, _, h1.or h2, fun O G H x y a b Q gd r1 r2 q => ?_⟩
  · dsimp only [pu] at z ⊢; unfold eqD at z ⊢
    split at z
    · exact q _ z
    · exact q _ z
    · exact q _ z
    · split at z
      · exact ⟨z.1, z.2.1, q _ z.2.2⟩
      · exact z
  · dsimp only [pu] at q; unfold eqD at q
    split at q
    · cases r1
      cases r2
      rename_i i j
      have : decide (V.int i = V.int j) = decide (i = j) := by simp
      exact .inl ⟨rfl, by rw [this]; exact q _ _ _ (Step.refl gd) (.bl _)⟩
    · cases r1
      cases r2
      rename_i i j
      have : decide (V.str i = V.str j) = decide (i = j) := by simp
      exact .inl ⟨rfl, by rw [this]; exact q _ _ _ (Step.refl gd) (.bl _)⟩
    · cases r1
      cases r2
      rename_i i j
      have : decide (V.bl i = V.bl j) = decide (i = j) := by simp
      exact .inl ⟨rfl, by rw [this]; exact q _ _ _ (Step.refl gd) (.bl _)⟩
    · split at q
      · rename_i p1 p2 e1 e2
        exact .inr ⟨p1, p2, r1.dp gd.sub e1, r2.dp gd.sub e2, q.1, q.2.1, q.2.2 _ _ _ (Step.refl gd) (.bl _)⟩
      · exact q.elim
theorem od_eq (hu : X.A.units + 64 < cLine) : OpD X B (compareOp .Eq) (pu (eqD id)) := od_eqf op_eq (op_eqD hu)
theorem od_ne (hu : X.A.units + 64 < cLine) : OpD X B (compareOp .NotEq) (pu (eqD not)) := od_eqf op_ne (op_neD hu)
theorem od_isf {op : CmpOp} {f : Bool → Bool} (h : OpR X (compareOp op) (fun x y H Q => y = .non ∧ Q (.bl (f (decide (x = .non)))) H)) : OpD X B (compareOp op) (pu (isD f)) := by
  refine ⟨fun O x y Q Q' q z => ?_, _, h, fun O G H x y a b Q gd r1 r2 q => ?_⟩
  · dsimp only [pu] at z ⊢; unfold isD at z ⊢
    split at z
    · exact z
    · exact q _ z
    · exact z
  · dsimp only [pu] at q; unfold isD at q
    split at q
    · exact q.elim
    · cases r2
      refine ⟨rfl, ?_⟩
      cases r1 <;> first
        | exact q _ _ _ (Step.refl gd) (.bl _)
        | (rename_i nn _ _; exact (nn _ rfl).elim)
        | (rename_i nn; exact (nn _ rfl).elim)
    · exact q.elim
theorem od_is : OpD X B (compareOp .Is) (pu (isD id)) := od_isf op_isN
theorem od_isnot : OpD X B (compareOp .IsNot) (pu (isD not)) := od_isf op_notN
theorem toPs_list {K : PySem.W.Frag} {G H : Hp} {a : Addr} {ds : List D} {qs : List PyData} (s : Sub G H) (r : Rp K G (.ref a) (.lst ds)) (e : toPs ds = some qs) : Dp K H (.ref a) (.list qs) := r.dp s (by simp [toP, e])
theorem od_inf {op : CmpOp} {f : Bool → Bool} (h1 : OpR X (compareOp op) (fun x y H Q => ∃ (c : Nat) (z : Str), x = .str ⟨#[c]⟩ ∧ y = .str z ∧ Q (.bl (f (decide (c ∈ z.cps.toList)))) H))
    (h2 : OpR X (compareOp op) (fun x y H Q => ∃ d ds, Dp X.K H x d ∧ Dp X.K H y (.list ds) ∧ SeqAt.shaped d = true ∧ SeqAt.shaped (.list ds) = true ∧ Q (.bl (f (ds.any fun z => PyData.eqv z d))) H)) : OpD X B (compareOp op) (pu (inD f)) := by
  refine ⟨fun O x y Q Q' q z => ?_, _, h1.or h2, fun O G H x y a b Q gd r1 r2 q => ?_⟩
  · dsimp only [pu] at z ⊢; unfold inD at z ⊢
    split at z
    · exact q _ z
    · split at z
      · exact ⟨z.1, z.2.1, q _ z.2.2⟩
      · exact z
    · exact z
  · dsimp only [pu] at q; unfold inD at q
    split at q
    · cases r1
      cases r2
      exact .inl ⟨_, _, rfl, rfl, q _ _ _ (Step.refl gd) (.bl _)⟩
    · split at q
      · rename_i p1 p2 e1 e2
        cases r2 with
        | lst s2 l2 => exact .inr ⟨p1, p2, r1.dp gd.sub e1, toPs_list gd.sub (.lst s2 l2) e2, q.1, q.2.1, q.2.2 _ _ _ (Step.refl gd) (.bl _)⟩
      · exact q.elim
    · exact q.elim
theorem od_in (hu : X.A.units + 65 < cLine) : OpD X B (compareOp .In) (pu (inD id)) := od_inf op_in_sign (op_inD hu)
theorem od_notin (hu : X.A.units + 65 < cLine) : OpD X B (compareOp .NotIn) (pu (inD not)) := od_inf op_notIn_sign (op_notInD hu)
end
end EV
set_option Elab.async false
set_option linter.all false
set_option maxRecDepth 100000
set_option maxHeartbeats 4000000
namespace EV
open PySem PySem.Spec PyProof.Rows L2
abbrev PC := List D → (D → Prop) → Prop
/-! ### built-in functions of data -/
def lenD : PC
  | [.str y], Q => y.length ≤ sizeLine ∧ Q (.int y.length)
  | [.lst xs], Q => Q (.int xs.length)
  | [.tup xs], Q => Q (.int xs.length)
  | _, _ => False
def absD : PC
  | [.int i], Q => Q (.int (if i < 0 then -i else i))
  | _, _ => False
def toIntD : PC
  | [.int i], Q => Q (.int i)
  | [.bl k], Q => Q (.int (if k then 1 else 0))
  | _, _ => False
def toBs : List D → Option (List Bool)
  | [] => some []
  | .bl b :: r => (toBs r).map (b :: ·)
  | _ => none
def allD : PC
  | [.lst xs], Q => match toBs xs with
    | some bs => Q (.bl (bs.all id))
    | none => False
  | _, _ => False
def anyD : PC
  | [.lst xs], Q => match toBs xs with
    | some bs => Q (.bl (bs.any id))
    | none => False
  | _, _ => False
/-- the type's name of plain data -/
def tyD : D → Option String
  | .non => some "NoneType"
  | .bl _ => some "bool"
  | .int _ => some "int"
  | .str _ => some "str"
  | .lst _ => some "list"
  | .tup _ => some "tuple"
  | .dic _ => some "dict"
  | _ => none
def kn (n : String) : Bool := n == "str" || n == "int" || n == "bool" || n == "list" || n == "tuple" || n == "dict"
def isT (t n : String) : Bool := t == n || (t == "bool" && n == "int")
def isiB (d : D) (n : String) : Bool := match tyD d with
  | some t => isT t n
  | none => false
def isAny (d : D) : List D → Option Bool
  | [] => some false
  | .opq (.ty n) :: r => if kn n = true then (isAny d r).map (isiB d n || ·) else none
  | _ => none
def isiD : PC
  | [x, .opq (.ty n)], Q => kn n = true ∧ (tyD x).isSome = true ∧ Q (.bl (isiB x n))
  | _, _ => False
theorem toBs_vs {K : PySem.W.Frag} {G : Hp} : ∀ {ds : List D} {vs : List V} {bs : List Bool}, RpL K G vs ds → toBs ds = some bs → vs = bs.map V.bl
  | [], _, _, .nil, e => by cases e; rfl
  | .bl b :: r, _, _, .cons (.bl _) t, e => by
    simp only [toBs, Option.map_eq_some_iff] at e
    obtain ⟨bs, e1, rfl⟩ := e
    rw [toBs_vs t e1]; rfl
theorem kn_cases {n : String} (h : kn n = true) : n = "str" ∨ n = "int" ∨ n = "bool" ∨ n = "list" ∨ n = "tuple" ∨ n = "dict" := by
  unfold kn at h
  simp only [Bool.or_eq_true, beq_iff_eq] at h
  rcases h with ((((h | h) | h) | h) | h) | h <;> simp [h]
theorem kit_tab : ∀ t ∈ ["NoneType", "bool", "int", "str", "list", "tuple", "dict"], ∀ n ∈ ["str", "int", "bool", "list", "tuple", "dict"], kitB t n = some (isT t n) := by decide +kernel
theorem kit_isi {K : PySem.W.Frag} {d : D} {t n : String} (ht : tyD d = some t) (hn : kn n = true) : PySem.W.kitOne K (.type t) (.type n) = some (isiB d n) := by
  have e : isiB d n = isT t n := by unfold isiB; rw [ht]
  rw [e]
  refine kit_ty (kit_tab t ?_ n ?_)
  · cases d <;> simp [tyD] at ht <;> subst ht <;> simp
  · rcases kn_cases hn with q | q | q | q | q | q <;> subst q <;> simp
theorem Rp.ty {K : PySem.W.Frag} {G H : Hp} {d : D} {v : V} {t : String} (s : Sub G H) (r : Rp K G v d) (h : tyD d = some t) : TyX K H v (.type t) := by
  cases r with
  | non => cases h; exact .base .non
  | bl b => cases h; exact .base (.bl b)
  | int i => cases h; exact .base (.int i)
  | str x => cases h; exact .base (.str x)
  | opq => simp [tyD] at h
  | lst q _ => cases h; exact .base (.lst (s _ _ q))
  | tup q _ =>
    cases h
    rcases q with (q | ⟨o, q⟩) | ⟨o, its, n, q, c, _⟩
    · exact .base (.tup (s _ _ q))
    · exact .fTuple (s _ _ q)
    · exact .kTuple q c
  | dic q _ => cases h; exact .fDict (s _ _ q)
  | ins => simp [tyD] at h
  | exc => simp [tyD] at h
  | lam => simp [tyD] at h
theorem isAny_run {K : PySem.W.Frag} {G : Hp} {d : D} {t : String} (ht : tyD d = some t) : ∀ {cs : List D} {vs : List V} {b : Bool}, RpL K G vs cs → isAny d cs = some b → ∃ us, Paired ClsV vs us ∧ PySem.W.kitAny K (.type t) us = some b
  | [], _, _, .nil, e => by cases e; exact ⟨[], .nil, rfl⟩
  | .opq (.ty n) :: r, _, _, .cons (.opq _) q, e => by
    unfold isAny at e
    split at e
    · rename_i hn
      simp only [Option.map_eq_some_iff] at e
      obtain ⟨b', e1, rfl⟩ := e
      obtain ⟨us, p, k⟩ := isAny_run ht q e1
      refine ⟨.type n :: us, .cons (.ty n) p, ?_⟩
      refine kitAny_cons (kit_isi ht hn) (fun z => ?_) (fun z => ?_)
      · rw [z, Bool.false_or]; exact k
      · rw [z, Bool.true_or]
    · cases e
section
variable {X : Cx} {L : Pl} {B : Bo} {e o : Expr} {m mo' : DE} {pos p : Pos}
/-- len, also of what a handle holds -/
def lenO : DC := fun O xs Q => lenD (xs.map (lk O)) Q
theorem cd_len : CallD X B (.builtin "len") lenO := by
  refine ⟨fun O x Q Q' q z => ?_, _, call_len, fun O G H vs ds Q g r h => ?_⟩
  · unfold lenO at z ⊢
    generalize x.map (lk O) = x at z ⊢
    unfold lenD at z ⊢
    split at z
    · exact ⟨z.1, q _ z.2⟩
    · exact q _ z
    · exact q _ z
    · exact z
  · unfold lenO at h
    cases r with
    | nil => exact h.elim
    | cons r1 r2 =>
      cases r2 with
      | cons _ _ =>
        simp only [List.map_cons] at h
        unfold lenD at h
        split at h <;> first | exact h.elim | (rename_i e; simp at e)
      | nil =>
        have rx := lk_rp g r1
        simp only [List.map_cons, List.map_nil] at h
        rename_i d0
        generalize lk O d0 = d at rx h
        cases d <;> first | exact h.elim | skip
        · cases rx.str; exact ⟨_, _, rfl, ⟨h.1, rfl⟩, h.2 _ _ _ (Step.refl g) (.int _)⟩
        · obtain ⟨a, vs, rfl, s, l⟩ := rx.lst g.sub
          exact ⟨_, _, rfl, .inl ⟨_, .inl (.inl s), rfl⟩, by rw [l.length]; exact h _ _ _ (Step.refl g) (.int _)⟩
        · obtain ⟨a, vs, rfl, s, l⟩ := rx.tup g.sub
          exact ⟨_, _, rfl, .inr ⟨_, s, rfl⟩, by rw [l.length]; exact h _ _ _ (Step.refl g) (.int _)⟩
theorem cd_abs : CallD X B (.builtin "abs") (pc absD) := by
  refine ⟨fun O x Q Q' q z => ?_, _, call_abs, fun O G H vs ds Q g r h => ?_⟩
  · dsimp only [pc] at z ⊢; unfold absD at z ⊢
    split at z
    · exact q _ z
    · exact z
  · dsimp only [pc] at h; unfold absD at h
    split at h
    · cases r with | cons r1 r2 => cases r2; cases r1; exact ⟨_, rfl, h _ _ _ (Step.refl g) (.int _)⟩
    · exact h.elim
theorem cd_int : CallD X B (.type "int") (pc toIntD) := by
  refine ⟨fun O x Q Q' q z => ?_, _, call_int1, fun O G H vs ds Q g r h => ?_⟩
  · dsimp only [pc] at z ⊢; unfold toIntD at z ⊢
    split at z
    · exact q _ z
    · exact q _ z
    · exact z
  · dsimp only [pc] at h; unfold toIntD at h
    split at h
    · cases r with | cons r1 r2 => cases r2; cases r1; exact .inl ⟨_, rfl, h _ _ _ (Step.refl g) (.int _)⟩
    · cases r with | cons r1 r2 => cases r2; cases r1; exact .inr ⟨_, rfl, h _ _ _ (Step.refl g) (.int _)⟩
    · exact h.elim
theorem cd_all (hc : X.calm = true) : CallD X B (.builtin "all") (pc allD) := by
  refine ⟨fun O x Q Q' q z => ?_, _, cr_all hc, fun O G H vs ds Q g r h => ?_⟩
  · dsimp only [pc] at z ⊢; unfold allD at z ⊢
    split at z
    · split at z
      · exact q _ z
      · exact z
    · exact z
  · dsimp only [pc] at h; unfold allD at h
    split at h
    · split at h
      · rename_i bs eb
        cases r with | cons r1 r2 => cases r2; cases r1 with | lst s l => exact ⟨_, bs, rfl, by rw [← toBs_vs l eb]; exact g.sub.lstL s, h _ _ _ (Step.refl g) (.bl _)⟩
      · exact h.elim
    · exact h.elim
theorem cd_any (hc : X.calm = true) : CallD X B (.builtin "any") (pc anyD) := by
  refine ⟨fun O x Q Q' q z => ?_, _, cr_any hc, fun O G H vs ds Q g r h => ?_⟩
  · dsimp only [pc] at z ⊢; unfold anyD at z ⊢
    split at z
    · split at z
      · exact q _ z
      · exact z
    · exact z
  · dsimp only [pc] at h; unfold anyD at h
    split at h
    · split at h
      · rename_i bs eb
        cases r with | cons r1 r2 => cases r2; cases r1 with | lst s l => exact ⟨_, bs, rfl, by rw [← toBs_vs l eb]; exact g.sub.lstL s, h _ _ _ (Step.refl g) (.bl _)⟩
      · exact h.elim
    · exact h.elim
theorem cd_isi : CallD X B (.builtin "isinstance") (pc isiD) := by
  refine ⟨fun O x Q Q' q z => ?_, _, call_isi, fun O G H vs ds Q g r h => ?_⟩
  · dsimp only [pc] at z ⊢; unfold isiD at z ⊢
    split at z
    · exact ⟨z.1, z.2.1, q _ z.2.2⟩
    · exact z
  · dsimp only [pc] at h; unfold isiD at h
    split at h
    · obtain ⟨h1, h2, h3⟩ := h
      obtain ⟨t, ht⟩ := Option.isSome_iff_exists.mp h2
      cases r with
      | cons r1 r2 =>
        cases r2 with
        | cons r3 r4 =>
          cases r4
          cases r3
          exact ⟨_, _, _, _, _, rfl, .ty _, r1.ty g.sub ht, kit_isi ht h1, h3 _ _ _ (Step.refl g) (.bl _)⟩
    · exact h.elim
/-- isinstance(x, (A, B, ..)) -/
def dIsiT (m : DE) (mA : DA) : DE := fun ρ O Q E => m ρ O (fun x O1 => mA ρ O1 (fun cs O2 => cs.length ≤ 100 ∧ (tyD x).isSome = true ∧ match isAny x cs with
  | some b => Q (.bl b) O2
  | none => False) E) E
theorem d_isiT {es : List Expr} {mA : DA} {k : Nat} {tpos : Pos} (hg : Gl X "isinstance") (hm : X.mg "isinstance" = none) (he : DPE X L e m) (ha : DPA X L es mA)
    (hs : starEach [e, .Tuple es k tpos] X.env = (false, eval e X.env) :: starEach [.Tuple es k tpos] X.env) (hs2 : starEach [.Tuple es k tpos] X.env = (false, eval (.Tuple es k tpos) X.env) :: starEach [] X.env) (hpl : (backTo pos (starEach [.Tuple es k tpos] X.env)).any (·.1) = false) :
    DPE X L (.Call (.Name "isinstance" p) [e, .Tuple es k tpos] [] pos) (dIsiT m mA) := by
  refine ⟨fun ρ O Q Q' E E' q hx x => he.mo _ _ _ _ _ _ (fun _ _ z => ha.mo _ _ _ _ _ _ (fun cs _ y => ⟨y.1, y.2.1, ?_⟩) hx z) hx x, pe_imp (pe_callB call_isiT hg hm boot_isinstance (pa_cons he.run (pa_cons (pe_tup ha.run) pa_nil hs2) hs) (by decide) (by decide) hs hpl) fun σ H Q ⟨G, O, ρ, g, rs, q⟩ => ?_⟩
  · obtain ⟨_, _, y⟩ := y
    split at y
    · exact q _ _ y
    · exact y
  · refine up_of he.mo g rs q fun x v O1 G1 H1 q1 s1 r1 => ?_
    refine upA_of ha.mo s1.good (rs.step s1) (mo_step ha.mo s1 q1) fun cs vs O2 G2 H2 q2 s2 r2 => ?_
    obtain ⟨h1, h2, h3⟩ := q2
    obtain ⟨t, ht⟩ := Option.isSome_iff_exists.mp h2
    refine ⟨by rw [r2.length]; exact Nat.le_trans h1 (by decide), fun p np => ?_⟩
    split at h3
    · rename_i b eb
      obtain ⟨us, pu, ku⟩ := isAny_run ht r2 eb
      have s3 := Step.new (o := .tup vs) s2.good np
      exact ⟨_, _, _, _, _, _, rfl, upd_same, pu, (r1.mono (s2.trans s3).grow).ty s3.good.sub ht, ku, h3 _ _ _ ((s1.trans s2).trans s3) (.bl _)⟩
    · exact h3.elim
/-- a built-in class's name as a value -/
theorem d_ty {x : Str} {n : String} (hg : Gl X x) (hm : X.mg x = none) (hv : bootBuiltins x = some (.type n)) (hn : x ≠ "__name__") (hd : (x == ("__debug__" : Str)) = false) : DPE X L (.Name x pos) (dC (.opq (.ty n))) := d_c (v := .ty n) (pe_bltn hg hm hv rfl hn hd) fun _ => .opq _
/-- a module's constant -/
theorem d_glob {x : Str} {v : V} {d : D} {u : Value} (hg : Gl X x) (hm : X.mg x = some u) (r : RelV v u) (hd : (x == ("__debug__" : Str)) = false) (rd : ∀ G, Rp X.K G v d) : DPE X L (.Name x pos) (dC d) := d_c (pe_glob hg hm r hd) rd
theorem d_globI {x : Str} {i : Int} {t : Tok} (hg : Gl X x) (hm : X.mg x = some (.int i t)) (hd : (x == ("__debug__" : Str)) = false) : DPE X L (.Name x pos) (dC (.int i)) := d_c (v := .int i) (pe_glob hg hm ⟨t, rfl⟩ hd) fun _ => .int i
theorem d_globS {x : Str} {i : Str} {t : Tok} (hg : Gl X x) (hm : X.mg x = some (.str i t)) (hd : (x == ("__debug__" : Str)) = false) : DPE X L (.Name x pos) (dC (.str i)) := d_c (v := .str i) (pe_glob hg hm ⟨t, rfl⟩ hd) fun _ => .str i
/-! ### texts -/
def toSs : List D → Option (List Str)
  | [] => some []
  | .str b :: r => (toSs r).map (b :: ·)
  | _ => none
theorem toSs_vs {K : PySem.W.Frag} {G : Hp} : ∀ {ds : List D} {vs : List V} {bs : List Str}, RpL K G vs ds → toSs ds = some bs → vs = bs.map V.str
  | [], _, _, .nil, e => by cases e; rfl
  | .str b :: r, _, _, .cons (.str _) t, e => by
    simp only [toSs, Option.map_eq_some_iff] at e
    obtain ⟨bs, e1, rfl⟩ := e
    rw [toSs_vs t e1]; rfl
def joinOn (a : Str) (xs : List D) (Q : D → Prop) : Prop := match toSs xs with
  | some ys => (ys.map (·.length)).sum + ys.length * a.length ≤ 16777216 ∧ Q (.str (Txt.join a ys))
  | none => False
def joinD (a : Str) : D → (D → Prop) → Prop
  | .lst xs, Q => joinOn a xs Q
  | .tup xs, Q => joinOn a xs Q
  | _, _ => False
theorem joinOn_mo {a : Str} {xs : List D} {Q Q' : D → Prop} (h : ∀ d, Q d → Q' d) (z : joinOn a xs Q) : joinOn a xs Q' := by
  unfold joinOn at z ⊢
  split at z
  · exact ⟨z.1, h _ z.2⟩
  · exact z
theorem joinD_mo : ∀ a y Q Q', (∀ d, Q d → Q' d) → joinD a y Q → joinD a y Q' := fun x y Q Q' h z => by
  unfold joinD at z ⊢
  split at z
  · exact joinOn_mo h z
  · exact joinOn_mo h z
  · exact z
/-- s.m(e) of a text -/
def dM1 (o : Str → D → (D → Prop) → Prop) (mo m : DE) : DE := fun ρ O Q E => mo ρ O (fun x O1 => match x with
  | .str a => m ρ O1 (fun y O2 => o a y fun d => Q d O2) E
  | _ => False) E
theorem mo_m1 {o : Str → D → (D → Prop) → Prop} (ho : ∀ a y Q Q', (∀ d, Q d → Q' d) → o a y Q → o a y Q') (h1 : Mo mo') (h2 : Mo m) : Mo (dM1 o mo' m) := fun ρ O Q Q' E E' q hx x => h1 ρ _ _ _ _ _ (fun d O1 z => by
  cases d <;> first
    | exact h2 ρ _ _ _ _ _ (fun _ _ y => ho _ _ _ _ (fun _ => q _ _) y) hx z
    | exact z) hx x
theorem d_m1 {id : String} {name : Str} {apos : Pos} {r : V → List V → Hp → VK → Prop} {o' : Str → D → (D → Prop) → Prop} (slot : Slot "str" name id) (ty : typeOf (.builtin id) = pure (.type "method_descriptor")) (rule : MtR X id r)
    (hr : ∀ O G H a vy y Q, Good X.K L.B O G H → Rp X.K G vy y → o' a y (fun d => kv X.K L.B O G H Q d O) → r (.str a) [vy] H Q) (mo1 : ∀ a y Q Q', (∀ d, Q d → Q' d) → o' a y Q → o' a y Q') (ho : DPE X L o mo') (he : DPE X L e m)
    (hs : starEach [e] X.env = [(false, eval e X.env)]) (hbase : attributeBase o name X.env (eval o X.env) = eval o X.env) (hline : (apos.endLine == pos.line) = true) :
    DPE X L (.Call (.Attribute o name apos) [e] [] pos) (dM1 o' mo' m) := by
  refine ⟨mo_m1 mo1 ho.mo he.mo, pe_imp (pe_m1 slot ty rule ho.run he.run hs hbase hline) fun σ H Q ⟨G, O, ρ, g, rs, q⟩ => ?_⟩
  refine up_of ho.mo g rs q fun x v O1 G1 H1 q1 s1 r1 => ?_
  cases r1 with
  | str a =>
    refine ⟨⟨a, rfl⟩, up_of he.mo s1.good (rs.step s1) (mo_step he.mo s1 q1) fun y vy O2 G2 H2 q2 s2 r2 => ?_⟩
    exact hr O2 G2 H2 a vy y Q s2.good r2 (mo1 _ _ _ _ (fun _ z => z.step (s1.trans s2)) q2)
  | non => exact q1.elim
  | bl => exact q1.elim
  | int => exact q1.elim
  | opq => exact q1.elim
  | lst => exact q1.elim
  | tup => exact q1.elim
  | dic => exact q1.elim
  | ins => exact q1.elim
  | exc => exact q1.elim
  | lam => exact q1.elim
theorem d_join {apos : Pos} (ho : DPE X L o mo') (he : DPE X L e m) (hs : starEach [e] X.env = [(false, eval e X.env)]) (hbase : attributeBase o "join" X.env (eval o X.env) = eval o X.env) (hline : (apos.endLine == pos.line) = true) :
    DPE X L (.Call (.Attribute o "join" apos) [e] [] pos) (dM1 joinD mo' m) := by
  refine d_m1 F.slot_str_join F.type_str_join mt_join (fun O G H a vy y Q g ry h => ?_) joinD_mo ho he hs hbase hline
  unfold joinD at h
  split at h
  · unfold joinOn at h
    split at h
    · rename_i ys e1
      cases ry with
      | lst sq rl => exact ⟨a, _, ys, rfl, rfl, .inl (by rw [← toSs_vs rl e1]; exact g.sub.lstL sq), h.1, h.2 _ _ _ (Step.refl g) (.str _)⟩
    · exact h.elim
  · unfold joinOn at h
    split at h
    · rename_i ys e1
      cases ry with
      | tup sq rl => exact ⟨a, _, ys, rfl, rfl, .inr (by rw [← toSs_vs rl e1]; exact g.sub.sqT sq), h.1, h.2 _ _ _ (Step.refl g) (.str _)⟩
    · exact h.elim
  · exact h.elim
end
end EV
set_option Elab.async false
set_option linter.all false
set_option maxRecDepth 100000
set_option maxHeartbeats 4000000
namespace EV
open PySem PySem.Spec PyProof.Rows L2
/-! ### zip of two lists, tuples, texts -/
inductive Src where
  | lst (a : Addr) | tup (a : Addr) | str (y : Str)
def SrcAt (K : PySem.W.Frag) (H : Hp) : Src → List V → Prop
  | .lst a, xs => SqL K H a xs
  | .tup a, xs => SqT K H a xs
  | .str y, xs => xs = y.cps.toList.map fun c => V.str ⟨#[c]⟩
def Src.fp : Src → List Addr
  | .lst a => [a]
  | .tup a => [a]
  | .str _ => []
/-- the iterator at it of the source stands at i -/
def Src.pos (s : Src) (it : Addr) (i : Nat) (h : Heap) : Prop := match s with
  | .lst a => h.IsListIter it a i
  | .tup a => h.IsTupleIter it a i
  | .str y => ∃ t, h.IsStrIter it (strIterType y) y t i
def SrcV (v : V) (s : Src) : Prop := match s with
  | .lst a => v = .ref a
  | .tup a => v = .ref a
  | .str y => v = .str y
theorem Src.pos_at {s : Src} {it : Addr} {i : Nat} {h h' : Heap} (p : s.pos it i h) (k : ∀ o, h.get? it = some o → h'.get? it = some o) : s.pos it i h' := by
  cases s with
  | lst a => exact p.at k
  | tup a => exact p.at k
  | str y => obtain ⟨t, o, e, r⟩ := p; exact ⟨t, o, k _ e, r⟩
theorem Src.pos_obj {s : Src} {it : Addr} {i : Nat} {h : Heap} (p : s.pos it i h) : ∃ o, h.get? it = some o ∧ ∀ v, o.data ≠ .cell v := by
  cases s with
  | lst a => obtain ⟨o, e, _, d⟩ := p; exact ⟨o, e, fun v q => by rw [d] at q; cases q⟩
  | tup a => obtain ⟨o, e, _, d⟩ := p; exact ⟨o, e, fun v q => by rw [d] at q; cases q⟩
  | str y => obtain ⟨t, o, e, _, d⟩ := p; exact ⟨o, e, fun v q => by rw [d] at q; cases q⟩
section
variable {X : Cx} {pins : List (Addr × Obj)} {σ : L2.St} {H : Hp} {s : Shared}
theorem src_inj (I : Inv X pins σ H s) {r : Src} {xs ys : List V} (h1 : SrcAt X.K H r xs) (h2 : SrcAt X.K H r ys) : xs = ys := by
  cases r with
  | lst a => exact I.list_inj h1 h2
  | tup a => exact I.tuple_inj h1 h2
  | str y => exact h1.trans h2.symm
/-- what the source's iterator draws, where it stands -/
theorem src_draws (I : Inv X pins σ H s) {r : Src} {xs : List V} {it : Addr} {i : Nat} (h : SrcAt X.K H r xs) (p : r.pos it i s.heap) (A : Around) (hh : A.handled = none) (ne : it ∉ r.fp) :
    ∃ (fp : List Addr) (P : Nat → Value → Prop) (St : Nat → Heap → Prop), fp = it :: r.fp ∧ Draws X.prog X.w A it fp xs.length P St ∧ St i s.heap ∧ (∀ j u, P j u → ∃ x, xs[j]? = some x ∧ RelV x u) ∧ ∀ j h, St j h → r.pos it j h := by
  cases r with
  | lst a =>
    obtain ⟨its, rv, pl, _⟩ := I.list h
    refine ⟨[it, a], fun i v => its.toArray[i]? = some v, fun i h => h.IsListIter it a i ∧ h.IsList a its.toArray, rfl, by rw [rv.length]; exact Draws.list hh it a (fun z => ne (by simp [Src.fp, z])) its.toArray, ⟨p, pl.isList⟩, fun j u hj => ?_, fun j h st => st.1⟩
    have hj' : its[j]? = some u := by simpa using hj
    cases e : xs[j]? with
    | none => rw [rv.none_of e] at hj'; cases hj'
    | some x =>
      obtain ⟨u', e2, r2⟩ := rv.get e
      rw [hj'] at e2
      cases e2
      exact ⟨x, rfl, r2⟩
  | tup a =>
    obtain ⟨its, rv, pl, _⟩ := I.tuple h
    refine ⟨[it, a], fun i v => its.toArray[i]? = some v, fun i h => h.IsTupleIter it a i ∧ h.IsTuple a its.toArray, rfl, by rw [rv.length]; exact Draws.tuple hh it a (fun z => ne (by simp [Src.fp, z])) its.toArray, ⟨p, pl⟩, fun j u hj => ?_, fun j h st => st.1⟩
    have hj' : its[j]? = some u := by simpa using hj
    cases e : xs[j]? with
    | none => rw [rv.none_of e] at hj'; cases hj'
    | some x =>
      obtain ⟨u', e2, r2⟩ := rv.get e
      rw [hj'] at e2
      cases e2
      exact ⟨x, rfl, r2⟩
  | str y =>
    obtain ⟨t, p⟩ := p
    have h : xs = y.cps.toList.map fun c => V.str ⟨#[c]⟩ := h
    refine ⟨[it], _, _, rfl, by rw [h, List.length_map, Array.length_toList]; exact Draws.text hh it y t, p, fun j u hj => ?_, fun j h st => ⟨t, st⟩⟩
    obtain ⟨c, u', e, rfl⟩ := hj
    refine ⟨.str ⟨#[c]⟩, ?_, ⟨u', rfl⟩⟩
    rw [h, List.getElem?_map, Array.getElem?_toList, e]
    rfl
end
def Itzz (K : PySem.W.Frag) (r1 r2 : Src) : It :=
  ⟨fun i H => ∃ (xs ys : List V) (x y : V), SrcAt K H r1 xs ∧ SrcAt K H r2 ys ∧ xs[i]? = some x ∧ ys[i]? = some y,
    fun i H v H' => ∃ T x y, v = .ref T ∧ H T = none ∧ H' = upd H T (.tup [x, y]) ∧ (∀ xs, SrcAt K H r1 xs → xs[i]? = some x) ∧ ∀ ys, SrcAt K H r2 ys → ys[i]? = some y,
    fun i H => ∃ xs ys : List V, SrcAt K H r1 xs ∧ SrcAt K H r2 ys ∧ i = min xs.length ys.length⟩
theorem turn_zz {P : Program} {w : World} {K : PySem.W.Frag} {elts : List Expr} {kk : Nat} {tpos : Pos} {z TI TO i1 i2 : Addr} {r1 r2 : Src} (S : ZipSep2 z TI TO i1 i2 (i1 :: r1.fp) (i2 :: r2.fp)) (n1 : i1 ∉ r1.fp) (n2 : i2 ∉ r2.fp) (nTI : TI ∉ r1.fp ∧ TI ∉ r2.fp) :
    Turn P w K (.Tuple elts kk tpos) (Itzz K r1 r2) [z, TI, TO, i1, i2] z (fun i h => IsZip h z TI TO .none ∧ IsTupOf2 h TI (.ref i1) (.ref i2) ∧ (∃ x y, IsTupOf2 h TO x y) ∧ r1.pos i1 i h ∧ r2.pos i2 i h) where
  mem := by simp
  obj := fun i h st c hc => by
    obtain ⟨hz, hTI, ⟨x, y, hTO⟩, p1, p2⟩ := st
    have e' : c = z ∨ c = TI ∨ c = TO ∨ c = i1 ∨ c = i2 := by simpa using hc
    rcases e' with q | q | q | q | q
    · rw [q]; exact ⟨_, hz, fun v q => nomatch q⟩
    · rw [q]; exact ⟨_, hTI, fun v q => nomatch q⟩
    · rw [q]; exact ⟨_, hTO, fun v q => nomatch q⟩
    · rw [q]; exact Src.pos_obj p1
    · rw [q]; exact Src.pos_obj p2
  keep := fun i h h' st k => by
    obtain ⟨hz, hTI, ⟨x, y, hTO⟩, p1, p2⟩ := st
    exact ⟨k z (by simp) _ hz, k TI (by simp) _ hTI, ⟨x, y, k TO (by simp) _ hTO⟩, Src.pos_at p1 fun o q => k i1 (by simp) o q, Src.pos_at p2 fun o q => k i2 (by simp) o q⟩
  item := by
    intro X hP hw hK hc i pins s σ H E I hf st hg
    subst hP hw hK
    obtain ⟨hz, hTI, hTO, p1, p2⟩ := st
    obtain ⟨xs, ys, x, y, q1, q2, hx, hy⟩ := hg
    have hh : X.A.in1.handled = none := I.ok.hd hc
    obtain ⟨fp1, P1, St1, rfl, D1, st1, rel1, pos1⟩ := src_draws I q1 p1 X.A.in1 hh n1
    obtain ⟨fp2, P2, St2, rfl, D2, st2, rel2, pos2⟩ := src_draws I q2 p2 X.A.in1 hh n2
    have W := WalksT.zipD2 (A := X.A) S D1 D2
    have hi : i < min xs.length ys.length := by
      have a := getElem?_lt hx
      have b := getElem?_lt hy
      omega
    refine W.item i s _ E hi ⟨hz, hTI, hTO, st1, st2⟩ fun T vals h' tk hp hT hTup mid keep => ?_
    refine ⟨_, rfl, W.go elts kk tpos i T { s with heap := h', toks := tk } _ E mid fun h2 stn keep2 => ?_⟩
    obtain ⟨u, v, pu, pv, rfl⟩ := hp
    obtain ⟨x', ex, ru⟩ := rel1 i u pu
    obtain ⟨y', ey, rv⟩ := rel2 i v pv
    rw [hx] at ex
    rw [hy] at ey
    cases ex
    cases ey
    have nT : T ∉ [z, TO, i1, i2] := W.apart i T h' mid
    have hT2 : h2.IsTuple T #[u, v] := hTup.at fun o e => keep2 T o nT e
    have new : ObjOk X.prog X.w (upd H T (.tup [x, y])) h2 T (.tup [x, y]) := ⟨by show 2 ≤ sizeLine; decide, [u, v], .cons ru (.cons rv .nil), hT2⟩
    have kk2 : ∀ c o, c ∉ [z, TI, TO, i1, i2] → s.heap.get? c = some o → h2.get? c = some o := fun c o hc e => by
      have n : c ∉ [z, TO, i1, i2] := fun q => hc (by simp at q ⊢; rcases q with q | q | q | q <;> simp [q])
      exact keep2 c o n (keep c o n e)
    have I1 : Inv X pins σ (upd H T (.tup [x, y])) { s with heap := h2, toks := tk } := I.turnedNew (t' := tk) (ch := [z, TI, TO, i1, i2]) kk2 hf hT new
    refine ⟨.ref T, _, I1, rfl, ⟨T, x, y, rfl, I.hok.fresh hT, rfl, fun l hl => by rw [src_inj I hl q1]; exact hx, fun l hl => by rw [src_inj I hl q2]; exact hy⟩, ⟨stn.1, stn.2.1, stn.2.2.1, pos1 _ _ stn.2.2.2.1, pos2 _ _ stn.2.2.2.2⟩, fun c hcm => ?_⟩
    have hlt : c < s.heap.objs.size := by
      have e' : c = z ∨ c = TI ∨ c = TO ∨ c = i1 ∨ c = i2 := by simpa using hcm
      rcases e' with q | q | q | q | q
      · rw [q]; exact Heap.lt_size hz
      · rw [q]; exact Heap.lt_size hTI
      · obtain ⟨a, b, hTO⟩ := hTO
        rw [q]; exact Heap.lt_size hTO
      · rw [q]; obtain ⟨o, e, _⟩ := Src.pos_obj p1; exact Heap.lt_size e
      · rw [q]; obtain ⟨o, e, _⟩ := Src.pos_obj p2; exact Heap.lt_size e
    rw [upd_ne (Nat.ne_of_lt (Nat.lt_of_lt_of_le hlt hT))]
    exact (hf c hcm).1
  done := by
    intro X hP hw hK hc i pins s σ H E I hf st hg
    subst hP hw hK
    obtain ⟨hz, hTI, hTO, p1, p2⟩ := st
    obtain ⟨xs, ys, q1, q2, hend⟩ := hg
    have hh : X.A.in1.handled = none := I.ok.hd hc
    obtain ⟨fp1, P1, St1, rfl, D1, st1, rel1, pos1⟩ := src_draws I q1 p1 X.A.in1 hh n1
    obtain ⟨fp2, P2, St2, rfl, D2, st2, rel2, pos2⟩ := src_draws I q2 p2 X.A.in1 hh n2
    have W := WalksT.zipD2 (A := X.A) S D1 D2
    subst hend
    refine W.done s _ E ⟨hz, hTI, hTO, st1, st2⟩ fun h' tk keep => ⟨rfl, I.turnedL (t' := tk) (ch := [z, TI, TO, i1, i2]) (fun c o hc e => ?_) hf⟩
    exact keep c o (fun q => hc (by simp at q ⊢; rcases q with q | q | q | q <;> simp [q])) e
  self := fun A i s Q E st h => wpAny_pyIter_zip st.1 h
section
variable {X : Cx} {L : Pl} {pins : List (Addr × Obj)} {σ : L2.St} {H : Hp} {s : Shared} {e e2 : Expr} {mA : DA} {pos p : Pos}
theorem src_begins (I : Inv X pins σ H s) {r : Src} {xs : List V} {v : V} {u : Value} (hv : SrcV v r) (h : SrcAt X.K H r xs) (ru : RelV v u) :
    ∃ (o : Obj) (Hc : Heap → Prop), Begins u o Hc ∧ Hc s.heap ∧ (∀ it h', h'.get? it = some o → r.pos it 0 h') ∧ ∀ b ∈ r.fp, b < s.heap.objs.size := by
  cases r with
  | lst a =>
    cases (show v = .ref a from hv)
    cases ru
    obtain ⟨its, rv, pl, _⟩ := I.list h
    refine ⟨_, _, begins_list a its.toArray, pl.isList, fun it h' e => ⟨_, e, rfl, rfl⟩, fun b hb => ?_⟩
    have hb : b = a := by simpa [Src.fp] using hb
    rw [hb]
    obtain ⟨o, e, _⟩ := pl.isList
    exact Heap.lt_size e
  | tup a =>
    cases (show v = .ref a from hv)
    cases ru
    obtain ⟨its, rv, pl, _⟩ := I.tuple h
    refine ⟨_, _, begins_tuple a its.toArray, pl, fun it h' e => ⟨_, e, rfl, rfl⟩, fun b hb => ?_⟩
    have hb : b = a := by simpa [Src.fp] using hb
    rw [hb]
    obtain ⟨o, e, _⟩ := (show s.heap.IsTuple a its.toArray from pl)
    exact Heap.lt_size e
  | str y =>
    cases (show v = .str y from hv)
    obtain ⟨t, rfl⟩ := ru
    exact ⟨_, _, begins_text y t, trivial, fun it h' e => ⟨t, _, e, rfl, rfl⟩, fun b hb => by cases hb⟩
def iZz (K : PySem.W.Frag) (ta : TA) : TI := fun σ H R => ta σ H fun vs H1 => ∃ v1 v2 r1 r2, vs = [v1, v2] ∧ SrcV v1 r1 ∧ SrcV v2 r2 ∧ (∃ xs, SrcAt K H1 r1 xs) ∧ (∃ ys, SrcAt K H1 r2 ys) ∧ R (Itzz K r1 r2) H1
theorem pi_zz {ta : TA} {tpos : Pos} {elts : List Expr} {kk : Nat} (hg : Gl X "zip") (hm : X.mg "zip" = none) (ha : PA X [e, e2] ta)
    (hs : starEach [e, e2] X.env = (false, eval e X.env) :: starEach [e2] X.env) (hpl : (backTo pos (starEach [e2] X.env)).any (·.1) = false) :
    PI X (.Tuple elts kk tpos) (.Call (.Name "zip" p) [e, e2] [] pos) (iZz X.K ta) := by
  refine ⟨fun pins s σ H R I h => ?_⟩
  refine Call_ (ld_blt I hg hm PyProof.Rows.boot_zip (PyProof.Rows.callWith_type1 (thn (ha.run pos pins s σ H _ I h) fun us s1 ⟨vs, H1, I1, r1, q1⟩ => ?_) hs hpl))
  obtain ⟨v1, v2, c1, c2, ex, k1, k2, ⟨xs, a1⟩, ⟨ys, a2⟩, q⟩ := q1
  subst ex
  cases r1 with
  | cons r rr =>
    cases rr with
    | cons r' rr =>
      cases rr
      obtain ⟨o1, Hc1, B1, h1, p1, f1⟩ := src_begins I1 k1 a1 r
      obtain ⟨o2, Hc2, B2, h2, p2, f2⟩ := src_begins I1 k2 a2 r'
      refine zip_begins2 B1 B2 h1 h2 fun h' hz hTI hTO g1 g2 hsz hk => ?_
      refine wpAny_pyIter_zip hz ?_
      have S := zip_sep2 (N := s1.heap.objs.size) f1 f2
      have nf : ∀ {fp : List Addr} {c : Addr}, (∀ b ∈ fp, b < s1.heap.objs.size) → s1.heap.objs.size ≤ c → c ∉ fp := fun hf hc z => absurd (Nat.lt_of_lt_of_le (hf _ z) hc) (Nat.lt_irrefl _)
      have I2 : Inv X pins σ H1 { s1 with heap := h' } := I1.kept (t' := s1.toks) hk
      refine ⟨s1.heap.objs.size + 4, [s1.heap.objs.size + 4, s1.heap.objs.size + 2, s1.heap.objs.size + 3, s1.heap.objs.size, s1.heap.objs.size + 1], _, _, H1, rfl, I2,
        turn_zz S (nf f1 (Nat.le_refl _)) (nf f2 (Nat.le_succ _)) ⟨nf f1 (Nat.le_add_right _ _), nf f2 (Nat.le_add_right _ _)⟩, ⟨hz, hTI, ⟨_, _, hTO⟩, p1 _ _ g1, p2 _ _ g2⟩, fun b hb => ?_, q⟩
      have hb' : s1.heap.objs.size ≤ b := by
        have e' : b = s1.heap.objs.size + 4 ∨ b = s1.heap.objs.size + 2 ∨ b = s1.heap.objs.size + 3 ∨ b = s1.heap.objs.size ∨ b = s1.heap.objs.size + 1 := by simpa using hb
        rcases e' with q | q | q | q | q <;> rw [q]
        · exact Nat.le_add_right _ _
        · exact Nat.le_add_right _ _
        · exact Nat.le_add_right _ _
        · exact Nat.le_refl _
        · exact Nat.le_succ _
      exact I1.fpOk hb' (I1.hok.fresh hb')
def zipL (xs ys : List D) : List D := List.zipWith (fun a b => .tup [a, b]) xs ys
/-- the items of a datum that is shown -/
def itemsP : D → (List D → Prop) → Prop
  | .lst xs, Q => Q xs
  | .tup xs, Q => Q xs
  | .str y, Q => Q (charsD y)
  | _, _ => False
theorem itemsP_mo : ∀ {x : D} {Q Q' : List D → Prop}, (∀ d, Q d → Q' d) → itemsP x Q → itemsP x Q'
  | .lst _, _, _, h, z => h _ z
  | .tup _, _, _, h, z => h _ z
  | .str _, _, _, h, z => h _ z
def zipD : List D → (IL → Prop) → Prop
  | [x, y], Q => itemsP x fun xs => itemsP y fun ys => Q (tt1, zipL xs ys)
  | _, _ => False
theorem zipD_mo {x : List D} {Q Q' : IL → Prop} (h : ∀ d, Q d → Q' d) (z : zipD x Q) : zipD x Q' := by
  unfold zipD at z ⊢
  split at z
  · exact itemsP_mo (fun _ y => itemsP_mo (fun _ w => h _ w) y) z
  · exact z
def dZip (mA : DA) : DI := fun ρ O Q E => mA ρ O (fun xs O1 => zipD xs fun l => Q l O1) E
/-- a datum that is walked, as a source -/
theorem src_of {K : PySem.W.Frag} {G : Hp} {v : V} {d : D} {Q : List D → Prop} (r : Rp K G v d) (h : itemsP d Q) : ∃ (c : Src) (xs : List V) (ds : List D), SrcV v c ∧ RpL K G xs ds ∧ (∀ H, Sub G H → SrcAt K H c xs) ∧ Q ds := by
  cases r with
  | lst s l => exact ⟨.lst _, _, _, rfl, l, fun H sb => sb.lstL s, h⟩
  | tup s l => exact ⟨.tup _, _, _, rfl, l, fun H sb => sb.sqT s, h⟩
  | str y =>
    refine ⟨.str y, _, charsD y, rfl, ?_, fun H _ => rfl, h⟩
    have : ∀ cs : List Nat, RpL K G (cs.map fun c => V.str ⟨#[c]⟩) (cs.map fun c => D.str ⟨#[c]⟩) := fun cs => by
      induction cs with
      | nil => exact .nil
      | cons c r ih => exact .cons (.str _) ih
    exact this _
  | non => exact h.elim
  | bl => exact h.elim
  | int => exact h.elim
  | opq => exact h.elim
  | dic => exact h.elim
  | ins => exact h.elim
  | exc => exact h.elim
  | lam => exact h.elim
theorem itd_zz {K : PySem.W.Frag} {B : Bo} {G0 : Hp} {c1 c2 : Src} {xs ys : List V} {ds es : List D} (r1 : RpL K G0 xs ds) (r2 : RpL K G0 ys es) (a1 : ∀ H, Sub G0 H → SrcAt K H c1 xs) (a2 : ∀ H, Sub G0 H → SrcAt K H c2 ys) : ItD K B G0 (Itzz K c1 c2) (tt1, zipL ds es) := fun i O G H g sb _ => by
  have sH := sb.trans g.sub
  have hl : (zipL ds es).length = min xs.length ys.length := by simp [zipL, r1.length, r2.length]
  refine ⟨fun d e => ?_, fun (h : i = (zipL ds es).length) => ⟨xs, ys, a1 H sH, a2 H sH, by rw [← hl]; exact h⟩⟩
  have e : (zipL ds es)[i]? = some d := e
  unfold zipL at e
  rw [List.getElem?_zipWith] at e
  split at e
  · rename_i d1 d2 e1 e2
    cases e
    obtain ⟨v1, f1, q1⟩ := r1.get e1
    obtain ⟨v2, f2, q2⟩ := r2.get e2
    refine ⟨⟨xs, ys, v1, v2, a1 H sH, a2 H sH, f1, f2⟩, fun x H' y => ?_⟩
    obtain ⟨T, x', y', rfl, nT, rfl, g1, g2⟩ := y
    have h1 := g1 xs (a1 H sH)
    have h2 := g2 ys (a2 H sH)
    rw [f1] at h1
    rw [f2] at h2
    cases h1
    cases h2
    exact ⟨_, Step.new g nT, new_tup g nT (.cons (q1.mono sb) (.cons (q2.mono sb) .nil))⟩
  · cases e
theorem d_zip {tpos : Pos} {elts : List Expr} {kk : Nat} (hg : Gl X "zip") (hm : X.mg "zip" = none) (ha : DPA X L [e, e2] mA)
    (hs : starEach [e, e2] X.env = (false, eval e X.env) :: starEach [e2] X.env) (hpl : (backTo pos (starEach [e2] X.env)).any (·.1) = false) :
    DPI X L (.Tuple elts kk tpos) (.Call (.Name "zip" p) [e, e2] [] pos) (dZip mA) := by
  refine ⟨fun ρ O Q Q' E E' q hx x => ha.mo ρ _ _ _ _ _ (fun _ _ z => zipD_mo (fun _ => q _ _) z) hx x, pi_imp (pi_zz hg hm ha.run hs hpl) fun σ H Q ⟨G, O, ρ, g, rs, q⟩ => ?_⟩
  refine upA_of ha.mo g rs q fun xs vs O1 G1 H1 q1 s1 r1 => ?_
  unfold zipD at q1
  split at q1
  · cases r1 with
    | cons r2 r3 =>
      cases r3 with
      | cons r4 r5 =>
        cases r5
        obtain ⟨c1, xs1, ds1, k1, l1, a1, q1⟩ := src_of r2 q1
        obtain ⟨c2, xs2, ds2, k2, l2, a2, q1⟩ := src_of r4 q1
        exact ⟨_, _, c1, c2, rfl, k1, k2, ⟨_, a1 _ s1.good.sub⟩, ⟨_, a2 _ s1.good.sub⟩, q1 _ _ _ s1 (itd_zz l1 l2 a1 a2)⟩
  · exact q1.elim
end
end EV
set_option Elab.async false
set_option linter.all false
set_option maxRecDepth 100000
set_option maxHeartbeats 4000000
namespace EV
open PySem PySem.Spec PyProof.Rows L2
/-! ### comprehensions read -/
/-- one turn: Qy where an item is kept, Qs where not -/
def elW (g : DG) (tt : DT) (te : DE) (ρ : Slots) (d : D) (O : Ow) (Qy : QD) (Qs : Ow → Prop) : Prop :=
  g d ρ fun ρ' => tt ρ' O (fun c O1 => bc c (te ρ' O1 Qy (fun _ _ => False)) (Qs O1)) (fun _ _ => False)
theorem lcW_cons {I : Ow → Prop} {g : DG} {tt : DT} {te : DE} {ρ : Slots} {d : D} {ds acc : List D} {O : Ow} {Q : List D → Ow → Prop} (hI : I O) (h : elW g tt te ρ d O (fun y O1 => acc.length < sizeLine ∧ lcW I g tt te ρ ds (acc ++ [y]) O1 Q) (fun O1 => lcW I g tt te ρ ds acc O1 Q)) : lcW I g tt te ρ (d :: ds) acc O Q := ⟨hI, h⟩
/-- each turn gives what f tells, and changes nothing -/
theorem lcW_fm {I : Ow → Prop} {g : DG} {tt : DT} {te : DE} {ρ : Slots} {O : Ow} (hI : I O) (f : D → Option D) {Q : List D → Ow → Prop} : ∀ {ds acc : List D}, (∀ d ∈ ds, ∀ (Qy : QD) (Qs : Ow → Prop), (∀ y, f d = some y → Qy y O) → (f d = none → Qs O) → elW g tt te ρ d O Qy Qs) → acc.length + ds.length ≤ sizeLine →
    Q (acc ++ ds.filterMap f) O → lcW I g tt te ρ ds acc O Q
  | [], acc, _, _, q => ⟨hI, by simpa using q⟩
  | d :: ds, acc, h, hl, q => by
    have hl' : acc.length + (ds.length + 1) ≤ sizeLine := hl
    refine lcW_cons hI (h d List.mem_cons_self _ _ (fun y e => ⟨by omega, lcW_fm hI f (fun d' m => h d' (List.mem_cons_of_mem _ m)) (by simp; omega) ?_⟩) (fun e => lcW_fm hI f (fun d' m => h d' (List.mem_cons_of_mem _ m)) (by omega) ?_))
    · rw [List.filterMap_cons, e] at q
      simpa using q
    · rw [List.filterMap_cons, e] at q
      exact q
theorem lcW_map {I : Ow → Prop} {g : DG} {te : DE} {ρ : Slots} {O : Ow} (hI : I O) (f : D → D) {Q : List D → Ow → Prop} {ds acc : List D} (h : ∀ d ∈ ds, ∀ (Qy : QD), Qy (f d) O → g d ρ fun ρ' => te ρ' O Qy fun _ _ => False) (hl : acc.length + ds.length ≤ sizeLine) (q : Q (acc ++ ds.map f) O) : lcW I g dYes te ρ ds acc O Q := by
  refine lcW_fm hI (fun d => some (f d)) (fun d m Qy Qs h1 _ => ?_) hl (by simpa [List.filterMap_eq_map'] using q)
  exact h d m Qy (h1 _ rfl)
/-- each turn gives something that P tells of -/
inductive Each (P : D → D → Prop) : List D → List D → Prop
  | nil : Each P [] []
  | cons {d y : D} {ds ys : List D} : P d y → Each P ds ys → Each P (d :: ds) (y :: ys)
theorem Each.length {P : D → D → Prop} : ∀ {ds ys : List D}, Each P ds ys → ys.length = ds.length
  | _, _, .nil => rfl
  | _, _, .cons _ r => congrArg (· + 1) r.length
theorem lcW_each {I : Ow → Prop} {g : DG} {te : DE} {ρ : Slots} {O : Ow} (hI : I O) (P : D → D → Prop) {Q : List D → Ow → Prop} : ∀ {ds acc : List D}, (∀ d ∈ ds, ∀ (Qy : QD), (∀ y, P d y → Qy y O) → g d ρ fun ρ' => te ρ' O Qy fun _ _ => False) → acc.length + ds.length ≤ sizeLine →
    (∀ ys, Each P ds ys → Q (acc ++ ys) O) → lcW I g dYes te ρ ds acc O Q
  | [], acc, _, _, q => ⟨hI, by simpa using q [] .nil⟩
  | d :: ds, acc, h, hl, q => by
    have hl' : acc.length + (ds.length + 1) ≤ sizeLine := hl
    refine ⟨hI, h d List.mem_cons_self _ fun y py => ⟨by omega, lcW_each hI P (fun d' m => h d' (List.mem_cons_of_mem _ m)) (by simp; omega) fun ys r => ?_⟩⟩
    simpa using q (y :: ys) (.cons py r)
theorem toBs_map {α : Type} (f : α → Bool) : ∀ xs : List α, toBs (xs.map fun x => .bl (f x)) = some (xs.map f)
  | [] => rfl
  | x :: xs => by simp [toBs, toBs_map f xs]
theorem allD_of {xs : List D} {bs : List Bool} {Q : D → Prop} (h : toBs xs = some bs) (q : Q (.bl (bs.all id))) : allD [.lst xs] Q := by
  simp only [allD, h]
  exact q
theorem anyD_of {xs : List D} {bs : List Bool} {Q : D → Prop} (h : toBs xs = some bs) (q : Q (.bl (bs.any id))) : anyD [.lst xs] Q := by
  simp only [anyD, h]
  exact q

/-! ### texts as lists of codes; loops by an invariant -/
def co (x : Str) : List Nat := x.cps.toList
theorem co_len (x : Str) : (co x).length = x.length := by simp [co]; rfl
theorem co_app (x y : Str) : co (x ++ y) = co x ++ co y := by
  show (x.cps ++ y.cps).toList = _
  simp [co]
theorem co_inj {x y : Str} (h : co x = co y) : x = y := by
  cases x with
  | mk a =>
    cases y with
    | mk b =>
      have : a = b := Array.toList_inj.mp h
      rw [this]
theorem fold_sing (acc : Array Nat) : ∀ cs : List Nat, ((cs.map fun c => (⟨#[c]⟩ : Str)).foldl (fun acc p => acc ++ (Str.empty).cps ++ p.cps) acc).toList = acc.toList ++ cs
  | [] => by simp
  | c :: cs => by
    rw [List.map_cons, List.foldl_cons, fold_sing _ cs]
    simp [Str.empty]
theorem join_sing (cs : List Nat) : co (Txt.join Str.empty (cs.map fun c => ⟨#[c]⟩)) = cs := by
  cases cs with
  | nil => rfl
  | cons c cs =>
    show (((cs.map fun c => (⟨#[c]⟩ : Str))).foldl (fun acc p => acc ++ (Str.empty).cps ++ p.cps) #[c]).toList = c :: cs
    rw [fold_sing]
    rfl
theorem toSs_map {α : Type} (f : α → Str) : ∀ xs : List α, toSs (xs.map fun x => .str (f x)) = some (xs.map f)
  | [] => rfl
  | x :: xs => by simp [toSs, toSs_map f xs]
theorem co_cut (z : Str) (lo hi : Option Int) : co (cutS z lo hi) = ((co z).drop (HT.sIx z.length 0 lo)).take (HT.sIx z.length z.length hi - HT.sIx z.length 0 lo) := by
  unfold co cutS
  simp
theorem cut_to (z : Str) {k : Int} (h0 : 0 ≤ k) (h1 : k ≤ z.length) : co (cutS z none (some k)) = (co z).take k.toNat := by
  rw [co_cut, HT.sIx_none]
  have e : HT.sIx z.length z.length (some k) = k.toNat := by
    show (if k < 0 then (k + (z.length : Int)).toNat else min k.toNat z.length) = k.toNat
    rw [if_neg (by omega)]
    omega
  rw [e, List.drop_zero, Nat.sub_zero]
theorem cut_from (z : Str) {k : Int} (h0 : 0 ≤ k) (h1 : k ≤ z.length) : co (cutS z (some k) none) = (co z).drop k.toNat := by
  rw [co_cut, HT.sIx_none]
  have e : HT.sIx z.length 0 (some k) = k.toNat := by
    show (if k < 0 then (k + (z.length : Int)).toNat else min k.toNat z.length) = k.toNat
    rw [if_neg (by omega)]
    omega
  rw [e, List.take_of_length_le]
  rw [List.length_drop, co_len]
  omega
/-- a for by what holds between its turns -/
theorem forW_inv {I : Ow → Prop} {g : DG} {b : DS} {A : DEnds} (J : Slots → Ow → Prop) (hJ : ∀ r O, J r O → I O) : ∀ {ds : List D} {ρ : Slots} {O : Ow}, (∀ d ∈ ds, ∀ ρ O, J ρ O → ∀ N : Slots → Ow → Prop, (∀ r O, J r O → N r O) → g d ρ fun ρ' => b { A with nx := N, ct := N, bk := A.nx } ρ' O) → (∀ r O, J r O → A.nx r O) → J ρ O → forW I g b A ds ρ O
  | [], _, _, _, he, hi => ⟨hJ _ _ hi, he _ _ hi⟩
  | d :: ds, ρ, O, h, he, hi => ⟨hJ _ _ hi, h d List.mem_cons_self ρ O hi (forW I g b A ds) fun r O hr => forW_inv J hJ (fun d' m => h d' (List.mem_cons_of_mem _ m)) he hr⟩
/-- a for by what holds ahead of each turn -/
theorem forW_at {I : Ow → Prop} {g : DG} {b : DS} {A : DEnds} (ds0 : List D) (J : Nat → Slots → Ow → Prop) (hJ : ∀ i r O, J i r O → I O) (h : ∀ i d, ds0[i]? = some d → ∀ ρ O, J i ρ O → ∀ N : Slots → Ow → Prop, (∀ r O, J (i + 1) r O → N r O) → g d ρ fun ρ' => b { A with nx := N, ct := N, bk := A.nx } ρ' O) (he : ∀ r O, J ds0.length r O → A.nx r O) :
    ∀ {ds : List D} {i : Nat} {ρ : Slots} {O : Ow}, ds = ds0.drop i → i ≤ ds0.length → J i ρ O → forW I g b A ds ρ O
  | [], i, _, _, e, hl, hi => ⟨hJ _ _ _ hi, he _ _ (by
      have : ds0.length ≤ i := by
        have := congrArg List.length e
        simp at this
        omega
      have e2 : i = ds0.length := by omega
      rw [← e2]; exact hi)⟩
  | d :: ds, i, ρ, O, e, hl, hi => by
    have hlt : i < ds0.length := by
      have := congrArg List.length e
      simp at this
      omega
    have ed : ds0.drop i = ds0[i] :: ds0.drop (i + 1) := List.drop_eq_getElem_cons hlt
    rw [ed] at e
    injection e with e1 e2
    exact ⟨hJ _ _ _ hi, h i d (by rw [e1]; exact List.getElem?_eq_getElem hlt) ρ O hi (forW I g b A ds) fun r O hr => forW_at ds0 J hJ h he e2 hlt hr⟩
end EV
set_option Elab.async false
set_option linter.all false
set_option maxRecDepth 100000
set_option maxHeartbeats 4000000
namespace LW
open PySem PySem.Spec PyProof.Rows L2 EV
def topS (i : Nat) : Stmt := PySem.Challenge.pw_oncethrough_k11_limits_of_sayings.main.body.getD i (.Pass ⟨0, 0, 0, 0⟩)
/-- a def of the text, as a caller takes it -/
structure Gf (K : PySem.W.Frag) (mg : Str → Option Value) (x : Str) (f : Addr) (fd : FuncData) (ps : List Str) : Prop where
  m : mg x = some (.ref f)
  k : PySem.W.keepIn K (.ref f) = true
  b : Binds K fd ps []
abbrev s_box : Stmt := topS 41
abbrev N_box : List Str := ["_law_script", "_law_mixed", "_law_cell"]
theorem sc_box : FnScope N_box ["_law_script"] (defScope s_box) := ⟨rfl, rfl, rfl, by decide +kernel, rfl, by decide +kernel, by decide +kernel⟩
abbrev s_pull : Stmt := topS 42
abbrev N_pull : List Str := ["_law_box_here", "_law_many", "_law_cell", "_law_digit", "_law_twice"]
theorem sc_pull : FnScope N_pull ["_law_box_here", "_law_many"] (defScope s_pull) := ⟨rfl, rfl, rfl, by decide +kernel, rfl, by decide +kernel, by decide +kernel⟩
section
variable {P : Program} {w : World} {K : PySem.W.Frag} {mg : Str → Option Value} {base : Heap}
def spBox (K : PySem.W.Frag) : Sp := fun vs H Q _ => ∃ (a : Addr) (ns : List Int), vs = [.ref a] ∧ SqL K H a (ns.map V.int) ∧
  ∀ (b l : Addr) (m : Int) (ms : List Int) (H' : Hp), Same H H' → H b = none → H' b = some (.lst [.ref l, .int 0, .int 0, .int m, .int 0]) → H' l = some (.lst (ms.map V.int)) → l ≠ b → 0 ≤ m → m < 2147483587 → Q (.ref b) H'
theorem same_upd {H : Hp} {p : Addr} {o : HO} (h : H p = none) : Same H (upd H p o) := fun b x e => by
  rw [upd_ne (ne_of_none e h)]
  exact e
theorem cut_ints (ns : List Int) (lo hi : Option Int) : ∃ ms : List Int, cutV (ns.map V.int) lo hi = ms.map V.int := by
  unfold cutV
  exact ⟨_, by rw [← List.map_drop, ← List.map_take]⟩
theorem ok_box {f : Addr} {fd : FuncData} (F : Fun K "_law_box" "_law_box" s_box f fd) (mi : mg "int" = none) (ml : mg "list" = none) : FnOk P w K mg base CX0 1 f fd ["_law_script"] (spBox K) := by
  refine F.ok sc_box (fun vs H Q E h => ?_) (fun cdv A outer s H vs Q E hr h => ?_)
  · obtain ⟨a, ns, rfl, _⟩ := h
    rfl
  · obtain ⟨a, ns, rfl, hS, q⟩ := h
    refine ⟨_, pss_cons (ps_set (i := 1) sc_box.nd rfl (.inl rfl) pe_int)
      (pss_cons (ps_for PassesOwn.never rfl (pi_list (pe_slice sl_list (pv 0) po_none (po_some pe_int))) (pg_name (i := 2) sc_box.nd rfl (.inl rfl))
        (pss_one (ps_set (i := 1) sc_box.nd rfl (.inl rfl) (pe_op op_mod (pe_callTy call_int1 rfl mi boot_int (pa_cons (pe_op op_add (pe_op op_add (pe_op op_mul (pv 1) pe_int) (pe_op op_mul (pe_op op_mod (pe_callTy call_int1 rfl mi boot_int (pa_cons (pv 2) pa_nil)) pe_int) pe_int)) pe_int) pa_nil)) pe_int))))
      (pss_one (ps_ret (pe_lst (pa_cons (pe_callTy call_list_of rfl ml boot_list (pa_cons (pe_slice sl_list (pv 0) po_none (po_some pe_int)) pa_nil)) (pa_cons pe_int (pa_cons pe_int (pa_cons (pv 1) (pa_cons pe_int pa_nil))))))))), ?_⟩
    obtain ⟨ms, ems⟩ := cut_ints ns none (some 63)
    refine ⟨.ref a, rfl, 63, rfl, a, ns.map V.int, rfl, hS, fun c nc => ?_⟩
    rw [ems]
    have s1 : Same H (upd H c (.lst (ms.map V.int))) := same_upd nc
    refine ⟨c, rfl, ⟨_, .inl (.inl upd_same)⟩, for_list (K := K) (a := c) (xs := ms.map V.int) (fun i σ H' => ∃ (y2 : Option V) (m : Int), σ = [some (.ref a), some (.int m), y2] ∧ 0 ≤ m ∧ m < 2147483587 ∧ H' = upd H c (.lst (ms.map V.int)))
      ⟨none, 12022, rfl, by decide, by decide, rfl⟩ (fun i σ H' _ ⟨_, _, _, _, _, e⟩ => by rw [e]; exact .inl (.inl upd_same)) ?_ ?_⟩
    · rintro i x σ H' hx ⟨y2, m, rfl, m0, m1, rfl⟩
      obtain ⟨z, rfl⟩ : ∃ z, x = V.int z := by
        rw [List.getElem?_map] at hx
        cases e : ms[i]? with
        | none => rw [e] at hx; cases hx
        | some z => rw [e] at hx; exact ⟨z, (Option.some.inj hx).symm⟩
      refine ⟨.int m, rfl, _, _, rfl, rfl, .inr ⟨by decide, by decide⟩, .int z, rfl, .inl ⟨z, rfl, _, _, rfl, rfl, (by decide : (0 : Int) < 1000003), _, _, rfl, rfl, .inr ⟨by decide, by decide⟩, _, _, rfl, rfl, _, _, rfl, rfl, .inl ⟨_, rfl, _, _, rfl, rfl, (by decide : (0 : Int) < 2147483579), ?_⟩⟩⟩
      refine ⟨some (.int z), _, rfl, Int.emod_nonneg _ (by decide), Int.lt_trans (Int.emod_lt_of_pos _ (by decide)) (by decide), rfl⟩
    · rintro σ H' ⟨y2, m, rfl, m0, m1, rfl⟩
      refine ⟨.ref a, rfl, 63, rfl, a, ns.map V.int, rfl, s1.seq hS, fun d nd => ?_⟩
      rw [ems]
      refine ⟨d, _, rfl, .inl (.inl (.inl upd_same)), fun l nl => ?_⟩
      have s2 := same_upd (o := .lst (ms.map V.int)) nd
      have s3 := same_upd (o := .lst (ms.map V.int)) nl
      refine ⟨.int m, rfl, (by show 5 ≤ sizeLine; decide), fun b nb => ?_⟩
      have s4 := same_upd (o := .lst [.ref l, .int 0, .int 0, .int m, .int 0]) nb
      have nlb : l ≠ b := fun e => by rw [← e, upd_same] at nb; cases nb
      have sA := ((s1.trans s2).trans s3)
      exact q b l m ms _ (sA.trans s4) (sA.free nb) upd_same (by rw [upd_ne nlb, upd_same]) nlb m0 m1
end
end LW
set_option Elab.async false
set_option linter.all false
set_option maxRecDepth 100000
set_option maxHeartbeats 4000000
namespace LW
open PySem PySem.Spec PyProof.Rows L2 EV
abbrev bx (l : Addr) (i r m c : Int) : HO := .lst [.ref l, .int i, .int r, .int m, .int c]
theorem at0 {l : Addr} {i r m c : Int} : atI [V.ref l, .int i, .int r, .int m, .int c] 0 = some (.ref l) := rfl
theorem at1 {l : Addr} {i r m c : Int} : atI [V.ref l, .int i, .int r, .int m, .int c] 1 = some (.int i) := rfl
theorem at2 {l : Addr} {i r m c : Int} : atI [V.ref l, .int i, .int r, .int m, .int c] 2 = some (.int r) := rfl
theorem at3 {l : Addr} {i r m c : Int} : atI [V.ref l, .int i, .int r, .int m, .int c] 3 = some (.int m) := rfl
theorem at4 {l : Addr} {i r m c : Int} : atI [V.ref l, .int i, .int r, .int m, .int c] 4 = some (.int c) := rfl
def pullS : DSp := fun ds O Q _ => ∃ n : Int, ds = [.int n] ∧ 0 < n ∧ n < 1073741824 ∧ ∀ k, 0 ≤ k → k < n → Q (.int k) O
section
variable {P : Program} {w : World} {K : PySem.W.Frag} {mg : Str → Option Value} {base : Heap}
theorem ok_pull {f : Addr} {fd : FuncData} (F : Fun K "_law_pull" "_law_pull" s_pull f fd) (mi : mg "int" = none) (ml : mg "len" = none) (ma : mg "abs" = none) : FnOk P w K mg base CX0 1 f fd ["_law_box_here", "_law_many"] (spB K pullS) := by
  refine F.ok sc_pull (fun vs H Q E ⟨b, l, T, ws, G, O, ds, ev, g, r, Q0, E0, h0, _⟩ => ?_) (fun cdv A outer s H vs Q E hr ⟨b, l, T, ws, G, O, ds, ev, g, r, Q0, E0, h0, hq, hx⟩ => ?_)
  · obtain ⟨n, rfl, _⟩ := h0
    rw [ev, List.length_cons, r.length]
    rfl
  · obtain ⟨n, rfl, n0, n1, h0⟩ := h0
    subst ev
    cases r with
    | cons r1 r2 =>
    cases r2
    cases r1
    obtain ⟨hid, ⟨ns, i, r, m, c, hb, hl, i0, r0, m0, m1, c0⟩, htab, htv⟩ := g.box b l T rfl
    have nlb : ∀ (o : HO), SqL K (upd H b o) l (ns.map V.int) := fun o => by
      refine Sub.sqL (fun a u e => ?_) hl
      rw [upd_ne (fun z => by rw [z, hid] at e; cases e)]
      exact g.sub a u e
    have fin : ∀ (k i r m c : Int), 0 ≤ k → k < n → 0 ≤ i → 0 ≤ r → 0 ≤ m → m < 2147483587 → 0 ≤ c → Q (.int k) (upd H b (bx l i r m c)) := fun k i r m c k0 k1 i0 r0 m0 m1 c0 => by
      refine hq (.int k) O (h0 k k0 k1) (.int k) G _ ⟨Sub.refl G, ⟨fun a o e => ?_, fun b' l' T' e => ?_, g.amb, fun p d e => ?_⟩, fun a o e ne _ => ?_, fun _ _ _ z n => ⟨z, n⟩, upd_still⟩ (.int k)
      · rw [upd_ne (fun z => by rw [z, hid] at e; cases e)]
        exact g.sub a o e
      · cases e
        refine ⟨hid, ⟨ns, i, r, m, c, upd_same, hl, i0, r0, m0, m1, c0⟩, fun p hp => ?_, htv⟩
        obtain ⟨ps, a1, a2, a3⟩ := htab p hp
        have ne : ∀ {a : Addr} {o : HO}, H a = some o → (∀ xs, o ≠ .lst xs) → upd H b (bx l i r m c) a = some o := fun {a o} e n => by
          rw [upd_ne (fun z => by rw [z, hb] at e; cases e; exact n _ rfl)]; exact e
        refine ⟨ps, ne a1 (fun xs z => by cases z), a2, fun pos cv hc => ?_⟩
        obtain ⟨c0, e1, e2⟩ := a3 pos cv hc
        exact ⟨c0, e1, e2⟩
      · obtain ⟨z1, z2, z3⟩ := g.own p d e
        exact ⟨z1, z2, z3.mono (Sub.refl _) fun o h => by rw [upd_ne (fun z => z2 ⟨b, l, T, rfl, .inl z⟩)]; exact h⟩
      · rw [upd_ne (fun z => ne ⟨b, l, T, rfl, .inl z⟩)]
        exact e
    refine ⟨_, pss_cons (ps_asg (pe_op op_add (pe_ix ix_list (pv 0) pe_int (fun _ _ => rfl)) pe_int) (pg_sub (pv 0) pe_int set_list))
      (C8.pss_cut (ps_if (PW.pt (pw_and (pt_cmpR op_eq (pe_ix ix_list (pv 0) pe_int (fun _ _ => rfl)) pe_int (nomark _)) (pw_and1 (pt_cmpR op_lt (pe_ix ix_list (pv 0) pe_int (fun _ _ => rfl)) (pe_callB call_len rfl ml boot_len (pa_cons (pe_ix ix_list (pv 0) pe_int (fun _ _ => rfl)) pa_nil)) (nomark _)))))
        (pss_cons (ps_set (i := 2) sc_pull.nd rfl (.inl rfl) (pe_ix ix_list (pe_ix ix_list (pv 0) pe_int (fun _ _ => rfl)) (pe_ix ix_list (pv 0) pe_int (fun _ _ => rfl)) (fun _ _ => rfl)))
        (pss_cons (ps_asg (pe_op op_add (pe_ix ix_list (pv 0) pe_int (fun _ _ => rfl)) pe_int) (pg_sub (pv 0) pe_int set_list))
        (pss_one (ps_if (pt_cmpR op_ge (pe_callB call_abs rfl ma boot_abs (pa_cons (pv 2) pa_nil)) (pe_op op_pow pe_int pe_int) (nomark _))
          (pss_one (ps_asg (pe_callB call_abs rfl ma boot_abs (pa_cons (pv 2) pa_nil)) (pg_sub (pv 0) pe_int set_list)))
          (pss_one (ps_asg (pe_op op_mod (pe_callTy call_int1 rfl mi boot_int (pa_cons (pe_op op_add (pe_op op_add (pe_op op_mul (pe_ix ix_list (pv 0) pe_int (fun _ _ => rfl)) pe_int) (pe_op op_mul (pe_op op_mod (pe_callTy call_int1 rfl mi boot_int (pa_cons (pv 2) pa_nil)) pe_int) pe_int)) pe_int) pa_nil)) pe_int) (pg_sub (pv 0) pe_int set_list)))))))
        pss_nil)
      (pss_cons (ps_if (pt_cmpR op_gt (pe_ix ix_list (pv 0) pe_int (fun _ _ => rfl)) pe_int (nomark _))
        (pss_cons (ps_set (i := 3) sc_pull.nd rfl (.inl rfl) (pe_op op_mod (pe_callTy call_int1 rfl mi boot_int (pa_cons (pe_ix ix_list (pv 0) pe_int (fun _ _ => rfl)) pa_nil)) (pv 1)))
        (pss_cons (ps_asg (pe_op op_fdiv (pe_ix ix_list (pv 0) pe_int (fun _ _ => rfl)) (pv 1)) (pg_sub (pv 0) pe_int set_list))
        (pss_one (ps_ret (pv 3)))))
        pss_nil)
      (pss_cons (ps_set (i := 4) sc_pull.nd rfl (.inl rfl) (pe_op op_mod (pe_callTy call_int1 rfl mi boot_int (pa_cons (pe_op op_add (pe_op op_mul (pe_ix ix_list (pv 0) pe_int (fun _ _ => rfl)) (pe_ix ix_list (pv 0) pe_int (fun _ _ => rfl))) (pe_op op_mul (pe_ix ix_list (pv 0) pe_int (fun _ _ => rfl)) pe_int)) pa_nil)) pe_int))
      (pss_cons (ps_asg (pe_op op_mod (pe_callTy call_int1 rfl mi boot_int (pa_cons (pe_op op_add (pe_op op_add (pe_op op_mul (pv 4) pe_int) (pe_op op_mul (pe_ix ix_list (pv 0) pe_int (fun _ _ => rfl)) pe_int)) pe_int) pa_nil)) pe_int) (pg_sub (pv 0) pe_int set_list))
      (pss_one (ps_ret (pe_op op_mod (pe_callTy call_int1 rfl mi boot_int (pa_cons (pe_op op_fdiv (pe_ix ix_list (pv 0) pe_int (fun _ _ => rfl)) pe_int) pa_nil)) (pv 1)))))))), ?_⟩
    have sq : ∀ {H' : Hp} {i r m c : Int}, H' = upd H b (bx l i r m c) → SqL K H' b [.ref l, .int i, .int r, .int m, .int c] := fun e => by
      rw [e]; exact .inl (.inl upd_same)
    -- box[4] = box[4] + 1
    refine ⟨.ref b, rfl, b, _, 4, _, rfl, rfl, .inl (.inl hb), at4, _, _, rfl, rfl, .ref b, rfl, b, _, 4, 4, rfl, rfl, hb, rfl, ?_⟩
    rw [show [V.ref l, .int i, .int r, .int m, .int c].set 4 (.int (c + 1)) = [V.ref l, .int i, .int r, .int m, .int (c + 1)] from rfl]
    refine ⟨fun σ' H' => ∃ (y2 : Option V) (i r m c : Int), σ' = [some (.ref b), some (.int n), y2, none, none] ∧ H' = upd H b (bx l i r m c) ∧ 0 ≤ i ∧ 0 ≤ r ∧ 0 ≤ m ∧ m < 2147483587 ∧ 0 ≤ c, ?_, ?_⟩
    · -- if box[2] == 0 and box[1] < len(box[0])
      have q0 : SqL K (upd H b (bx l i r m (c + 1))) b [.ref l, .int i, .int r, .int m, .int (c + 1)] := sq rfl
      have stop : ∃ (y2 : Option V) (i' r' m' c' : Int), [some (V.ref b), some (V.int n), none, none, none] = [some (.ref b), some (.int n), y2, none, none] ∧ upd H b (bx l i r m (c + 1)) = upd H b (bx l i' r' m' c') ∧ 0 ≤ i' ∧ 0 ≤ r' ∧ 0 ≤ m' ∧ m' < 2147483587 ∧ 0 ≤ c' :=
        ⟨none, i, r, m, c + 1, rfl, rfl, i0, r0, m0, m1, by omega⟩
      refine ⟨.ref b, rfl, b, _, 2, _, rfl, rfl, q0, at2, rfl, _, rfl, ite2 (fun e1 => ?_) (fun e1 => iteF stop)⟩
      refine ⟨.ref b, rfl, b, _, 1, _, rfl, rfl, q0, at1, .ref b, rfl, b, _, 0, _, rfl, rfl, q0, at0, .ref l, _, rfl, .inl ⟨_, nlb _, rfl⟩, _, _, rfl, rfl, _, rfl, ite2 (fun e2 => ?_) (fun e2 => stop)⟩
      have e2 : i < ((ns.map V.int).length : Int) := of_decide_eq_true e2
      rw [List.length_map] at e2
      have hi : i.toNat < ns.length := by omega
      have gi : (ns.map V.int)[i.toNat]? = some (.int ns[i.toNat]) := by
        rw [List.getElem?_map, List.getElem?_eq_getElem hi]; rfl
      have ai : atI (ns.map V.int) i = some (.int ns[i.toNat]) := by
        have := atI_nat gi
        rwa [Int.toNat_of_nonneg i0] at this
      -- cell = box[0][box[1]]; box[1] = box[1] + 1
      refine ⟨.ref b, rfl, b, _, 0, _, rfl, rfl, q0, at0, .ref b, rfl, b, _, 1, _, rfl, rfl, q0, at1, l, _, i, _, rfl, rfl, nlb _, ai, ?_⟩
      refine ⟨.ref b, rfl, b, _, 1, _, rfl, rfl, q0, at1, _, _, rfl, rfl, .ref b, rfl, b, _, 1, 1, rfl, rfl, upd_same, rfl, ?_⟩
      rw [upd_upd, show [V.ref l, .int i, .int r, .int m, .int (c + 1)].set 1 (.int (i + 1)) = [V.ref l, .int (i + 1), .int r, .int m, .int (c + 1)] from rfl]
      have q1 : SqL K (upd H b (bx l (i + 1) r m (c + 1))) b [.ref l, .int (i + 1), .int r, .int m, .int (c + 1)] := sq rfl
      refine ⟨.int ns[i.toNat], rfl, _, rfl, _, _, rfl, rfl, ⟨by decide, by decide, by decide⟩, _, _, rfl, rfl, _, rfl, ite2 (fun e3 => ?_) (fun e3 => ?_)⟩
      · refine ⟨.int ns[i.toNat], rfl, _, rfl, .ref b, rfl, b, _, 2, 2, rfl, rfl, upd_same, rfl, ?_⟩
        rw [upd_upd]
        refine ⟨some (.int ns[i.toNat]), i + 1, _, m, c + 1, rfl, rfl, by omega, ?_, m0, m1, by omega⟩
        split <;> omega
      · refine ⟨.ref b, rfl, b, _, 3, _, rfl, rfl, q1, at3, _, _, rfl, rfl, .inr ⟨by decide, by decide⟩, .int ns[i.toNat], rfl, .inl ⟨_, rfl, _, _, rfl, rfl, (by decide : (0 : Int) < 1000003), _, _, rfl, rfl, .inr ⟨by decide, by decide⟩, _, _, rfl, rfl, _, _, rfl, rfl, .inl ⟨_, rfl, _, _, rfl, rfl, (by decide : (0 : Int) < 2147483587), .ref b, rfl, b, _, 3, 3, rfl, rfl, upd_same, rfl, ?_⟩⟩⟩
        rw [upd_upd]
        exact ⟨some (.int ns[i.toNat]), i + 1, r, _, c + 1, rfl, rfl, by omega, r0, Int.emod_nonneg _ (by decide), Int.emod_lt_of_pos _ (by decide), by omega⟩
    · rintro σ' H' ⟨y2, i, r, m, c, rfl, rfl, i0, r0, m0, m1, c0⟩
      have q0 : SqL K (upd H b (bx l i r m c)) b [.ref l, .int i, .int r, .int m, .int c] := sq rfl
      refine ⟨.ref b, rfl, b, _, 2, _, rfl, rfl, q0, at2, _, _, rfl, rfl, _, rfl, ite2 (fun e1 => ?_) (fun e1 => ?_)⟩
      · refine ⟨.ref b, rfl, b, _, 2, _, rfl, rfl, q0, at2, .inl ⟨_, rfl, .int n, rfl, _, _, rfl, rfl, n0, ?_⟩⟩
        refine ⟨.ref b, rfl, b, _, 2, _, rfl, rfl, q0, at2, .int n, rfl, _, _, rfl, rfl, ⟨n0, n1⟩, .ref b, rfl, b, _, 2, 2, rfl, rfl, upd_same, rfl, .int (r % n), rfl, ?_⟩
        rw [upd_upd]
        exact fin _ i (r / n) m c (Int.emod_nonneg _ (by omega)) (Int.emod_lt_of_pos _ n0) i0 (Int.ediv_nonneg r0 (by omega)) m0 m1 c0
      · refine ⟨.ref b, rfl, b, _, 3, _, rfl, rfl, q0, at3, .ref b, rfl, b, _, 3, _, rfl, rfl, q0, at3, _, _, rfl, rfl, .inl ⟨by omega, by omega⟩, .ref b, rfl, b, _, 4, _, rfl, rfl, q0, at4, _, _, rfl, rfl, .inr ⟨by decide, by decide⟩, _, _, rfl, rfl, .inl ⟨_, rfl, _, _, rfl, rfl, (by decide : (0 : Int) < 2147483543), ?_⟩⟩
        refine ⟨_, rfl, _, _, rfl, rfl, .inr ⟨by decide, by decide⟩, .ref b, rfl, b, _, 3, _, rfl, rfl, q0, at3, _, _, rfl, rfl, .inr ⟨by decide, by decide⟩, _, _, rfl, rfl, _, _, rfl, rfl, .inl ⟨_, rfl, _, _, rfl, rfl, (by decide : (0 : Int) < 2147483587), .ref b, rfl, b, _, 3, 3, rfl, rfl, upd_same, rfl, ?_⟩⟩
        rw [upd_upd]
        refine ⟨.ref b, rfl, b, _, 3, _, rfl, rfl, sq rfl, at3, _, _, rfl, rfl, ⟨by decide, by decide⟩, .inl ⟨_, rfl, .int n, rfl, _, _, rfl, rfl, n0, ?_⟩⟩
        exact fin _ i r _ c (Int.emod_nonneg _ (by omega)) (Int.emod_lt_of_pos _ n0) i0 r0 (Int.emod_nonneg _ (by decide)) (Int.emod_lt_of_pos _ (by decide)) c0
end
end LW
set_option Elab.async false
set_option linter.all false
set_option maxRecDepth 100000
set_option maxHeartbeats 4000000
namespace LW
open PySem PySem.Spec PyProof.Rows L2 EV
theorem hu1 {A : Around} {k : Nat} (hr : Room k A) : A.units + 65 < cLine := by have := hr.un; omega
theorem pass0A {X : Cx} {σ : L2.St} {E : XK} : PassesAt CX0 X σ E := fun _ _ _ _ _ _ h => h.elim
abbrev s_of : Stmt := topS 43
abbrev N_of : List Str := ["_law_box_here", "_law_some"]
theorem sc_of : FnScope N_of ["_law_box_here", "_law_some"] (defScope s_of) := ⟨rfl, rfl, rfl, by decide +kernel, rfl, by decide +kernel, by decide +kernel⟩

def itemsL : D → List D
  | .lst xs => xs
  | .tup xs => xs
  | .str y => charsD y
  | _ => []
def ofS : DSp := fun ds O Q _ => ∃ d, ds = [d] ∧ 0 < (itemsL d).length ∧ (itemsL d).length < 1000000 ∧ ∀ y ∈ itemsL d, Q y O
abbrev s_same : Stmt := topS 45
abbrev N_same : List Str := ["_law_found", "_law_due", "_law_a", "_law_b"]
theorem sc_same : FnScope N_same ["_law_found", "_law_due"] (defScope s_same) := ⟨rfl, rfl, rfl, by decide +kernel, rfl, by decide +kernel, by decide +kernel⟩

mutual
def sameD : D → D → Bool
  | .non, .non => true
  | .bl a, .bl b => decide (a = b)
  | .int a, .int b => decide (a = b)
  | .str a, .str b => decide (a = b)
  | .lst xs, .lst ys => sameL xs ys
  | .tup xs, .tup ys => sameL xs ys
  | _, _ => false
def sameL : List D → List D → Bool
  | [], [] => true
  | x :: xs, y :: ys => sameD x y && sameL xs ys
  | _, _ => false
end
/-- plain data, at most so deep -/
def Plain : Nat → D → Prop
  | _, .non => True
  | _, .bl _ => True
  | _, .int _ => True
  | _, .str _ => True
  | n + 1, .lst xs => xs.length ≤ sizeLine ∧ ∀ x ∈ xs, Plain n x
  | n + 1, .tup xs => xs.length ≤ sizeLine ∧ ∀ x ∈ xs, Plain n x
  | _, _ => False
def sameS (n : Nat) : DSp := fun ds O Q _ => ∃ a b, ds = [a, b] ∧ Plain n a ∧ Plain n b ∧ Q (.bl (sameD a b)) O
theorem Plain.ty {n : Nat} {d : D} (h : Plain n d) : (tyD d).isSome = true := by
  cases d <;> cases n <;> first | rfl | exact h.elim
theorem sameL_len {xs ys : List D} (h : xs.length ≠ ys.length) : sameL xs ys = false := by
  induction xs generalizing ys with
  | nil => cases ys with
    | nil => exact absurd rfl h
    | cons => rfl
  | cons x xs ih => cases ys with
    | nil => rfl
    | cons y ys =>
      simp only [List.length_cons, ne_eq, Nat.add_right_cancel_iff] at h
      simp [sameL, ih h]
theorem sameL_zip {xs ys : List D} (h : xs.length = ys.length) : sameL xs ys = ((List.zip xs ys).all fun p => sameD p.1 p.2) := by
  induction xs generalizing ys with
  | nil => cases ys with
    | nil => rfl
    | cons => cases h
  | cons x xs ih => cases ys with
    | nil => cases h
    | cons y ys =>
      simp only [List.length_cons, Nat.add_right_cancel_iff] at h
      simp [sameL, ih h]
theorem zipL_eq (xs ys : List D) : zipL xs ys = (List.zip xs ys).map fun p => .tup [p.1, p.2] := by
  unfold zipL
  rw [List.zip, List.map_zipWith]
section
variable {P : Program} {w : World} {K : PySem.W.Frag} {mg : Str → Option Value} {base : Heap}
theorem ok_of {f fP : Addr} {fd fdP : FuncData} (F : Fun K "_law_of" "_law_of" s_of f fd) (G_pull : FnOk P w K mg base CX0 1 fP fdP ["_law_box_here", "_law_many"] (spB K pullS)) (T_pull : Gf K mg "_law_pull" fP fdP ["_law_box_here", "_law_many"]) (m_len : mg "len" = none) :
    FnOk P w K mg base CX0 2 f fd ["_law_box_here", "_law_some"] (spB K ofS) := by
  refine fn_box F sc_of (fun ds O Q E h => ?_) (fun cdv A outer s H E b l T hr =>
    (d_sone (d_ret (d_ix (d_var (i := 1) rfl (.inl rfl) (by decide) (by decide)) (d_callX G_pull rfl (hr.mono (by decide)) rfl T_pull.m T_pull.k T_pull.b (fun _ => pass0A) (d_cons (d_var (i := 0) rfl (.inl rfl) (by decide) (by decide)) (d_cons (d_callB cd_len rfl m_len boot_len (d_cons (d_var (i := 1) rfl (.inl rfl) (by decide) (by decide)) d_nil rfl) (by decide) (by decide) rfl rfl) d_nil rfl) rfl) (by decide) rfl rfl) (fun _ _ => rfl))))) (fun b ds O Q E h => ?_) (fun ds O Q E h => h)
  · obtain ⟨d, rfl, _⟩ := h; rfl
  · obtain ⟨d, rfl, h1, h2, q⟩ := h
    rw [show startD N_of [.opq (.ref b), d] = [.sh (.opq (.ref b)), .sh d] from rfl]
    have key : ∀ (xs : List D) (k : Int), 0 ≤ k → k < xs.length → ∃ y, atI xs k = some y ∧ y ∈ xs := fun xs k k0 k1 => by
      have hk : k.toNat < xs.length := by omega
      have e : atI xs ((k.toNat : Nat) : Int) = some xs[k.toNat] := atI_nat (List.getElem?_eq_getElem hk)
      rw [Int.toNat_of_nonneg k0] at e
      exact ⟨_, e, List.getElem_mem hk⟩
    cases d with
    | lst xs =>
      refine ⟨rfl, spM.of ⟨xs.length, rfl, by exact_mod_cast h1, by have : xs.length < 1000000 := h2; omega, fun k k0 k1 => ?_⟩⟩
      obtain ⟨y, e, m⟩ := key xs k k0 k1
      show ixP _ _ _
      simp only [ixP, lk, e]
      exact q y m
    | tup xs =>
      refine ⟨rfl, spM.of ⟨xs.length, rfl, by exact_mod_cast h1, by have : xs.length < 1000000 := h2; omega, fun k k0 k1 => ?_⟩⟩
      obtain ⟨y, e, m⟩ := key xs k k0 k1
      show ixP _ _ _
      simp only [ixP, lk, e]
      exact q y m
    | str z =>
      have hz : (charsD z).length = z.length := by simp [charsD]; rfl
      have h1 : 0 < (charsD z).length := h1
      have h2 : (charsD z).length < 1000000 := h2
      rw [hz] at h1 h2
      have hs : z.length ≤ sizeLine := Nat.le_trans (Nat.le_of_lt h2) (by decide)
      refine ⟨hs, rfl, spM.of ⟨z.length, rfl, by exact_mod_cast h1, by omega, fun k k0 k1 => ⟨hs, ?_⟩⟩⟩
      have hk : k.toNat < z.cps.toList.length := by
        have : z.cps.toList.length = z.length := by simp; rfl
        omega
      have e : atI z.cps.toList ((k.toNat : Nat) : Int) = some z.cps.toList[k.toNat] := atI_nat (List.getElem?_eq_getElem hk)
      rw [Int.toNat_of_nonneg k0] at e
      rw [e]
      exact q _ (List.mem_map.mpr ⟨_, List.getElem_mem hk, rfl⟩)
    | non => cases h1
    | bl => cases h1
    | int => cases h1
    | opq => cases h1
    | dic => cases h1
    | ins => cases h1
    | exc => cases h1
    | lam => cases h1
theorem ok_same {f : Addr} {fd : FuncData} (F : Fun K "_law_same" "_law_same" s_same f fd) (T_same : Gf K mg "_law_same" f fd ["_law_found", "_law_due"]) (m_isinstance : mg "isinstance" = none) (m_list : mg "list" = none) (m_tuple : mg "tuple" = none)
    (m_bool : mg "bool" = none) (m_int : mg "int" = none) (m_str : mg "str" = none) (m_len : mg "len" = none) (m_all : mg "all" = none) (m_zip : mg "zip" = none) : ∀ n : Nat, FnOk P w K mg base CX0 (n + 2) f fd ["_law_found", "_law_due"] (spD K (sameS n)) := by
  have step : ∀ (k : Nat) (S : DSp), FnOk P w K mg base CX0 (k + 1) f fd ["_law_found", "_law_due"] (spD K S) → ∀ (S2 : DSp), (∀ ds O Q E, S2 ds O Q E → ∃ (n : Nat) (a b : D), ds = [a, b] ∧ Plain n a ∧ Plain n b ∧ Q (.bl (sameD a b)) O ∧ ∀ x y Q', (∃ m, n = m + 1 ∧ Plain m x ∧ Plain m y) → Q' (.bl (sameD x y)) O → S [x, y] O Q' fun _ _ => False) →
      (∀ ds O Q E, S2 ds O Q E → S2 ds O Q fun _ _ => False) → FnOk P w K mg base CX0 (k + 2) f fd ["_law_found", "_law_due"] (spD K S2) := by
    intro k S G_same S2 hS noex
    refine fn_pure F sc_same (fun ds O Q E h => ?_) (fun cdv A outer s H E hr =>
      (d_scons (d_ifS (DPW.pt (d_wor (d_tcmp od_is (d_var (i := 1) rfl (.inl rfl) (by decide) (by decide)) d_non (nomark _)) (d_or1 (d_tcmp od_is (d_var (i := 0) rfl (.inl rfl) (by decide) (by decide)) d_non (nomark _))))) (d_sone (d_ret (d_and (d_cmp od_is (d_var (i := 1) rfl (.inl rfl) (by decide) (by decide)) d_non (nomark _)) (d_one (d_cmp od_is (d_var (i := 0) rfl (.inl rfl) (by decide) (by decide)) d_non (nomark _)))))) d_snil)
      (d_scons (d_ifS (d_test (d_isiT rfl m_isinstance (d_var (i := 1) rfl (.inl rfl) (by decide) (by decide)) (d_cons (d_ty rfl m_list boot_list (by decide) (by decide)) (d_cons (d_ty rfl m_tuple boot_tuple (by decide) (by decide)) d_nil rfl) rfl) rfl rfl rfl) (by intro _; rfl)) (d_scons (d_ifS (DPW.pt (d_wor (d_tcmp (od_ne hr.units) (d_callB cd_isi rfl m_isinstance boot_isinstance (d_cons (d_var (i := 0) rfl (.inl rfl) (by decide) (by decide)) (d_cons (d_ty rfl m_list boot_list (by decide) (by decide)) d_nil rfl) rfl) (by decide) (by decide) rfl rfl) (d_callB cd_isi rfl m_isinstance boot_isinstance (d_cons (d_var (i := 1) rfl (.inl rfl) (by decide) (by decide)) (d_cons (d_ty rfl m_list boot_list (by decide) (by decide)) d_nil rfl) rfl) (by decide) (by decide) rfl rfl) (nomark _)) (d_or1 (d_tcmp (od_ne hr.units) (d_callB cd_isi rfl m_isinstance boot_isinstance (d_cons (d_var (i := 0) rfl (.inl rfl) (by decide) (by decide)) (d_cons (d_ty rfl m_tuple boot_tuple (by decide) (by decide)) d_nil rfl) rfl) (by decide) (by decide) rfl rfl) (d_callB cd_isi rfl m_isinstance boot_isinstance (d_cons (d_var (i := 1) rfl (.inl rfl) (by decide) (by decide)) (d_cons (d_ty rfl m_tuple boot_tuple (by decide) (by decide)) d_nil rfl) rfl) (by decide) (by decide) rfl rfl) (nomark _))))) (d_sone (d_ret d_bl)) d_snil)
      (d_sone (d_ret (d_and (d_cmp (od_eq hr.units) (d_callB cd_len rfl m_len boot_len (d_cons (d_var (i := 0) rfl (.inl rfl) (by decide) (by decide)) d_nil rfl) (by decide) (by decide) rfl rfl) (d_callB cd_len rfl m_len boot_len (d_cons (d_var (i := 1) rfl (.inl rfl) (by decide) (by decide)) d_nil rfl) (by decide) (by decide) rfl rfl) (nomark _)) (d_one (d_callB (cd_all rfl) rfl m_all boot_all (d_cons (d_lc rfl sc_same.nd (d_zip rfl m_zip (d_cons (d_var (i := 0) rfl (.inl rfl) (by decide) (by decide)) (d_cons (d_var (i := 1) rfl (.inl rfl) (by decide) (by decide)) d_nil rfl) rfl) rfl rfl) (blkOk_by (own := [("_law_a", 2), ("_law_b", 3)]) (N := N_same) (sc := defScope s_same) (by decide +kernel)) (fun _ _ _ _ _ => (dg_tup (n := 2) rfl (dgs_cons (dg_name (i := 2) sc_same.nd rfl (.inl rfl) (.inr rfl)) (dgs_cons (dg_name (i := 3) sc_same.nd rfl (.inl rfl) (.inr rfl)) dgs_nil rfl) rfl) rfl rfl)) (fun _ _ _ _ _ => d_ifs0) (fun _ _ _ _ _ => (d_call G_same hr rfl T_same.m T_same.k T_same.b (fun _ => pass0A) (d_cons (d_var (i := 2) rfl (.inl rfl) (by decide) (by decide)) (d_cons (d_var (i := 3) rfl (.inl rfl) (by decide) (by decide)) d_nil rfl) rfl) (by decide) rfl rfl)) (by decide +kernel) (fun _ => rfl)) d_nil rfl) (by decide) (by decide) rfl rfl)))))) d_snil)
      (d_scons (d_ifS (DPW.pt (d_wor (d_test (d_callB cd_isi rfl m_isinstance boot_isinstance (d_cons (d_var (i := 1) rfl (.inl rfl) (by decide) (by decide)) (d_cons (d_ty rfl m_bool boot_bool (by decide) (by decide)) d_nil rfl) rfl) (by decide) (by decide) rfl rfl) (by intro _; rfl)) (d_or1 (d_test (d_callB cd_isi rfl m_isinstance boot_isinstance (d_cons (d_var (i := 0) rfl (.inl rfl) (by decide) (by decide)) (d_cons (d_ty rfl m_bool boot_bool (by decide) (by decide)) d_nil rfl) rfl) (by decide) (by decide) rfl rfl) (by intro _; rfl))))) (d_sone (d_ret (d_and (d_callB cd_isi rfl m_isinstance boot_isinstance (d_cons (d_var (i := 1) rfl (.inl rfl) (by decide) (by decide)) (d_cons (d_ty rfl m_bool boot_bool (by decide) (by decide)) d_nil rfl) rfl) (by decide) (by decide) rfl rfl) (d_and (d_callB cd_isi rfl m_isinstance boot_isinstance (d_cons (d_var (i := 0) rfl (.inl rfl) (by decide) (by decide)) (d_cons (d_ty rfl m_bool boot_bool (by decide) (by decide)) d_nil rfl) rfl) (by decide) (by decide) rfl rfl) (d_one (d_cmp (od_eq hr.units) (d_var (i := 0) rfl (.inl rfl) (by decide) (by decide)) (d_var (i := 1) rfl (.inl rfl) (by decide) (by decide)) (nomark _))))))) d_snil)
      (d_scons (d_ifS (d_test (d_callB cd_isi rfl m_isinstance boot_isinstance (d_cons (d_var (i := 1) rfl (.inl rfl) (by decide) (by decide)) (d_cons (d_ty rfl m_int boot_int (by decide) (by decide)) d_nil rfl) rfl) (by decide) (by decide) rfl rfl) (by intro _; rfl)) (d_sone (d_ret (d_and (d_callB cd_isi rfl m_isinstance boot_isinstance (d_cons (d_var (i := 0) rfl (.inl rfl) (by decide) (by decide)) (d_cons (d_ty rfl m_int boot_int (by decide) (by decide)) d_nil rfl) rfl) (by decide) (by decide) rfl rfl) (d_one (d_cmp (od_eq hr.units) (d_var (i := 0) rfl (.inl rfl) (by decide) (by decide)) (d_var (i := 1) rfl (.inl rfl) (by decide) (by decide)) (nomark _)))))) d_snil)
      (d_sone (d_ret (d_and (d_callB cd_isi rfl m_isinstance boot_isinstance (d_cons (d_var (i := 0) rfl (.inl rfl) (by decide) (by decide)) (d_cons (d_ty rfl m_str boot_str (by decide) (by decide)) d_nil rfl) rfl) (by decide) (by decide) rfl rfl) (d_and (d_callB cd_isi rfl m_isinstance boot_isinstance (d_cons (d_var (i := 1) rfl (.inl rfl) (by decide) (by decide)) (d_cons (d_ty rfl m_str boot_str (by decide) (by decide)) d_nil rfl) rfl) (by decide) (by decide) rfl rfl) (d_one (d_cmp (od_eq hr.units) (d_var (i := 0) rfl (.inl rfl) (by decide) (by decide)) (d_var (i := 1) rfl (.inl rfl) (by decide) (by decide)) (nomark _)))))))))))) (fun ds O Q E h => ?_) noex
    · obtain ⟨n, a, b, rfl, _⟩ := hS ds O Q E h; rfl
    · obtain ⟨n, a, b, rfl, pa, pb, q, rec⟩ := hS ds O Q E h
      rw [show startD N_same [a, b] = [.sh a, .sh b, .un, .un] from rfl]
      have ta := pa.ty
      have tb := pb.ty
      have core : ∀ (xs ys : List D) (Q' : QD), xs.length ≤ sizeLine → (∃ m, n = m + 1 ∧ (∀ x ∈ xs, Plain m x) ∧ ∀ y ∈ ys, Plain m y) → xs.length = ys.length → Q' (.bl (sameL xs ys)) O →
          lcW tt1 (dgTup 2 (dgCons (dgName 2) (dgCons (dgName 3) dgNil))) dYes (dCall S (dCons (dVar 2) (dCons (dVar 3) dNil))) [.sh a, .sh b, .un, .un] (zipL xs ys) [] O (fun l O1 => allD [.lst l] fun d => Q' d O1) := by
        intro xs ys Q' hl ⟨m, em, hx, hy⟩ hlen q'
        refine lcW_map trivial (fun d => match d with | .tup [x, y] => .bl (sameD x y) | _ => .non) (fun d md Qy hq => ?_) (by simp [zipL]; omega) ?_
        · rw [zipL_eq] at md
          obtain ⟨⟨x, y⟩, mp, rfl⟩ := List.mem_map.mp md
          have mm : x ∈ xs ∧ y ∈ ys := by
            exact ⟨(List.of_mem_zip mp).1, (List.of_mem_zip mp).2⟩
          exact ⟨rfl, spM.of (rec x y Qy ⟨m, em, hx x mm.1, hy y mm.2⟩ hq)⟩
        · rw [List.nil_append, zipL_eq, List.map_map]
          refine allD_of (toBs_map (fun p : D × D => sameD p.1 p.2) _) ?_
          rw [List.all_map]
          have := sameL_zip hlen
          rw [this] at q'
          exact q'
      cases b with
      | non =>
        cases a <;> first
          | exact q
          | (cases ta; done)
      | lst ys =>
        cases n with
        | zero => exact pb.elim
        | succ n =>
          cases a with
          | lst xs =>
            refine ⟨by decide, rfl, ?_⟩
            refine ⟨by decide, rfl, by decide, rfl, ?_⟩
            refine ⟨by decide, rfl, by decide, rfl, ?_⟩
            by_cases hl : xs.length = ys.length
            · show bc (decide ((xs.length : Int) = ys.length)) _ _
              rw [decide_eq_true (by rw [hl])]
              exact core xs ys Q pa.1 ⟨n, rfl, pa.2, pb.2⟩ hl q
            · show bc (decide ((xs.length : Int) = ys.length)) _ _
              rw [decide_eq_false (by omega)]
              rw [show sameD (.lst xs) (.lst ys) = sameL xs ys by simp [sameD], sameL_len hl] at q
              exact q
          | tup xs => simp only [sameD] at q; (repeat (first | exact q | refine ⟨by decide, rfl, ?_⟩))
          | non => simp only [sameD] at q; (repeat (first | exact q | refine ⟨by decide, rfl, ?_⟩))
          | bl x => simp only [sameD] at q; (repeat (first | exact q | refine ⟨by decide, rfl, ?_⟩))
          | int x => simp only [sameD] at q; (repeat (first | exact q | refine ⟨by decide, rfl, ?_⟩))
          | str x => simp only [sameD] at q; (repeat (first | exact q | refine ⟨by decide, rfl, ?_⟩))
          | opq => cases ta
          | dic => exact pa.elim
          | ins => cases ta
          | exc => cases ta
          | lam => cases ta
      | tup ys =>
        cases n with
        | zero => exact pb.elim
        | succ n =>
          cases a with
          | tup xs =>
            refine ⟨by decide, rfl, ?_⟩
            refine ⟨by decide, rfl, by decide, rfl, ?_⟩
            refine ⟨by decide, rfl, by decide, rfl, ?_⟩
            by_cases hl : xs.length = ys.length
            · show bc (decide ((xs.length : Int) = ys.length)) _ _
              rw [decide_eq_true (by rw [hl])]
              exact core xs ys Q pa.1 ⟨n, rfl, pa.2, pb.2⟩ hl q
            · show bc (decide ((xs.length : Int) = ys.length)) _ _
              rw [decide_eq_false (by omega)]
              rw [show sameD (.tup xs) (.tup ys) = sameL xs ys by simp [sameD], sameL_len hl] at q
              exact q
          | lst xs => simp only [sameD] at q; (repeat (first | exact q | refine ⟨by decide, rfl, ?_⟩))
          | non => simp only [sameD] at q; (repeat (first | exact q | refine ⟨by decide, rfl, ?_⟩))
          | bl x => simp only [sameD] at q; (repeat (first | exact q | refine ⟨by decide, rfl, ?_⟩))
          | int x => simp only [sameD] at q; (repeat (first | exact q | refine ⟨by decide, rfl, ?_⟩))
          | str x => simp only [sameD] at q; (repeat (first | exact q | refine ⟨by decide, rfl, ?_⟩))
          | opq => cases ta
          | dic => exact pa.elim
          | ins => cases ta
          | exc => cases ta
          | lam => cases ta
      | bl y =>
        cases a with
        | opq => cases ta
        | ins => cases ta
        | exc => cases ta
        | lam => cases ta
        | dic => cases n <;> exact pa.elim
        | _ => simp only [sameD] at q; (repeat (first | exact q | refine ⟨by decide, rfl, ?_⟩))
      | int y =>
        cases a with
        | opq => cases ta
        | ins => cases ta
        | exc => cases ta
        | lam => cases ta
        | dic => cases n <;> exact pa.elim
        | _ => simp only [sameD] at q; (repeat (first | exact q | refine ⟨by decide, rfl, ?_⟩))
      | str y =>
        cases a with
        | opq => cases ta
        | ins => cases ta
        | exc => cases ta
        | lam => cases ta
        | dic => cases n <;> exact pa.elim
        | _ => simp only [sameD] at q; (repeat (first | exact q | refine ⟨by decide, rfl, ?_⟩))
      | opq => cases tb
      | dic => cases n <;> exact pb.elim
      | ins => cases tb
      | exc => cases tb
      | lam => cases tb
  intro n
  induction n with
  | zero =>
    refine step 0 (fun _ _ _ _ => False) ?_ (sameS 0) (fun ds O Q E ⟨a, b, e, pa, pb, q⟩ => ⟨0, a, b, e, pa, pb, q, fun x y Q' ⟨m, em, _⟩ => nomatch em⟩) (fun ds O Q E h => h)
    exact ⟨fun vs H Q E ⟨_, _, _, _, _, _, _, h, _⟩ => h.elim, fun A outer s H args us vs Q E _ _ _ _ ⟨_, _, _, _, _, _, _, h, _⟩ => h.elim⟩
  | succ n ih =>
    exact step (n + 1) (sameS n) ih (sameS (n + 1)) (fun ds O Q E ⟨a, b, e, pa, pb, q⟩ => ⟨n + 1, a, b, e, pa, pb, q, fun x y Q' ⟨m, em, px, py⟩ q' => by
      cases em
      exact ⟨x, y, rfl, px, py, q'⟩⟩) (fun ds O Q E h => h)
end
end LW
set_option Elab.async false
set_option linter.all false
set_option maxRecDepth 100000
set_option maxHeartbeats 4000000
namespace LW
open PySem PySem.Spec PyProof.Rows L2 EV
/-! ### the law's own def: the box first, then by value -/
theorem pss_box {X : Cx} {sts : List Stmt} {m : Addr → DS} {T : List (Addr × Str)} (h : ∀ (b l : Addr), DPSs X ⟨boB b l T, fun _ _ _ _ => False⟩ sts (m b)) : PSs X sts (fun D σ H => ∃ b l, upS X.K ⟨boB b l T, fun _ _ _ _ => False⟩ (m b) D σ H) :=
  ⟨fun pins s σ H D I ⟨b, l, q⟩ => (h b l).run.run pins s σ H D I q⟩
def spLaw (K : PySem.W.Frag) (T : List (Addr × Str)) : Sp := fun vs H Q _ => ∃ (a : Addr) (ns : List Int), vs = [.ref a] ∧ SqL K H a (ns.map V.int) ∧ (∀ p ∈ T, H p.1 = some (.tbl #[])) ∧ ∀ H', Q (.bl true) H'
/-- the slots behind the box -/
def boxed (b : Addr) (n : Nat) : Slots := .un :: .sh (.opq (.ref b)) :: List.replicate n .un
def noO : Ow := fun _ => none
theorem boxed_rp {K : PySem.W.Frag} {G : Hp} {a b : Addr} {n : Nat} : RpS K G (some (.ref a) :: some (.ref b) :: List.replicate n none) (boxed b n) := by
  refine ⟨by simp [boxed], fun i d e => ?_⟩
  match i, e with
  | 0, e => cases e
  | 1, e => cases e; exact ⟨_, rfl, .opq _⟩
  | i + 2, e =>
    have : (List.replicate n Sl.un)[i]? = some (.sh d) := e
    rw [List.getElem?_replicate] at this
    split at this <;> cases this
/-- from the box's promise and the rest by value to the reading -/
theorem law_read {K : PySem.W.Frag} {a b l : Addr} {T : List (Addr × Str)} {ms : List Int} {mm : Int} {H1 : Hp} {Q : VK} {m : DS} {n : Nat} (mo : MoS m) (hb : H1 b = some (.lst [.ref l, .int 0, .int 0, .int mm, .int 0])) (hl : H1 l = some (.lst (ms.map V.int))) (ne : l ≠ b) (hT : ∀ p ∈ T, H1 p.1 = some (.tbl #[])) (m0 : 0 ≤ mm) (m1 : mm < 2147483587)
    (q : ∀ H', Q (.bl true) H') (h : m (endsD (fun d _ => d = .bl true) (fun _ _ => False)) (boxed b n) noO) :
    upS K ⟨boB b l T, fun _ _ _ _ => False⟩ m { nx := fun _ H' => Q .non H', rt := Q } (some (.ref a) :: some (.ref b) :: List.replicate n none) H1 := by
  have isT : ∀ x, x ∈ T.map (·.1) → H1 x = some (.tbl #[]) := fun x hx => by
    obtain ⟨p, hp, rfl⟩ := List.mem_map.mp hx
    exact hT p hp
  have lT : l ∉ T.map (·.1) := fun z => by have := isT l z; rw [hl] at this; cases this
  refine ⟨fun x => if x = b ∨ x ∈ T.map (·.1) then none else H1 x, noO, boxed b n, ⟨fun x o e => ?_, fun b' l' T' e => ?_, (fun _ _ e => nomatch e), fun p d e => nomatch e⟩, boxed_rp, mo (endsD (fun d _ => d = .bl true) fun _ _ => False) _ _ _ ⟨fun r O z => ?_, fun d O z v G' H' _ r => ?_, fun _ _ z => z.elim, fun _ _ z => z.elim, fun _ _ _ z => z.elim⟩ h⟩
  · by_cases c : x = b ∨ x ∈ T.map (·.1)
    · rw [if_pos c] at e; cases e
    · rw [if_neg c] at e; exact e
  · cases e
    refine ⟨if_pos (.inl rfl), ⟨ms, 0, 0, mm, 0, hb, .inl (.inl (by show (if l = b ∨ l ∈ T.map (·.1) then none else H1 l) = _; rw [if_neg (fun z => z.elim ne lT)]; exact hl)), by decide, by decide, m0, m1, by decide⟩, fun p hp => ⟨#[], hT p hp, True.intro, fun pos cv hc => by
      have z : codeAmong pos [] = some cv := hc
      simp [codeAmong] at z⟩, fun p hp => if_pos (.inr (List.mem_map_of_mem hp))⟩
  · cases (show D.non = D.bl true from z)
  · subst z
    cases r
    exact q H'
end LW
set_option Elab.async false
set_option linter.all false
set_option maxRecDepth 100000
set_option maxHeartbeats 4000000
namespace EV
open PySem PySem.Spec PyProof.Rows L2
/-! ### fields -/
def putD (f : Str) (v : D) : List (Str × D) → List (Str × D)
  | [] => [(f, v)]
  | (g, x) :: r => if g = f then (g, v) :: r else (g, x) :: putD f v r
section
variable {K : PySem.W.Frag} {G H : Hp}
theorem RpF.look {f : Str} : ∀ {fs : List (Str × V)} {ds : List (Str × D)} {d : D}, RpF K G fs ds → ds.lookup f = some d → ∃ v, fs.lookup f = some v ∧ Rp K G v d
  | _, _, _, .nil, e => by simp at e
  | (k, v) :: fs, (_, x) :: ds, d, .cons r t, e => by
    rw [List.lookup_cons] at e ⊢
    cases hq : f == k with
    | true => rw [hq] at e; cases e; exact ⟨v, rfl, r⟩
    | false => rw [hq] at e; exact RpF.look t e
theorem RpF.look0 {f : Str} : ∀ {fs : List (Str × V)} {ds : List (Str × D)}, RpF K G fs ds → ds.lookup f = none → fs.lookup f = none
  | _, _, .nil, e => rfl
  | (k, v) :: fs, (_, x) :: ds, .cons r t, e => by
    rw [List.lookup_cons] at e ⊢
    cases hq : f == k with
    | true => rw [hq] at e; cases e
    | false => rw [hq] at e; exact RpF.look0 t e
theorem RpF.put {f : Str} {v : V} {d : D} (rv : Rp K G v d) : ∀ {fs : List (Str × V)} {ds : List (Str × D)}, RpF K G fs ds → RpF K G (putF f v fs) (putD f d ds)
  | _, _, .nil => .cons rv .nil
  | (k, x) :: fs, (_, y) :: ds, .cons r t => by
    unfold putF putD
    by_cases h : k = f
    · rw [if_pos h, if_pos h]; exact .cons rv t
    · rw [if_neg h, if_neg h]; exact .cons r (RpF.put rv t)
theorem RpF.length : ∀ {fs : List (Str × V)} {ds : List (Str × D)}, RpF K G fs ds → fs.length = ds.length
  | _, _, .nil => rfl
  | _, _, .cons _ t => congrArg (· + 1) (RpF.length t)
end
section
variable {X : Cx} {L : Pl} {e o a b c : Expr} {es rest : List Expr} {m mo' ma mb mc : DE} {mt mu : DT} {mA mK : DA} {pos p apos pos' : Pos}
variable {K : PySem.W.Frag} {B : Bo} {O : Ow} {W : L2.St → XK} {G H : Hp} {σ : L2.St} {ρ : Slots}
/-- the field f of an instance of C -/
def fldD (C : Addr) (f : Str) : D → (D → Prop) → Prop
  | .ins C' fs, Q => C' = C ∧ match fs.lookup f with
    | some d => Q d
    | none => False
  | _, _ => False
theorem fldD_mo {C : Addr} {f : Str} {x : D} {Q Q' : D → Prop} (h : ∀ d, Q d → Q' d) (z : fldD C f x Q) : fldD C f x Q' := by
  unfold fldD at z ⊢
  split at z
  · refine ⟨z.1, ?_⟩
    obtain ⟨_, z⟩ := z
    split at z
    · exact h _ z
    · exact z
  · exact z
def dFld (C : Addr) (f : Str) (m : DE) : DE := fun ρ O Q E => m ρ O (fun x O1 => fldD C f (lk O1 x) fun d => Q d O1) E
theorem d_fld {C : Addr} {f : Str} (cl : Cls X.K C) (na : NoAttr X.K C f) (he : DPE X L e m) (hb : attributeBase e f X.env (eval e X.env) = eval e X.env) : DPE X L (.Attribute e f pos) (dFld C f m) := by
  refine ⟨fun ρ O Q Q' E E' q hx x => he.mo ρ _ _ _ _ _ (fun _ _ z => fldD_mo (fun _ => q _ _) z) hx x, pe_imp (pe_fld he.run hb) fun σ H Q ⟨G, O, ρ, g, rs, q⟩ => ?_⟩
  refine up_of he.mo g rs q fun x v O1 G1 H1 q1 s1 r1 => ?_
  have rx := lk_rp s1.good r1
  generalize lk O1 x = y at q1 rx
  unfold fldD at q1
  split at q1
  · obtain ⟨rfl, q1⟩ := q1
    split at q1
    · rename_i d ed
      obtain ⟨p, dx, fs, rfl, hp, rf⟩ := rx.ins s1.good.sub
      obtain ⟨w, ew, rw'⟩ := rf.look ed
      exact ⟨p, _, dx, fs, w, rfl, hp, cl, na, ew, q1 _ _ _ s1 rw'⟩
    · exact q1.elim
  · exact q1.elim
/-- o.f = e, o a handle -/
def dSetF (C : Addr) (f : Str) (mo m : DE) : DS := fun A ρ O => m ρ O (fun d O1 => mo ρ O1 (fun x O2 => match x with
  | .opq (.ref p) => ∃ fs, O2 p = some (.ins C fs) ∧ fs.length < 1000 ∧ A.nx ρ (oset O2 p (.ins C (putD f d fs)))
  | _ => False) (fun x O1 => A.ex x ρ O1)) (fun x O1 => A.ex x ρ O1)
theorem d_setF {C : Addr} {f : Str} (cl : Cls X.K C) (na : NoAttr X.K C f) (ho : DPE X L o mo') (he : DPE X L e m) (hs : swapsWith e (some (.Attribute o f pos')) pos.line X.env = pure false) : DPS X L (.Assign [.Attribute o f pos'] e pos) (dSetF C f mo' m) := by
  refine ⟨fun A A' ρ O l z => he.mo _ _ _ _ _ _ (fun d O1 y => ho.mo _ _ _ _ _ _ (fun x O2 w => ?_) (fun x _ y => l.ex _ _ _ y) y) (fun x _ y => l.ex _ _ _ y) z, ps_imp (ps_fld ho.run he.run hs) fun Dn σ H ⟨G, O, ρ, g, rs, q⟩ => ?_⟩
  · split at w
    · obtain ⟨fs, a, b, c⟩ := w
      exact ⟨fs, a, b, l.nx _ _ c⟩
    · exact w
  · refine upE he.mo g rs q fun d v O1 G1 H1 q1 s1 r1 => ?_
    refine up_of ho.mo s1.good (rs.step s1) (ho.mo _ _ _ _ _ _ (fun _ _ z => z) (fun x _ z => (kx_of rs z).step s1) q1) fun x w O2 G2 H2 q2 s2 r2 => ?_
    split at q2
    · rename_i p
      cases r2
      obtain ⟨fs, ep, hl, q2⟩ := q2
      obtain ⟨nG, nb, dx, vs, hp, rf⟩ := s2.good.own p _ ep
      refine ⟨p, C, dx, vs, rfl, hp, cl, na, by rw [rf.length]; exact hl, ?_⟩
      have st := Step.put (o := .ins C dx (putF f v vs)) (d := .ins C (putD f d fs)) s2.good nG nb ⟨dx, _, upd_same, rf.put (r1.mono s2.grow)⟩ (.inl (by rw [ep]; exact Option.some_ne_none _))
      exact q2 σ _ _ ((s1.trans s2).trans st) (rs.step ((s1.trans s2).trans st))
    · exact q2.elim
/-! ### instances made -/
theorem make_step {C x dx : Addr} (g : Good K B O G H) (nx : H x = none) (nd : H dx = none) (hd : dx ≠ x) : Step K B O G H (oset O x (.ins C [])) G (upd (upd H dx (.own x)) x (.ins C dx [])) := by
  have s1 := Step.newH (o := .own x) g nd
  have nx1 : upd H dx (.own x) x = none := by rw [upd_ne hd.symm]; exact nx
  exact s1.trans (new_own s1.good nx1 ⟨dx, [], upd_same, .nil⟩)
/-- C(..), kept as a handle -/
def mkO (C : Addr) (sp : DSp) (ds : List D) (O : Ow) (Q : QD) (E : QX) : Prop := ∀ p, O p = none → spM sp (.opq (.ref p) :: ds) (oset O p (.ins C [])) (fun d O2 => d = .non ∧ Q (.opq (.ref p)) O2) E
/-- C(..), shown as it is behind __init__ -/
def mkF (C : Addr) (sp : DSp) (ds : List D) (O : Ow) (Q : QD) (E : QX) : Prop := ∀ p, O p = none → spM sp (.opq (.ref p) :: ds) (oset O p (.ins C [])) (fun d O2 => d = .non ∧ ∃ C' fs, O2 p = some (.ins C' fs) ∧ Q (.ins C' fs) (odel O2 p)) E
theorem mkO_mo {C : Addr} {sp : DSp} {ds : List D} {Q Q' : QD} {E E' : QX} (q : ∀ d O, Q d O → Q' d O) (x : ∀ d O, E d O → E' d O) (h : mkO C sp ds O Q E) : mkO C sp ds O Q' E' := fun p n => spM_mo (fun _ _ z => ⟨z.1, q _ _ z.2⟩) x (h p n)
theorem mkF_mo {C : Addr} {sp : DSp} {ds : List D} {Q Q' : QD} {E E' : QX} (q : ∀ d O, Q d O → Q' d O) (x : ∀ d O, E d O → E' d O) (h : mkF C sp ds O Q E) : mkF C sp ds O Q' E' := fun p n => spM_mo (fun _ _ z => ⟨z.1, let ⟨y, y', a, b⟩ := z.2; ⟨y, y', a, q _ _ b⟩⟩) x (h p n)
theorem run_mkO {C x dx : Addr} {sp : DSp} {vs : List V} {ds : List D} {Q : VK} {E : XK} (g : Good K B O G H) (r : RpL K G vs ds) (nx : H x = none) (nd : H dx = none) (hd : dx ≠ x) (h : mkO C sp ds O (kv K B O G H Q) (kx K B O G H E)) :
    spD K sp (.ref x :: vs) (upd (upd H dx (.own x)) x (.ins C dx [])) (fun v H2 => v = .non ∧ Q (.ref x) H2) E := by
  have s := make_step (C := C) g nx nd hd
  refine ⟨G, _, _, s.good.none, .cons (.opq _) r, spM_mo (fun d O2 z => kv.lift s.good fun v G' H' t rv => ?_) (fun x O2 z => kx.lift s.good (z.step s)) (h x (g.fresh nx))⟩
  obtain ⟨rfl, z⟩ := z
  cases rv
  exact ⟨rfl, z _ _ _ (s.trans t) (.opq _)⟩
theorem run_mkF {C x dx : Addr} {sp : DSp} {vs : List V} {ds : List D} {Q : VK} {E : XK} (g : Good K B O G H) (r : RpL K G vs ds) (nx : H x = none) (nd : H dx = none) (hd : dx ≠ x) (h : mkF C sp ds O (kv K B O G H Q) (kx K B O G H E)) :
    spD K sp (.ref x :: vs) (upd (upd H dx (.own x)) x (.ins C dx [])) (fun v H2 => v = .non ∧ Q (.ref x) H2) E := by
  have s := make_step (C := C) g nx nd hd
  refine ⟨G, _, _, s.good.none, .cons (.opq _) r, spM_mo (fun d O2 z => kv.lift s.good fun v G' H' t rv => ?_) (fun x O2 z => kx.lift s.good (z.step s)) (h x (g.fresh nx))⟩
  obtain ⟨rfl, C', fs', ey, z⟩ := z
  cases rv
  obtain ⟨G2, f, rp⟩ := Step.freeze t.good (fun _ h => by cases h) ey
  exact ⟨rfl, z _ _ _ ((s.trans t).trans f) rp⟩
def dMk (k : DSp) (mA : DA) : DE := fun ρ O Q E => mA ρ O (fun ds O1 => k ds O1 Q E) E
theorem d_makeO {CX : CXT} {k : Nat} {C f : Addr} {fd : FuncData} {ps : List Str} {sp : DSp} {x : Str} {E : XK} (hE : ∀ σ, L.W σ = E) (M : Mk X.K C f) (Fn : FnOk X.prog X.w X.K X.mg X.base CX k f fd ps (spD X.K sp)) (hr : Room (k + 1) X.A) (hg : Gl X x) (hm : X.mg x = some (.ref C)) (hb : Binds X.K fd ps []) (hx : Passes CX X E)
    (ha : DPA X L (e :: es) mA) (hdb : (x == ("__debug__" : Str)) = false) (he : starEach (e :: es) X.env = (false, eval e X.env) :: starEach es X.env) (hpl : (backTo pos (starEach es X.env)).any (·.1) = false) : DPE X L (.Call (.Name x p) (e :: es) [] pos) (dMk (mkO C sp) mA) := by
  refine ⟨fun ρ O Q Q' E E' q hx x => ha.mo ρ _ _ _ _ _ (fun _ _ z => mkO_mo q hx z) hx x, pe_imp (pe_make M Fn hr hg hm hb .nil hx ha.run hdb he hpl) fun σ H Q ⟨G, O, ρ, g, rs, q⟩ => ?_⟩
  refine upA_of ha.mo g rs q fun xs vs O1 G1 H1 q1 s1 r1 x dx nx nd hd => ?_
  rw [List.append_nil]
  exact run_mkO s1.good r1 nx nd hd (mkO_mo (fun _ _ z => z.step s1) (fun _ _ z => by rw [hE] at z; exact z.step s1) q1)
theorem d_makeF {CX : CXT} {k : Nat} {C f : Addr} {fd : FuncData} {ps : List Str} {sp : DSp} {x : Str} {E : XK} (hE : ∀ σ, L.W σ = E) (M : Mk X.K C f) (Fn : FnOk X.prog X.w X.K X.mg X.base CX k f fd ps (spD X.K sp)) (hr : Room (k + 1) X.A) (hg : Gl X x) (hm : X.mg x = some (.ref C)) (hb : Binds X.K fd ps []) (hx : Passes CX X E)
    (ha : DPA X L (e :: es) mA) (hdb : (x == ("__debug__" : Str)) = false) (he : starEach (e :: es) X.env = (false, eval e X.env) :: starEach es X.env) (hpl : (backTo pos (starEach es X.env)).any (·.1) = false) : DPE X L (.Call (.Name x p) (e :: es) [] pos) (dMk (mkF C sp) mA) := by
  refine ⟨fun ρ O Q Q' E E' q hx x => ha.mo ρ _ _ _ _ _ (fun _ _ z => mkF_mo q hx z) hx x, pe_imp (pe_make M Fn hr hg hm hb .nil hx ha.run hdb he hpl) fun σ H Q ⟨G, O, ρ, g, rs, q⟩ => ?_⟩
  refine upA_of ha.mo g rs q fun xs vs O1 G1 H1 q1 s1 r1 x dx nx nd hd => ?_
  rw [List.append_nil]
  exact run_mkF s1.good r1 nx nd hd (mkF_mo (fun _ _ z => z.step s1) (fun _ _ z => by rw [hE] at z; exact z.step s1) q1)
/-! ### keywords -/
structure DPK (X : Cx) (L : Pl) (kws : List Keyword) (m : DA) : Prop where
  mo : Mo m
  run : PK X kws (upA X.K L.B L.W m)
theorem pk_imp {kws : List Keyword} {t t' : TA} (h : PK X kws t) (i : ∀ σ H Q, t' σ H Q → t σ H Q) : PK X kws t' := ⟨fun pos pins s σ H Q I q => h.run pos pins s σ H Q I (i _ _ _ q)⟩
theorem d_knil : DPK X L [] dNil := ⟨mo_nil, pk_imp pk_nil fun σ H Q ⟨G, O, ρ, g, rs, q⟩ => q _ _ _ (Step.refl g) .nil⟩
theorem d_kcons {nm : Option Str} {kpos : Pos} {kws : List Keyword} (ha : DPE X L e m) (hr : DPK X L kws mA) : DPK X L (⟨nm, e, kpos⟩ :: kws) (dCons m mA) := by
  refine ⟨mo_cons ha.mo hr.mo, pk_imp (pk_cons ha.run hr.run) fun σ H Q ⟨G, O, ρ, g, rs, q⟩ => ?_⟩
  refine up_of ha.mo g rs q fun x v O1 G1 H1 q1 s1 r1 => ?_
  exact upA_of hr.mo s1.good (rs.step s1) (mo_step hr.mo s1 q1) fun xs vs O2 G2 H2 q2 s2 r2 => q2 _ _ _ (s1.trans s2) (.cons (r1.mono s2.grow) r2)
/-- C(e, .., k = v, ..): gD orders the data -/
def dMkK (C : Addr) (n m : Nat) (k : List D → List D → DSp) (mA mK : DA) : DE := fun ρ O Q E => mA ρ O (fun ds O1 => mK ρ O1 (fun zs O2 => ds.length = n ∧ zs.length = m ∧ k ds zs [] O2 Q E) E) E
theorem d_makeK {CX : CXT} {k n : Nat} {C f : Addr} {fd : FuncData} {ps ks : List Str} {sp : DSp} {x : Str} {E : XK} {kws : List Keyword} {g : List Value → List Value → List Value} {gV : List V → List V → List V} {gD : List D → List D → List D} (hE : ∀ σ, L.W σ = E) (M : Mk X.K C f) (Fn : FnOk X.prog X.w X.K X.mg X.base CX k f fd ps (spD X.K sp)) (hr : Room (k + 1) X.A) (hg : Gl X x) (hm : X.mg x = some (.ref C)) (hb : KBn X.K fd ps (n + 1) ks g gV)
    (hgD : ∀ (K : PySem.W.Frag) (G : Hp) (v : V) (vs zs : List V) (ds es : List D), RpL K G vs ds → RpL K G zs es → vs.length = n → zs.length = ks.length → ∃ ws, gV (v :: vs) zs = v :: ws ∧ RpL K G ws (gD ds es)) (hx : Passes CX X E)
    (ha : DPA X L (e :: es) mA) (hk : DPK X L kws mK) (hall : (backToKw pos (keywordEach kws X.env)).all (·.1.isSome) = true) (hks : (backToKw pos (keywordEach kws X.env)).filterMap (·.1) = ks) (hdb : (x == ("__debug__" : Str)) = false)
    (he : starEach (e :: es) X.env = (false, eval e X.env) :: starEach es X.env) (hpl : ((backTo pos (starEach (e :: es) X.env)).any (·.1) || (backToKw pos (keywordEach kws X.env)).any (·.1.isNone)) = false) :
    DPE X L (.Call (.Name x p) (e :: es) kws pos) (dMkK C n ks.length (fun ds zs _ => mkF C sp (gD ds zs)) mA mK) := by
  refine ⟨fun ρ O Q Q' E E' q hx x => ha.mo ρ _ _ _ _ _ (fun _ _ z => hk.mo ρ _ _ _ _ _ (fun _ _ y => ⟨y.1, y.2.1, mkF_mo q hx y.2.2⟩) hx z) hx x, pe_imp (pe_makeK M Fn hr hg hm hb hx ha.run hk.run hall hks hdb he hpl) fun σ H Q ⟨G, O, ρ, g, rs, q⟩ => ?_⟩
  refine upA_of ha.mo g rs q fun xs vs O1 G1 H1 q1 s1 r1 => ?_
  refine upA_of hk.mo s1.good (rs.step s1) (mo_step hk.mo s1 q1) fun zs ws O2 G2 H2 q2 s2 r2 => ?_
  obtain ⟨l1, l2, q2⟩ := q2
  refine ⟨by rw [r1.length]; exact l1, by rw [r2.length]; exact l2, fun x dx nx nd hd => ?_⟩
  obtain ⟨us, e1, r3⟩ := hgD _ _ (.ref x) _ _ _ _ (r1.mono s2.grow) r2 (by rw [r1.length]; exact l1) (by rw [r2.length]; exact l2)
  rw [e1]
  have s12 := s1.trans s2
  exact run_mkF s2.good r3 nx nd hd (mkF_mo (fun _ _ z => z.step s12) (fun _ _ z => by rw [hE] at z; exact z.step s12) q2)
/-! ### methods -/
/-- the instance, then the others -/
def dMeth (C : Addr) (f : Str) (sp : DSp) (mo : DE) (mA : DA) : DE := fun ρ O Q E => mo ρ O (fun x O1 => (match lk O1 x with
  | .ins C' fs => C' = C ∧ fs.lookup f = none
  | _ => False) ∧ mA ρ O1 (fun ds O2 => spM sp (x :: ds) O2 Q E) E) E
theorem mo_meth {C : Addr} {f : Str} {sp : DSp} (ho : Mo mo') (ha : Mo mA) : Mo (dMeth C f sp mo' mA) := fun ρ O Q Q' E E' q hx x => ho ρ _ _ _ _ _ (fun _ _ z => ⟨z.1, ha ρ _ _ _ _ _ (fun _ _ y => spM_mo q hx y) hx z.2⟩) hx x
theorem ins_of {x : D} {v : V} {C : Addr} {f : Str} (g : Good K B O G H) (r : Rp K G v x) (h : match lk O x with
  | .ins C' fs => C' = C ∧ fs.lookup f = none
  | _ => False) : ∃ a dx fs, v = .ref a ∧ H a = some (.ins C dx fs) ∧ fs.lookup f = none := by
  have rx := lk_rp g r
  generalize lk O x = y at h rx
  split at h
  · obtain ⟨rfl, h⟩ := h
    obtain ⟨p, dx, fs, rfl, hp, rf⟩ := rx.ins g.sub
    exact ⟨p, dx, fs, rfl, hp, rf.look0 h⟩
  · exact h.elim
theorem d_meth {CX : CXT} {k : Nat} {C f : Addr} {fd : FuncData} {ps : List Str} {sp : DSp} {nm : Str} {E : XK} {pl : Sem Bool} (hE : ∀ σ, L.W σ = E) (cl : Cls X.K C) (hm : Meth X.K C nm f) (Fn : FnOk X.prog X.w X.K X.mg X.base CX k f fd ps (spD X.K sp)) (hr : Room k X.A) (hb : Binds X.K fd ps []) (hx : Passes CX X E)
    (ho : DPE X L o mo') (ha : DPA X L (e :: es) mA) (hst : starEach (e :: es) X.env = (false, eval e X.env) :: starEach es X.env) (hpl : (backTo pos (starEach es X.env)).any (·.1) = false)
    (ht : eval (.Call (.Attribute o nm apos) (e :: es) [] pos) X.env = (do
      let ov ← eval o X.env
      standAt apos.atName
      let (f, first) ← holding [ov] (getMethod ov nm pl)
      callWith pos f first (backTo pos (starEach (e :: es) X.env)) (backToKw pos (keywordEach [] X.env)))) : DPE X L (.Call (.Attribute o nm apos) (e :: es) [] pos) (dMeth C nm sp mo' mA) := by
  refine ⟨mo_meth ho.mo ha.mo, pe_imp (pe_meth ho.run cl hm Fn hr hb .nil hx ha.run hst hpl ht) fun σ H Q ⟨G, O, ρ, g, rs, q⟩ => ?_⟩
  refine up_of ho.mo g rs q fun x v O1 G1 H1 q1 s1 r1 => ?_
  obtain ⟨q0, q1⟩ := q1
  obtain ⟨p, dx, fs, ev, hp, hl⟩ := ins_of s1.good r1 q0
  refine ⟨p, dx, fs, ev, hp, hl, upA_of ha.mo s1.good (rs.step s1) (mo_step ha.mo s1 q1) fun ds vs O2 G2 H2 q2 s2 r2 => ?_⟩
  have s12 := s1.trans s2
  rw [List.append_nil]
  exact ⟨G2, O2, _, s2.good.none, .cons (r1.mono s2.grow) r2, spM_mo (fun d _ z => (z.step s12).lift s2.good) (fun x _ z => by rw [hE] at z; exact (z.step s12).lift s2.good) q2⟩
theorem d_meth0 {CX : CXT} {k : Nat} {C f : Addr} {fd : FuncData} {ps : List Str} {sp : DSp} {nm : Str} {E : XK} {pl : Sem Bool} (hE : ∀ σ, L.W σ = E) (cl : Cls X.K C) (hm : Meth X.K C nm f) (Fn : FnOk X.prog X.w X.K X.mg X.base CX k f fd ps (spD X.K sp)) (hr : Room k X.A) (hb : Binds X.K fd ps []) (hx : Passes CX X E)
    (ho : DPE X L o mo')
    (ht : eval (.Call (.Attribute o nm apos) [] [] pos) X.env = (do
      let ov ← eval o X.env
      standAt apos.atName
      let (f, first) ← holding [ov] (getMethod ov nm pl)
      callWith pos f first (backTo pos (starEach [] X.env)) (backToKw pos (keywordEach [] X.env)))) : DPE X L (.Call (.Attribute o nm apos) [] [] pos) (dMeth C nm sp mo' dNil) := by
  refine ⟨mo_meth ho.mo mo_nil, pe_imp (pe_meth0 ho.run cl hm Fn hr hb .nil hx ht) fun σ H Q ⟨G, O, ρ, g, rs, q⟩ => ?_⟩
  refine up_of ho.mo g rs q fun x v O1 G1 H1 q1 s1 r1 => ?_
  obtain ⟨q0, q1⟩ := q1
  obtain ⟨p, dx, fs, ev, hp, hl⟩ := ins_of s1.good r1 q0
  refine ⟨p, dx, fs, ev, hp, hl, ?_⟩
  show spD X.K sp (v :: ([] ++ [])) H1 Q E
  exact ⟨G1, O1, _, s1.good.none, .cons r1 .nil, spM_mo (fun d _ z => (z.step s1).lift s1.good) (fun x _ z => by rw [hE] at z; exact (z.step s1).lift s1.good) q1⟩
end
end EV
set_option Elab.async false
set_option linter.all false
set_option maxRecDepth 100000
set_option maxHeartbeats 4000000
namespace EV
open PySem PySem.Spec PyProof.Rows L2
section
variable {X : Cx} {L : Pl} {a : Expr} {m : DE} {pos : Pos}
/-- - e -/
def negD : D → (D → Prop) → Prop
  | .int i, Q => Q (.int (-i))
  | _, _ => False
def dNeg (m : DE) : DE := fun ρ O Q E => m ρ O (fun x O1 => negD x fun d => Q d O1) E
theorem d_neg (h : DPE X L a m) : DPE X L (.UnaryOp .USub a pos) (dNeg m) := by
  refine ⟨fun ρ O Q Q' E E' q hx x => h.mo ρ _ _ _ _ _ (fun d O1 z => ?_) hx x, pe_imp (pe_un un_neg h.run) fun σ H Q ⟨G, O, ρ, g, rs, q⟩ => ?_⟩
  · cases d <;> first | exact q _ _ z | exact z
  · refine up_of h.mo g rs q fun x v O1 G1 H1 q1 s1 r1 => ?_
    cases r1 <;> first
      | exact ⟨_, rfl, q1 _ _ _ s1 (.int _)⟩
      | exact q1.elim
/-- a text among texts -/
def inSD (f : Bool → Bool) : P2
  | .str x, .tup xs, Q => match toSs xs with
    | some ss => Q (.bl (f (ss.any fun z => decide (x = z))))
    | none => False
  | .str x, .lst xs, Q => match toSs xs with
    | some ss => Q (.bl (f (ss.any fun z => decide (x = z))))
    | none => False
  | _, _, _ => False
theorem flat_strs (ss : List Str) : (ss.map V.str).all flatV = true := by
  induction ss with
  | nil => rfl
  | cons a r ih => simp [flatV, ih]
theorem inV_strs (x : Str) (ss : List Str) : inV (.str x) (ss.map V.str) = ss.any fun z => decide (x = z) := by
  induction ss with
  | nil => rfl
  | cons a r ih =>
    have e : eqV (V.str a) (V.str x) = decide (x = a) := by
      by_cases h : x = a
      · subst h; simp [eqV]
      · have h' : ¬ a = x := fun z => h z.symm
        simp [eqV, h, h']
    simp [inV] at ih ⊢
    simp [ih, e]
theorem od_inSf {B : Bo} {op : CmpOp} {f : Bool → Bool} {ng : Bool} (h : OpR X (compareOp op) (rIn X.K ng)) (hf : ∀ b, (if ng = true then !b else b) = f b) : OpD X B (compareOp op) (pu (inSD f)) := by
  refine ⟨fun O x y Q Q' q z => ?_, _, h, fun O G H x y a b Q gd r1 r2 q => ?_⟩
  · dsimp only [pu] at z ⊢; unfold inSD at z ⊢
    split at z
    · split at z
      · exact q _ z
      · exact z
    · split at z
      · exact q _ z
      · exact z
    · exact z
  · dsimp only [pu] at q; unfold inSD at q
    split at q
    · split at q
      · rename_i ss e
        cases r1
        cases r2 with
        | tup s l =>
          have ev := toSs_vs l e
          subst ev
          exact ⟨_, _, rfl, .inr (gd.sub.sqT s), rfl, flat_strs ss, by rw [hf, inV_strs]; exact q _ _ _ (Step.refl gd) (.bl _)⟩
      · exact q.elim
    · split at q
      · rename_i ss e
        cases r1
        cases r2 with
        | lst s l =>
          have ev := toSs_vs l e
          subst ev
          exact ⟨_, _, rfl, .inl (gd.sub.lstL s), rfl, flat_strs ss, by rw [hf, inV_strs]; exact q _ _ _ (Step.refl gd) (.bl _)⟩
      · exact q.elim
    · exact q.elim
theorem od_inS {B : Bo} : OpD X B (compareOp .In) (pu (inSD id)) := od_inSf op_in_seq fun b => rfl
theorem od_notinS {B : Bo} : OpD X B (compareOp .NotIn) (pu (inSD not)) := od_inSf op_notIn_seq fun b => rfl
end
end EV
set_option Elab.async false
set_option linter.all false
set_option maxRecDepth 100000
set_option maxHeartbeats 4000000
namespace EV
open PySem PySem.Spec PyProof.Rows L2
theorem boot_LookupError : bootBuiltins "LookupError" = some (.type "LookupError") := by decide +kernel
section
variable {X : Cx} {L : Pl} {a b c : Expr} {mA : DA} {pos : Pos}
/-- x, y = a, b with plain local names -/
def dPar (i j : Nat) (mA : DA) : DS := fun A ρ O => mA ρ O (fun ds O1 => match ds with
  | [u, v] => A.nx ((ρ.set i (.sh u)).set j (.sh v)) O1
  | _ => False) (fun x O1 => A.ex x ρ O1)
theorem d_par {i j : Nat} {x y : Str} {px py pt : Pos} {kt k2 pt2} (hc : X.calm = true) (hN : X.N.Nodup) (hi : X.N[i]? = some x) (hj : X.N[j]? = some y) (hij : i ≠ j)
    (hx : X.env.scope.names.lookup x = some .local) (hy : X.env.scope.names.lookup y = some .local) (ha : DPA X L [a, b] mA)
    (hw : swappedStores [.Tuple [.Name x px, .Name y py] kt pt] (.Tuple [a, b] k2 pt2) X.env = pure (some [x, y]))
    (hs : swapsWithSole [.Tuple [.Name x px, .Name y py] kt pt] (.Tuple [a, b] k2 pt2) pos.line X.env = pure false) :
    DPS X L (.Assign [.Tuple [.Name x px, .Name y py] kt pt] (.Tuple [a, b] k2 pt2) pos) (dPar i j mA) := by
  refine ⟨fun A A' ρ O l z => ha.mo _ _ _ _ _ _ (fun d O1 y => ?_) (fun x _ y => l.ex _ _ _ y) z, ps_imp (ps_par hc hN hi hj hij hx hy ha.run hw hs) fun Dn σ H ⟨G, O, ρ, g, rs, q⟩ => ?_⟩
  · split at y
    · exact l.nx _ _ y
    · exact y
  · refine upAE ha.mo g rs q fun ds vs O1 G1 H1 q1 s1 r1 => ?_
    split at q1
    · cases r1 with
      | cons r1 r2 =>
        cases r2 with
        | cons r2 r3 =>
          cases r3
          exact ⟨_, _, rfl, q1 _ _ _ s1 (((rs.step s1).set r1).set r2)⟩
    · exact q1.elim
def dPar3 (i j l : Nat) (mA : DA) : DS := fun A ρ O => mA ρ O (fun ds O1 => match ds with
  | [u, v, w] => A.nx (((ρ.set i (.sh u)).set j (.sh v)).set l (.sh w)) O1
  | _ => False) (fun x O1 => A.ex x ρ O1)
theorem d_par3 {i j l : Nat} {x y z : Str} {px py pz pt : Pos} {kt k2 pt2} (hc : X.calm = true) (hN : X.N.Nodup) (hi : X.N[i]? = some x) (hj : X.N[j]? = some y) (hl : X.N[l]? = some z) (hij : i ≠ j) (hil : i ≠ l) (hjl : j ≠ l)
    (hx : X.env.scope.names.lookup x = some .local) (hy : X.env.scope.names.lookup y = some .local) (hz : X.env.scope.names.lookup z = some .local) (ha : DPA X L [a, b, c] mA)
    (hw : swappedStores [.Tuple [.Name x px, .Name y py, .Name z pz] kt pt] (.Tuple [a, b, c] k2 pt2) X.env = pure (some [x, y, z]))
    (hs : swapsWithSole [.Tuple [.Name x px, .Name y py, .Name z pz] kt pt] (.Tuple [a, b, c] k2 pt2) pos.line X.env = pure false) :
    DPS X L (.Assign [.Tuple [.Name x px, .Name y py, .Name z pz] kt pt] (.Tuple [a, b, c] k2 pt2) pos) (dPar3 i j l mA) := by
  refine ⟨fun A A' ρ O l z => ha.mo _ _ _ _ _ _ (fun d O1 y => ?_) (fun x _ y => l.ex _ _ _ y) z, ps_imp (ps_par3 hc hN hi hj hl hij hil hjl hx hy hz ha.run hw hs) fun Dn σ H ⟨G, O, ρ, g, rs, q⟩ => ?_⟩
  · split at y
    · exact l.nx _ _ y
    · exact y
  · refine upAE ha.mo g rs q fun ds vs O1 G1 H1 q1 s1 r1 => ?_
    split at q1
    · cases r1 with
      | cons r1 r2 =>
        cases r2 with
        | cons r2 r3 =>
          cases r3 with
          | cons r3 r4 =>
            cases r4
            exact ⟨_, _, _, rfl, q1 _ _ _ s1 ((((rs.step s1).set r1).set r2).set r3)⟩
    · exact q1.elim
end
end EV
set_option Elab.async false
set_option linter.all false
set_option maxRecDepth 100000
set_option maxHeartbeats 4000000
namespace LW
open PySem PySem.Spec PyProof.Rows L2 EV
theorem zip_self {α : Type} : ∀ {xs : List α} {p : α × α}, p ∈ List.zip xs xs → p.1 = p.2
  | [], _, h => by simp at h
  | x :: xs, p, h => by
    rw [List.zip_cons_cons] at h
    rcases List.mem_cons.mp h with e | e
    · rw [e]
    · exact zip_self e
theorem st_norm {rest : DS} {A : DEnds} {ρ ρ' : Slots} {O : Ow} (e : ρ = ρ') (k : rest A ρ' O) : rest A ρ O := e ▸ k
theorem st_set {m : DE} {i : Nat} {rest : DS} {A : DEnds} {ρ : Slots} {O : Ow} (d : D) (h : ∀ Q E, Q d O → m ρ O Q E) (k : ∀ v, v = d → rest A (ρ.set i (.sh v)) O) : dSeq (dAsg m (dgName i)) rest A ρ O := h _ _ (k d rfl)
theorem st_setN {m : DE} {i : Nat} {rest : DS} {A : DEnds} {ρ : Slots} {O : Ow} (P : D → Prop) (h : ∀ Q E, (∀ d, P d → Q d O) → m ρ O Q E) (k : ∀ d, P d → rest A (ρ.set i (.sh d)) O) : dSeq (dAsg m (dgName i)) rest A ρ O := h _ _ k
theorem st_parN {mA : DA} {i j : Nat} {rest : DS} {A : DEnds} {ρ : Slots} {O : Ow} (P : D → D → Prop) (h : ∀ Q E, (∀ u v, P u v → Q [u, v] O) → mA ρ O Q E) (k : ∀ u v, P u v → rest A ((ρ.set i (.sh u)).set j (.sh v)) O) : dSeq (dPar i j mA) rest A ρ O := h _ _ k
theorem st_par3 {mA : DA} {i j l : Nat} {rest : DS} {A : DEnds} {ρ : Slots} {O : Ow} (u v w : D) (h : ∀ Q E, Q [u, v, w] O → mA ρ O Q E) (k : ∀ u' v' w', u' = u → v' = v → w' = w → rest A (((ρ.set i (.sh u')).set j (.sh v')).set l (.sh w')) O) : dSeq (dPar3 i j l mA) rest A ρ O := h _ _ (k u v w rfl rfl rfl)
theorem st_ifF {t : DT} {u rest : DS} {A : DEnds} {ρ : Slots} {O : Ow} (h : ∀ Q E, Q false O → t ρ O Q E) (k : rest A ρ O) : dSeq (dIfS t u dNext) rest A ρ O := h _ _ k
theorem st_ifL {t : DT} {u : DS} {A : DEnds} {ρ : Slots} {O : Ow} (h : ∀ Q E, Q false O → t ρ O Q E) (k : A.nx ρ O) : dIfS t u dNext A ρ O := h _ _ k
theorem val_nil {ρ : Slots} {O : Ow} : ∀ (Q : List D → Ow → Prop) (E : QX), Q [] O → dNil ρ O Q E := fun _ _ q => q
theorem val_cons {m : DE} {mr : DA} {ρ : Slots} {O : Ow} (a : D) (as : List D) (h : ∀ Q E, Q a O → m ρ O Q E) (k : ∀ Q E, Q as O → mr ρ O Q E) : ∀ Q E, Q (a :: as) O → dCons m mr ρ O Q E := fun Q E q => h _ _ (k _ _ q)
theorem val_lst {mA : DA} {ρ : Slots} {O : Ow} (xs : List D) (h : ∀ Q E, Q xs O → mA ρ O Q E) (z : xs.length ≤ sizeLine) : ∀ Q E, Q (.lst xs) O → dLst mA ρ O Q E := fun Q E q => h _ _ ⟨z, q⟩
theorem val_tup {mA : DA} {ρ : Slots} {O : Ow} (xs : List D) (h : ∀ Q E, Q xs O → mA ρ O Q E) (z : xs.length ≤ sizeLine) : ∀ Q E, Q (.tup xs) O → dTup mA ρ O Q E := fun Q E q => h _ _ ⟨z, q⟩
theorem val_op {o : D2} {ma mb : DE} {ρ : Slots} {O : Ow} (x y z : D) (h : ∀ Q E, Q x O → ma ρ O Q E) (k : ∀ Q E, Q y O → mb ρ O Q E) (ho : ∀ Q, Q z → o O x y Q) : ∀ Q E, Q z O → dOp o ma mb ρ O Q E := fun Q E q => h _ _ (k _ _ (ho _ q))
theorem val_lc {mi : DI} {g : DG} {te : DE} {vs : List Nat} {ρ : Slots} {O : Ow} (xs : List D) (f : D → D) (hi : ∀ Q E, (∀ I, I O → Q (I, xs) O) → mi ρ O Q E) (he : ∀ d ∈ xs, ∀ Qy : QD, Qy (f d) O → g d (wipeD ρ vs) fun ρ' => te ρ' O Qy fun _ _ => False) (hl : xs.length ≤ sizeLine) {ys : List D} (e : xs.map f = ys) : ∀ Q E, Q (.lst ys) O → dLc mi g dYes te vs ρ O Q E :=
  fun Q E q => hi _ _ fun I hI => lcW_map hI f he (by simpa using hl) (by subst e; simpa using q)
theorem le_sz {n : Nat} (h : Nat.ble n sizeLine = true) : n ≤ sizeLine := Nat.le_of_ble_eq_true h
theorem all_mp {α : Type} {l : List α} {p : α → Bool} (h : ∀ x ∈ l, p x = true) : l.all p = true := List.all_eq_true.mpr h
theorem same_refl : ∀ (n : Nat) (d : D), Plain n d → sameD d d = true
  | _, .non, _ => by simp [sameD]
  | _, .bl _, _ => by simp [sameD]
  | _, .int _, _ => by simp [sameD]
  | _, .str _, _ => by simp [sameD]
  | n + 1, .lst xs, h => by
    rw [sameD, sameL_zip rfl]
    refine List.all_eq_true.mpr fun p hp => ?_
    have e : p.1 = p.2 := zip_self hp
    rw [← e]
    exact same_refl n p.1 (h.2 _ (List.of_mem_zip hp).1)
  | n + 1, .tup xs, h => by
    rw [sameD, sameL_zip rfl]
    refine List.all_eq_true.mpr fun p hp => ?_
    have e : p.1 = p.2 := zip_self hp
    rw [← e]
    exact same_refl n p.1 (h.2 _ (List.of_mem_zip hp).1)
  | 0, .lst _, h => h.elim
  | 0, .tup _, h => h.elim
  | 0, .opq _, h => h.elim
  | _ + 1, .opq _, h => h.elim
  | 0, .dic _, h => h.elim
  | _ + 1, .dic _, h => h.elim
  | 0, .ins _ _, h => h.elim
  | _ + 1, .ins _ _, h => h.elim
  | 0, .exc _ _, h => h.elim
  | _ + 1, .exc _ _, h => h.elim
  | 0, .lam _, h => h.elim
  | _ + 1, .lam _, h => h.elim
theorem not_same {mA : DA} {ρ : Slots} {O : Ow} {n : Nat} (a : D) (h : ∀ Q E, Q [a, a] O → mA ρ O Q E) (p : Plain n a) : ∀ Q E, Q false O → dNot (dTest (dCall (sameS n) mA)) ρ O Q E := fun Q E q =>
  h _ _ (spM.of ⟨a, a, rfl, p, p, by rw [same_refl n a p]; exact q⟩)
theorem plain_l {n : Nat} {xs : List D} (h : Nat.ble xs.length 1000 = true) (k : ∀ x ∈ xs, Plain n x) : Plain (n + 1) (.lst xs) := ⟨Nat.le_trans (Nat.le_of_ble_eq_true h) (by decide), k⟩
theorem Plain.up : ∀ {n : Nat} {d : D}, Plain n d → Plain (n + 1) d
  | _, .non, _ => trivial
  | _, .bl _, _ => trivial
  | _, .int _, _ => trivial
  | _, .str _, _ => trivial
  | n + 1, .lst xs, h => ⟨h.1, fun x hx => (h.2 x hx).up⟩
  | n + 1, .tup xs, h => ⟨h.1, fun x hx => (h.2 x hx).up⟩
  | 0, .lst _, h => h.elim
  | 0, .tup _, h => h.elim
  | 0, .opq _, h => h.elim
  | _ + 1, .opq _, h => h.elim
  | 0, .dic _, h => h.elim
  | _ + 1, .dic _, h => h.elim
  | 0, .ins _ _, h => h.elim
  | _ + 1, .ins _ _, h => h.elim
  | 0, .exc _ _, h => h.elim
  | _ + 1, .exc _ _, h => h.elim
  | 0, .lam _, h => h.elim
  | _ + 1, .lam _, h => h.elim
def getF (f : Str) : D → D
  | .exc _ fs => (fs.lookup f).getD .non
  | _ => .non
end LW
set_option Elab.async false
set_option linter.all false
set_option maxRecDepth 100000
set_option maxHeartbeats 4000000
/-! lambdas made -/
namespace LamX
open PySem PySem.Spec PyProof.Rows L2
/-- a lambda of the def at X: no cell of its own; its own parameters are no names of X's -/
structure LamW (N : List Str) (sc scope : Scope) : Prop where
  kind : scope.kind = .function
  co : scope.isCoroutine = false
  gen : scope.isGenerator = false
  cell : ∀ y ∈ scope.names, y.2 ≠ .cell
  own : ∀ y ∈ scope.names, y.2 = .local → y.1 ∉ N
  free : ∀ y ∈ scope.names, y.2 = .free → sc.names.lookup y.1 = some .cell ∨ sc.names.lookup y.1 = some .free
def lamWB (N : List Str) (sc scope : Scope) : Bool :=
  decide (scope.kind = .function) && !scope.isCoroutine && !scope.isGenerator && scope.names.all fun y => !decide (y.2 = .cell) && (!decide (y.2 = .local) || !N.contains y.1) && (!decide (y.2 = .free) || decide (sc.names.lookup y.1 = some .cell) || decide (sc.names.lookup y.1 = some .free))
theorem lamW_by {N : List Str} {sc scope : Scope} (h : lamWB N sc scope = true) : LamW N sc scope := by
  unfold lamWB at h
  simp only [Bool.and_eq_true, Bool.or_eq_true, Bool.not_eq_true', decide_eq_true_eq, decide_eq_false_iff_not, List.all_eq_true] at h
  obtain ⟨⟨⟨h1, h2⟩, h3⟩, h4⟩ := h
  refine ⟨h1, h2, h3, fun y hy => (h4 y hy).1.1, fun y hy e => ?_, fun y hy e => ?_⟩
  · rcases (h4 y hy).1.2 with z | z
    · exact absurd e z
    · simpa using z
  · rcases (h4 y hy).2 with (z | z) | z
    · exact absurd e z
    · exact .inl z
    · exact .inr z
theorem LamW.has {X : Cx} {scope : Scope} (L : LamW X.N X.env.scope scope) (ok : X.Ok) : ∀ y ∈ scope.names, y.2 = .free → ∃ c, X.env.cells.lookup y.1 = some c := fun y hy e => by
  rcases L.free y hy e with k | k
  · exact ok.has _ (.inl k)
  · exact ok.has _ (.inr k)
/-- what the making of a lambda leaves: the table may have grown by the new code object at c' -/
def MadeT (H H1 : Hp) (P c' : Addr) (q : Str) (pos : Pos) : Prop := (H1 = H ∧ H c' = some (CodeO c' q) ∧ ∃ ps, H P = some (.tbl ps) ∧ codeAmong pos ps.toList = some (.ref c')) ∨ ∃ ps more, H P = some (.tbl ps) ∧ H c' = none ∧ H1 = upd (upd H P (.tbl (ps ++ more))) c' (CodeO c' q) ∧ ∀ p' cv, codeAmong p' (ps ++ more).toList = some cv → codeAmong p' ps.toList = some cv ∨ cv = .ref c'
section
variable {X : Cx} {pins : List (Addr × Obj)} {σ : L2.St} {H : Hp} {s : Shared}
theorem lay_frz (I : Inv X pins σ H s) {h' : Heap} {t' : Nat} {a : Addr} {o : Obj} (old : ∀ b u, s.heap.get? b = some u → h'.get? b = some u) (hs : s.heap.objs.size ≤ a) (ho : h'.get? a = some o) : Inv X pins σ (upd H a (.frz o (.own 0))) { s with heap := h', toks := t' } :=
  I.laid (t' := t') old hs ⟨ho, _, ho⟩
theorem lam_tail {T : List (Addr × Str)} {c P : Addr} {params : Arguments} {body : Expr} {scope : Scope} {pos : Pos} {dV : Value} {E : Value → Shared → Prop} {Q : Value → Shared → Prop} (I : Inv X pins σ H s) (TB : TabB X.base X.mg c P) (hcode : X.env.code = .ref c)
    (hm : (P, X.env.qual ++ "<lambda>") ∈ T) (hu : ∀ p ∈ T, p.1 = P → p.2 = X.env.qual ++ "<lambda>") (hT : Tabs T H) (hfree : ∀ y ∈ scope.names, y.2 = .free → ∃ c, X.env.cells.lookup y.1 = some c)
    (h : ∀ (f c' : Addr) (doc pm ctv : Value) (H1 : Hp) (s' : Shared), MadeT H H1 P c' (X.env.qual ++ "<lambda>") pos → Tabs T H1 → H1 f = none →
      Inv X pins σ (upd H1 f (.frz (PySem.W.kdv_obj "<lambda>" (X.env.qual ++ "<lambda>") params (.expr body) scope (cloFrom X.env.cells scope.names []) dV doc pm c' ctv) (.own 0))) s' → Q (.ref f) s') :
    wpAny (model X.prog X.w) X.A (makeTail "<lambda>" (X.env.qual ++ "<lambda>") params (.expr body) scope X.env dV .none none pos pos.line) Q E s := by
  obtain ⟨ps, hP, ht, ha⟩ := hT _ hm
  have bP : s.heap.BuiltinsAt X.mg P := TB.bm.keeps I.bk
  have hP' : s.heap.get? P = some { cls := .none, data := .fields ps } := I.hok P _ hP
  cases hc : codeAmong pos ps.toList with
  | none =>
    refine PySem.W.kdv_makeTail (mg := X.mg) (c := c) (P := P) (ps := ps) (closure_ok hfree) I.ok.glob (I.mod.glob.keeps I.bk) hcode (TB.code.keeps I.bk) hP' ht hc TB.gP bP fun c' ctv doc h' tk hx hge hlt hrec htb => ?_
    obtain ⟨c2, oc, vs, t, e2, hoc, hd, hv⟩ := hrec
    cases e2
    have hsz : s.heap.objs.size ≤ h'.objs.size := Nat.le_trans hge (Nat.le_of_lt hlt)
    have nC : H c' = none := I.hok.fresh hge
    have I1 := inv_table (t' := tk) (more := #[rawInt pos.line, rawInt pos.col, .ref c']) (h' := h') I hP (fun b o hb e => hx b o hb e) htb hge ⟨oc, vs, t, hoc, hd, hv⟩
    have hE : ExtN H (upd (upd H P (.tbl (ps ++ #[rawInt pos.line, rawInt pos.col, .ref c']))) c' (CodeO c' (X.env.qual ++ "<lambda>"))) := fun b o e n => by
      rw [upd_ne (ne_of_none e nC), upd_ne (fun z => n ps (Option.some.inj (e.symm.trans (by rw [z]; exact hP))))]
      exact e
    have eL : (ps ++ #[rawInt pos.line, rawInt pos.col, .ref c']).toList = ps.toList ++ [rawInt pos.line, rawInt pos.col, .ref c'] := by simp
    refine h h'.objs.size c' doc _ ctv _ _ (.inr ⟨ps, _, hP, nC, rfl, fun p' cv hcv => by rw [eL] at hcv; exact among_app _ ht hcv⟩) (fun p hp => ?_) (I1.hok.fresh (Nat.le_refl _)) (lay_frz (s := { s with heap := h', toks := tk }) I1 (fun b u e => Heap.get?_push_of_some _ e) (Nat.le_refl _) (Heap.get?_push_size _ rfl))
    by_cases hb : p.1 = P
    · rw [hu p hp hb, hb]
      refine ⟨_, by rw [upd_ne (ne_of_none hP nC), upd_same], by rw [eL]; exact PySem.TriplesOk_snoc _ _ _ _ ht, fun p' cv hcv => ?_⟩
      rw [eL] at hcv
      rcases among_app _ ht hcv with z | z
      · obtain ⟨c0, e1, e2⟩ := ha p' cv z
        exact ⟨c0, e1, hE _ _ e2 codeO_ne⟩
      · exact ⟨c', z, upd_same⟩
    · obtain ⟨ps', a1, a2, a3⟩ := hT p hp
      refine ⟨ps', by rw [upd_ne (ne_of_none a1 nC), upd_ne hb]; exact a1, a2, fun p' cv hcv => ?_⟩
      obtain ⟨c0, e1, e2⟩ := a3 p' cv hcv
      exact ⟨c0, e1, hE _ _ e2 codeO_ne⟩
  | some cv =>
    obtain ⟨c', e, hco⟩ := ha pos cv hc
    subst e
    refine PySem.W.kdv_makeTailHit (mg := X.mg) (c := c) (P := P) (ps := ps) (closure_ok hfree) I.ok.glob (I.mod.glob.keeps I.bk) hcode (TB.code.keeps I.bk) hP' ht hc bP fun ctv doc h' tk hx hsz => ?_
    exact h h'.objs.size c' doc _ ctv H _ (.inl ⟨rfl, hco, ps, hP, hc⟩) hT (I.hok.fresh hsz) (lay_frz I (fun b o e => Heap.get?_push_of_some _ (hx b o e)) hsz (Heap.get?_push_size _ rfl))
end
end LamX
set_option Elab.async false
set_option linter.all false
set_option maxRecDepth 100000
set_option maxHeartbeats 4000000
/-! lambdas called: from the frame of X, whose cells are as they were -/
namespace LamX
open PySem PySem.Spec PyProof.Rows L2
/-- what is known of the cells of X: the slots σ lie in them -/
structure CellsAt (X : Cx) (σ : L2.St) (H : Hp) (h : Heap) : Prop where
  cell : ∀ y c, X.env.cells.lookup y = some c → (∃ v, h.IsCell c v) ∧ H c = none
  val : ∀ (i : Nat) (y : Str) (v : V), X.N[i]? = some y → σ[i]? = some (some v) → (X.env.scope.names.lookup y = some .cell ∨ X.env.scope.names.lookup y = some .free) → ∃ c u, X.env.cells.lookup y = some c ∧ RelV v u ∧ h.IsCell c (some u)
section
variable {X : Cx} {σ : L2.St} {HZ : Hp} {s1 : Shared}
theorem lam_start3 {A : Around} {outer : List Env} {E : XK} {scope : Scope} {f c' : Addr} {h₁ : Heap} {tk : Nat} {binds : List (Str × Value)} (ok : X.Ok) (len : σ.length = X.N.length) (L : LamW X.N X.env.scope scope) (C : CellsAt X σ HZ s1.heap) (e0 : Env0 X.prog X.w X.K X.mg X.base A outer s1 HZ) (hd : A.handled = none)
    (hns : h₁.Ns s1.heap.objs.size fun y => binds.reverse.lookup y) (kp : ∀ b o, s1.heap.get? b = some o → h₁.get? b = some o) :
    Inv (lamCx X A outer s1 HZ E scope f c') [] σ HZ { s1 with heap := h₁, toks := tk } := by
  have hfree := L.has ok
  have cm : ∀ {y c}, (cloFrom X.env.cells scope.names []).lookup y = some c → X.env.cells.lookup y = some c := fun {y c} e => by
    rcases cloFrom_mem (PySem.mem_of_lookup e) with hm | ⟨h1, h2⟩
    · cases hm
    · obtain ⟨c1, hc⟩ := hfree _ h1 rfl
      have hc : X.env.cells.lookup y = some c1 := hc
      have e2 : c = c1 := by
        rw [h2, hc] <;> rfl
      rw [e2]
      exact hc
  have look : ∀ {y}, scope.names.lookup y = some .free → ∃ c, (cloFrom X.env.cells scope.names []).lookup y = some c := fun {y} hl => by
    have hy : (y, NameKind.free) ∈ scope.names := PySem.mem_of_lookup hl
    exact mem_lookup (cloFrom_has (cells := X.env.cells) (acc := []) hy)
  have cellK : ∀ {c : Addr} {v : Option Value}, s1.heap.IsCell c v → h₁.IsCell c v := fun {c v} ⟨o, ho, hd⟩ => ⟨_, kp _ _ ho, hd⟩
  have noA : ∀ b : Addr, b ∉ (lamCx X A outer s1 HZ E scope f c').ex := fun b z => absurd (show b ∈ ([] : List Addr) from z) (by simp)
  refine ⟨⟨e0.mod, L.kind, rfl, rfl, Nat.le_refl _, fun y z c e1 e2 => ok.inj y z c (cm e1) (cm e2), fun y hy => ?_, fun y c z _ => ?_, fun _ => hd, Around.frames_deeper e0.frames, .inr ⟨rfl, rfl⟩, fun b z => absurd z (noA b), e0.bs, e0.bsz, fun b _ _ => noA b,
      fun b z => absurd z (noA b), e0.funs, e0.frf⟩,
    rfl, e0.bare, Un.kept kp, ⟨_, hns, fun i y v e1 e2 e3 => ?_⟩, fun y c e => ?_, e0.hok.fresh (Nat.le_refl _), fun y c e => ?_, fun q hq => absurd (show q ∈ ([] : List (Addr × Obj)) ++ [] from hq) (by simp), e0.hok.kept kp, len⟩
  · have hy : scope.names.lookup y = some .cell ∨ scope.names.lookup y = some .free := hy
    rcases hy with hy | hy
    · exact absurd rfl (L.cell _ (PySem.mem_of_lookup hy))
    · exact look hy
  · have z : false = true := z
    cases z
  · have e3 : Vis scope y := e3
    rcases e3 with k | k | k
    · have e1 : X.N[i]? = some y := e1
      exact absurd (List.mem_of_getElem? e1) (L.own _ (PySem.mem_of_lookup k) rfl)
    · exact absurd rfl (L.cell _ (PySem.mem_of_lookup k))
    · obtain ⟨c, u, hc, r, ic⟩ := C.val i y v e1 e2 (L.free _ (PySem.mem_of_lookup k) rfl)
      obtain ⟨c2, h2⟩ := look k
      have c1 := cm h2
      rw [hc] at c1
      cases c1
      exact ⟨u, r, .inr ⟨.inr k, c, h2, cellK ic⟩⟩
  · obtain ⟨⟨w', z⟩, _⟩ := C.cell y c (cm e)
    exact ⟨w', cellK z⟩
  · exact (C.cell y c (cm e)).2
/-- the lambda at f is called -/
theorem lam_run {A : Around} {outer : List Env} {E : XK} {params : Arguments} {body : Expr} {scope : Scope} {f c' : Addr} {dV doc pm ctv : Value} {binds : List (Str × Value)} {k : Nat} {Q : VK} {tb : TE} (ok : X.Ok) (len : σ.length = X.N.length) (L : LamW X.N X.env.scope scope) (C : CellsAt X σ HZ s1.heap)
    (e0 : Env0 X.prog X.w X.K X.mg X.base A outer s1 HZ) (hr : Room (k + 1) A) (lim : s1.heap.NoLimit)
    (hf : s1.heap.get? f = some (PySem.W.kdv_obj "<lambda>" (X.env.qual ++ "<lambda>") params (.expr body) scope (cloFrom X.env.cells scope.names []) dV doc pm c' ctv)) (hc : HZ c' = some (CodeO c' (X.env.qual ++ "<lambda>")))
    (hb : BindsTo s1 (PySem.W.kdv_fn "<lambda>" (X.env.qual ++ "<lambda>") params (.expr body) scope (cloFrom X.env.cells scope.names []) dV doc pm (.ref c') ctv) ⟨[], []⟩ binds) (hl : ∀ y ∈ binds, scope.names.lookup y.1 = some .local)
    (hbody : Room k (A.deeper (lamEnv X scope s1.heap.objs.size f c')) → PE (lamCx X A outer s1 HZ E scope f c') body tb) (ht : tb σ HZ Q) :
    codeAny (model X.prog X.w) A (.call (.ref f) ⟨[], []⟩) (CR (L2.CX X.prog X.w) outer X.prog X.w HZ s1 Q E) s1 := by
  obtain ⟨⟨oc, vs, t, hoc, hdc, hvc⟩, _, _⟩ := e0.hok c' _ hc
  refine PySem.W.kla_callFunE hr.depth hf rfl L.co L.gen rfl ⟨c', oc, vs, t, rfl, hoc, hdc, hvc⟩ (hb _ _ _ _ ?_)
  refine wpAny_newFunctionEnv L.cell hl (fun h₁ hns hsb => ⟨lim.fresh _ hsb, ?_⟩) L.kind
  show codeAny _ _ (.expr body (lamEnv X scope s1.heap.objs.size f c')) _ _
  have kp : ∀ b o, s1.heap.get? b = some o → h₁.get? b = some o := fun b o e => hsb.extBut b o (Nat.ne_of_lt (Heap.lt_size e)) (Heap.get?_push_of_some _ e)
  have J : Inv (lamCx X A outer s1 HZ E scope f c') [] σ HZ { s1 with heap := h₁, toks := s1.toks + binds.length } := lam_start3 ok len L C e0 hr.hd hns kp
  refine PySem.W.kla_codeExpr (wpAny_mono ((hbody (hr.deeper _)).run [] _ _ HZ Q J ht) (fun v s' hq => ?_) fun e s' hq => hq)
  obtain ⟨w', H', J', rv, q⟩ := hq
  exact ⟨w', H', J'.os, J'.bare, J'.base, J'.hok, rv, q⟩
end
end LamX
set_option Elab.async false
set_option linter.all false
set_option maxRecDepth 100000
set_option maxHeartbeats 4000000
/-! objects tracked for a while: cv, addresses and the very objects there -/
namespace LamX
open PySem PySem.Spec PyProof.Rows L2
abbrev Cv := Addr → Option Obj
def hplus (H : Hp) (cv : Cv) : Hp := fun a => match cv a with
  | some o => some (.frz o (.own 0))
  | none => H a
def hminus (H : Hp) (cv : Cv) : Hp := fun a => if (cv a).isSome then none else H a
theorem hplus_in {H : Hp} {cv : Cv} {a : Addr} {o : Obj} (h : cv a = some o) : hplus H cv a = some (.frz o (.own 0)) := by unfold hplus; rw [h]
theorem hplus_out {H : Hp} {cv : Cv} {a : Addr} (h : cv a = none) : hplus H cv a = H a := by unfold hplus; rw [h]
theorem hminus_in {H : Hp} {cv : Cv} {a : Addr} {o : Obj} (h : cv a = some o) : hminus H cv a = none := by unfold hminus; rw [h]; rfl
theorem hminus_out {H : Hp} {cv : Cv} {a : Addr} (h : cv a = none) : hminus H cv a = H a := by unfold hminus; rw [h]; rfl
/-- the entries of cv stand in H -/
def Has (H : Hp) (cv : Cv) : Prop := ∀ a o, cv a = some o → H a = some (.frz o (.own 0))
theorem Has.plus {H : Hp} {cv : Cv} : Has (hplus H cv) cv := fun _ _ h => hplus_in h
theorem plus_minus {H : Hp} {cv : Cv} (h : Has H cv) : hplus (hminus H cv) cv = H := by
  funext a
  cases e : cv a with
  | some o => rw [hplus_in e, h a o e]
  | none => rw [hplus_out e, hminus_out e]
theorem minus_plus {H : Hp} {cv : Cv} (h : ∀ a o, cv a = some o → H a = none) : hminus (hplus H cv) cv = H := by
  funext a
  cases e : cv a with
  | some o => rw [hminus_in e, h a o e]
  | none => rw [hminus_out e, hplus_out e]
section
variable {P : Program} {w : World} {K : PySem.W.Frag} {mg : Str → Option Value} {base : Heap} {A : Around} {outer : List Env} {s s' : Shared} {H H' : Hp} {cv : Cv} {h h' B : Heap} {fs : List Addr}
theorem hok_minus (x : HOk P w H h) (hs : Has H cv) : HOk P w (hminus H cv) h := fun a o e => by
  cases q : cv a with
  | some u => rw [hminus_in q] at e; cases e
  | none =>
    rw [hminus_out q] at e
    have ne : ∀ {b : Addr} {u : HO}, H b = some u → (∀ o, u ≠ .frz o (.own 0)) → hminus H cv b = some u := fun {b u} e n => by
      cases q : cv b with
      | some z => rw [hs b z q] at e; cases e; exact absurd rfl (n _)
      | none => rw [hminus_out q]; exact e
    exact (x a o e).stay (fun b u _ r => r) (fun b r => ne r (fun o z => by cases z)) fun b xs r => ne r (fun o z => by cases z)
theorem hok_plus (x : HOk P w H h) (hn : ∀ a o, cv a = some o → H a = none) (hg : ∀ a o, cv a = some o → h.get? a = some o) : HOk P w (hplus H cv) h := fun a o e => by
  cases q : cv a with
  | some u => rw [hplus_in q] at e; cases e; exact ⟨hg a u q, u, hg a u q⟩
  | none =>
    rw [hplus_out q] at e
    have ne : ∀ {b : Addr} {u : HO}, H b = some u → hplus H cv b = some u := fun {b u} e => by
      cases q : cv b with
      | some z => rw [hn b z q] at e; cases e
      | none => rw [hplus_out q]; exact e
    exact (x a o e).stay (fun b u _ r => r) (fun b r => ne r) fun b xs r => ne r
theorem has_get (x : HOk P w H h) (hs : Has H cv) : ∀ a o, cv a = some o → h.get? a = some o := fun a o e => (x a _ (hs a o e)).1
theorem env_minus (e0 : Env0 P w K mg base A outer s H) (hs : Has H cv) : Env0 P w K mg base A outer s (hminus H cv) :=
  ⟨e0.frames, e0.mod, fun b o e => ⟨(e0.bs b o e).1, by
    cases q : cv b with
    | some z => exact hminus_in q
    | none => rw [hminus_out q]; exact (e0.bs b o e).2⟩, e0.bsz, e0.funs, fun b hb => by
    cases q : cv b with
    | some z => exact hminus_in q
    | none => rw [hminus_out q]; exact e0.frf b hb, hok_minus e0.hok hs, e0.bare⟩
/-- what may be tracked: untracked objects that are no frames and not of the ground -/
structure CvOk (base : Heap) (outer : List Env) (H : Hp) (h : Heap) (cv : Cv) : Prop where
  un : ∀ a o, cv a = some o → H a = none
  get : ∀ a o, cv a = some o → h.get? a = some o
  fr : ∀ a o, cv a = some o → a ∉ frs outer
  bs : ∀ a o, cv a = some o → base.get? a = none
theorem env_plus (e0 : Env0 P w K mg base A outer s H) (c : CvOk base outer H s.heap cv) : Env0 P w K mg base A outer s (hplus H cv) :=
  ⟨e0.frames, e0.mod, fun b o e => ⟨(e0.bs b o e).1, by
    cases q : cv b with
    | some z => rw [c.bs b z q] at e; cases e
    | none => rw [hplus_out q]; exact (e0.bs b o e).2⟩, e0.bsz, e0.funs, fun b hb => by
    cases q : cv b with
    | some z => exact absurd hb (c.fr b z q)
    | none => rw [hplus_out q]; exact e0.frf b hb, hok_plus e0.hok c.un c.get, e0.bare⟩
/-- run without cv's entries; seen with them -/
theorem un_plus (u : Un fs [] (hminus H cv) H' h h') (hs : Has H cv) : Un fs [] H (hplus H' cv) h h' := by
  have out : ∀ {b : Addr}, H b = none → cv b = none := fun {b} e => by
    cases q : cv b with
    | none => rfl
    | some z => rw [hs b z q] at e; cases e
  have mi : ∀ {b : Addr}, H b = none → hminus H cv b = none := fun {b} e => by rw [hminus_out (out e)]; exact e
  have pl : ∀ {b : Addr} {o : HO}, H b = some o → (∀ z, o ≠ .frz z (.own 0)) → cv b = none := fun {b o} e n => by
    cases q : cv b with
    | none => rfl
    | some z => rw [hs b z q] at e; cases e; exact absurd rfl (n _)
  refine ⟨fun b o e n f x => u.keep b o e (mi n) f x, fun b o e n f x => u.slot b o e (mi n) f x, fun b o e n x => by rw [hplus_out (out n)]; exact u.free b o e (mi n) x, u.there, fun b xs e => ?_, fun b o z e => ?_, fun b ps e => ?_⟩
  · have q := pl e (fun z y => by cases y)
    rw [hplus_out q]; exact u.tups b xs (by rw [hminus_out q]; exact e)
  · cases q : cv b with
    | some y => rw [hplus_in q]; rw [hs b y q] at e; exact e
    | none => rw [hplus_out q]; exact u.frzs b o z (by rw [hminus_out q]; exact e)
  · have q := pl e (fun z y => by cases y)
    rw [hplus_out q]; exact u.tbls b ps (by rw [hminus_out q]; exact e)
theorem ub_plus (u : UB fs (hminus H cv) H' h B h') (hs : Has H cv) : UB fs H (hplus H' cv) h B h' := by
  have out : ∀ {b : Addr}, H b = none → cv b = none := fun {b} e => by
    cases q : cv b with
    | none => rfl
    | some z => rw [hs b z q] at e; cases e
  have mi : ∀ {b : Addr}, H b = none → hminus H cv b = none := fun {b} e => by rw [hminus_out (out e)]; exact e
  have pl : ∀ {b : Addr} {o : HO}, H b = some o → (∀ z, o ≠ .frz z (.own 0)) → cv b = none := fun {b o} e n => by
    cases q : cv b with
    | none => rfl
    | some z => rw [hs b z q] at e; cases e; exact absurd rfl (n _)
  refine ⟨fun b o e n f => u.keep b o e (mi n) f, u.slot, fun b o e n => by rw [hplus_out (out n)]; exact u.free b o e (mi n), u.there, fun b xs e => ?_, fun b o z e => ?_, fun b ps e => ?_⟩
  · have q := pl e (fun z y => by cases y)
    rw [hplus_out q]; exact u.tups b xs (by rw [hminus_out q]; exact e)
  · cases q : cv b with
    | some y => rw [hplus_in q]; rw [hs b y q] at e; exact e
    | none => rw [hplus_out q]; exact u.frzs b o z (by rw [hminus_out q]; exact e)
  · have q := pl e (fun z y => by cases y)
    rw [hplus_out q]; exact u.tbls b ps (by rw [hminus_out q]; exact e)
/-- a call's end, seen with cv's entries -/
theorem cr_plus {Q : VK} {E : XK} {r : Result} (hs : Has H cv) (hok : HOk P w H s.heap) (fr : ∀ a o, cv a = some o → a ∉ frs outer)
    (c : CR (L2.CX P w) outer P w (hminus H cv) s (fun v H' => (∀ a o, cv a = some o → H' a = none) → Q v (hplus H' cv)) (fun cls d H' => (∀ a o, cv a = some o → H' a = none) → E cls d (hplus H' cv)) r s') : CR (L2.CX P w) outer P w H s Q E r s' := by
  have hg := has_get hok hs
  cases r with
  | error e =>
    obtain ⟨a, B, H', cls, d, rfl, fl, hk, ub, na, os, ag, q⟩ := c
    have inB : ∀ a o, cv a = some o → B.get? a = some o := fun a o z => ub.keep a o (hg a o z) (hminus_in z) (fr a o z)
    have fre : ∀ a o, cv a = some o → H' a = none := fun a o z => ub.free a o (hg a o z) (hminus_in z)
    refine ⟨a, B, hplus H' cv, cls, d, rfl, fl, hok_plus hk fre inB, ub_plus ub hs, ?_, os, ag, q fre⟩
    cases z : cv a with
    | none => rw [hplus_out z]; exact na
    | some o => have := inB a o z; rw [fl.2.1] at this; cases this
  | ok fl =>
    cases fl with
    | ret u =>
      obtain ⟨v, H', os, ag, un, hk, rv, q⟩ := c
      have inB : ∀ a o, cv a = some o → s'.heap.get? a = some o := fun a o z => un.keep a o (hg a o z) (hminus_in z) (fr a o z) (by simp)
      have fre : ∀ a o, cv a = some o → H' a = none := fun a o z => un.free a o (hg a o z) (hminus_in z) (by simp)
      exact ⟨v, hplus H' cv, os, ag, un_plus un hs, hok_plus hk fre inB, rv, q fre⟩
    | next => exact c
    | brk => exact c
    | cont => exact c
/-- run with cv's entries; seen without -/
theorem un_minus (u : Un fs [] (hplus H cv) H' h h') (hn : ∀ a o, cv a = some o → H a = none) (hg : ∀ a o, cv a = some o → h.get? a = some o) (hf : ∀ a o, cv a = some o → a ∉ fs) (hk : HOk P w H' h') : Un fs [] H (hminus H' cv) h h' := by
  have hs : Has H' cv := fun a o e => u.frzs a o _ (hplus_in e)
  have out : ∀ {b : Addr} {o : HO}, H b = some o → cv b = none := fun {b o} e => by
    cases q : cv b with
    | none => rfl
    | some z => rw [hn b z q] at e; cases e
  refine ⟨fun b o e n f x => ?_, fun b o e n f x => ?_, fun b o e n x => ?_, u.there, fun b xs e => ?_, fun b o z e => ?_, fun b ps e => ?_⟩
  · cases q : cv b with
    | some y =>
      have e1 := hg b y q
      rw [e] at e1; cases e1
      exact has_get hk hs b o q
    | none => exact u.keep b o e (by rw [hplus_out q]; exact n) f x
  · cases q : cv b with
    | some y => exact absurd f (hf b y q)
    | none => exact u.slot b o e (by rw [hplus_out q]; exact n) f x
  · cases q : cv b with
    | some y => exact hminus_in q
    | none => rw [hminus_out q]; exact u.free b o e (by rw [hplus_out q]; exact n) x
  · rw [hminus_out (out e)]; exact u.tups b xs (by rw [hplus_out (out e)]; exact e)
  · rw [hminus_out (out e)]; exact u.frzs b o z (by rw [hplus_out (out e)]; exact e)
  · rw [hminus_out (out e)]; exact u.tbls b ps (by rw [hplus_out (out e)]; exact e)
theorem ub_minus (u : UB fs (hplus H cv) H' h B h') (hn : ∀ a o, cv a = some o → H a = none) (hg : ∀ a o, cv a = some o → h.get? a = some o) (hf : ∀ a o, cv a = some o → a ∉ fs) (hk : HOk P w H' B) : UB fs H (hminus H' cv) h B h' := by
  have hs : Has H' cv := fun a o e => u.frzs a o _ (hplus_in e)
  have out : ∀ {b : Addr} {o : HO}, H b = some o → cv b = none := fun {b o} e => by
    cases q : cv b with
    | none => rfl
    | some z => rw [hn b z q] at e; cases e
  refine ⟨fun b o e n f => ?_, u.slot, fun b o e n => ?_, u.there, fun b xs e => ?_, fun b o z e => ?_, fun b ps e => ?_⟩
  · cases q : cv b with
    | some y =>
      have e1 := hg b y q
      rw [e] at e1; cases e1
      exact has_get hk hs b o q
    | none => exact u.keep b o e (by rw [hplus_out q]; exact n) f
  · cases q : cv b with
    | some y => exact hminus_in q
    | none => rw [hminus_out q]; exact u.free b o e (by rw [hplus_out q]; exact n)
  · rw [hminus_out (out e)]; exact u.tups b xs (by rw [hplus_out (out e)]; exact e)
  · rw [hminus_out (out e)]; exact u.frzs b o z (by rw [hplus_out (out e)]; exact e)
  · rw [hminus_out (out e)]; exact u.tbls b ps (by rw [hplus_out (out e)]; exact e)
theorem cr_minus {Q : VK} {E : XK} {r : Result} (cvo : CvOk base outer H s.heap cv)
    (c : CR (L2.CX P w) outer P w (hplus H cv) s (fun v H' => Q v (hminus H' cv)) (fun cls d H' => E cls d (hminus H' cv)) r s') : CR (L2.CX P w) outer P w H s Q E r s' := by
  cases r with
  | error e =>
    obtain ⟨a, B, H', cls, d, rfl, fl, hk, ub, na, os, ag, q⟩ := c
    have hs : Has H' cv := fun a o e => ub.frzs a o _ (hplus_in e)
    refine ⟨a, B, hminus H' cv, cls, d, rfl, fl, hok_minus hk hs, ub_minus ub cvo.un cvo.get cvo.fr hk, ?_, os, ag, q⟩
    cases z : cv a with
    | none => rw [hminus_out z]; exact na
    | some o => exact hminus_in z
  | ok fl =>
    cases fl with
    | ret u =>
      obtain ⟨v, H', os, ag, un, hk, rv, q⟩ := c
      have hs : Has H' cv := fun a o e => un.frzs a o _ (hplus_in e)
      exact ⟨v, hminus H' cv, os, ag, un_minus un cvo.un cvo.get cvo.fr hk, hok_minus hk hs, rv, q⟩
    | next => exact c
    | brk => exact c
    | cont => exact c
end
end LamX
set_option Elab.async false
set_option linter.all false
set_option maxRecDepth 100000
set_option maxHeartbeats 4000000
/-! Error classes whose __init__ says super().__init__(..), over ValueError, LookupError, IndexError: on the heap. -/
namespace PySem
namespace XO
open Builtin Builtin.ObjectAttr PySem.W PySem.Calls PyProof.Rows PySem.HandSPX
section
variable {prog : Program} {w : World} {A : Around} {E : Value → Shared → Prop} {R : Result → Shared → Prop} {hp : Heap} {g : Array GenState} {d : Drawn} {t : Nat} {os : OsState} {B : String} {bmB : List Value}
/-- self.name = v, no dict yet -/
theorem osa_new {K : W.Frag} {name : Str} {tk : Tok} {v : Value} {x C : Addr} {fv : Array Value} {cd : ClassData} (ST : StoreFacts B bmB "object.__setattr__" "object")
    (X : K.In hp) (hx : hp.get? x = some { cls := .ref C, data := .fields fv }) (hcd : W.clsIn K C = some cd) (hm : excTail bmB cd.mro = true) (ne : cd.mro.isEmpty = false) (hh : cd.hasDict = true) (ha : W.findIn K (.ref C) name = some none)
    (hq : ∀ h' tk' dx, (∀ b o, b ≠ x → hp.get? b = some o → h'.get? b = some o) → hp.objs.size ≤ dx → dx ≠ x → h'.get? x = some { cls := .ref C, dict := some dx, data := .fields fv } →
      h'.Ns1 dx (fun y => if y = name then some v else none) → R (.ok (.ret .none)) ⟨h', g, d, tk', os⟩) :
    codeAny (model prog w) A (.call (.builtin "object.__setattr__") ⟨[.ref x, .str name tk, v], []⟩) R ⟨hp, g, d, t, os⟩ := by
  have I : W.InstAt hp x { cls := .ref C, data := .fields fv } C none := ⟨hx, rfl, rfl, trivial⟩
  have SF := F.store_object
  have hob : cd.mro.contains (.type "object") = true := (excTail_contains "object" _ hm).trans ST.hasOwner
  have hxs : x ≠ hp.objs.size := Nat.ne_of_lt (Heap.lt_size hx)
  have sub : W.Looks (model prog w) hp (isInstance (.ref x) (.type "object")) true := I.type.andThen (W.looks_mroIn X (by unfold W.mroIn; rw [hcd, Option.bind_some, if_neg (by rw [ne]; decide), hob]))
  refine codeAny_call_builtin SF.slot.plain SF.entry (@W.check_slot (model prog w) _ _ ⟨hp, g, d, t, os⟩ "object.__setattr__" "object" "__setattr__" (.ref x) [.str name tk, v] [] _ SF.kind SF.split sub (SF.args (.ref x) (.str name tk) v) ?_)
  have hmr : W.Looks (model prog w) hp (mroOf (.ref C)) cd.mro := (W.looks_clsIn X hcd).andThen .now
  have L3 : W.Looks (model prog w) hp (storeTaker? none) none := .now
  have hcls : W.Looks (model prog w) hp (classData C) cd := W.looks_clsIn X hcd
  rw [W.osa_eq, refuse_eq]
  refine wpAny_bind (wpAny_bind (I.type.at (wpAny_bind (hmr.at ?_))))
  rw [excTail_pass _ (ST.passes _) _ hm]
  refine wpAny_pure (wpAny_bind (I.type.at (wpAny_bind ((W.looks_findIn X ha).at (wpAny_bind (L3.at ?_))))))
  show wpAny _ _ (storeInOwnDict (.ref x) (.ref C) (.str name tk) name v false) _ _ _
  obtain ⟨nm, bs, mro, ns, qn, hd, sn, sb, ab, col, del⟩ := cd
  dsimp only at hh
  subst hh
  unfold storeInOwnDict ownDictForStores
  repeat (first | with_reducible refine store_in_new ?_ ?_ | with_reducible refine wpAny_loadPart_at hx ?_ | with_reducible refine hcls.at ?_ | wp_step)
  · exact ⟨_, #[], _, (Heap.get?_update_ne _ _ _ _ hxs.symm).trans (Heap.get?_push_at rfl rfl), rfl, fun e he => absurd he (by simp), fun _ => rfl⟩
  · intro h' tk' hn' hs
    have hx₁ : (hp.push { cls := .type "dict", data := .dict #[] }).get? x = some { cls := .ref C, data := .fields fv } := Heap.get?_push_of_some _ hx
    refine hq h' tk' hp.objs.size (fun b o hb ho => ?_) (Nat.le_refl _) hxs.symm ?_ hn'
    · exact (hs.2 b (Nat.ne_of_lt (Heap.lt_size ho))).trans ((Heap.get?_update_ne _ _ _ _ hb).trans (Heap.get?_push_of_some _ ho))
    · exact (hs.2 x hxs).trans (Heap.get?_update_self _ hx₁ rfl)
theorem store_old {M : Model} {dx : Addr} {name : Str} {tk : Tok} {v : Value} {m0 : Str → Option Value} {ns : List Str} {Q : Fin → Shared → Prop} (hn : hp.Ns1 dx m0) (hw : Within m0 ns) (hz : ns.length ≤ 1000)
    (hq : ∀ h' tk', h'.Ns1 dx (fun y => if y = name then some v else m0 y) → Heap.SameBut dx hp h' → Q (.done (.ret .none)) ⟨h', g, d, tk', os⟩) :
    wpAny M A (storeInDict dx (.str name tk) name v) Q E ⟨hp, g, d, t, os⟩ := by
  unfold storeInDict newKeyGuard
  refine wpAny_bind (wpAny_pure (wpAny_bind (wpAny_nsSet1 hn fun h' hn' hs => ?_)))
  obtain ⟨oD, esD, epD, hoD, hdD, hcD⟩ := hn'.count (Within.cons name v hw)
  refine wpAny_bind (wpAny_lookBehind hoD (by rw [hdD]; exact pastItsLine_dict (Nat.le_trans hcD (by rw [List.length_cons, sizeLine_eq]; omega))) ?_)
  wp_walk
  exact hq h' _ hn' hs
/-- a further field -/
theorem osa_more {K : W.Frag} {name : Str} {tk : Tok} {v : Value} {x C dx : Addr} {fv : Array Value} {cd : ClassData} {m0 : Str → Option Value} {nl : List Str} (ST : StoreFacts B bmB "object.__setattr__" "object")
    (X : K.In hp) (hx : hp.get? x = some { cls := .ref C, dict := some dx, data := .fields fv }) (hns : hp.Ns1 dx m0) (hw : Within m0 nl) (hz : nl.length ≤ 1000) (hcd : W.clsIn K C = some cd) (hm : excTail bmB cd.mro = true) (ne : cd.mro.isEmpty = false) (hh : cd.hasDict = true)
    (ha : W.findIn K (.ref C) name = some none)
    (hq : ∀ h' tk', (∀ b o, b ≠ dx → hp.get? b = some o → h'.get? b = some o) → h'.Ns1 dx (fun y => if y = name then some v else m0 y) → R (.ok (.ret .none)) ⟨h', g, d, tk', os⟩) :
    codeAny (model prog w) A (.call (.builtin "object.__setattr__") ⟨[.ref x, .str name tk, v], []⟩) R ⟨hp, g, d, t, os⟩ := by
  obtain ⟨oD, esD, epD, hoD, hdD, _⟩ := hns.count hw
  have I : W.InstAt hp x { cls := .ref C, dict := some dx, data := .fields fv } C (some oD) := ⟨hx, rfl, rfl, hoD⟩
  have SF := F.store_object
  have hob : cd.mro.contains (.type "object") = true := (excTail_contains "object" _ hm).trans ST.hasOwner
  have sub : W.Looks (model prog w) hp (isInstance (.ref x) (.type "object")) true := I.type.andThen (W.looks_mroIn X (by unfold W.mroIn; rw [hcd, Option.bind_some, if_neg (by rw [ne]; decide), hob]))
  refine codeAny_call_builtin SF.slot.plain SF.entry (@W.check_slot (model prog w) _ _ ⟨hp, g, d, t, os⟩ "object.__setattr__" "object" "__setattr__" (.ref x) [.str name tk, v] [] _ SF.kind SF.split sub (SF.args (.ref x) (.str name tk) v) ?_)
  have hmr : W.Looks (model prog w) hp (mroOf (.ref C)) cd.mro := (W.looks_clsIn X hcd).andThen .now
  have L3 : W.Looks (model prog w) hp (storeTaker? none) none := .now
  have hcls : W.Looks (model prog w) hp (classData C) cd := W.looks_clsIn X hcd
  rw [W.osa_eq, refuse_eq]
  refine wpAny_bind (wpAny_bind (I.type.at (wpAny_bind (hmr.at ?_))))
  rw [excTail_pass _ (ST.passes _) _ hm]
  refine wpAny_pure (wpAny_bind (I.type.at (wpAny_bind ((W.looks_findIn X ha).at (wpAny_bind (L3.at ?_))))))
  show wpAny _ _ (storeInOwnDict (.ref x) (.ref C) (.str name tk) name v false) _ _ _
  obtain ⟨nm, bs, mro, ns, qn, hd, sn, sb, ab, col, del⟩ := cd
  dsimp only at hh
  subst hh
  unfold storeInOwnDict ownDictForStores
  repeat (first | with_reducible refine store_old hns hw hz ?_ | with_reducible refine wpAny_loadPart_at hx ?_ | with_reducible refine hcls.at ?_ | wp_step)
  intro h' tk' hn' hs
  exact hq h' tk' (fun b o hb ho => (hs.2 b hb).trans ho) hn'
/-- the bound __init__ of a built-in error, called -/
theorem call_mw {K : W.Frag} {i newId : String} {u x C t0 : Addr} {dv : Option Addr} {c2 : Value} {rest : List Value} {Q : Value → Shared → Prop} (X : K.In hp) (FB : ExcBaseFacts B newId i bmB) (q : excInitIn K C bmB newId = true) (hu : hp.get? u = some (kxs_mw i x)) (he : hp.get? x = some (excObj C t0 dv c2)) (hz : rest.length ≤ sizeLine)
    (fin : ∀ h', (∀ b o, b ≠ x → hp.get? b = some o → h'.get? b = some o) → h'.get? x = some (excObj C hp.objs.size dv c2) → Q .none ⟨h', g, d, t, os⟩) :
    wpAny (model prog w) A (call (.ref u) rest) Q E ⟨hp, g, d, t, os⟩ := by
  obtain ⟨nm, N', qn, bs, bm, hdct, sn, sub, ab, col, dd, k0, k1, k2, k3, k5, hC, hT⟩ := excInit_of X q
  refine wpAny_call (codeAny_of_tree ?_)
  show wpAny _ A.in1 (callAny (.ref u) ⟨rest, []⟩) _ _ _
  simp only [callAny]
  refine wpAny_bind (wpAny_load hu ?_)
  simp only [kxs_mw, show (Value.type "method-wrapper" == Value.type "method" || Value.type "method-wrapper" == Value.type "builtin_function_or_method" || Value.type "method-wrapper" == Value.type "method-wrapper") = true by decide, if_true]
  refine KFB.if_so (by decide) ?_
  refine wpAny_bind (check_bound_init FB.toExcCallFacts hC he rfl ?_)
  refine wpAny_bind (wpAny_pure (wpAny_pure ?_))
  refine ⟨plainId_quiet FB.init.plain _, codeAny_builtin FB.initEntry ?_⟩
  exact exc_init_tree (cls := .ref C) (t0 := t0) (dv := dv) (c2 := c2) (c3 := .none) (b4 := .bool false) he hz fun h' k e _ => fin h' k e
end
end XO
end PySem
set_option Elab.async false
set_option linter.all false
set_option maxRecDepth 100000
set_option maxHeartbeats 4000000
namespace PySem
namespace XO
open PySem.W PySem.Calls PyProof.Rows PySem.HandSPX L2
/-- what is said of a def __init__ of the class at D: its closure holds D -/
structure Ini (prog : Program) (K : Frag) (D f : Addr) (qual : Str) (ps : Arguments) (body : List Stmt) (scope : Scope) (cc cda : Addr) (fd : FuncData) : Prop where
  fn : ∃ (oc : Value) (od : Option Addr) (doc pm : Value) (an : Option Addr) (ct : Value) (osl : Array (Option Value)), fd = ksFn "__init__" qual ps body scope .none .none doc pm an (.ref cda) ct cc ∧ K.lookup f = some ⟨oc, od, .func fd, osl⟩
  cd : codeIn K (.ref cda) qual = true
  cell : ∃ cl cld csl, K.lookup cc = some ⟨cl, cld, .cell (some (.ref D)), csl⟩
  code : ∃ ccl cdd vs ccs file tf, K.lookup cda = some ⟨ccl, cdd, .fields vs, ccs⟩ ∧ vs[2]? = some (.str file tf) ∧ ((prog.main.file : Str) == file) = true
  self : ∃ ar, (ps.posonlyargs ++ ps.args).head? = some ar ∧ ar.arg = ("self" : Str)
  ks : scope.names.lookup ("super" : Str) = some .globalImplicit
  kc : scope.names.lookup ("__class__" : Str) = some .free
  ka : scope.names.lookup ("self" : Str) = some .local
  kd : scope.kind = .function
  nc : ∀ x ∈ scope.names, x.2 ≠ .cell
  co : scope.isCoroutine = false
  ge : scope.isGenerator = false
  ia : ∀ L, interactive (ksEnv qual scope L f (.ref cda) cc) = false
section
variable {prog : Program} {w : World} {A : Around} {E : Value → Shared → Prop} {K : Frag} {mg : Str → Option Value} {base : Heap} {hh : Heap} {g : Array GenState} {d : Drawn} {t : Nat} {os : OsState}
variable {D C f cc cda x L : Addr} {qual : Str} {ps : Arguments} {body : List Stmt} {scope : Scope} {fd : FuncData} {m : Str → Option Value}
/-- super() -/
theorem sup_node (T : Ini prog K D f qual ps body scope cc cda fd) (Md : Mod K mg base) (bk : ∀ b o, base.get? b = some o → hh.get? b = some o) (hms : mg "super" = none) (htop : (prog.main.scope.names.lookup ("super" : Str)).isSome = false)
    {cdD : ClassData} {ox : Obj} {od : Option Obj} (hD : clsIn K D = some cdD) (hsub : mroIn K C (.ref D) = some true) (hn : hh.Ns L m) (hv : m "self" = some (.ref x)) (I : InstAt hh x ox C od) {p0 p1 : Pos} {whole : Sem Value} {Q : Value → Shared → Prop} {bd : List Stmt}
    (h : ∀ h', h'.get? hh.objs.size = some (ks_superObj D x C) → (∀ b o, hh.get? b = some o → h'.get? b = some o) → Q (.ref hh.objs.size) ⟨h', g, d, t, os⟩) :
    _root_.PySem.wpAt (model prog w) A (.func bd (ksEnv qual scope L f (.ref cda) cc)) (attributeBase (.Call (.Name "super" p0) [] [] p1) "__init__" (ksEnv qual scope L f (.ref cda) cc) whole) Q E ⟨hh, g, d, t, os⟩ := by
  have X : K.In hh := Md.kin.keeps bk
  obtain ⟨oc, odf, doc, pm, an, ct, osl, rfl, hf⟩ := T.fn
  obtain ⟨cl, cld, csl, hcell⟩ := T.cell
  obtain ⟨ccl, cdd, vs, ccs, file, tf, hcode, hvs, hfile⟩ := T.code
  obtain ⟨ar, har, ear⟩ := T.self
  obtain ⟨mb, hb1, hb2⟩ := Md.blt
  obtain ⟨oD, hD1, hD2⟩ : ∃ oD, hh.get? D = some oD ∧ oD.data = .cls cdD := by
    unfold clsIn at hD
    split at hD
    · rename_i c d cd' sl ho
      cases hD
      exact ⟨_, X _ _ ho, rfl⟩
    · cases hD
  refine ks_wpAt_super_base (env := ksEnv qual scope L f (.ref cda) cc) T.ks T.kc rfl rfl (X _ _ hf) rfl har rfl (X _ _ hcode) rfl hvs hfile htop ?_
  refine ks_loadName_global T.kd T.ks (loadGlobal_builtin (env := ksEnv qual scope L f (.ref cda) cc) (Md.glob.keeps bk) hms (hb1.keeps bk) ((hb2 _ (by decide)).trans (by decide +kernel)) ⟨rfl, ?_⟩)
  refine wpAny_loadName_free T.kd T.kc rfl ⟨_, X _ _ hcell, rfl⟩ ?_
  rw [ear]
  refine wpAny_loadName_local T.kd T.ka hn hv ?_
  refine ks_wpAny_isType_cls hD1 hD2 ⟨rfl, ?_⟩
  refine ks_wpAny_call_super hD1 hD2 I.at_ I.cls (fun c e => ?_) (looks_mroIn X hsub) (fun h' e k => h h' e k)
  have := I.no
  unfold notCls at this
  rw [e] at this
  exact Bool.noConfusion this
/-- an argument: told by the frame's names alone -/
def Sim (prog : Program) (w : World) (A : Around) (env : Env) (L : Addr) (m : Str → Option Value) (e : Expr) (P : Value → Prop) : Prop := ∀ (s : Shared) (Q : Value → Shared → Prop) (E : Value → Shared → Prop), s.heap.Ns L m → (∀ v tk, P v → Q v { s with toks := tk }) → wpAny (model prog w) A (eval e env) Q E s
theorem sim_name {name : Str} {a : Addr} {cd : Value} {cl : List (Str × Addr)} {y : Str} {v : Value} {pos : Pos} (hk : scope.kind = .function) (hl : scope.names.lookup y = some .local) (hv : m y = some v) (hd : (y == ("__debug__" : Str)) = false) :
    Sim prog w A (envX name scope L a cd cl) L m (.Name y pos) (· = v) := fun s Q E hn h => wpAny_Name (wpAny_loadName_local hk hl hn hv (h v s.toks rfl)) hd
theorem sim_str {env : Env} {y : Str} {k : Nat} {pos : Pos} : Sim prog w A env L m (.Constant (.str y) k pos) (fun v => ∃ t, v = .str y t) := fun s Q E _ h => wpAny_Constant_str (h _ _ ⟨_, rfl⟩)
/-- super().__init__(e), the one of a built-in error -/
theorem sup_mw {B i newId : String} {bmB : List Value} (KF : KxsFacts B i) (FB : ExcBaseFacts B newId i bmB) (qI : excInitIn K C bmB newId = true) (hno : nsIn K cStatics "thirdparty.any" = some none)
    (hm : ks_superIn K C D "__init__" = some (some (.builtin i))) (hB : subIn K (.ref C) (.type B) = some true)
    (T : Ini prog K D f qual ps body scope cc cda fd) (Md : Mod K mg base) (bk : ∀ b o, base.get? b = some o → hh.get? b = some o) (hms : mg "super" = none) (htop : (prog.main.scope.names.lookup ("super" : Str)).isSome = false)
    {cdD : ClassData} {t0 : Addr} (hD : clsIn K D = some cdD) (hsub : mroIn K C (.ref D) = some true) (hn : hh.Ns L m) (hv : m "self" = some (.ref x)) (hx : hh.get? x = some (excObj C t0 none .none)) {p0 p1 p2 p3 : Pos} {e : Expr} {P : Value → Prop} {Q : Value → Shared → Prop} {bd : List Stmt} {pl : Sem Bool}
    (hxb : base.get? x = none) (hxL : L ≠ x) (he : Sim prog w A (ksEnv qual scope L f (.ref cda) cc) L m e P) (hse : starEach [e] (ksEnv qual scope L f (.ref cda) cc) = (false, eval e (ksEnv qual scope L f (.ref cda) cc)) :: starEach [] (ksEnv qual scope L f (.ref cda) cc))
    (hev : eval (.Call (.Attribute (.Call (.Name "super" p0) [] [] p1) "__init__" p2) [e] [] p3) (ksEnv qual scope L f (.ref cda) cc) = (do
      let ov ← attributeBase (.Call (.Name "super" p0) [] [] p1) "__init__" (ksEnv qual scope L f (.ref cda) cc) (eval (.Call (.Name "super" p0) [] [] p1) (ksEnv qual scope L f (.ref cda) cc))
      standAt p2.atName
      let (f2, first) ← holding [ov] (getMethod ov "__init__" pl)
      callWith p3 f2 first (backTo p3 (starEach [e] (ksEnv qual scope L f (.ref cda) cc))) []))
    (h : ∀ h' tk t1, (∀ b o, b ≠ x → hh.get? b = some o → h'.get? b = some o) → h'.get? x = some (excObj C t1 none .none) → Q .none ⟨h', g, d, tk, os⟩) :
    _root_.PySem.wpAt (model prog w) A (.func bd (ksEnv qual scope L f (.ref cda) cc)) (eval (.Call (.Attribute (.Call (.Name "super" p0) [] [] p1) "__init__" p2) [e] [] p3) (ksEnv qual scope L f (.ref cda) cc)) Q E ⟨hh, g, d, t, os⟩ := by
  have I : InstAt hh x (excObj C t0 none .none) C none := ⟨hx, rfl, rfl, trivial⟩
  refine ks_wpAt_MethodCall ?_ hev
  refine sup_node T Md bk hms htop hD hsub hn hv I fun h1 e1 k1 => ?_
  have X1 : K.In h1 := (Md.kin.keeps bk).keeps k1
  have I1 : InstAt h1 x (excObj C t0 none .none) C none := ⟨k1 _ _ hx, rfl, rfl, trivial⟩
  cases hc : clsIn K C with
  | none => unfold ks_superIn at hm; rw [hc] at hm; cases hm
  | some cd =>
    unfold ks_superIn at hm
    rw [hc] at hm
    refine kxs_getMethod KF e1 (looks_opaque X1 hno) (l₀ := cd.mro) (fun A Q E s k q => wpAny_bind ((looks_clsIn X1 hc) A _ E s k (wpAny_pure q))) rfl X1 hm (I1.type.andThen (looks_subIn X1 hB)) (ks_ne X1 I1 hc) rfl ?_
    have k2 : ∀ b o, h1.get? b = some o → (h1.push (kxs_mw i x)).get? b = some o := fun b o z => Heap.get?_push_of_some _ z
    have hu : (h1.push (kxs_mw i x)).get? h1.objs.size = some (kxs_mw i x) := Heap.get?_push_at rfl rfl
    rw [hse]
    refine kxs_callWith (i := i) (x := x) rfl (evalArgs_plain (spliced_cons (he _ _ _ ((hn.keeps k1).keeps k2) fun v tk pv => ?_)))
    refine spliced_nil ⟨hu, ?_⟩
    refine call_mw ((X1.keeps k2)) FB qI hu (k2 _ _ (k1 _ _ hx)) (by rw [sizeLine_eq]; exact (by decide : 1 ≤ 16777216)) fun h' k3 e3 => ?_
    exact h h' _ _ (fun b o hb z => k3 b o hb (k2 _ _ (k1 _ _ z))) e3
end
end XO
end PySem
set_option Elab.async false
set_option linter.all false
set_option maxRecDepth 100000
set_option maxHeartbeats 4000000
namespace PySem
namespace XO
open PySem.W PySem.Calls PyProof.Rows PySem.HandSPX L2
/-- what is said of an error class -/
structure ExC (K : Frag) (C : Addr) (B newId i : String) (bmB : List Value) : Prop where
  kf : KxsFacts B i
  fb : ExcBaseFacts B newId i bmB
  st : StoreFacts B bmB "object.__setattr__" "object"
  qI : excInitIn K C bmB newId = true
  cd : ∃ cd, clsIn K C = some cd ∧ excTail bmB cd.mro = true ∧ cd.mro.isEmpty = false ∧ cd.hasDict = true
  sa : findIn K (.ref C) "__setattr__" = some (some (.builtin "object.__setattr__"))
  sB : subIn K (.ref C) (.type B) = some true
  no : nsIn K cStatics "thirdparty.any" = some none
abbrev supC (p0 p1 p2 p3 : Pos) (e : Expr) : Expr := .Call (.Attribute (.Call (.Name "super" p0) [] [] p1) "__init__" p2) [e] [] p3
abbrev setS (f : Str) (q0 q1 q2 : Pos) (e : Expr) : Stmt := .Assign [.Attribute (.Name "self" q0) f q1] e q2
abbrev exq (C t1 : Addr) (d : Option Addr) : Obj := { cls := .ref C, dict := d, data := .fields #[.ref t1, .none, .none, .none, .bool false, .none] }
section
variable {prog : Program} {w : World} {A : Around} {E : Value → Shared → Prop} {K : Frag} {mg : Str → Option Value} {base : Heap} {s : Shared} {R : Result → Shared → Prop}
variable {D C f cc cda x L : Addr} {qual : Str} {ps : Arguments} {body : List Stmt} {scope : Scope} {fd : FuncData} {m : Str → Option Value} {B newId i : String} {bmB : List Value}
/-- the frame of an __init__ -/
theorem init_frame (T : Ini prog K D f qual ps body scope cc cda fd) (X : K.In s.heap) (hlim : s.heap.NoLimit) (hroom : A.depth < recursionLimit) {args : Args} {binds : List (Str × Value)} (hbind : BindsTo s fd args binds) (hloc : ∀ y ∈ binds, scope.names.lookup y.1 = some .local)
    (h : ∀ h₀, h₀.Ns s.heap.objs.size (fun y => binds.reverse.lookup y) → (∀ b o, s.heap.get? b = some o → h₀.get? b = some o) →
      _root_.PySem.wpAt (model prog w) (A.deeper (ksEnv qual scope s.heap.objs.size f (.ref cda) cc)) (.func body (ksEnv qual scope s.heap.objs.size f (.ref cda) cc)) (execs body (ksEnv qual scope s.heap.objs.size f (.ref cda) cc)) (fun fl s' => R (.ok (.ret (match fl with | .ret v => v | _ => .none))) s')
        (fun e s' => wpAny (model prog w) (A.deeper (ksEnv qual scope s.heap.objs.size f (.ref cda) cc)) (leaving (ksEnv qual scope s.heap.objs.size f (.ref cda) cc) e) (fun _ s'' => R (.error e) s'') (fun e' s'' => R (.error e') s'') s')
        { s with heap := h₀, toks := s.toks + binds.length }) : codeAny (model prog w) A (.call (.ref f) args) R s := by
  obtain ⟨oc, odf, doc, pm, an, ct, osl, rfl, hf⟩ := T.fn
  exact ks_codeAny_call_defAt hroom (X _ _ hf) rfl hlim (codeRec_of X T.cd) rfl hbind T.nc hloc h T.co T.ge T.kd
/-- self.f = e, the first field -/
theorem set_first (EC : ExC K C B newId i bmB) {name : Str} (na : findIn K (.ref C) name = some none) {env : Env} {hh : Heap} {g : Array GenState} {d : Drawn} {t : Nat} {os : OsState} {t1 : Addr} {P : Value → Prop} {e : Expr} {q0 q1 q2 : Pos} {rest : List Stmt} {Q : Flow → Shared → Prop} (X : K.In hh) (hn : hh.Ns L m) (hx : hh.get? x = some (exq C t1 none))
    (he : Sim prog w A env L m e P) (hs : Sim prog w A env L m (.Name "self" q0) (· = .ref x)) (hsw : swapsWith e (some (.Attribute (.Name "self" q0) name q1)) q2.line env = pure false)
    (h : ∀ h' tk dx v, P v → (∀ b o, b ≠ x → hh.get? b = some o → h'.get? b = some o) → hh.objs.size ≤ dx → dx ≠ x → h'.get? x = some (exq C t1 (some dx)) → h'.Ns1 dx (fun y => if y = name then some v else none) → wpAny (model prog w) A (execs rest env) Q E ⟨h', g, d, tk, os⟩) :
    wpAny (model prog w) A (execs (setS name q0 q1 q2 e :: rest) env) Q E ⟨hh, g, d, t, os⟩ := by
  obtain ⟨cd, hcd, ht, hne, hd⟩ := EC.cd
  refine wpAny_execs_cons (plainObj_wpAny_Assign_Attribute ?_ hsw)
  refine he _ _ _ hn fun v tk pv => hs _ _ _ hn fun u tk2 eu => ?_
  subst eu
  refine set_plain X (ox := exq C t1 none) (od := none) ⟨hx, rfl, rfl, trivial⟩ EC.sa ?_
  exact osa_new EC.st X hx hcd ht hne hd na fun h' tk' dx k b ne e1 n1 => h h' tk' dx v pv k b ne e1 n1
/-- a further field -/
theorem set_more (EC : ExC K C B newId i bmB) {name : Str} (na : findIn K (.ref C) name = some none) {env : Env} {hh : Heap} {g : Array GenState} {d : Drawn} {t : Nat} {os : OsState} {t1 dx : Addr} {P : Value → Prop} {e : Expr} {q0 q1 q2 : Pos} {rest : List Stmt} {Q : Flow → Shared → Prop} {m0 : Str → Option Value} {nl : List Str} (X : K.In hh) (hn : hh.Ns L m) (hx : hh.get? x = some (exq C t1 (some dx)))
    (hns : hh.Ns1 dx m0) (hw : Within m0 nl) (hz : nl.length ≤ 1000) (he : Sim prog w A env L m e P) (hs : Sim prog w A env L m (.Name "self" q0) (· = .ref x)) (hsw : swapsWith e (some (.Attribute (.Name "self" q0) name q1)) q2.line env = pure false)
    (h : ∀ h' tk v, P v → (∀ b o, b ≠ dx → hh.get? b = some o → h'.get? b = some o) → h'.Ns1 dx (fun y => if y = name then some v else m0 y) → wpAny (model prog w) A (execs rest env) Q E ⟨h', g, d, tk, os⟩) :
    wpAny (model prog w) A (execs (setS name q0 q1 q2 e :: rest) env) Q E ⟨hh, g, d, t, os⟩ := by
  obtain ⟨cd, hcd, ht, hne, hd⟩ := EC.cd
  obtain ⟨oD, esD, epD, hoD, hdD, _⟩ := hns.count hw
  refine wpAny_execs_cons (plainObj_wpAny_Assign_Attribute ?_ hsw)
  refine he _ _ _ hn fun v tk pv => hs _ _ _ hn fun u tk2 eu => ?_
  subst eu
  refine set_plain X (ox := exq C t1 (some dx)) (od := some oD) ⟨hx, rfl, rfl, hoD⟩ EC.sa ?_
  exact osa_more EC.st X hx hns hw hz hcd ht hne hd na fun h' tk' k n1 => h h' tk' v pv k n1
/-- what an __init__ leaves: of the object at x and its dict -/
structure Done (h h' : Heap) (x C dx : Addr) (mA : Str → Option Value) : Prop where
  keep : ∀ b o, b ≠ x → h.get? b = some o → h'.get? b = some o
  obj : ∃ t1, h'.get? x = some (exq C t1 (some dx))
  big : h.objs.size ≤ dx
  ne : dx ≠ x
  ns : h'.Ns1 dx mA
/-- super().__init__(e); self.code = e2 -/
theorem base_init (EC : ExC K C B newId i bmB) (na : findIn K (.ref C) "code" = some none) {p0 p1 p2 p3 p4 q0 q1 q2 : Pos} {e e2 : Expr} (T : Ini prog K D f qual ps [.Expr (supC p0 p1 p2 p3 e) p4, setS "code" q0 q1 q2 e2] scope cc cda fd) (Md : Mod K mg base) (bk : ∀ b o, base.get? b = some o → s.heap.get? b = some o) (hms : mg "super" = none) (htop : (prog.main.scope.names.lookup ("super" : Str)).isSome = false)
    (hm : ks_superIn K C D "__init__" = some (some (.builtin i))) {cdD : ClassData} (hD : clsIn K D = some cdD) (hsub : mroIn K C (.ref D) = some true) (hlim : s.heap.NoLimit) (hroom : A.depth < recursionLimit) {args : Args} {binds : List (Str × Value)} (hbind : BindsTo s fd args binds) (hloc : ∀ y ∈ binds, scope.names.lookup y.1 = some .local)
    (hself : (binds.reverse.lookup ("self" : Str)) = some (.ref x)) {t0 : Addr} (hx : s.heap.get? x = some (excObj C t0 none .none)) (hxb : base.get? x = none) {P P2 : Value → Prop} {pl : Addr → Sem Bool}
    (he : ∀ L, Sim prog w (A.deeper (ksEnv qual scope L f (.ref cda) cc)) (ksEnv qual scope L f (.ref cda) cc) L (fun y => binds.reverse.lookup y) e P) (he2 : ∀ L, Sim prog w (A.deeper (ksEnv qual scope L f (.ref cda) cc)) (ksEnv qual scope L f (.ref cda) cc) L (fun y => binds.reverse.lookup y) e2 P2)
    (hse : ∀ L, starEach [e] (ksEnv qual scope L f (.ref cda) cc) = (false, eval e (ksEnv qual scope L f (.ref cda) cc)) :: starEach [] (ksEnv qual scope L f (.ref cda) cc))
    (hev : ∀ L, eval (supC p0 p1 p2 p3 e) (ksEnv qual scope L f (.ref cda) cc) = (do
      let ov ← attributeBase (.Call (.Name "super" p0) [] [] p1) "__init__" (ksEnv qual scope L f (.ref cda) cc) (eval (.Call (.Name "super" p0) [] [] p1) (ksEnv qual scope L f (.ref cda) cc))
      standAt p2.atName
      let (f2, first) ← holding [ov] (getMethod ov "__init__" (pl L))
      callWith p3 f2 first (backTo p3 (starEach [e] (ksEnv qual scope L f (.ref cda) cc))) []))
    (hsw1 : ∀ L, swapsWith (supC p0 p1 p2 p3 e) none p4.line (ksEnv qual scope L f (.ref cda) cc) = pure false) (hsw2 : ∀ L, swapsWith e2 (some (.Attribute (.Name "self" q0) "code" q1)) q2.line (ksEnv qual scope L f (.ref cda) cc) = pure false)
    (hq : ∀ h' tk dx v, P2 v → Done s.heap h' x C dx (fun y => if y = "code" then some v else none) → R (.ok (.ret .none)) { s with heap := h', toks := tk }) :
    codeAny (model prog w) A (.call (.ref f) args) R s := by
  have X : K.In s.heap := Md.kin.keeps bk
  refine init_frame T X hlim hroom hbind hloc fun h0 hn k0 => ?_
  obtain ⟨hp, g, d, tk0, os⟩ := s
  have hxL : hp.objs.size ≠ x := Nat.ne_of_gt (Heap.lt_size hx)
  refine ks_wpAt_execs_cons (ks_wpAt_Expr_any ?_ (T.ia _) (hsw1 _))
  refine sup_mw EC.kf EC.fb EC.qI EC.no hm EC.sB T Md (fun b o z => k0 b o (bk b o z)) hms htop hD hsub hn hself (k0 _ _ hx) hxb hxL (he _) (hse _) (hev _) fun h1 tk1 t1 k1 e1 => ?_
  show _root_.PySem.wpAt _ _ _ (execs _ _) _ _ _
  refine wpAt_of_wpAny ?_
  have X1 : K.In h1 := fun a o z => k1 a o (fun ea => by
    have := Md.kin _ _ z
    rw [ea, hxb] at this; cases this) (k0 _ _ (X _ _ z))
  have hn1 : h1.Ns hp.objs.size (fun y => binds.reverse.lookup y) := hn.at fun o z => k1 _ o hxL z
  refine set_first EC na X1 hn1 e1 (he2 _) (sim_name T.kd T.ka hself (by decide)) (hsw2 _) fun h2 tk2 dx v pv k2 b2 n2 e2 ns2 => ?_
  refine wpAny_execs_nil (hq h2 tk2 dx v pv ⟨fun b o hb z => k2 b o hb (k1 b o hb (k0 b o z)), ⟨t1, e2⟩, ?_, n2, ns2⟩)
  have z1 : hp.objs.size < h1.objs.size := hn1.lt
  exact Nat.le_of_lt (Nat.lt_of_lt_of_le z1 b2)
end
end XO
end PySem
set_option Elab.async false
set_option linter.all false
set_option maxRecDepth 100000
set_option maxHeartbeats 4000000
namespace PySem
namespace XO
open PySem.W PySem.Calls PyProof.Rows PySem.HandSPX L2
section
variable {prog : Program} {w : World} {A : Around} {E : Value → Shared → Prop} {K : Frag} {mg : Str → Option Value} {base : Heap} {hh : Heap} {g : Array GenState} {d : Drawn} {t : Nat} {os : OsState}
variable {D C f f2 cc cda x L : Addr} {qual : Str} {ps : Arguments} {body : List Stmt} {scope : Scope} {fd : FuncData} {m : Str → Option Value}
/-- super().__init__(e), the one of a class of the text -/
theorem sup_fn (hno : nsIn K cStatics "thirdparty.any" = some none) (hm : ks_superIn K C D "__init__" = some (some (.ref f2))) (ht : typeIn K (.ref f2) = some (.type "function")) (hfn : fnIn K f2 = true)
    (T : Ini prog K D f qual ps body scope cc cda fd) (Md : Mod K mg base) (bk : ∀ b o, base.get? b = some o → hh.get? b = some o) (hms : mg "super" = none) (htop : (prog.main.scope.names.lookup ("super" : Str)).isSome = false)
    {cdD : ClassData} {t0 : Addr} (hD : clsIn K D = some cdD) (hsub : mroIn K C (.ref D) = some true) (hn : hh.Ns L m) (hv : m "self" = some (.ref x)) (hx : hh.get? x = some (excObj C t0 none .none)) {p0 p1 p2 p3 : Pos} {e : Expr} {P : Value → Prop} {Q : Value → Shared → Prop} {bd : List Stmt} {pl : Sem Bool}
    (he : Sim prog w A (ksEnv qual scope L f (.ref cda) cc) L m e P) (hse : starEach [e] (ksEnv qual scope L f (.ref cda) cc) = (false, eval e (ksEnv qual scope L f (.ref cda) cc)) :: starEach [] (ksEnv qual scope L f (.ref cda) cc))
    (hev : eval (supC p0 p1 p2 p3 e) (ksEnv qual scope L f (.ref cda) cc) = (do
      let ov ← attributeBase (.Call (.Name "super" p0) [] [] p1) "__init__" (ksEnv qual scope L f (.ref cda) cc) (eval (.Call (.Name "super" p0) [] [] p1) (ksEnv qual scope L f (.ref cda) cc))
      standAt p2.atName
      let (f2, first) ← holding [ov] (getMethod ov "__init__" pl)
      callWith p3 f2 first (backTo p3 (starEach [e] (ksEnv qual scope L f (.ref cda) cc))) []))
    (h : ∀ h' tk v, P v → (∀ b o, hh.get? b = some o → h'.get? b = some o) → codeAny (model prog w) A (.call (.ref f2) ⟨[.ref x, v], []⟩) (fun r s' => match r with | .ok (.ret u) => Q u s' | .ok _ => False | .error e => E e s') ⟨h', g, d, tk, os⟩) :
    _root_.PySem.wpAt (model prog w) A (.func bd (ksEnv qual scope L f (.ref cda) cc)) (eval (supC p0 p1 p2 p3 e) (ksEnv qual scope L f (.ref cda) cc)) Q E ⟨hh, g, d, t, os⟩ := by
  have I : InstAt hh x (excObj C t0 none .none) C none := ⟨hx, rfl, rfl, trivial⟩
  refine ks_wpAt_MethodCall ?_ hev
  refine sup_node T Md bk hms htop hD hsub hn hv I fun h1 e1 k1 => ?_
  have X1 : K.In h1 := (Md.kin.keeps bk).keeps k1
  have I1 : InstAt h1 x (excObj C t0 none .none) C none := ⟨k1 _ _ hx, rfl, rfl, trivial⟩
  cases hc : clsIn K C with
  | none => unfold ks_superIn at hm; rw [hc] at hm; cases hm
  | some cd =>
    unfold ks_superIn at hm
    rw [hc] at hm
    obtain ⟨of, hof, hofc⟩ : ∃ of, h1.get? f2 = some of ∧ of.cls = .type "function" := by
      have ht' : (K.lookup f2).map (·.cls) = some (.type "function") := ht
      cases z : K.lookup f2 with
      | none => rw [z] at ht'; cases ht'
      | some of => rw [z] at ht'; exact ⟨of, X1 _ _ z, Option.some.inj ht'⟩
    refine ks_wpAny_getMethod_super e1 (looks_opaque X1 hno) (l₀ := cd.mro) (fun A Q E s k q => wpAny_bind ((looks_clsIn X1 hc) A _ E s k (wpAny_pure q))) rfl X1 hm hof hofc (ks_ne X1 I1 hc) rfl ?_
    have k2 : ∀ b o, h1.get? b = some o → (h1.push (methodObj (.ref f2) (.ref x))).get? b = some o := fun b o z => Heap.get?_push_of_some _ z
    have hu : (h1.push (methodObj (.ref f2) (.ref x))).get? h1.objs.size = some (methodObj (.ref f2) (.ref x)) := Heap.get?_push_at rfl rfl
    rw [hse]
    refine callWith_of (P := MethP K h1.objs.size f2 (.ref x)) (by first | rfl | decide) (keeps_M hfn) (evalArgs_plain (spliced_cons (he _ _ _ ((hn.keeps k1).keeps k2) fun v tk pv => ?_)))
    refine spliced_nil ⟨⟨hu, X1.keeps k2⟩, ?_⟩
    refine wpAny_call (codeAny_mono (method_call hu (h _ tk v pv fun b o z => k2 _ _ (k1 _ _ z))) fun r s' z => ?_)
    rcases r with e | (v | _ | _ | _) <;> first | exact z | exact z.elim
end
end XO
end PySem
set_option Elab.async false
set_option linter.all false
set_option maxRecDepth 100000
set_option maxHeartbeats 4000000
namespace PySem
namespace XO
open PySem.W PySem.Calls PyProof.Rows PySem.HandSPX L2
/-- an __init__ with the values us leaves the attributes that M tells -/
def InitOk (prog : Program) (w : World) (K : Frag) (mg : Str → Option Value) (base : Heap) (n : Nat) (C f : Addr) (us : List Value) (M : (Str → Option Value) → Prop) : Prop :=
  ∀ (A : Around) (R : Result → Shared → Prop) (s : Shared) (x t0 : Addr), (∀ b o, base.get? b = some o → s.heap.get? b = some o) → s.heap.NoLimit → A.depth + n < recursionLimit → s.heap.get? x = some (excObj C t0 none .none) → base.get? x = none →
    (∀ h' tk dx mA, M mA → Done s.heap h' x C dx mA → R (.ok (.ret .none)) { s with heap := h', toks := tk }) → codeAny (model prog w) A (.call (.ref f) ⟨.ref x :: us, []⟩) R s
/-- a made error -/
structure Made (h h' : Heap) (e C d : Addr) (mA : Str → Option Value) : Prop where
  keep : ∀ b o, h.get? b = some o → h'.get? b = some o
  new : h.objs.size ≤ e
  obj : ∃ t1, h'.get? e = some (exq C t1 (some d))
  dbig : h.objs.size ≤ d
  dne : d ≠ e
  ns : h'.Ns1 d mA
section
variable {prog : Program} {w : World} {A : Around} {E : Value → Shared → Prop} {K : Frag} {mg : Str → Option Value} {base : Heap} {s : Shared} {R : Result → Shared → Prop}
variable {C f f2 cc cda : Addr} {qual : Str} {ps : Arguments} {scope : Scope} {fd : FuncData} {B newId i : String} {bmB : List Value}
theorem made (EC : ExC K C B newId i bmB) {fI : Addr} {us : List Value} {M : (Str → Option Value) → Prop} {n : Nat} (Md : Mod K mg base) (iC : findIn K (.ref C) "__init__" = some (some (.ref fI))) (tC : typeIn K (.ref fI) = some (.type "function")) (hz : us.length ≤ sizeLine)
    (IO : InitOk prog w K mg base n C fI us M) (bk : ∀ b o, base.get? b = some o → s.heap.get? b = some o) (hlim : s.heap.NoLimit) (hroom : A.depth + (n + 1) < recursionLimit)
    (hq : ∀ h' tk e d mA, M mA → Made s.heap h' e C d mA → R (.ok (.ret (.ref e))) { s with heap := h', toks := tk }) : codeAny (model prog w) A (.call (.ref C) ⟨us, []⟩) R s := by
  have X : K.In s.heap := Md.kin.keeps bk
  obtain ⟨nm, N', qn, bs, bm, hdct, sn, sub, ab, col, dd, k0, k1, k2, k3, k5, hC, hT⟩ := excInit_of X EC.qI
  obtain ⟨hp, g, dr, tk, os⟩ := s
  have k : ∀ b o, hp.get? b = some o → ((hp.push (kdv_tup us)).push (excO C hp.objs.size)).get? b = some o := fun b o e => Heap.get?_push_of_some _ (Heap.get?_push_of_some _ e)
  have hget : ((hp.push (kdv_tup us)).push (excO C hp.objs.size)).get? (hp.objs.size + 1) = some (excO C hp.objs.size) := by heap_get
  have hxb : base.get? (hp.objs.size + 1) = none := by
    cases e : base.get? (hp.objs.size + 1) with
    | none => rfl
    | some o => exact absurd (Nat.lt_of_succ_lt (Heap.lt_size (bk _ _ e))) (Nat.lt_irrefl _)
  refine call_own EC.fb hT hC (looks_findIn X iC) (fun self => bind_fn X self tC) hz ?_
  refine IO _ _ ⟨(hp.push (kdv_tup us)).push (excO C hp.objs.size), g, dr, tk, os⟩ (hp.objs.size + 1) hp.objs.size (fun b o z => k b o (bk b o z)) (hlim.keeps k) (by show A.depth + 1 + n < recursionLimit; omega) hget hxb fun h' tk' dx mA hM ⟨k', hx, dn, dne, hns⟩ => ?_
  have old : ∀ b o, hp.get? b = some o → h'.get? b = some o := fun b o e => k' b o (Nat.ne_of_lt (Nat.lt_succ_of_lt (Heap.lt_size e))) (k b o e)
  have z : hp.objs.size + 1 + 1 ≤ dx := by
    first
      | (simpa only [Heap.size_push] using dn)
      | exact dn
      | (have q := dn; rw [Heap.size_push, Heap.size_push] at q; exact q)
  exact ⟨rfl, hq h' tk' (hp.objs.size + 1) dx mA hM ⟨old, Nat.le_succ _, hx, Nat.le_trans (Nat.le_trans (Nat.le_succ _) (Nat.le_succ _)) z, dne, hns⟩⟩
/-- super().__init__(e), then the rest -/
theorem sub_init (EC : ExC K C B newId i bmB) {us : List Value} {p0 p1 p2 p3 p4 : Pos} {e : Expr} {rest : List Stmt} (T : Ini prog K C f qual ps (.Expr (supC p0 p1 p2 p3 e) p4 :: rest) scope cc cda fd) (Md : Mod K mg base) (hms : mg "super" = none) (htop : (prog.main.scope.names.lookup ("super" : Str)).isSome = false)
    (hm : ks_superIn K C C "__init__" = some (some (.ref f2))) (ht : typeIn K (.ref f2) = some (.type "function")) (hfn : fnIn K f2 = true) (hsub : mroIn K C (.ref C) = some true) {bs : Value → List (Str × Value)} (hbind : ∀ s x, BindsTo s fd ⟨x :: us, []⟩ (bs x)) (hloc : ∀ x, ∀ y ∈ bs x, scope.names.lookup y.1 = some .local)
    (hself : ∀ x, ((bs x).reverse.lookup ("self" : Str)) = some x) {P : Value → Prop} {pl : Addr → Sem Bool} {M : (Str → Option Value) → Prop} {n : Nat}
    (he : ∀ A L x, Sim prog w A (ksEnv qual scope L f (.ref cda) cc) L (fun y => (bs x).reverse.lookup y) e P)
    (hse : ∀ L, starEach [e] (ksEnv qual scope L f (.ref cda) cc) = (false, eval e (ksEnv qual scope L f (.ref cda) cc)) :: starEach [] (ksEnv qual scope L f (.ref cda) cc))
    (hev : ∀ L, eval (supC p0 p1 p2 p3 e) (ksEnv qual scope L f (.ref cda) cc) = (do
      let ov ← attributeBase (.Call (.Name "super" p0) [] [] p1) "__init__" (ksEnv qual scope L f (.ref cda) cc) (eval (.Call (.Name "super" p0) [] [] p1) (ksEnv qual scope L f (.ref cda) cc))
      standAt p2.atName
      let (f2, first) ← holding [ov] (getMethod ov "__init__" (pl L))
      callWith p3 f2 first (backTo p3 (starEach [e] (ksEnv qual scope L f (.ref cda) cc))) []))
    (hsw1 : ∀ L, swapsWith (supC p0 p1 p2 p3 e) none p4.line (ksEnv qual scope L f (.ref cda) cc) = pure false)
    (BO : ∀ v, P v → InitOk prog w K mg base n C f2 [v] (fun mA => mA = fun (y : Str) => if y = "code" then some v else none))
    (hr : ∀ (A : Around) (E : Value → Shared → Prop) (Q : Flow → Shared → Prop) (L x t1 dx : Addr) (v : Value) (hh : Heap) (g : Array GenState) (d : Drawn) (t : Nat) (os : OsState), P v → K.In hh → hh.Ns L (fun y => (bs (.ref x)).reverse.lookup y) → hh.get? x = some (exq C t1 (some dx)) → dx ≠ L → x ≠ L → dx ≠ x → K.lookup dx = none → hh.Ns1 dx (fun y => if y = "code" then some v else none) →
      (∀ h' tk mA, M mA → (∀ b o, b ≠ dx → hh.get? b = some o → h'.get? b = some o) → h'.Ns1 dx mA → Q .next ⟨h', g, d, tk, os⟩) → wpAny (model prog w) A (execs rest (ksEnv qual scope L f (.ref cda) cc)) Q E ⟨hh, g, d, t, os⟩) :
    InitOk prog w K mg base (n + 1) C f us M := by
  intro A R s x t0 bk hlim hroom hx hxb hq
  have X : K.In s.heap := Md.kin.keeps bk
  obtain ⟨cd, hcd, _⟩ := EC.cd
  refine init_frame T X hlim (by omega) (hbind s (.ref x)) (hloc (.ref x)) fun h0 hn k0 => ?_
  obtain ⟨hp, g, d, tk0, os⟩ := s
  have hxL : hp.objs.size ≠ x := Nat.ne_of_gt (Heap.lt_size hx)
  refine ks_wpAt_execs_cons (ks_wpAt_Expr_any ?_ (T.ia _) (hsw1 _))
  refine sup_fn EC.no hm ht hfn T Md (fun b o z => k0 b o (bk b o z)) hms htop hcd hsub hn (hself _) (k0 _ _ hx) (he _ _ _) (hse _) (hev _) fun h1 tk1 v pv k1 => ?_
  refine BO v pv _ _ ⟨h1, g, d, tk1, os⟩ x t0 (fun b o z => k1 _ _ (k0 b o (bk b o z))) ((hlim.keeps k0).keeps k1) (by show A.depth + 1 + n < recursionLimit; omega) (k1 _ _ (k0 _ _ hx)) hxb fun h2 tk2 dx mA hM ⟨k2, ⟨t1, e2⟩, b2, n2, ns2⟩ => ?_
  subst hM
  show _root_.PySem.wpAt _ _ _ (execs _ _) _ _ _
  refine wpAt_of_wpAny ?_
  have hn1 : h1.Ns hp.objs.size (fun y => (bs (.ref x)).reverse.lookup y) := hn.keeps k1
  have hn2 : h2.Ns hp.objs.size (fun y => (bs (.ref x)).reverse.lookup y) := hn1.at fun o z => k2 _ o hxL z
  have bigL : hp.objs.size < h1.objs.size := hn1.lt
  have bigD : hp.objs.size < dx := Nat.lt_of_lt_of_le bigL b2
  have X2 : K.In h2 := fun a o z => k2 a o (fun ea => by
    have := Md.kin _ _ z
    rw [ea, hxb] at this; cases this) (k1 _ _ (k0 _ _ (X _ _ z)))
  have nK : K.lookup dx = none := by
    cases e : K.lookup dx with
    | none => rfl
    | some o => exact absurd (Nat.lt_trans (Heap.lt_size (X _ _ e)) bigD) (Nat.lt_irrefl _)
  refine hr _ _ _ hp.objs.size x t1 dx v h2 g d tk2 os pv X2 hn2 e2 (Nat.ne_of_gt bigD) hxL.symm n2 nK ns2 fun h3 tk3 mA hM k3 ns3 => ?_
  refine hq h3 tk3 dx mA hM ⟨fun b o hb z => k3 b o (fun eb => ?_) (k2 b o hb (k1 b o (k0 b o z))), ⟨t1, k3 _ _ n2.symm e2⟩, Nat.le_of_lt bigD, n2, ns3⟩
  rw [eb] at z
  exact absurd (Nat.lt_trans (Heap.lt_size z) bigD) (Nat.lt_irrefl _)
end
end XO
end PySem
set_option Elab.async false
set_option linter.all false
set_option maxRecDepth 100000
set_option maxHeartbeats 4000000
namespace PySem
namespace XO
open PySem.W PySem.Calls PyProof.Rows PySem.HandSPX L2
section
variable {prog : Program} {w : World} {K : Frag} {mg : Str → Option Value} {base : Heap}
variable {C D f f2 cc cda : Addr} {qual : Str} {ps : Arguments} {scope : Scope} {fd : FuncData} {B newId i : String} {bmB : List Value}
/-- def __init__(self, code): super().__init__(code); self.code = code -/
theorem base_ok (EC : ExC K C B newId i bmB) (na : findIn K (.ref C) "code" = some none) {p0 p1 p2 p3 p4 q0 q1 q2 r0 r1 : Pos} (T : Ini prog K D f qual ps [.Expr (supC p0 p1 p2 p3 (.Name "code" r0)) p4, setS "code" q0 q1 q2 (.Name "code" r1)] scope cc cda fd) (Md : Mod K mg base) (hms : mg "super" = none) (htop : (prog.main.scope.names.lookup ("super" : Str)).isSome = false)
    (hm : ks_superIn K C D "__init__" = some (some (.builtin i))) {cdD : ClassData} (hD : clsIn K D = some cdD) (hsub : mroIn K C (.ref D) = some true) (kcode : scope.names.lookup ("code" : Str) = some .local)
    {pl : Addr → Sem Bool} (hev : ∀ L, eval (supC p0 p1 p2 p3 (.Name "code" r0)) (ksEnv qual scope L f (.ref cda) cc) = (do
      let ov ← attributeBase (.Call (.Name "super" p0) [] [] p1) "__init__" (ksEnv qual scope L f (.ref cda) cc) (eval (.Call (.Name "super" p0) [] [] p1) (ksEnv qual scope L f (.ref cda) cc))
      standAt p2.atName
      let (f2, first) ← holding [ov] (getMethod ov "__init__" (pl L))
      callWith p3 f2 first (backTo p3 (starEach [(.Name "code" r0)] (ksEnv qual scope L f (.ref cda) cc))) []))
    (hbind : ∀ s x v, BindsTo s fd ⟨[x, v], []⟩ [("self", x), ("code", v)]) (v : Value) :
    InitOk prog w K mg base 0 C f [v] (fun mA => mA = fun (y : Str) => if y = "code" then some v else none) := by
  intro A R s x t0 bk hlim hroom hx hxb hq
  refine base_init EC na (P := (· = v)) (P2 := (· = v)) T Md bk hms htop hm hD hsub hlim hroom (hbind s (.ref x) v) (fun y hy => ?_) (by rfl) hx hxb (fun L => sim_name T.kd kcode rfl (by decide)) (fun L => sim_name T.kd kcode rfl (by decide)) (fun L => rfl) hev (fun L => rfl) (fun L => rfl) fun h' tk dx u hu dn => ?_
  · have hy' : y = (("self" : Str), Value.ref x) ∨ y = (("code" : Str), v) := by simpa using hy
    rcases hy' with e | e
    · rw [e]; exact T.ka
    · rw [e]; exact kcode
  · subst hu
    exact hq h' tk dx _ rfl dn
/-- def __init__(self): super().__init__("N"); self.code = "N", over a built-in -/
theorem base0_ok (EC : ExC K C B newId i bmB) (na : findIn K (.ref C) "code" = some none) {p0 p1 p2 p3 p4 q0 q1 q2 r0 r1 : Pos} {N : Str} {j0 j1 : Nat} (T : Ini prog K C f qual ps [.Expr (supC p0 p1 p2 p3 (.Constant (.str N) j0 r0)) p4, setS "code" q0 q1 q2 (.Constant (.str N) j1 r1)] scope cc cda fd) (Md : Mod K mg base) (hms : mg "super" = none) (htop : (prog.main.scope.names.lookup ("super" : Str)).isSome = false)
    (hm : ks_superIn K C C "__init__" = some (some (.builtin i))) (hsub : mroIn K C (.ref C) = some true)
    {pl : Addr → Sem Bool} (hev : ∀ L, eval (supC p0 p1 p2 p3 (.Constant (.str N) j0 r0)) (ksEnv qual scope L f (.ref cda) cc) = (do
      let ov ← attributeBase (.Call (.Name "super" p0) [] [] p1) "__init__" (ksEnv qual scope L f (.ref cda) cc) (eval (.Call (.Name "super" p0) [] [] p1) (ksEnv qual scope L f (.ref cda) cc))
      standAt p2.atName
      let (f2, first) ← holding [ov] (getMethod ov "__init__" (pl L))
      callWith p3 f2 first (backTo p3 (starEach [(.Constant (.str N) j0 r0)] (ksEnv qual scope L f (.ref cda) cc))) []))
    (hbind : ∀ s x, BindsTo s fd ⟨[x], []⟩ [("self", x)]) :
    InitOk prog w K mg base 0 C f [] (fun mA => ∃ t, mA = fun (y : Str) => if y = "code" then some (.str N t) else none) := by
  intro A R s x t0 bk hlim hroom hx hxb hq
  obtain ⟨cd, hcd, _⟩ := EC.cd
  refine base_init EC na (P := fun v => ∃ t, v = .str N t) (P2 := fun v => ∃ t, v = .str N t) T Md bk hms htop hm hcd hsub hlim hroom (hbind s (.ref x)) (fun y hy => ?_) (by rfl) hx hxb (fun L => sim_str) (fun L => sim_str) (fun L => rfl) hev (fun L => rfl) (fun L => rfl) fun h' tk dx u hu dn => ?_
  · have hy' : y = (("self" : Str), Value.ref x) := by simpa using hy
    rw [hy']; exact T.ka
  · obtain ⟨t, rfl⟩ := hu
    exact hq h' tk dx _ ⟨t, rfl⟩ dn
/-- def __init__(self): super().__init__("N") -/
theorem sub0_ok (EC : ExC K C B newId i bmB) {p0 p1 p2 p3 p4 r0 : Pos} {N : Str} {j0 n : Nat} (T : Ini prog K C f qual ps [.Expr (supC p0 p1 p2 p3 (.Constant (.str N) j0 r0)) p4] scope cc cda fd) (Md : Mod K mg base) (hms : mg "super" = none) (htop : (prog.main.scope.names.lookup ("super" : Str)).isSome = false)
    (hm : ks_superIn K C C "__init__" = some (some (.ref f2))) (ht : typeIn K (.ref f2) = some (.type "function")) (hfn : fnIn K f2 = true) (hsub : mroIn K C (.ref C) = some true)
    {pl : Addr → Sem Bool} (hev : ∀ L, eval (supC p0 p1 p2 p3 (.Constant (.str N) j0 r0)) (ksEnv qual scope L f (.ref cda) cc) = (do
      let ov ← attributeBase (.Call (.Name "super" p0) [] [] p1) "__init__" (ksEnv qual scope L f (.ref cda) cc) (eval (.Call (.Name "super" p0) [] [] p1) (ksEnv qual scope L f (.ref cda) cc))
      standAt p2.atName
      let (f2, first) ← holding [ov] (getMethod ov "__init__" (pl L))
      callWith p3 f2 first (backTo p3 (starEach [(.Constant (.str N) j0 r0)] (ksEnv qual scope L f (.ref cda) cc))) []))
    (hbind : ∀ s x, BindsTo s fd ⟨[x], []⟩ [("self", x)]) (BO : ∀ v, InitOk prog w K mg base n C f2 [v] (fun mA => mA = fun (y : Str) => if y = "code" then some v else none)) :
    InitOk prog w K mg base (n + 1) C f [] (fun mA => ∃ t, mA = fun (y : Str) => if y = "code" then some (.str N t) else none) := by
  refine sub_init EC (P := fun v => ∃ t, v = .str N t) (bs := fun x => [("self", x)]) T Md hms htop hm ht hfn hsub hbind (fun x y hy => ?_) (fun x => rfl) (fun A L x => sim_str) (fun L => rfl) hev (fun L => rfl) (fun v _ => BO v) ?_
  · have hy' : y = (("self" : Str), x) := by simpa using hy
    rw [hy']; exact T.ka
  · intro A E Q L x t1 dx v hh g d t os ⟨tv, ev⟩ X hn hx _ _ _ _ hns hq
    subst ev
    exact wpAny_execs_nil (hq hh t _ ⟨tv, rfl⟩ (fun b o _ z => z) hns)
/-- def __init__(self, a): super().__init__("N"); self.a = a -/
theorem sub1_ok (EC : ExC K C B newId i bmB) {a : Str} (na : findIn K (.ref C) a = some none) {p0 p1 p2 p3 p4 r0 q0 q1 q2 r1 : Pos} {N : Str} {j0 n : Nat} (T : Ini prog K C f qual ps [.Expr (supC p0 p1 p2 p3 (.Constant (.str N) j0 r0)) p4, setS a q0 q1 q2 (.Name a r1)] scope cc cda fd) (Md : Mod K mg base) (hms : mg "super" = none) (htop : (prog.main.scope.names.lookup ("super" : Str)).isSome = false)
    (hm : ks_superIn K C C "__init__" = some (some (.ref f2))) (ht : typeIn K (.ref f2) = some (.type "function")) (hfn : fnIn K f2 = true) (hsub : mroIn K C (.ref C) = some true) (kal : scope.names.lookup a = some .local) (had : (a == ("__debug__" : Str)) = false) (has : a ≠ "self")
    {pl : Addr → Sem Bool} (hev : ∀ L, eval (supC p0 p1 p2 p3 (.Constant (.str N) j0 r0)) (ksEnv qual scope L f (.ref cda) cc) = (do
      let ov ← attributeBase (.Call (.Name "super" p0) [] [] p1) "__init__" (ksEnv qual scope L f (.ref cda) cc) (eval (.Call (.Name "super" p0) [] [] p1) (ksEnv qual scope L f (.ref cda) cc))
      standAt p2.atName
      let (f2, first) ← holding [ov] (getMethod ov "__init__" (pl L))
      callWith p3 f2 first (backTo p3 (starEach [(.Constant (.str N) j0 r0)] (ksEnv qual scope L f (.ref cda) cc))) []))
    (hbind : ∀ s x v, BindsTo s fd ⟨[x, v], []⟩ [("self", x), (a, v)]) (BO : ∀ v, InitOk prog w K mg base n C f2 [v] (fun mA => mA = fun (y : Str) => if y = "code" then some v else none)) (u : Value) :
    InitOk prog w K mg base (n + 1) C f [u] (fun mA => ∃ t, mA = fun (y : Str) => if y = a then some u else if y = "code" then some (.str N t) else none) := by
  have la : ∀ x : Value, List.lookup a [(a, u), (("self" : Str), x)] = some u := fun x => by simp [List.lookup]
  have ls : ∀ x : Value, List.lookup ("self" : Str) [(a, u), (("self" : Str), x)] = some x := fun x => by
    have : (("self" : Str) == a) = false := by simpa using fun e => has e.symm
    simp [List.lookup, this]
  refine sub_init EC (P := fun v => ∃ t, v = .str N t) (bs := fun x => [("self", x), (a, u)]) T Md hms htop hm ht hfn hsub (fun s x => hbind s x u) (fun x y hy => ?_) (fun x => ls x) (fun A L x => sim_str) (fun L => rfl) hev (fun L => rfl) (fun v _ => BO v) ?_
  · have hy' : y = (("self" : Str), x) ∨ y = (a, u) := by simpa using hy
    rcases hy' with e | e
    · rw [e]; exact T.ka
    · rw [e]; exact kal
  · intro A E Q L x t1 dx v hh g d t os ⟨tv, ev⟩ X hn hx n1 n2 n3 nK hns hq
    subst ev
    refine set_more EC na (P := (· = u)) X hn hx hns (nl := ["code"]) (Within.cons "code" (.str N tv) Within.nil) (by decide) (sim_name T.kd kal (la (.ref x)) had) (sim_name T.kd T.ka (ls (.ref x)) (by decide)) rfl fun h' tk v hv k ns => ?_
    subst hv
    exact wpAny_execs_nil (hq h' tk _ ⟨tv, rfl⟩ k ns)
end
end XO
end PySem
set_option Elab.async false
set_option linter.all false
set_option maxRecDepth 100000
set_option maxHeartbeats 4000000
namespace L2
open PySem PySem.Spec PyProof.Rows
section
variable {X : Cx} {pins : List (Addr × Obj)} {σ : St} {H : Hp} {s : Shared} {h' : Heap} {d e : Addr} {od oe : HO}
/-- two new objects laid at once -/
theorem Inv.laid2 {t' : Nat} (I : Inv X pins σ H s) (k : ∀ b u, s.heap.get? b = some u → h'.get? b = some u) (hd : s.heap.objs.size ≤ d) (he : s.heap.objs.size ≤ e) (ne : d ≠ e) (newD : ObjOk X.prog X.w (upd (upd H d od) e oe) h' d od) (newE : ObjOk X.prog X.w (upd (upd H d od) e oe) h' e oe) :
    Inv X pins σ (upd (upd H d od) e oe) { s with heap := h', toks := t' } := by
  have nd := I.hok.fresh hd
  have nE := I.hok.fresh he
  have old : ∀ {b : Addr} {o : HO}, H b = some o → upd (upd H d od) e oe b = some o := fun {b o} q => by
    rw [upd_ne (ne_of_none q nE), upd_ne (ne_of_none q nd)]; exact q
  have nb : ∀ {b : Addr} {o : Obj}, s.heap.get? b = some o → b ≠ d ∧ b ≠ e := fun {b o} q =>
    ⟨fun z => absurd (Nat.lt_of_lt_of_le (Heap.lt_size (by rw [z] at q; exact q)) hd) (Nat.lt_irrefl _), fun z => absurd (Nat.lt_of_lt_of_le (Heap.lt_size (by rw [z] at q; exact q)) he) (Nat.lt_irrefl _)⟩
  refine I.un (t' := t') ⟨fun b o q _ _ _ => k b o q, fun b o q _ _ _ => ⟨o.slots, k b o q⟩, fun b o q n _ => ?_, fun b o q _ => ⟨o, k b o q⟩, fun b xs q => old q, fun b o u q => old q, fun b ps q => ⟨#[], by rw [Array.append_empty]; exact old q⟩⟩ (fun b u q => ?_)
  · rw [upd_ne (nb q).2, upd_ne (nb q).1]; exact n
  · by_cases hbe : b = e
    · subst hbe; rw [upd_same] at q; cases q; exact newE
    · rw [upd_ne hbe] at q
      by_cases hbd : b = d
      · subst hbd; rw [upd_same] at q; cases q; exact newD
      · rw [upd_ne hbd] at q
        exact (I.hok b u q).stay (fun c v _ r => k c v r) (fun c r => old r) fun c xs r => old r
end
end L2
set_option Elab.async false
set_option linter.all false
set_option maxRecDepth 100000
set_option maxHeartbeats 4000000
namespace L2
open PySem PySem.Spec PyProof.Rows PySem.XO
/-- an error class of the text: its name as code, its fields -/
structure Err (prog : Program) (w : World) (K : PySem.W.Frag) (mg : Str → Option Value) (base : Heap) (n : Nat) (C : Addr) (code : Str) (names : List Str) : Prop where
  kp : PySem.W.keepIn K (.ref C) = true
  exC : PySem.W.subIn K (.ref C) (.type "BaseException") = some true
  tyC : PySem.W.typeIn K (.ref C) = some (.type "type")
  run : Mod K mg base → ∀ (us : List Value), us.length = names.length → ∀ (A : Around) (R : Result → Shared → Prop) (s : Shared), (∀ b o, base.get? b = some o → s.heap.get? b = some o) → s.heap.NoLimit → A.depth + n < recursionLimit →
    (∀ h' tk e d mA t, (∀ f, mA f = List.lookup f ((("code" : Str), Value.str code t) :: names.zip us)) → Made s.heap h' e C d mA → R (.ok (.ret (.ref e))) { s with heap := h', toks := tk }) → codeAny (model prog w) A (.call (.ref C) ⟨us, []⟩) R s
def errF (code : Str) (names : List Str) (vs : List V) : List (Str × V) := (("code" : Str), V.str code) :: names.zip vs
theorem relO_zip {f : Str} : ∀ {names : List Str} {vs : List V} {us : List Value}, Vals vs us → RelO (List.lookup f (names.zip vs)) (List.lookup f (names.zip us))
  | [], _, _, _ => trivial
  | n :: ns, _, _, .nil => trivial
  | n :: ns, _, _, .cons r t => by
    simp only [List.zip_cons_cons, List.lookup_cons]
    cases f == n with
    | true => exact r
    | false => exact relO_zip t
theorem relO_err {f code : Str} {names : List Str} {vs : List V} {us : List Value} {t : Tok} (r : Vals vs us) : RelO ((errF code names vs).lookup f) (List.lookup f ((("code" : Str), Value.str code t) :: names.zip us)) := by
  unfold errF
  simp only [List.lookup_cons]
  cases f == ("code" : Str) with
  | true => exact ⟨t, rfl⟩
  | false => exact relO_zip r
section
variable {X : Cx} {C : Addr} {code : Str} {names : List Str} {n : Nat} {x : Str} {a : Expr} {es : List Expr} {t : TA} {p pos : Pos}
/-- E(..) as a value -/
def tErr (C : Addr) (code : Str) (names : List Str) (t : TA) : TE := fun σ H Q => t σ H fun vs H1 => vs.length = names.length ∧ ∀ e d u, H1 e = none → H1 d = none → d ≠ e → EV.ExO C d u → Q (.ref e) (upd (upd H1 d (.xd (errF code names vs))) e u)
theorem run_err {pins : List (Addr × Obj)} {σ : St} {H : Hp} {s : Shared} {Q : VK} {us : List Value} {vs : List V} (Er : Err X.prog X.w X.K X.mg X.base n C code names) (hr : Room n X.A) (I : Inv X pins σ H s) (r : Vals vs us) (hl : vs.length = names.length)
    (h : ∀ e d u, H e = none → H d = none → d ≠ e → EV.ExO C d u → Q (.ref e) (upd (upd H d (.xd (errF code names vs))) e u)) : wpAny (model X.prog X.w) X.A (call (.ref C) us) (EP X pins σ Q) X.xe s := by
  refine wpAny_call (Er.run I.ok.mod us (by rw [← r.length]; exact hl) X.A _ s I.bk I.nolimit (by have := hr.dp; omega) fun h' tk e d mA t hm M => ?_)
  obtain ⟨t1, ho⟩ := M.obj
  refine ⟨.ref e, _, I.laid2 (od := .xd (errF code names vs)) (oe := .frz (exq C t1 (some d)) (.own 0)) M.keep M.dbig M.new M.dne ⟨mA, M.ns, fun f => by rw [hm f]; exact relO_err r⟩ ⟨ho, _, ho⟩, rfl, h e d _ (I.hok.fresh M.new) (I.hok.fresh M.dbig) M.dne ⟨_, _, rfl, ⟨rfl, rfl⟩, rfl⟩⟩
theorem pe_err (Er : Err X.prog X.w X.K X.mg X.base n C code names) (hr : Room n X.A) (hg : Gl X x) (hm : X.mg x = some (.ref C)) (ha : PA X (a :: es) t) (hdb : (x == ("__debug__" : Str)) = false) (he : starEach (a :: es) X.env = (false, eval a X.env) :: starEach es X.env) (hpl : (backTo pos (starEach es X.env)).any (·.1) = false) :
    PE X (.Call (.Name x p) (a :: es) [] pos) (tErr C code names t) := by
  refine ⟨fun pins s σ H Q I h => ?_⟩
  refine wpAny_Call_Name_kw (ld_glob I hg hm ?_ hdb)
  refine PySem.W.callWith_K (h₀ := X.base) I.ok.mod.kin Er.kp (thn (ha.run pos pins s σ H _ I h) fun us s1 ⟨vs, H1, I1, r, hl, q⟩ => ⟨I1.kIn, ?_⟩) he hpl
  exact run_err Er hr I1 r hl q
theorem pe_err0 (Er : Err X.prog X.w X.K X.mg X.base n C code []) (hr : Room n X.A) (hg : Gl X x) (hm : X.mg x = some (.ref C)) (hdb : (x == ("__debug__" : Str)) = false) :
    PE X (.Call (.Name x p) [] [] pos) (tErr C code [] tNil) := by
  refine ⟨fun pins s σ H Q I h => ?_⟩
  refine wpAny_Call_Name_kw (ld_glob I hg hm ?_ hdb)
  refine PySem.W.callWith_K0 I.kIn Er.kp ?_
  exact run_err (us := []) (vs := []) Er hr I .nil rfl h.2
end
end L2
namespace EV
open PySem PySem.Spec PyProof.Rows L2
theorem RpF.zip {K : PySem.W.Frag} {G : Hp} : ∀ {names : List Str} {vs : List V} {ds : List D}, RpL K G vs ds → RpF K G (names.zip vs) (names.zip ds)
  | [], _, _, _ => .nil
  | _ :: _, _, _, .nil => .nil
  | _ :: _, _, _, .cons r t => .cons r (RpF.zip t)
/-- the attributes of an error -/
def errD (code : Str) (names : List Str) (ds : List D) : List (Str × D) := (("code" : Str), D.str code) :: names.zip ds
section
variable {X : Cx} {L : Pl} {C : Addr} {code : Str} {names : List Str} {n : Nat} {x : Str} {a : Expr} {es : List Expr} {mA : DA} {p pos : Pos}
variable {K : PySem.W.Frag} {B : Bo} {O : Ow} {G H : Hp}
def dErr (C : Addr) (code : Str) (names : List Str) (mA : DA) : DE := fun ρ O Q E => mA ρ O (fun ds O1 => ds.length = names.length ∧ Q (.exc C (errD code names ds)) O1) E
theorem err_new {e d : Addr} {u : HO} {vs : List V} {ds : List D} (g : Good K B O G H) (r : RpL K G vs ds) (ne : H e = none) (nd : H d = none) (hd : d ≠ e) (hu : ExO C d u) :
    Step K B O G H O (upd (upd G d (.xd (errF code names vs))) e u) (upd (upd H d (.xd (errF code names vs))) e u) ∧ Rp K (upd (upd G d (.xd (errF code names vs))) e u) (.ref e) (.exc C (errD code names ds)) := by
  have s1 := Step.new (o := .xd (errF code names vs)) g nd
  have ne1 : upd H d (.xd (errF code names vs)) e = none := by rw [upd_ne hd.symm]; exact ne
  have s2 := Step.new (o := u) s1.good ne1
  have s := s1.trans s2
  refine ⟨s, .exc upd_same hu (by rw [upd_ne hd, upd_same]; rfl) (.cons (.str _) (RpF.zip (r.mono s.grow)))⟩
theorem d_err (Er : Err X.prog X.w X.K X.mg X.base n C code names) (hr : Room n X.A) (hg : Gl X x) (hm : X.mg x = some (.ref C)) (ha : DPA X L (a :: es) mA) (hdb : (x == ("__debug__" : Str)) = false) (he : starEach (a :: es) X.env = (false, eval a X.env) :: starEach es X.env) (hpl : (backTo pos (starEach es X.env)).any (·.1) = false) :
    DPE X L (.Call (.Name x p) (a :: es) [] pos) (dErr C code names mA) := by
  refine ⟨fun ρ O Q Q' E E' q hx x => ha.mo ρ _ _ _ _ _ (fun _ _ z => ⟨z.1, q _ _ z.2⟩) hx x, pe_imp (pe_err Er hr hg hm ha.run hdb he hpl) fun σ H Q ⟨G, O, ρ, g, rs, q⟩ => ?_⟩
  refine upA_of ha.mo g rs q fun ds vs O1 G1 H1 q1 s1 r1 => ⟨by rw [r1.length]; exact q1.1, fun e d u ne nd hd hu => ?_⟩
  obtain ⟨s2, r2⟩ := err_new (C := C) (code := code) (names := names) s1.good r1 ne nd hd hu
  exact q1.2 _ _ _ (s1.trans s2) r2
theorem d_err0 (Er : Err X.prog X.w X.K X.mg X.base n C code []) (hr : Room n X.A) (hg : Gl X x) (hm : X.mg x = some (.ref C)) (hdb : (x == ("__debug__" : Str)) = false) :
    DPE X L (.Call (.Name x p) [] [] pos) (dC (.exc C [(("code" : Str), .str code)])) := by
  refine ⟨mo_c _, pe_imp (pe_err0 Er hr hg hm hdb) fun σ H Q ⟨G, O, ρ, g, rs, q⟩ => ⟨rfl, fun e d u ne nd hd hu => ?_⟩⟩
  obtain ⟨s2, r2⟩ := err_new (C := C) (code := code) (names := []) g (.nil : RpL X.K G [] []) ne nd hd hu
  exact q _ _ _ s2 r2
end
end EV
set_option Elab.async false
set_option linter.all false
set_option maxRecDepth 100000
set_option maxHeartbeats 4000000
/-! raise E(..), defs that raise -/
namespace L2
open PySem PySem.Spec PyProof.Rows PySem.XO
section
variable {X : Cx} {C : Addr} {code : Str} {names : List Str} {n : Nat} {x : Str} {a : Expr} {es : List Expr} {t : TA} {p pos : Pos}
def tMkE (C : Addr) (code : Str) (names : List Str) (t : TA) : St → Hp → XK → Prop := fun σ H Q => t σ H fun vs H1 => vs.length = names.length ∧ ∀ d, H1 d = none → Q (.ref C) (some d) (upd H1 d (.xd (errF code names vs)))
theorem mk_run {pins : List (Addr × Obj)} {σ : St} {H : Hp} {s : Shared} {Q : XK} {us : List Value} {vs : List V} (Er : Err X.prog X.w X.K X.mg X.base n C code names) (hr : Room n X.A) (I : Inv X pins σ H s) (r : Vals vs us) (hl : vs.length = names.length)
    (h : ∀ d, H d = none → Q (.ref C) (some d) (upd H d (.xd (errF code names vs)))) : wpAny (model X.prog X.w) X.A (call (.ref C) us) (MkP X pins σ Q) X.xe s := by
  refine wpAny_call (Er.run I.ok.mod us (by rw [← r.length]; exact hl) X.A _ s I.bk I.nolimit (by have := hr.dp; omega) fun h' tk e d mA t hm M => ?_)
  obtain ⟨t1, ho⟩ := M.obj
  show MkP X pins σ Q (.ref e) { s with heap := h', toks := tk }
  obtain ⟨G', g1, g2⟩ := restrict h' fun b => decide (b ≠ e)
  have gk : ∀ b, b ≠ e → G'.get? b = h'.get? b := fun b hb => g1 b (decide_eq_true hb)
  have ge : G'.get? e = none := g2 e (by simp)
  have old : ∀ b o, s.heap.get? b = some o → G'.get? b = some o := fun b o q => (gk b (Nat.ne_of_lt (Nat.lt_of_lt_of_le (Heap.lt_size q) M.new))).trans (M.keep b o q)
  have ob : ObjOk X.prog X.w (upd H d (.xd (errF code names vs))) G' d (.xd (errF code names vs)) :=
    ⟨mA, M.ns.at (fun o q => (gk d M.dne).trans q), fun f => by rw [hm f]; exact relO_err r⟩
  have J : Inv X pins σ (upd H d (.xd (errF code names vs))) { s with heap := G', toks := tk } := I.laid (t' := tk) old M.dbig ob
  refine ⟨e, _, _, { s with heap := G', toks := tk }, _, .ref C, some d, rfl, J, fun b o q => ?_, ge, ho, ⟨rfl, rfl⟩, rfl, rfl, ?_, rfl, I.bare, raises_own Er.exC Er.tyC, h d (I.hok.fresh M.dbig)⟩
  · by_cases hb : b = e
    · have q' : G'.get? b = some o := q
      rw [hb, ge] at q'; cases q'
    · have q' : G'.get? b = some o := q
      rw [gk b hb] at q'
      exact q'
  · rw [upd_ne (fun z => M.dne z.symm)]
    exact I.hok.fresh M.new
theorem pmk_err (Er : Err X.prog X.w X.K X.mg X.base n C code names) (hr : Room n X.A) (hg : Gl X x) (hm : X.mg x = some (.ref C)) (ha : PA X (a :: es) t) (hdb : (x == ("__debug__" : Str)) = false) (he : starEach (a :: es) X.env = (false, eval a X.env) :: starEach es X.env) (hpl : (backTo pos (starEach es X.env)).any (·.1) = false) :
    PMk X (.Call (.Name x p) (a :: es) [] pos) (tMkE C code names t) := by
  intro pins s σ H Q I h
  refine wpAny_Call_Name_kw (ld_glob I hg hm ?_ hdb)
  refine PySem.W.callWith_K (h₀ := X.base) I.ok.mod.kin Er.kp (thn (ha.run pos pins s σ H _ I h) fun us s1 ⟨vs, H1, I1, r, hl, q⟩ => ⟨I1.kIn, ?_⟩) he hpl
  exact mk_run Er hr I1 r hl q
theorem pmk_err0 (Er : Err X.prog X.w X.K X.mg X.base n C code []) (hr : Room n X.A) (hg : Gl X x) (hm : X.mg x = some (.ref C)) (hdb : (x == ("__debug__" : Str)) = false) :
    PMk X (.Call (.Name x p) [] [] pos) (tMkE C code [] tNil) := by
  intro pins s σ H Q I h
  refine wpAny_Call_Name_kw (ld_glob I hg hm ?_ hdb)
  refine PySem.W.callWith_K0 I.kIn Er.kp ?_
  exact mk_run (us := []) (vs := []) Er hr I .nil rfl h.2
end
end L2
namespace EV
open PySem PySem.Spec PyProof.Rows L2
section
variable {X : Cx} {L : Pl} {C : Addr} {code : Str} {names : List Str} {n : Nat} {x : Str} {a : Expr} {es : List Expr} {mA : DA} {p pos pos2 : Pos}
variable {K : PySem.W.Frag} {B : Bo} {O : Ow} {G H : Hp}
abbrev Tk (X : Cx) (L : Pl) : Prop := Takes X (fun cls d σ H => L.W σ cls d H)
def dRaise (C : Addr) (code : Str) (names : List Str) (mA : DA) : DS := fun A ρ O => mA ρ O (fun ds O1 => ds.length = names.length ∧ A.ex (C, errD code names ds) ρ O1) (fun x O1 => A.ex x ρ O1)
theorem exd_new {d : Addr} {vs : List V} {ds : List D} (g : Good K B O G H) (r : RpL K G vs ds) (nd : H d = none) :
    Step K B O G H O (upd G d (.xd (errF code names vs))) (upd H d (.xd (errF code names vs))) ∧ RpF K (upd G d (.xd (errF code names vs))) (errF code names vs) (errD code names ds) := by
  have s1 := Step.new (o := .xd (errF code names vs)) g nd
  exact ⟨s1, .cons (.str _) (RpF.zip (r.mono s1.grow))⟩
theorem d_raise (hc : X.calm = true) (tk : Tk X L) (Er : Err X.prog X.w X.K X.mg X.base n C code names) (hr : Room n X.A) (hg : Gl X x) (hm : X.mg x = some (.ref C)) (ha : DPA X L (a :: es) mA) (hdb : (x == ("__debug__" : Str)) = false) (he : starEach (a :: es) X.env = (false, eval a X.env) :: starEach es X.env) (hpl : (backTo pos (starEach es X.env)).any (·.1) = false) :
    DPS X L (.Raise (some (.Call (.Name x p) (a :: es) [] pos)) none pos2) (dRaise C code names mA) := by
  refine ⟨fun A A' ρ O l z => ha.mo _ _ _ _ _ _ (fun d O1 y => ⟨y.1, l.ex _ _ _ y.2⟩) (fun x _ y => l.ex _ _ _ y) z, ps_imp (ps_raise hc tk (pmk_err Er hr hg hm ha.run hdb he hpl)) fun Dn σ H ⟨G, O, ρ, g, rs, q⟩ => ?_⟩
  refine upAE ha.mo g rs q fun ds vs O1 G1 H1 q1 s1 r1 => ⟨by rw [r1.length]; exact q1.1, fun d nd => ?_⟩
  obtain ⟨s2, r2⟩ := exd_new (code := code) (names := names) s1.good r1 nd
  exact q1.2 σ d _ _ _ (s1.trans s2) (rs.step (s1.trans s2)) upd_same r2
theorem d_raise0 (hc : X.calm = true) (tk : Tk X L) (Er : Err X.prog X.w X.K X.mg X.base n C code []) (hr : Room n X.A) (hg : Gl X x) (hm : X.mg x = some (.ref C)) (hdb : (x == ("__debug__" : Str)) = false) :
    DPS X L (.Raise (some (.Call (.Name x p) [] [] pos)) none pos2) (dRaise C code [] dNil) := by
  refine ⟨fun A A' ρ O l z => ⟨z.1, l.ex _ _ _ z.2⟩, ps_imp (ps_raise hc tk (pmk_err0 Er hr hg hm hdb)) fun Dn σ H ⟨G, O, ρ, g, rs, q⟩ => ⟨rfl, fun d nd => ?_⟩⟩
  obtain ⟨s2, r2⟩ := exd_new (code := code) (names := []) g (.nil : RpL X.K G [] []) nd
  exact q.2 σ d _ _ _ s2 (rs.step s2) upd_same r2
end
/-! ### defs that may raise -/
section
variable {P : Program} {w : World} {K : PySem.W.Frag} {mg : Str → Option Value} {base : Heap}
theorem fn_exc {x qual : Str} {st : Stmt} {f : Addr} {fd : FuncData} {N ps : List Str} {k : Nat} {sp : DSp} {ms : DS} (Fn : Fun K x qual st f fd) (S : FnScope N ps (defScope st)) (len : ∀ ds O Q E, sp ds O Q E → ds.length = ps.length)
    (hb : ∀ (cdv : Value) (A : Around) (outer : List Env) (s : Shared) (H : Hp) (E : XK), Room k (A.deeper (envOfC qual (defScope st) s.heap.objs.size f cdv)) → Tk (cxOf (L2.CX P w) P w K mg base N qual (defScope st) f cdv A outer s H E) ⟨bo0, fun _ => E⟩ →
      DPSs (cxOf (L2.CX P w) P w K mg base N qual (defScope st) f cdv A outer s H E) ⟨bo0, fun _ => E⟩ (defBody st) ms)
    (h : ∀ ds O Q E, sp ds O Q E → ms (endsD Q E) (startD N ds) O) : FnOk P w K mg base (L2.CX P w) (k + 1) f fd ps (spD K sp) := by
  refine Fn.okX S (fun vs H Q E ⟨G, O, ds, g, r, Q0, E0, h0, _⟩ => ?_) (fun cdv A outer s H vs Q E hr ⟨G, O, ds, g, r, Q0, E0, h0, hq, hx⟩ => ?_)
  · rw [r.length]; exact len _ _ _ _ h0
  · have b := hb cdv A outer s H E hr (takes_of rfl rfl rfl rfl)
    refine ⟨_, b.run, G, O, startD N ds, g, start_rp r, b.mo (endsD Q0 E0) _ _ _ ⟨fun ρ O1 z σ' G' H' s _ => hq _ _ z _ G' H' s .non, fun d O1 z v G' H' s rv => hq _ _ z v G' H' s rv, fun _ _ z => z.elim, fun _ _ z => z.elim, fun x ρ _ z σ' d fs G' H' s _ a rf => hx _ _ z d fs G' H' s a rf⟩ (h ds O Q0 E0 h0)⟩
theorem fn_boxX {x qual : Str} {st : Stmt} {f : Addr} {fd : FuncData} {N ps : List Str} {k : Nat} {sp : DSp} {ms : Addr → DS} (Fn : Fun K x qual st f fd) (S : FnScope N ps (defScope st)) (len : ∀ ds O Q E, sp ds O Q E → ds.length + 1 = ps.length)
    (hb : ∀ (cdv : Value) (A : Around) (outer : List Env) (s : Shared) (H : Hp) (E : XK) (b l : Addr) (T : List (Addr × Str)), Room k (A.deeper (envOfC qual (defScope st) s.heap.objs.size f cdv)) → Tk (cxOf (L2.CX P w) P w K mg base N qual (defScope st) f cdv A outer s H E) ⟨boB b l T, fun _ => E⟩ →
      DPSs (cxOf (L2.CX P w) P w K mg base N qual (defScope st) f cdv A outer s H E) ⟨boB b l T, fun _ => E⟩ (defBody st) (ms b))
    (h : ∀ b ds O Q E, sp ds O Q E → ms b (endsD Q E) (startD N (.opq (.ref b) :: ds)) O) : FnOk P w K mg base (L2.CX P w) (k + 1) f fd ps (spB K sp) := by
  refine Fn.okX S (fun vs H Q E ⟨b, l, T, ws, G, O, ds, ev, g, r, Q0, E0, h0, _⟩ => ?_) (fun cdv A outer s H vs Q E hr ⟨b, l, T, ws, G, O, ds, ev, g, r, Q0, E0, h0, hq, hx⟩ => ?_)
  · rw [ev, List.length_cons, r.length]; exact len _ _ _ _ h0
  · subst ev
    have bb := hb cdv A outer s H E b l T hr (takes_of rfl rfl rfl rfl)
    refine ⟨_, bb.run, G, O, startD N (.opq (.ref b) :: ds), g, start_rp (.cons (.opq _) r), bb.mo (endsD Q0 E0) _ _ _ ⟨fun ρ O1 z σ' G' H' s _ => hq _ _ z _ G' H' s .non, fun d O1 z v G' H' s rv => hq _ _ z v G' H' s rv, fun _ _ z => z.elim, fun _ _ z => z.elim, fun x ρ _ z σ' d fs G' H' s _ a rf => hx _ _ z d fs G' H' s a rf⟩ (h b ds O Q0 E0 h0)⟩
theorem tk_pass {X : Cx} {L : Pl} (tk : Tk X L) (σ : L2.St) : PassesAt (L2.CX X.prog X.w) X σ (L.W σ) := passAt (W := fun cls d σ H => L.W σ cls d H) tk σ
end
end EV
set_option Elab.async false
set_option linter.all false
set_option maxRecDepth 100000
set_option maxHeartbeats 4000000
/-! data behind entries that come and go -/
namespace EV
open PySem PySem.Spec PyProof.Rows L2 LamX
mutual
/-- no error within -/
def noX : D → Bool
  | .exc _ _ => false
  | .lst xs => noXs xs
  | .tup xs => noXs xs
  | .dic kvs => noXk kvs
  | .ins _ fs => noXf fs
  | _ => true
def noXs : List D → Bool
  | [] => true
  | x :: xs => noX x && noXs xs
def noXk : List (Key × D) → Bool
  | [] => true
  | x :: xs => noX x.2 && noXk xs
def noXf : List (Str × D) → Bool
  | [] => true
  | x :: xs => noX x.2 && noXf xs
end
section
variable {K : PySem.W.Frag} {G G' : Hp} {bad : Obj → Prop}
theorem LamFd.part (h : ∀ a u, G a = some u → (∀ o, u = .frz o (.own 0) → ¬ bad o) → G' a = some u) (hb : ∀ o, bad o → (∃ v, o.data = .cell v) ∨ ∃ vs, o.data = .fields vs) {l : LamD} {c : Addr} {fd : FuncData} (r : LamFd G l c fd) : LamFd G' l c fd := by
  obtain ⟨dV, doc, pm, ctv, bs, h1, h2, h3⟩ := r
  refine ⟨dV, doc, pm, ctv, bs, h1, h2, ?_⟩
  rcases h3 with h3 | ⟨t, o, its, n, h4, h6, h5⟩
  · exact .inl h3
  · refine .inr ⟨t, o, its, n, h _ _ h4 (fun o' e b => ?_), h6, h5⟩
    cases e
    rcases hb o b with ⟨v, e⟩ | ⟨v, e⟩ <;> rw [h6] at e <;> cases e
theorem sqT_cut (h : ∀ a u, G a = some u → (∀ o, u = .frz o (.own 0) → ¬ bad o) → G' a = some u) {a : Addr} {xs : List V} (r : SqT K G a xs) : SqT K G' a xs := by
  rcases r with (r | ⟨o, r⟩) | r
  · exact .inl (.inl (h _ _ r (fun o e => by cases e)))
  · exact .inl (.inr ⟨o, h _ _ r (fun o e => by cases e)⟩)
  · exact .inr r
mutual
theorem Rp.part (h : ∀ a u, G a = some u → (∀ o, u = .frz o (.own 0) → ¬ bad o) → G' a = some u) (hb : ∀ o, bad o → (∃ v, o.data = .cell v) ∨ ∃ vs, o.data = .fields vs) : ∀ {d : D} {v : V}, ((∀ o, bad o → ∃ v, o.data = .cell v) ∨ noX d = true) → Rp K G v d → Rp K G' v d
  | .non, _, _, .non => .non
  | .bl _, _, _, .bl b => .bl b
  | .int _, _, _, .int i => .int i
  | .str _, _, _, .str x => .str x
  | .opq _, _, _, .opq v => .opq v
  | .lst _, _, c, .lst e r => .lst (h _ _ e (fun o z => by cases z)) (RpL.part h hb (c.imp id fun z => by simpa [noX] using z) r)
  | .tup _, _, c, .tup e r => .tup (sqT_cut h e) (RpL.part h hb (c.imp id fun z => by simpa [noX] using z) r)
  | .dic _, _, c, .dic e r => .dic (h _ _ e (fun o z => by cases z)) (RpK.part h hb (c.imp id fun z => by simpa [noX] using z) r)
  | .ins _ _, _, c, .ins e r => .ins (h _ _ e (fun o z => by cases z)) (RpF.part h hb (c.imp id fun z => by simpa [noX] using z) r)
  | .exc _ _, _, c, .exc e x q r => by
    have c' : ∀ o, bad o → ∃ v, o.data = .cell v := c.elim id fun z => by simp [noX] at z
    refine .exc (h _ _ e (fun o z b => ?_)) x (h _ _ q (fun o z => by cases z)) (RpF.part h hb (.inl c') r)
    obtain ⟨oe, vs, e1, _, e2⟩ := x
    rw [e1] at z; cases z
    obtain ⟨v, e3⟩ := c' _ b
    rw [e2] at e3; cases e3
  | .lam _, _, _, .lam e q r => by
    refine .lam (h _ _ e (fun o z b => ?_)) (h _ _ q (fun o z => by unfold CodeO at z; cases z)) (r.part h hb)
    cases z
    rcases hb _ b with ⟨v, e⟩ | ⟨v, e⟩ <;> cases e
theorem RpL.part (h : ∀ a u, G a = some u → (∀ o, u = .frz o (.own 0) → ¬ bad o) → G' a = some u) (hb : ∀ o, bad o → (∃ v, o.data = .cell v) ∨ ∃ vs, o.data = .fields vs) : ∀ {ds : List D} {vs : List V}, ((∀ o, bad o → ∃ v, o.data = .cell v) ∨ noXs ds = true) → RpL K G vs ds → RpL K G' vs ds
  | [], _, _, .nil => .nil
  | _ :: _, _, c, .cons a b => .cons (Rp.part h hb (c.imp id fun z => by simp [noXs] at z; exact z.1) a) (RpL.part h hb (c.imp id fun z => by simp [noXs] at z; exact z.2) b)
theorem RpK.part (h : ∀ a u, G a = some u → (∀ o, u = .frz o (.own 0) → ¬ bad o) → G' a = some u) (hb : ∀ o, bad o → (∃ v, o.data = .cell v) ∨ ∃ vs, o.data = .fields vs) : ∀ {ds : List (Key × D)} {vs : List (Key × V)}, ((∀ o, bad o → ∃ v, o.data = .cell v) ∨ noXk ds = true) → RpK K G vs ds → RpK K G' vs ds
  | [], _, _, .nil => .nil
  | _ :: _, _, c, .cons a b => .cons (Rp.part h hb (c.imp id fun z => by simp [noXk] at z; exact z.1) a) (RpK.part h hb (c.imp id fun z => by simp [noXk] at z; exact z.2) b)
theorem RpF.part (h : ∀ a u, G a = some u → (∀ o, u = .frz o (.own 0) → ¬ bad o) → G' a = some u) (hb : ∀ o, bad o → (∃ v, o.data = .cell v) ∨ ∃ vs, o.data = .fields vs) : ∀ {ds : List (Str × D)} {vs : List (Str × V)}, ((∀ o, bad o → ∃ v, o.data = .cell v) ∨ noXf ds = true) → RpF K G vs ds → RpF K G' vs ds
  | [], _, _, .nil => .nil
  | _ :: _, _, c, .cons a b => .cons (Rp.part h hb (c.imp id fun z => by simp [noXf] at z; exact z.1) a) (RpF.part h hb (c.imp id fun z => by simp [noXf] at z; exact z.2) b)
end
end
end EV
set_option Elab.async false
set_option linter.all false
set_option maxRecDepth 100000
set_option maxHeartbeats 4000000
namespace EV
open PySem PySem.Spec PyProof.Rows L2 LamX
section
variable {K : PySem.W.Frag} {B : Bo} {O O' : Ow} {G H G' H' : Hp} {cv : Cv}
abbrev IsC (o : Obj) : Prop := ∃ v, o.data = .cell v
def CvC (cv : Cv) : Prop := ∀ a o, cv a = some o → IsC o
theorem Has.sub (s : Sub G H) (h : Has G cv) : Has H cv := fun a o e => s _ _ (h a o e)
theorem part_c (hs : Has G cv) (hc : CvC cv) : ∀ a u, G a = some u → (∀ o, u = .frz o (.own 0) → ¬ IsC o) → hminus G cv a = some u := fun a u e n => by
  cases q : cv a with
  | some o => rw [hs a o q] at e; cases e; exact absurd (hc a o q) (n o rfl)
  | none => rw [hminus_out q]; exact e
theorem Rp.minus (hs : Has G cv) (hc : CvC cv) {v : V} {d : D} (r : Rp K G v d) : Rp K (hminus G cv) v d := Rp.part (bad := IsC) (part_c hs hc) (fun _ b => .inl b) (.inl fun _ b => b) r
theorem RpL.minus (hs : Has G cv) (hc : CvC cv) {v : List V} {d : List D} (r : RpL K G v d) : RpL K (hminus G cv) v d := RpL.part (bad := IsC) (part_c hs hc) (fun _ b => .inl b) (.inl fun _ b => b) r
theorem RpK.minus (hs : Has G cv) (hc : CvC cv) {v : List (Key × V)} {d : List (Key × D)} (r : RpK K G v d) : RpK K (hminus G cv) v d := RpK.part (bad := IsC) (part_c hs hc) (fun _ b => .inl b) (.inl fun _ b => b) r
theorem RpF.minus (hs : Has G cv) (hc : CvC cv) {v : List (Str × V)} {d : List (Str × D)} (r : RpF K G v d) : RpF K (hminus G cv) v d := RpF.part (bad := IsC) (part_c hs hc) (fun _ b => .inl b) (.inl fun _ b => b) r
theorem none_minus {a : Addr} (h : G a = none) : hminus G cv a = none := by
  cases q : cv a with
  | some o => exact hminus_in q
  | none => rw [hminus_out q]; exact h
theorem cv_out (hs : Has G cv) {a : Addr} {u : HO} (e : G a = some u) (n : ∀ o, u ≠ .frz o (.own 0)) : cv a = none := by
  cases q : cv a with
  | some o => rw [hs a o q] at e; cases e; exact absurd rfl (n o)
  | none => rfl
theorem keep_minus (hs : Has G cv) {a : Addr} {u : HO} (e : G a = some u) (n : ∀ o, u ≠ .frz o (.own 0)) : hminus G cv a = some u := by rw [hminus_out (cv_out hs e n)]; exact e
theorem sqL_minus (hs : Has G cv) {a : Addr} {xs : List V} (h : SqL K G a xs) : SqL K (hminus G cv) a xs := by
  rcases h with (h | ⟨o, h⟩) | h
  · exact .inl (.inl (keep_minus hs h (fun o z => by cases z)))
  · exact .inl (.inr ⟨o, keep_minus hs h (fun o z => by cases z)⟩)
  · exact .inr h
theorem good_minus {B' : Bo} (eb : B'.bx = B.bx) (g : Good K B O G H) (hs : Has G cv) (hc : CvC cv) (am : Sub B'.amb (hminus G cv)) : Good K B' O (hminus G cv) (hminus H cv) := by
  have hH : Has H cv := Has.sub g.sub hs
  refine ⟨fun a u e => ?_, fun b l T e => ?_, am, fun p d e => ?_⟩
  · cases q : cv a with
    | some o => rw [hminus_in q] at e; cases e
    | none => rw [hminus_out q] at e ⊢; exact g.sub a u e
  · obtain ⟨h1, ⟨ns, i, r, m, c, h2, h3, h4⟩, h5, h6⟩ := g.box b l T (eb.symm.trans e)
    refine ⟨none_minus h1, ⟨ns, i, r, m, c, keep_minus hH h2 (fun o z => by cases z), sqL_minus hs h3, h4⟩, fun p hp => ?_, fun p hp => none_minus (h6 p hp)⟩
    obtain ⟨ps, a1, a2, a3⟩ := h5 p hp
    refine ⟨ps, keep_minus hH a1 (fun o z => by cases z), a2, fun pos cv' hc' => ?_⟩
    obtain ⟨c, e1, e2⟩ := a3 pos cv' hc'
    exact ⟨c, e1, keep_minus hs e2 (fun o z => by unfold CodeO at z; cases z)⟩
  · obtain ⟨a, b, c⟩ := g.own p d e
    refine ⟨none_minus a, fun ⟨b', l', T', e', h⟩ => b ⟨b', l', T', eb.symm.trans e', h⟩, ?_⟩
    cases d <;> first
      | exact c.elim
      | (obtain ⟨vs, h, r⟩ := c; exact ⟨vs, keep_minus hH h (fun o z => by cases z), r.minus hs hc⟩)
      | (obtain ⟨dx, fs, h, r⟩ := c; exact ⟨dx, fs, keep_minus hH h (fun o z => by cases z), r.minus hs hc⟩)
theorem sub_plus (n : ∀ a o, cv a = some o → G' a = none) : Sub G' (hplus G' cv) := fun a u e => by
  cases q : cv a with
  | some o => rw [n a o q] at e; cases e
  | none => rw [hplus_out q]; exact e
/-- a step without cv's entries, seen with them -/
theorem step_plus {B' : Bo} (eb : B'.bx = B.bx) (g : Good K B O G H) (hs : Has G cv) (s : Step K B' O (hminus G cv) (hminus H cv) O' G' H') (n : ∀ a o, cv a = some o → H' a = none) : Step K B O G H O' (hplus G' cv) (hplus H' cv) := by
  have hH : Has H cv := Has.sub g.sub hs
  have nG : ∀ a o, cv a = some o → G' a = none := fun a o e => s.good.freshG (n a o e)
  have sG := sub_plus nG
  have sH : Sub H' (hplus H' cv) := sub_plus n
  have nh : ∀ a, Hid B a → cv a = none := fun a h => by
    cases q : cv a with
    | none => rfl
    | some o => have := g.hidG h; rw [hs a o q] at this; cases this
  have gr : Sub G (hplus G' cv) := fun a u e => by
    cases q : cv a with
    | some o => rw [hplus_in q]; rw [hs a o q] at e; exact e
    | none => rw [hplus_out q]; exact s.grow a u (by rw [hminus_out q]; exact e)
  have hb : ∀ {a : Addr}, Hid B a → Hid B' a := fun {a} ⟨b', l', T', e', h⟩ => ⟨b', l', T', eb.trans e', h⟩
  have hb2 : ∀ {a : Addr}, Hid B' a → Hid B a := fun {a} ⟨b', l', T', e', h⟩ => ⟨b', l', T', eb.symm.trans e', h⟩
  refine ⟨gr, ⟨fun a u e => ?_, fun b l T e => ?_, g.amb.trans gr, fun p d e => ?_⟩, fun a u e nb nO => ?_, fun a u e eG nO => ?_, fun a h => ?_⟩
  · cases q : cv a with
    | some o => rw [hplus_in q] at e ⊢; exact e
    | none => rw [hplus_out q] at e ⊢; exact s.good.sub a u e
  · refine (s.good.box b l T (eb.trans e)).step sG (fun a ha => ?_) fun a o _ h => sH _ _ h
    have ha : Hid B a := ⟨b, l, T, e, ha⟩
    rw [hplus_out (nh a ha)]; exact s.good.hidG (hb ha)
  · obtain ⟨a, b, c⟩ := s.good.own p d e
    obtain ⟨u, hu⟩ := c.some_of
    have q : cv p = none := by
      cases q : cv p with
      | none => rfl
      | some o => rw [n p o q] at hu; cases hu
    exact ⟨by rw [hplus_out q]; exact a, fun z => b (hb z), c.mono sG fun u h => sH _ _ h⟩
  · cases q : cv a with
    | some o => rw [hplus_in q]; rw [hH a o q] at e; exact e
    | none => rw [hplus_out q]; exact s.keep a u (by rw [hminus_out q]; exact e) (fun z => nb (hb2 z)) nO
  · have q : cv a = none := by
      cases q : cv a with
      | none => rfl
      | some o => rw [hs a o q] at eG; cases eG
    have := s.hid a u (by rw [hminus_out q]; exact e) (by rw [hminus_out q]; exact eG) nO
    exact ⟨by rw [hplus_out q]; exact this.1, this.2⟩
  · cases q : cv a with
    | some o => rw [hplus_in q]; exact Option.some_ne_none _
    | none => rw [hplus_out q]; exact s.still a (by rw [hminus_out q]; exact h)
end
/-! ### what is promised of a lambda's call -/
abbrev LM := Ow → QD → QX → Prop
/-- the lambda l, called at the place B -/
def ActV (P : Program) (w : World) (K : PySem.W.Frag) (mg : Str → Option Value) (base : Heap) (k : Nat) (B : Bo) (l : LamD) (m : LM) : Prop :=
  ∀ (f : Addr) (A : Around) (outer : List Env) (s : Shared) (H G : Hp) (O : Ow) (Q : VK) (E : XK), Room k A → Env0 P w K mg base A outer s H → Good K B O G H → Rp K G (.ref f) (.lam l) → m O (kv K B O G H Q) (kx K B O G H E) →
    codeAny (model P w) A (.call (.ref f) ⟨[], []⟩) (CR (L2.CX P w) outer P w H s Q E) s
/-- what cv knows of X's cells -/
structure CvX (X : Cx) (σ : L2.St) (cv : Cv) : Prop where
  cell : ∀ y c, X.env.cells.lookup y = some c → ∃ o v, cv c = some o ∧ o.data = .cell v
  val : ∀ (i : Nat) (y : Str) (v : V), X.N[i]? = some y → σ[i]? = some (some v) → (X.env.scope.names.lookup y = some .cell ∨ X.env.scope.names.lookup y = some .free) → ∃ c o u, X.env.cells.lookup y = some c ∧ cv c = some o ∧ o.data = .cell (some u) ∧ RelV v u
/-- the datum of a lambda of X -/
def lamOf (X : Cx) (params : Arguments) (body : Expr) (scope : Scope) : LamD := ⟨X.env.qual ++ "<lambda>", params, body, scope, cloFrom X.env.cells scope.names []⟩
theorem act_of {X : Cx} {σ : L2.St} {ρ : Slots} {cv : Cv} {B : Bo} {G0 : Hp} {params : Arguments} {body : Expr} {scope : Scope} {k : Nat} {m : DE} (ok : X.Ok) (len : σ.length = X.N.length) (L : LamW X.N X.env.scope scope) (C : CvX X σ cv) (hc : CvC cv) (rs : RpS X.K G0 σ ρ) (n0 : ∀ a o, cv a = some o → G0 a = none) (am : Sub B.amb G0)
    (hbody : ∀ (A : Around) (outer : List Env) (s : Shared) (H : Hp) (E : XK) (f c' : Addr), Room k (A.deeper (lamEnv X scope s.heap.objs.size f c')) → DPE (lamCx X A outer s H E scope f c') ⟨B, fun _ => E⟩ body m) :
    ActV X.prog X.w X.K X.mg X.base (k + 1) ⟨B.bx, hplus G0 cv⟩ (lamOf X params body scope) (fun O Q E => m ρ O Q E) := by
  intro f A outer s H G O Q E hr e0 g rl h
  have sb : Sub (hplus G0 cv) G := g.amb
  have hs : Has G cv := fun a o e => sb _ _ (hplus_in e)
  have hH : Has H cv := Has.sub g.sub hs
  have hg := has_get e0.hok hH
  have e1 := env_minus e0 hH
  have fr : ∀ a o, cv a = some o → a ∉ frs outer := fun a o e hm => by have := e0.frf a hm; rw [hH a o e] at this; cases this
  refine codeAny_mono ?_ fun r s' c => cr_plus hH e0.hok fr c
  have CA : CellsAt X σ (hminus H cv) s.heap := ⟨fun y c e => by
      obtain ⟨o, v, h1, h2⟩ := C.cell y c e
      exact ⟨⟨v, o, hg c o h1, h2⟩, hminus_in h1⟩, fun i y v e1 e2 e3 => by
      obtain ⟨c, o, u, h1, h2, h3, h4⟩ := C.val i y v e1 e2 e3
      exact ⟨c, u, h1, h4, o, hg c o h2, h3⟩⟩
  have lim : s.heap.NoLimit := e0.mod.nolimit.keeps fun b o e => (e0.bs b o e).1
  have mo : Mo m := (hbody A outer s H E f 0 (by
    have := hr.deeper (lamEnv X scope s.heap.objs.size f 0)
    exact this)).mo
  cases rl with
  | @lam _ c _ fd hf hcode hfd =>
    obtain ⟨dV, doc, pm, ctv, binds, efd, hl, hb⟩ := hfd
    have hb' : BindsTo s fd ⟨[], []⟩ binds := by
      rcases hb with hb | ⟨t, o, its, n, h1, h2, h3⟩
      · exact hb s
      · exact h3 s ((e0.hok t _ (g.sub _ _ h1)).1)
    subst efd
    have hf' := (e0.hok f _ (g.sub _ _ hf)).1
    have s0 : Sub G0 (hminus G cv) := fun a u e => by
      have q : cv a = none := by
        cases q : cv a with
        | none => rfl
        | some o => rw [n0 a o q] at e; cases e
      rw [hminus_out q]
      exact sb a u (by rw [hplus_out q]; exact e)
    refine lam_run (k := k) (tb := up X.K B (fun _ => fun cls d H' => (∀ a o, cv a = some o → H' a = none) → E cls d (hplus H' cv)) m) ok len L CA e1 hr lim hf' (keep_minus hH (g.sub _ _ hcode) (fun o z => by unfold CodeO at z; cases z)) hb' hl (fun hr2 => (hbody A outer s (hminus H cv) _ f c hr2).run) ⟨hminus G cv, O, ρ, good_minus (B := ⟨B.bx, hplus G0 cv⟩) (B' := B) rfl g hs hc (am.trans s0), rs.mono s0, mo _ _ _ _ _ _ (fun d O1 z v G' H' st rv hn => ?_) (fun x O1 z d fs G' H' st ed rf hn => ?_) h⟩
    · have st2 := step_plus (B := ⟨B.bx, hplus G0 cv⟩) (B' := B) rfl g hs st hn
      exact z v _ _ st2 (rv.mono (sub_plus fun a o e => st.good.freshG (hn a o e)))
    · have st2 := step_plus (B := ⟨B.bx, hplus G0 cv⟩) (B' := B) rfl g hs st hn
      have sp : Sub G' (hplus G' cv) := sub_plus fun a o e => st.good.freshG (hn a o e)
      exact z d fs _ _ st2 (sp _ _ ed) (rf.mono sp)
end EV
set_option Elab.async false
set_option linter.all false
set_option maxRecDepth 100000
set_option maxHeartbeats 4000000
namespace EV
open PySem PySem.Spec PyProof.Rows L2 LamX
/-! ### X's cells, tracked -/
open Classical in
noncomputable def cvOf (X : Cx) (h : Heap) : Cv := fun c => if ∃ y, X.env.cells.lookup y = some c then h.get? c else none
section
variable {X : Cx} {pins : List (Addr × Obj)} {σ : L2.St} {H : Hp} {s : Shared}
theorem cvOf_in {h : Heap} {y : Str} {c : Addr} (e : X.env.cells.lookup y = some c) : cvOf X h c = h.get? c := by
  unfold cvOf; rw [if_pos ⟨y, e⟩]
theorem cvOf_out {h : Heap} {c : Addr} {o : Obj} (e : cvOf X h c = some o) : ∃ y, X.env.cells.lookup y = some c ∧ h.get? c = some o := by
  unfold cvOf at e
  split at e
  · rename_i q
    obtain ⟨y, q⟩ := q
    exact ⟨y, q, e⟩
  · cases e
theorem cv_c (I : Inv X pins σ H s) : CvC (cvOf X s.heap) := fun a o e => by
  obtain ⟨y, h1, h2⟩ := cvOf_out e
  obtain ⟨v, o', h3, h4⟩ := I.cell y a h1
  rw [h2] at h3; cases h3
  exact ⟨v, h4⟩
theorem cv_x (I : Inv X pins σ H s) : CvX X σ (cvOf X s.heap) := by
  refine ⟨fun y c e => ?_, fun i y v e1 e2 e3 => ?_⟩
  · obtain ⟨v, o, h1, h2⟩ := I.cell y c e
    exact ⟨o, v, by rw [cvOf_in e]; exact h1, h2⟩
  · obtain ⟨m, hn, hl⟩ := I.loc
    obtain ⟨u, ru, q⟩ := hl i y v e1 e2 (.inr e3)
    rcases q with ⟨k, _⟩ | ⟨_, c, hc, o, h1, h2⟩
    · have k : X.env.scope.names.lookup y = some .local := k
      rcases e3 with e | e <;> rw [e] at k <;> cases k
    · exact ⟨c, o, u, hc, by rw [cvOf_in hc]; exact h1, h2, ru⟩
theorem cv_ok (I : Inv X pins σ H s) (hfn : ∀ y, X.fn y = true) : CvOk X.base X.stack H s.heap (cvOf X s.heap) := by
  have big : ∀ a o, cvOf X s.heap a = some o → X.s_0.heap.objs.size ≤ a := fun a o e => by
    obtain ⟨y, h1, _⟩ := cvOf_out e
    exact I.ok.cab y a (hfn y) h1
  refine ⟨fun a o e => ?_, fun a o e => ?_, fun a o e hm => ?_, fun a o e => ?_⟩
  · obtain ⟨y, h1, _⟩ := cvOf_out e
    exact I.freeC y a h1
  · exact (cvOf_out e).choose_spec.2
  · obtain ⟨y, h1, _⟩ := cvOf_out e
    rcases List.mem_cons.mp (I.stkSub a hm) with z | z
    · exact I.cne y a h1 z
    · obtain ⟨_, o', h2, _⟩ := I.ok.funs.mem z
      exact absurd (Heap.lt_size h2) (Nat.not_lt.mpr (big a o e))
  · cases q : X.base.get? a with
    | none => rfl
    | some u => exact absurd (Heap.lt_size q) (Nat.not_lt.mpr (Nat.le_trans I.ok.bsz (big a o e)))
end
/-- a step with cv's entries, seen without -/
theorem step_minus {K : PySem.W.Frag} {B B' : Bo} {O O' : Ow} {G H G' H' : Hp} {cv : Cv} (n : ∀ a o, cv a = some o → H a = none) (g : Good K B O G H) (hc : CvC cv) (eb : B.bx = B'.bx) (s : Step K B' O (hplus G cv) (hplus H cv) O' G' H') : Step K B O G H O' (hminus G' cv) (hminus H' cv) := by
  have hs : Has G' cv := fun a o e => s.grow _ _ (hplus_in e)
  have out : ∀ {a : Addr} {u : HO}, H a = some u → cv a = none := fun {a u} e => by
    cases q : cv a with
    | none => rfl
    | some o => rw [n a o q] at e; cases e
  have gr : Sub G (hminus G' cv) := fun a u e => by
    have q := out (g.sub _ _ e)
    rw [hminus_out q]; exact s.grow a u (by rw [hplus_out q]; exact e)
  refine ⟨gr, good_minus eb s.good hs hc (g.amb.trans gr), fun a u e nb nO => ?_, fun a u e eG nO => ?_, fun a h => ?_⟩
  · have q := out e
    rw [hminus_out q]; exact s.keep a u (by rw [hplus_out q]; exact e) (fun ⟨b', l', T', e', h⟩ => nb ⟨b', l', T', eb.trans e', h⟩) nO
  · have q := out e
    have := s.hid a u (by rw [hplus_out q]; exact e) (by rw [hplus_out q]; exact eG) nO
    exact ⟨by rw [hminus_out q]; exact this.1, this.2⟩
  · cases e : H a with
    | none => exact absurd e h
    | some u =>
      have q := out e
      rw [hminus_out q]; exact s.still a (by rw [hplus_out q, e]; exact Option.some_ne_none _)
/-! ### defs that take lambdas -/
def MoL (m : LM) : Prop := ∀ O Q Q' E E', (∀ d O, Q d O → Q' d O) → (∀ x O, E x O → E' x O) → m O Q E → m O Q' E'
def spL (K : PySem.W.Frag) (B : Bo) (sp : DSp) : Sp := fun vs H Q E => ∃ G O ds, Good K B O G H ∧ RpL K G vs ds ∧ spM sp ds O (kv K B O G H Q) (kx K B O G H E)
abbrev LR := LamD → LM → Prop
/-- a def that takes lambdas: S, what it promises over what the lambdas do -/
def FnL (P : Program) (w : World) (K : PySem.W.Frag) (mg : Str → Option Value) (base : Heap) (j k : Nat) (f : Addr) (fd : FuncData) (ps : List Str) (S : LR → DSp) : Prop :=
  ∀ (B : Bo) (R : LR), (∀ l m, R l m → ActV P w K mg base j B l m ∧ MoL m) → FnOk P w K mg base CX0 k f fd ps (spL K B (S R))
/-- lambdas of X and their readings -/
def LamsOf (X : Cx) (B : Bo) (j : Nat) (T : LamD → DE → Prop) : Prop := ∀ l m, T l m → ∃ params body scope, l = lamOf X params body scope ∧ LamW X.N X.env.scope scope ∧ Mo m ∧
  ∀ (A : Around) (outer : List Env) (s : Shared) (H : Hp) (E : XK) (f c' : Addr), Room j (A.deeper (lamEnv X scope s.heap.objs.size f c')) → DPE (lamCx X A outer s H E scope f c') ⟨B, fun _ => E⟩ body m
def atR (T : LamD → DE → Prop) (ρ : Slots) : LR := fun l lm => ∃ m, T l m ∧ lm = fun O Q E => m ρ O Q E
def dCallL (S : LR → DSp) (T : LamD → DE → Prop) (mA : DA) : DE := fun ρ O Q E => mA ρ O (fun ds O1 => spM (S (atR T ρ)) ds O1 Q E) E
section
variable {X : Cx} {L : Pl} {e : Expr} {es : List Expr} {mA : DA} {p pos : Pos}
theorem d_callL {j k : Nat} {f : Addr} {fd : FuncData} {ps : List Str} {S : LR → DSp} {T : LamD → DE → Prop} {x : Str} (Fn : FnL X.prog X.w X.K X.mg X.base (j + 1) k f fd ps S) (hT : LamsOf X L.B j T) (hfn : ∀ y, X.fn y = true) (hr : Room k X.A) (hg : Gl X x) (hm : X.mg x = some (.ref f)) (hk : PySem.W.keepIn X.K (.ref f) = true) (hb : Binds X.K fd ps [])
    (ha : DPA X L (e :: es) mA) (hdb : (x == ("__debug__" : Str)) = false) (he : starEach (e :: es) X.env = (false, eval e X.env) :: starEach es X.env) (hpl : (backTo pos (starEach es X.env)).any (·.1) = false) :
    DPE X L (.Call (.Name x p) (e :: es) [] pos) (dCallL S T mA) := by
  refine ⟨fun ρ O Q Q' E E' q hx z => ha.mo ρ _ _ _ _ _ (fun _ _ y => spM_mo q hx y) hx z, ⟨fun pins s σ H Q I ⟨G, O, ρ, g, rs, q⟩ => ?_⟩⟩
  refine wpAny_Call_Name_kw (ld_glob I hg hm ?_ hdb)
  refine PySem.W.callWith_K (h₀ := X.base) I.ok.mod.kin hk (thn (ha.run.run pos pins s σ H (fun vs H1 => ∃ G1 O1 ds, Step X.K L.B O G H O1 G1 H1 ∧ RpL X.K G1 vs ds ∧ spM (S (atR T ρ)) ds O1 (kv X.K L.B O G H Q) (kx X.K L.B O G H (L.W σ))) I ⟨G, O, ρ, g, rs, ha.mo _ _ _ _ _ _ (fun ds O1 z vs G1 H1 s1 r1 => ⟨G1, O1, ds, s1, r1, z⟩) (fun _ _ z => z) q⟩) fun us s1 ⟨vs, H1, I1, r, G1, O1, ds, st, r1, q1⟩ => ⟨I1.kIn, ?_⟩) he hpl
  -- the cells are tracked
  have cvo := cv_ok I1 hfn
  have hc := cv_c I1
  have n0 : ∀ a o, cvOf X s1.heap a = some o → G1 a = none := fun a o e => st.good.freshG (cvo.un a o e)
  have sp : Sub G1 (hplus G1 (cvOf X s1.heap)) := sub_plus n0
  have F := Fn ⟨L.B.bx, hplus G1 (cvOf X s1.heap)⟩ (atR T ρ) (fun l lm ⟨m, tm, e⟩ => by
    obtain ⟨params, body, scope, el, LW, mo, hbody⟩ := hT l m tm
    subst e el
    exact ⟨act_of I1.ok I1.len LW (cv_x I1) hc (rs.step st) n0 st.good.amb hbody, fun O Q Q' E E' h1 h2 z => mo _ _ _ _ _ _ h1 h2 z⟩)
  have g2 : Good X.K ⟨L.B.bx, hplus G1 (cvOf X s1.heap)⟩ O1 (hplus G1 (cvOf X s1.heap)) (hplus H1 (cvOf X s1.heap)) := by
    have nH := cvo.un
    have sH : Sub H1 (hplus H1 (cvOf X s1.heap)) := sub_plus nH
    refine ⟨fun a u e => ?_, fun b l T e => ?_, Sub.refl _, fun p d e => ?_⟩
    · cases q : cvOf X s1.heap a with
      | some o => rw [hplus_in q] at e ⊢; exact e
      | none => rw [hplus_out q] at e ⊢; exact st.good.sub a u e
    · refine (st.good.box b l T e).step sp (fun a ha => ?_) fun a o _ h => sH _ _ h
      have ha : Hid L.B a := ⟨b, l, T, e, ha⟩
      obtain ⟨u, hu, _⟩ := st.good.hidH ha
      have q : cvOf X s1.heap a = none := by
        cases q : cvOf X s1.heap a with
        | none => rfl
        | some o => rw [nH a o q] at hu; cases hu
      rw [hplus_out q]; exact st.good.hidG ha
    · obtain ⟨a, b, c⟩ := st.good.own p d e
      obtain ⟨u, hu⟩ := c.some_of
      have q : cvOf X s1.heap p = none := by
        cases q : cvOf X s1.heap p with
        | none => rfl
        | some o => rw [nH p o q] at hu; cases hu
      exact ⟨by rw [hplus_out q]; exact a, b, c.mono sp fun u h => sH _ _ h⟩
  have hl : us.length = ps.length := by
    rw [← r.length]
    obtain ⟨Q0, E0, h0, h1, h2⟩ := q1
    exact F.len vs (hplus H1 (cvOf X s1.heap)) (fun _ _ => True) (fun _ _ _ => True) ⟨_, O1, ds, g2, r1.mono sp, Q0, E0, h0, fun _ _ _ _ _ _ _ _ => trivial, fun _ _ _ _ _ _ _ _ _ _ => trivial⟩
  have bd := hb s1 us I1.kIn (by rw [List.append_nil]; exact hl)
  rw [List.append_nil] at bd
  refine wpAny_call (codeAny_mono (F.run X.A X.stack s1 (hplus H1 (cvOf X s1.heap)) ⟨us, []⟩ us vs (fun v H' => Q v (hminus H' (cvOf X s1.heap))) (fun cls d H' => L.W σ cls d (hminus H' (cvOf X s1.heap))) hr (env_plus I1.env0 cvo) bd r
    ⟨_, O1, ds, g2, r1.mono sp, spM_mo (fun d O' z v G' H' t rv => ?_) (fun x O' z d fs G' H' t ed rf => ?_) q1⟩) fun r s' hq => ?_)
  · have hs : Has G' (cvOf X s1.heap) := fun a o e => t.grow _ _ (hplus_in e)
    exact z v _ _ (st.trans (step_minus (B := L.B) (B' := ⟨L.B.bx, hplus G1 (cvOf X s1.heap)⟩) cvo.un st.good hc rfl t)) (rv.minus hs hc)
  · have hs : Has G' (cvOf X s1.heap) := fun a o e => t.grow _ _ (hplus_in e)
    exact z d fs _ _ (st.trans (step_minus (B := L.B) (B' := ⟨L.B.bx, hplus G1 (cvOf X s1.heap)⟩) cvo.un st.good hc rfl t)) (keep_minus hs ed (fun o z => by cases z)) (rf.minus hs hc)
  · cases r with
    | error e => exact (show False from hq).elim
    | ok fl =>
      cases fl with
      | ret u =>
        obtain ⟨v, H', os, ag, un, hk, rv, q⟩ := hq
        have hs : Has H' (cvOf X s1.heap) := fun a o e => un.frzs a o _ (hplus_in e)
        exact I1.after ⟨v, hminus H' (cvOf X s1.heap), os, ag, un_minus un cvo.un cvo.get cvo.fr hk, hok_minus hk hs, rv, q⟩
      | next => exact False.elim hq
      | brk => exact False.elim hq
      | cont => exact False.elim hq
end
end EV
set_option Elab.async false
set_option linter.all false
set_option maxRecDepth 100000
set_option maxHeartbeats 4000000
namespace EV
open PySem PySem.Spec PyProof.Rows L2 LamX
section
variable {K : PySem.W.Frag} {B : Bo} {O : Ow} {G H : Hp}
/-- a lambda is made: by value -/
theorem lam_step {b lx P c' f : Addr} {T : List (Addr × Str)} {q : Str} {H1 : Hp} {fo : Obj} (hB : B.bx = some (b, lx, T)) (hm : (P, q) ∈ T) (hu : ∀ p ∈ T, p.1 = P → p.2 = q) (g : Good K B O G H) {pos : Pos} (mt : MadeT H H1 P c' q pos) (tb : Tabs T H1) (nf : H1 f = none) :
    ∃ G', Step K B O G H O G' (upd H1 f (.frz fo (.own 0))) ∧ G' f = some (.frz fo (.own 0)) ∧ G' c' = some (CodeO c' q) := by
  rcases mt with ⟨rfl, hc, ps0, hP0, ha0⟩ | ⟨ps, more, hP, nc, rfl, ha⟩
  · have hit : G c' = some (CodeO c' q) := by
      obtain ⟨ps, a1, a2, a3⟩ := (g.box b lx T hB).tab (P, q) hm
      have a1 : H1 P = some (.tbl ps) := a1
      rw [hP0] at a1; cases a1
      obtain ⟨c, e1, e2⟩ := a3 pos _ ha0
      cases e1
      exact e2
    have s := Step.new (o := .frz fo (.own 0)) g nf
    exact ⟨_, s, upd_same, s.grow _ _ hit⟩
  · have hidP : Hid B P := ⟨b, lx, T, hB, .inr ⟨(P, q), hm, rfl⟩⟩
    have nPc : P ≠ c' := fun z => by rw [z, nc] at hP; cases hP
    have st : Step K B O G H O (upd G c' (CodeO c' q)) (upd (upd H P (.tbl (ps ++ more))) c' (CodeO c' q)) := by
      have k : ∀ {a : Addr} {u : HO}, H a = some u → a ≠ P → upd (upd H P (.tbl (ps ++ more))) c' (CodeO c' q) a = some u := fun {a u} e n => by
        rw [upd_ne (fun z => by rw [z, nc] at e; cases e), upd_ne n]; exact e
      have nG : G c' = none := g.freshG nc
      have sG : Sub G (upd G c' (CodeO c' q)) := fun a u e => by rw [upd_ne (fun z => by rw [z, nG] at e; cases e)]; exact e
      have gP : G P = none := g.hidG hidP
      refine ⟨sG, ⟨fun a u e => ?_, fun b' l' T' e => ?_, g.amb.trans sG, fun p d e => ?_⟩, fun a u e n _ => k e (fun z => n (by rw [z]; exact hidP)), fun a u e z n => ⟨by rw [upd_ne (fun z => by rw [z, nc] at e; cases e)]; exact z, n⟩, fun a h => upd_still a (upd_still a h)⟩
      · by_cases z : a = c'
        · subst z; rw [upd_same] at e ⊢; exact e
        · rw [upd_ne z] at e
          exact k (g.sub a u e) (fun z => by rw [z, gP] at e; cases e)
      · rw [hB] at e
        cases e
        obtain ⟨h1, ⟨ns, i, r, m, c, h2, h3, h4⟩, h5, h6⟩ := g.box b lx T hB
        refine ⟨by rw [upd_ne (fun z => by rw [z, nc] at h2; cases h2)]; exact h1, ⟨ns, i, r, m, c, k h2 (fun z => by rw [z, hP] at h2; cases h2), sG.sqL h3, h4⟩, fun p hp => ?_, fun p hp => ?_⟩
        · obtain ⟨ps', a1, a2, a3⟩ := tb p hp
          refine ⟨ps', a1, a2, fun pos cv hcv => ?_⟩
          obtain ⟨ps2, b1, b2, b3⟩ := h5 p hp
          by_cases hp1 : p.1 = P
          · rw [hp1, upd_ne nPc, upd_same] at a1
            cases a1
            rw [hp1, hP] at b1
            cases b1
            rcases ha pos cv hcv with z | rfl
            · obtain ⟨c0, e0, z⟩ := b3 pos cv z
              exact ⟨c0, e0, sG _ _ z⟩
            · exact ⟨c', rfl, by rw [hu p hp hp1]; exact upd_same⟩
          · rw [k b1 hp1] at a1
            cases a1
            obtain ⟨c0, e0, z⟩ := b3 pos cv hcv
            exact ⟨c0, e0, sG _ _ z⟩
        · rw [upd_ne (fun z => by obtain ⟨ps', a1, _⟩ := h5 p hp; rw [z, nc] at a1; cases a1)]; exact h6 p hp
      · obtain ⟨a1, b1, c1⟩ := g.own p d e
        obtain ⟨u, hu'⟩ := c1.some_of
        exact ⟨by rw [upd_ne (fun z => by rw [z, nc] at hu'; cases hu')]; exact a1, b1, c1.mono sG fun u h => k h (fun z => b1 (by rw [z]; exact hidP))⟩
    have s2 := Step.new (o := .frz fo (.own 0)) st.good nf
    exact ⟨_, st.trans s2, upd_same, s2.grow _ _ upd_same⟩
end
section
variable {X : Cx} {L : Pl} {params : Arguments} {body : Expr} {scope : Scope} {pos : Pos}
/-- where lambdas are made: the maker's code, its table -/
structure LamAt (X : Cx) (L : Pl) : Prop where
  ex : ∃ b lx T c P, L.B.bx = some (b, lx, T) ∧ TabB X.base X.mg c P ∧ X.env.code = .ref c ∧ (P, X.env.qual ++ "<lambda>") ∈ T ∧ ∀ p ∈ T, p.1 = P → p.2 = X.env.qual ++ "<lambda>"
theorem d_lam (TA : LamAt X L) (LW : LamW X.N X.env.scope scope) (hdef : defaultsOf params X.env = ([], [])) (hbind : ∀ (q : Str) (cl : List (Str × Addr)) (doc pm cv ctv : Value), bindArgs (PySem.W.kdv_fn "<lambda>" q params (.expr body) scope cl .none doc pm cv ctv) ⟨[], []⟩ = pure []) :
    DPE X L (.Lambda params body scope pos) (dC (.lam (lamOf X params body scope))) := by
  obtain ⟨b, lx, T, c, P, hB, TB, hcode, hm, hu⟩ := TA.ex
  refine ⟨mo_c _, ⟨fun pins s σ H Q I ⟨G, O, ρ, g, rs, q⟩ => ?_⟩⟩
  refine PySem.W.kla_eval hdef ?_
  rw [makeFunction_eq]
  simp only [List.zip_nil_right, List.filterMap_nil, List.isEmpty_nil, if_true, pure_bind]
  refine lam_tail I TB hcode hm hu ((g.box b lx T hB).tab.tabs g.sub) (LW.has I.ok) fun f c' doc pm ctv H1 s' mt tb nf I1 => ?_
  obtain ⟨G', st, g1, g2⟩ := lam_step hB hm hu g mt tb nf
  exact ⟨.ref f, _, I1, rfl, q _ _ _ st (.lam g1 g2 ⟨.none, doc, pm, ctv, [], rfl, fun y hy => by simp at hy, .inl fun s => .of_eq (hbind _ _ _ _ _ _)⟩)⟩
/-- one parameter with a written int: lambda u=i: body -/
theorem d_lam1 {u : Str} {i : Int} {j0 : Nat} {p0 : Pos} (TA : LamAt X L) (LW : LamW X.N X.env.scope scope) (hd : params.defaults = [.Constant (.int i) j0 p0]) (hk : params.kw_defaults = []) (hloc : scope.names.lookup u = some .local)
    (hbind : ∀ (q : Str) (cl : List (Str × Addr)) (dV doc pm cv ctv : Value), ∃ k : Option (Array Value) → Sem (List (Str × Value)), bindArgs (PySem.W.kdv_fn "<lambda>" q params (.expr body) scope cl dV doc pm cv ctv) ⟨[], []⟩ = seqItems? dV >>= k ∧ ∀ v, k (some [v].toArray) = pure [(u, v)]) :
    DPE X L (.Lambda params body scope pos) (dC (.lam (lamOf X params body scope))) := by
  obtain ⟨b, lx, T, c, P, hB, TB, hcode, hm, hu⟩ := TA.ex
  refine ⟨mo_c _, ⟨fun pins s σ H Q I ⟨G, O, ρ, g, rs, q⟩ => ?_⟩⟩
  refine PySem.W.kdv_lam (by rw [hd]; rfl) hk ?_
  rw [hd]
  refine PySem.W.kdv_all1 (thn (pe_int.run pins s σ H (fun v H' => H' = H) I rfl) fun v s1 ⟨x, H', I1, rv, e⟩ => PySem.W.kdv_all0 ?_)
  subst e
  rw [makeFunction_eq]
  simp only [List.zip_nil_right, List.filterMap_nil, List.isEmpty_nil, if_true, pure_bind, List.isEmpty_cons, Bool.false_eq_true, if_false]
  refine wpAny_bind (wpAny_newTextTuple ?_)
  have I2 := lay_frz (t' := s1.toks) (o := PySem.W.kdv_tup [v]) I1 (h' := s1.heap.push (PySem.W.kdv_tup [v])) (fun b u e => Heap.get?_push_of_some _ e) (Nat.le_refl _) (Heap.get?_push_size _ rfl)
  have s0 := Step.new (o := .frz (PySem.W.kdv_tup [v]) (.own 0)) g (I1.hok.fresh (Nat.le_refl _))
  refine lam_tail I2 TB hcode hm hu ((s0.good.box b lx T hB).tab.tabs s0.good.sub) (LW.has I.ok) fun f c' doc pm ctv H1 s' mt tb nf I3 => ?_
  obtain ⟨G', st, g1, g2⟩ := lam_step hB hm hu s0.good mt tb nf
  obtain ⟨k, k1, k2⟩ := hbind (X.env.qual ++ "<lambda>") (cloFrom X.env.cells scope.names []) (.ref s1.heap.objs.size) doc pm (.ref c') ctv
  refine ⟨.ref f, _, I3, rfl, q _ _ _ (s0.trans st) (.lam g1 g2 ⟨_, doc, pm, ctv, [(u, v)], rfl, fun y hy => ?_, .inr ⟨_, _, _, _, st.grow _ _ upd_same, rfl, fun s hs => BindsTo.of_defaults rfl hs rfl k1 (k2 v)⟩⟩)⟩
  simp only [List.mem_cons, List.not_mem_nil, or_false] at hy
  subst hy
  exact hloc
end
end EV
set_option Elab.async false
set_option linter.all false
set_option maxRecDepth 100000
set_option maxHeartbeats 4000000
/-! try: body / except (x1, x2, x3) as n: suite, where the clause takes whatever the body raises -/
namespace L2
open PySem PySem.Spec PyProof.Rows
theorem flying_keeps {B : Heap} {l : List Env} {a : Addr} {Z : Obj → Prop} {h h' : Heap} (f : HandSPX.FlyingZ B l a Z h) (k : ∀ b o, h.get? b = some o → h'.get? b = some o) : HandSPX.FlyingZ B l a Z h' := by
  obtain ⟨f1, f2, f3, oe, vs, T, oT, ts, h1, h2, h3, h4, h5, h6, h7, h8, h9⟩ := f
  exact ⟨fun b o e => k b o (f1 b o e), f2, f3.of_keeps fun b o e _ => ⟨o, k b o e, rfl⟩, oe, vs, T, oT, ts, k _ _ h1, h2, h3, h4, h5, h6, k _ _ h7, h8, h9⟩
/-- what the clause wishes -/
def wAs3 (K : PySem.W.Frag) (c1 c2 c3 : Value) (i : Nat) (ts : Addr → Value → Option Addr → TS) (D : Ends) : WX := fun cls d σ H =>
  PySem.W.exmAny K cls [c1, c2, c3] = some true ∧ ∀ a, H a = none → ts a cls d { nx := fun σ' H' => D.nx (σ'.set i none) H', rt := D.rt, bk := fun σ' H' => D.bk (σ'.set i none) H', ct := fun σ' H' => D.ct (σ'.set i none) H' } (σ.set i (some (.ref a))) H
section
variable {X : Cx} {x1 x2 x3 n : Str} {c1 c2 c3 : Value} {i : Nat} {body suite : List Stmt} {b₀ : Stmt} {p1 p2 p3 tpos pos pos' : Pos} {kk : Nat} {tb : WX → TS} {ts : Addr → Value → Option Addr → TS}
theorem ps_try_as3 (hs : X.stack = X.env :: X.outer) (hf : X.env.frame = some X.env.locals) (hN : X.N.Nodup) (hi : X.N[i]? = some n) (hln : X.env.kindOf n = some .local) (h1 : Gl X x1 ∧ X.mg x1 = some c1 ∧ (x1 == ("__debug__" : Str)) = false) (h2 : Gl X x2 ∧ X.mg x2 = some c2 ∧ (x2 == ("__debug__" : Str)) = false) (h3 : Gl X x3 ∧ X.mg x3 = some c3 ∧ (x3 == ("__debug__" : Str)) = false)
    (hb : ∀ (W : WX) (pn : List (Addr × Obj)) (xe : Value → Shared → Prop), Takes (X.tr pn xe) W → PassesOwn (model X.prog X.w) X.A X.env xe → PSs (X.tr pn xe) body (tb W))
    (hsu : ∀ (a : Addr) (oe : Obj) (cls : Value) (d : Option Addr) (pn : List (Addr × Obj)), Zc cls d oe → (∃ vs, oe.data = .fields vs) → X.base.get? a = none → PSs (X.suite a ((a, oe) :: pn)) (b₀ :: suite) (ts a cls d)) :
    PS X (.Try body [.ExceptHandler (some (.Tuple [.Name x1 p1, .Name x2 p2, .Name x3 p3] kk tpos)) (some n) (b₀ :: suite) pos'] [] [] pos) (fun D σ H => tb (wAs3 X.K c1 c2 c3 i ts D) D σ H) := by
  refine ⟨fun pins s σ H D I h => ?_⟩
  have ok := I.ok
  have hfr : X.A.frames = some (X.env :: X.outer) := by rw [ok.frames, hs]
  have hloc : Loc X.env.scope n := .inl hln
  refine wpAny_Try_except ?_
  refine wpAny_mono ((hb (wAs3 X.K c1 c2 c3 i ts D) (X.pn ++ pins) (fun e s₁ => wpAny (model X.prog X.w) X.A (noteFrame e X.env) (fun _ s₂ => wpAny (model X.prog X.w) X.A (setFlight e none) (fun _ s₃ =>
    wpAny (model X.prog X.w) X.A (handleBy e X.env [.ExceptHandler (some (.Tuple [.Name x1 p1, .Name x2 p2, .Name x3 p3] kk tpos)) (some n) (b₀ :: suite) pos']) (SP X pins D) X.xe s₃) X.xe s₂) X.xe s₁) (fun u s' xx => ?_) PassesOwn.looking).run [] s σ H D (I.toTry _) h) (fun f s1 hsp => ?_) (fun e s1 he => he)
  · -- the catch
    obtain ⟨a, B, sI, pins', σ', H', cls, d, rfl, J', nb, up, sky, na, os, ag, hb1, hyes⟩ := xx
    have J : Inv X pins σ' H' sI := J'.ofTry ok
    have sky' : Sky B (X.env :: X.outer) a (Zc cls d) X.env.locals s'.heap := by rw [← hs]; exact sky
    show wpAny (model X.prog X.w) X.A (noteFrame (.ref a) X.env) _ _ _
    refine Sky.land Zc.steady hfr hf sky' fun h3' fl3 up3 => ?_
    have J3 : Inv X pins σ' H' { s' with heap := h3' } := J.landed nb fl3.1 (up.trans up3) os ag
    obtain ⟨oe3, vs3, he3, hz3, hd3⟩ := fl3.there
    have notFr : ∀ {h : Heap} {o : Obj} {vs : Array Value}, h.FunFrames B (X.env :: X.outer) → h.get? a = some o → o.data = .fields vs → a ∉ frs (X.env :: X.outer) := fun {h o vs} ff e dd hm => by
      obtain ⟨_, o', e', hnf⟩ := ff.mem hm
      rw [e] at e'; cases e'
      exact hnf _ dd
    have nfr := notFr fl3.2.2.1 he3 hd3
    have nL : a ≠ X.env.locals := fun z => nfr (List.mem_filterMap.mpr ⟨X.env, List.mem_cons_self, by rw [hf, z]⟩)
    have nF : a ∉ X.fs := fun hm => by
      obtain ⟨e, he, q⟩ := List.mem_filterMap.mp hm
      exact nfr (List.mem_filterMap.mpr ⟨e, List.mem_cons_of_mem _ he, q⟩)
    have S3 := J3.suite he3 hd3 na nL nF
    have nbase : X.base.get? a = none := by
      cases q : X.base.get? a with
      | none => rfl
      | some o =>
        have h1 := nb a o (J.bk a o q) (by rw [hs]; exact nfr)
        rw [fl3.2.1] at h1; cases h1
    refine wpAny_handleBy_cons (codeAny_handlers_test ?_) (by intro q; cases q)
    have LT : PySem.W.Looks (model X.prog X.w) h3' (typeOf (.ref a)) cls := fun A Q E s k q => wpAny_typeOf_ref (k _ _ he3) (by rw [hz3.1]; exact q)
    have ld : ∀ {x : Str} {c : Value} {np : Pos} {Q : Value → Shared → Prop} {E : Value → Shared → Prop}, (Gl X x ∧ X.mg x = some c ∧ (x == ("__debug__" : Str)) = false) → Q c { s' with heap := h3' } → wpAny (model X.prog X.w) (X.A.mark (some (.ref a))) (eval (.Name x np) X.env) Q E { s' with heap := h3' } := fun {x c np Q E} hx q =>
      ld_glob (X := X.suite a ((a, oe3) :: (X.pn ++ pins))) S3 hx.1 hx.2.1 q hx.2.2
    refine wpAny_Tuple ?_
    refine wpAny_items_cons (ld h1 ?_)
    refine wpAny_items_cons (ld h2 ?_)
    refine wpAny_items_cons (ld h3 ?_)
    refine wpAny_items_nil ⟨by size_fits, ?_⟩
    have kp : ∀ q o, h3'.get? q = some o → (h3'.push { cls := .type "tuple", data := .seq [c1, c2, c3].toArray }).get? q = some o := fun _ _ z => Heap.get?_push_of_some _ z
    refine (PySem.W.exm_tup3 (J3.kIn.keeps kp) (LT.keeps kp) (Heap.get?_push_size h3' rfl) hb1).here ?_
    have fl5 := flying_keeps fl3 kp
    have up5 : h3'.UpToSlots (h3'.push { cls := .type "tuple", data := .seq [c1, c2, c3].toArray }) := fun b o e _ => ⟨o.slots, kp b o e⟩
    refine codeAny_handlers_suite_as ?_
    refine HandSPX.lands_againZ fl5 fun h4 fl4 up4 => ?_
    have J4 : Inv X pins σ' H' { s' with heap := h4 } := J.landed nb fl4.1 (((up.trans up3).trans up5).trans up4) os ag
    obtain ⟨oe4, vs4, he4, hz4, hd4⟩ := fl4.there
    have S4 := J4.suite he4 hd4 na nL nF
    refine store_ok (X := X.suite a ((a, oe4) :: (X.pn ++ pins))) (v := .ref a) S4 hN hi hloc rfl (fun s5 S5 => ?_) (.inr hln)
    refine wpAny_mono ((hsu a oe4 cls d (X.pn ++ pins) hz4 ⟨_, hd4⟩ nbase).run [] s5 _ H' _ S5 (hyes a na)) (fun f s6 hsp => ?_) (fun _ _ z => False.elim z)
    have end_ : ∀ {σ6 : St} {H6 : Hp} {Q : Shared → Prop}, Inv (X.suite a ((a, oe4) :: (X.pn ++ pins))) [] σ6 H6 s6 → (∀ s7, Inv X pins (σ6.set i none) H6 s7 → Q s7) →
        wpAny (model X.prog X.w) X.A (do bindName X.env n .none; unbindBehindTheSuite X.env n pos') (fun _ s7 => Q s7) X.xe s6 := fun {σ6 H6 Q} S6 hq => gone_ok (S6.unsuite ok) hN hi hln hq
    cases f with
    | next =>
      obtain ⟨σ6, H6, S6, q6⟩ := hsp
      exact end_ S6 fun s7 J7 => ⟨_, _, J7, q6⟩
    | brk =>
      obtain ⟨σ6, H6, S6, q6⟩ := hsp
      exact end_ S6 fun s7 J7 => ⟨_, _, J7, q6⟩
    | cont =>
      obtain ⟨σ6, H6, S6, q6⟩ := hsp
      exact end_ S6 fun s7 J7 => ⟨_, _, J7, q6⟩
    | ret u =>
      obtain ⟨v6, σ6, H6, S6, r6, q6⟩ := hsp
      exact end_ S6 fun s7 J7 => ⟨_, _, _, J7, r6, q6⟩
  · cases f with
    | next =>
      obtain ⟨σ', H', J', q⟩ := hsp
      exact wpAny_execs_nil ⟨σ', H', J'.ofTry ok, q⟩
    | brk =>
      obtain ⟨σ', H', J', q⟩ := hsp
      exact ⟨σ', H', J'.ofTry ok, q⟩
    | cont =>
      obtain ⟨σ', H', J', q⟩ := hsp
      exact ⟨σ', H', J'.ofTry ok, q⟩
    | ret u =>
      obtain ⟨v, σ', H', J', r, q⟩ := hsp
      exact ⟨v, σ', H', J'.ofTry ok, r, q⟩
end
end L2
set_option Elab.async false
set_option linter.all false
set_option maxRecDepth 100000
set_option maxHeartbeats 4000000
/-! defs called in an except suite, by value -/
namespace L2
open PySem PySem.Spec PyProof.Rows
abbrev RoomW := L2H.RoomH
def cxQ (P : Program) (w : World) (K : PySem.W.Frag) (mg : Str → Option Value) (base : Heap) (N : List Str) (qual : Str) (scope : Scope) (f : Addr) (cd : Value) (A : Around) (outer : List Env) (s : Shared) (H : Hp) (E : XK) : Cx :=
  { cxOf CX0 P w K mg base N qual scope f cd A outer s H E with calm := false }
theorem inv_startQ {P : Program} {w : World} {K : PySem.W.Frag} {mg : Str → Option Value} {base : Heap} {N ps : List Str} {qual : Str} {scope : Scope} {f : Addr} {cd : Value} {A : Around} {outer : List Env} {s s1 : Shared} {H : Hp} {E : XK} {us : List Value} {vs : List V}
    (S : FnScope N ps scope) (e0 : Env0 P w K mg base A outer s H) (hl : vs.length = ps.length) (r : Vals vs us)
    (x : InCallC s s.heap.objs.size (bindL (envOfC qual scope s.heap.objs.size f cd).kindOf (ps.zip us) fun _ => none) (cellsFrom (s.heap.objs.size + 1) scope.names []) (bindC (envOfC qual scope s.heap.objs.size f cd).kindOf (ps.zip us) fun _ => none) s1) :
    Inv (cxQ P w K mg base N qual scope f cd A outer s H E) [] (L2.start N vs) H s1 := by
  have hpl : ps.length ≤ N.length := by have := congrArg List.length S.pre; rw [List.length_take] at this; omega
  obtain ⟨h1, tk, rfl, hk⟩ := x.done
  have noA : ∀ b : Addr, b ∉ (cxQ P w K mg base N qual scope f cd A outer s H E).ex := fun b z => absurd (show b ∈ ([] : List Addr) from z) (by simp)
  refine ⟨⟨e0.mod, S.kind, rfl, rfl, Nat.le_refl _, fun y z c h1 h2 => ?_, fun y hy => ?_, fun y c _ h => ?_, (fun z => Bool.noConfusion (show false = true from z)), Around.frames_deeper e0.frames, .inr ⟨rfl, rfl⟩, fun b z => absurd z (noA b), e0.bs, e0.bsz, fun b _ _ => noA b, fun b z => absurd z (noA b), e0.funs, e0.frf⟩,
    rfl, e0.bare, Un.kept hk, ⟨_, x.toInCall.ns, fun i y v h1 h2 h3 => ?_⟩, fun y c h => ⟨_, x.cell y c h⟩, e0.hok.fresh (Nat.le_refl _), fun y c h => ?_, fun q hq => absurd (show q ∈ ([] : List (Addr × Obj)) ++ [] from hq) (by simp), e0.hok.kept hk, ?_⟩
  · exact name_of_addr x.apart (PySem.mem_of_lookup h1) (PySem.mem_of_lookup h2)
  · have hy : scope.names.lookup y = some .cell ∨ scope.names.lookup y = some .free := hy
    rcases hy with hy | hy
    · exact cell_has hy
    · exact absurd rfl (S.nofree _ (PySem.mem_of_lookup hy))
  · exact Nat.le_of_lt (x.above y c (PySem.mem_of_lookup h))
  · have hi : i < vs.length := by
      unfold L2.start at h2
      by_cases hi : i < vs.length
      · exact hi
      · rw [List.getElem?_append_right (by simpa using hi)] at h2
        rw [List.getElem?_replicate] at h2
        split at h2 <;> cases h2
    have ha : vs[i]? = some v := by
      unfold L2.start at h2
      rw [List.getElem?_append_left (by simpa using hi), List.getElem?_map] at h2
      cases e : vs[i]? with
      | none => rw [e] at h2; cases h2
      | some a => rw [e] at h2; cases h2; rfl
    obtain ⟨u, hu, rv⟩ := r.get ha
    have hp : ps[i]? = some y := by
      rw [← S.pre, List.getElem?_take_of_lt (by omega)]; exact h1
    have ndP : ps.Nodup := by rw [← S.pre]; exact S.nd.sublist (List.take_sublist _ _)
    refine ⟨u, rv, ?_⟩
    rcases S.par y (List.mem_of_getElem? hp) with k | k
    · exact .inl ⟨k, bindL_get ndP hp hu k⟩
    · obtain ⟨c, e⟩ := cell_has (n := s.heap.objs.size + 1) k
      refine .inr ⟨.inl k, c, e, ?_⟩
      have q := x.cell y c e
      rw [bindC_get ndP hp hu (by show scope.names.lookup y ≠ _; rw [k]; decide)] at q
      exact q
  · exact e0.hok.fresh (Nat.le_of_lt (x.above y c (PySem.mem_of_lookup h)))
  · unfold L2.start
    show _ = N.length
    rw [List.length_append, List.length_map, List.length_replicate]
    omega
structure FnQ (P : Program) (w : World) (K : PySem.W.Frag) (mg : Str → Option Value) (base : Heap) (k : Nat) (f : Addr) (fd : FuncData) (ps : List Str) (sp : Sp) : Prop where
  len : ∀ vs H Q E, sp vs H Q E → vs.length = ps.length
  run : ∀ (A : Around) (outer : List Env) (s : Shared) (H : Hp) (args : Args) (us : List Value) (vs : List V) (Q : VK) (E : XK), RoomW k A → Env0 P w K mg base A outer s H → BindsTo s fd args (ps.zip us) → Vals vs us → sp vs H Q E →
    codeAny (model P w) A (.call (.ref f) args) (CR CX0 outer P w H s Q E) s
section
variable {P : Program} {w : World} {K : PySem.W.Frag} {mg : Str → Option Value} {base : Heap}
theorem Fun.okQ {x qual : Str} {st : Stmt} {f : Addr} {fd : FuncData} {N ps : List Str} {k : Nat} {sp : Sp} (Fn : Fun K x qual st f fd) (S : FnScope N ps (defScope st)) (len : ∀ vs H Q E, sp vs H Q E → vs.length = ps.length)
    (hbody : ∀ (cdv : Value) (A : Around) (outer : List Env) (s : Shared) (H : Hp) (vs : List V) (Q : VK) (E : XK), RoomW k (A.deeper (envOfC qual (defScope st) s.heap.objs.size f cdv)) → sp vs H Q E →
      ∃ t, PSs (cxQ P w K mg base N qual (defScope st) f cdv A outer s H E).nox (defBody st) t ∧ t { nx := fun _ H' => Q .non H', rt := Q } (start N vs) H) : FnQ P w K mg base (k + 1) f fd ps sp := by
  obtain ⟨oc, od, kV, doc, pm, an, cdv, ct, osl, rfl, lk, hcd⟩ := Fn.ex
  refine ⟨len, fun A outer s H args us vs Q E hr e0 hb r hsp => ?_⟩
  have hl := len _ _ _ _ hsp
  have KX : K.In s.heap := e0.mod.kin.keeps fun b o e => (e0.bs b o e).1
  have lim : s.heap.NoLimit := e0.mod.nolimit.keeps fun b o e => (e0.bs b o e).1
  have hkind : ∀ y ∈ ps.zip us, (defScope st).names.lookup y.1 = some .local ∨ ((defScope st).names.lookup y.1 = some .cell ∧ ((cellsFrom (s.heap.objs.size + 1) (defScope st).names []).lookup y.1).isSome = true) := fun ⟨n, v⟩ hy => by
    rcases S.par n (List.of_mem_zip hy).1 with q | q
    · exact .inl q
    · exact .inr ⟨q, PySem.W.cellsFrom_some _ _ _ (.inl q)⟩
  refine codeAny_call_function hr.depth (KX _ _ lk) rfl S.co S.gen rfl (PySem.W.codeRec_of KX hcd) (hb _ _ _ _ ?_)
  refine wpAny_newFunctionEnv_cells S.kind hkind fun env he s1 x => ?_
  subst he
  refine ⟨lim.keeps x.toInCall.keep, codeAny_func ?_⟩
  obtain ⟨t, ht, hq⟩ := hbody cdv A outer s H vs Q E (hr.deeper _) hsp
  have I : Inv (cxQ P w K mg base N qual (defScope st) f cdv A outer s H E) [] (L2.start N vs) H s1 := inv_startQ S e0 hl r x
  refine wpAny_mono (ht.nox.run [] s1 (L2.start N vs) H _ I hq) (fun fl s' hs => ?_) fun e s' hs => hs
  have fin : ∀ {σ' : St} {H' : Hp} {v : V} {u : Value}, Inv (cxQ P w K mg base N qual (defScope st) f cdv A outer s H E) [] σ' H' s' → RelV v u → Q v H' → CE outer P w H s Q u s' :=
    fun {σ' H' v u} J rv q => ⟨v, H', J.os, J.bare, J.base, J.hok, rv, q⟩
  cases fl with
  | ret u =>
    obtain ⟨v, σ', H', J, rv, q⟩ := hs
    exact fin J rv q
  | next =>
    obtain ⟨σ', H', J, q⟩ := hs
    exact fin (v := V.non) (u := Value.none) J rfl q
  | brk =>
    obtain ⟨_, _, _, q⟩ := hs
    exact False.elim q
  | cont =>
    obtain ⟨_, _, _, q⟩ := hs
    exact False.elim q
end
end L2
namespace EV
open PySem PySem.Spec PyProof.Rows L2 LamX
section
variable {P : Program} {w : World} {K : PySem.W.Frag} {mg : Str → Option Value} {base : Heap}
/-- a def that raises nothing, called where an exception is handled -/
theorem fn_warm {x qual : Str} {st : Stmt} {f : Addr} {fd : FuncData} {N ps : List Str} {k : Nat} {sp : DSp} {ms : DS} (Fn : Fun K x qual st f fd) (S : FnScope N ps (defScope st)) (len : ∀ ds O Q E, sp ds O Q E → ds.length = ps.length)
    (hb : ∀ (cdv : Value) (A : Around) (outer : List Env) (s : Shared) (H : Hp) (E : XK), RoomW k (A.deeper (envOfC qual (defScope st) s.heap.objs.size f cdv)) →
      DPSs (cxQ P w K mg base N qual (defScope st) f cdv A outer s H E).nox ⟨bo0, fun _ _ _ _ => False⟩ (defBody st) ms)
    (h : ∀ ds O Q E, sp ds O Q E → ms (endsD Q E) (startD N ds) O) (noex : ∀ ds O Q E, sp ds O Q E → sp ds O Q fun _ _ => False) : FnQ P w K mg base (k + 1) f fd ps (spD K sp) := by
  refine Fn.okQ S (fun vs H Q E ⟨G, O, ds, g, r, Q0, E0, h0, _⟩ => ?_) (fun cdv A outer s H vs Q E hr ⟨G, O, ds, g, r, Q0, E0, h0, hq, hx⟩ => ?_)
  · rw [r.length]; exact len _ _ _ _ h0
  · have b := hb cdv A outer s H E hr
    refine ⟨_, b.run, G, O, startD N ds, g, start_rp r, b.mo (endsD Q0 fun _ _ => False) _ _ _ ⟨fun ρ O1 z σ' G' H' s _ => hq _ _ z _ G' H' s .non, fun d O1 z v G' H' s rv => hq _ _ z v G' H' s rv, fun _ _ z => z.elim, fun _ _ z => z.elim, fun x ρ _ z => z.elim⟩ (h ds O Q0 (fun _ _ => False) (noex _ _ _ _ h0))⟩
end
/-! ### an exception tracked for a call -/
section
variable {K : PySem.W.Frag} {B : Bo} {O : Ow} {G H G' H' : Hp} {cv : Cv}
def noOw : Ow := fun _ => none
abbrev IsF (o : Obj) : Prop := ∃ vs, o.data = .fields vs
/-- all of it, for one who owns nothing -/
theorem good_free (g : Good K B O G H) (n : ∀ a o, cv a = some o → H a = none) : Good K bo0 noOw (hplus G cv) (hplus H cv) := by
  have nG : ∀ a o, cv a = some o → G a = none := fun a o e => g.freshG (n a o e)
  refine ⟨fun a u e => ?_, (fun _ _ _ e => nomatch e), (fun _ _ e => nomatch e), fun p d e => nomatch e⟩
  cases q : cv a with
  | some o => rw [hplus_in q] at e ⊢; exact e
  | none => rw [hplus_out q] at e ⊢; exact g.sub a u e
theorem step_free (g : Good K B O G H) (n : ∀ a o, cv a = some o → H a = none) (s : Step K bo0 noOw (hplus G cv) (hplus H cv) noOw G' H') : Step K B O G H O (hminus G' cv) (hminus H' cv) := by
  have out : ∀ {a : Addr} {u : HO}, H a = some u → cv a = none := fun {a u} e => by
    cases q : cv a with
    | none => rfl
    | some o => rw [n a o q] at e; cases e
  have kp : ∀ a u, H a = some u → hminus H' cv a = some u := fun a u e => by
    have q := out e
    rw [hminus_out q]; exact s.keep a u (by rw [hplus_out q]; exact e) no_hid rfl
  have gr : Sub G (hminus G' cv) := fun a u e => by
    have q := out (g.sub _ _ e)
    rw [hminus_out q]; exact s.grow a u (by rw [hplus_out q]; exact e)
  have hid : ∀ a u, H a = some u → G a = none → hminus G' cv a = none := fun a u e eG => by
    have q := out e
    rw [hminus_out q]; exact (s.hid a u (by rw [hplus_out q]; exact e) (by rw [hplus_out q]; exact eG) rfl).1
  refine ⟨gr, ⟨fun a u e => ?_, fun b l T e => ?_, g.amb.trans gr, fun p d e => ?_⟩, fun a u e _ _ => kp a u e, fun a u e eG nO => ⟨hid a u e eG, nO⟩, fun a h => ?_⟩
  · cases q : cv a with
    | some o => rw [hminus_in q] at e; cases e
    | none => rw [hminus_out q] at e ⊢; exact s.good.sub a u e
  · refine (g.box b l T e).step gr (fun a ha => ?_) fun a o _ h => kp a o h
    have ha : Hid B a := ⟨b, l, T, e, ha⟩
    obtain ⟨u, hu, _⟩ := g.hidH ha
    exact hid a u hu (g.hidG ha)
  · obtain ⟨a, b, c⟩ := g.own p d e
    obtain ⟨u, hu⟩ := c.some_of
    exact ⟨hid p u hu a, b, c.mono gr fun u h => kp p u h⟩
  · cases e : H a with
    | none => exact absurd e h
    | some u => rw [kp a u e]; exact Option.some_ne_none _
theorem rp_free (hs : Has G' cv) (hc : ∀ a o, cv a = some o → IsF o) {v : V} {d : D} (nx : noX d = true) (r : Rp K G' v d) : Rp K (hminus G' cv) v d :=
  Rp.part (bad := IsF) (fun a u e n => by
    cases q : cv a with
    | some o => rw [hs a o q] at e; cases e; exact absurd (hc a o q) (n o rfl)
    | none => rw [hminus_out q]; exact e) (fun _ b => .inr b) (.inr nx) r
end
end EV
set_option Elab.async false
set_option linter.all false
set_option maxRecDepth 100000
set_option maxHeartbeats 4000000
namespace EV
open PySem PySem.Spec PyProof.Rows L2 LamX
section
variable {X : Cx} {a : Addr} {oe : Obj} {cls : Value} {d : Option Addr} {pn : List (Addr × Obj)} {e : Expr} {te : TE} {pos q : Pos} {n x : Str}
/-- e.n of the error that the suite holds -/
def tXfE (K : PySem.W.Frag) (a : Addr) (cls : Value) (d : Option Addr) (f : Str) (te : TE) : TE := fun σ H Q => te σ H fun x H1 => x = .ref a ∧ ∃ (C dd : Addr) (fs : List (Str × V)) (v : V), cls = .ref C ∧ XfC K C ∧ PySem.W.findIn K (.ref C) f = some none ∧ d = some dd ∧ H1 dd = some (.xd fs) ∧ fs.lookup f = some v ∧ Q v H1
theorem pe_xfE (hz : Zc cls d oe) (hf : ∃ vs, oe.data = .fields vs) (he : PE (X.suite a ((a, oe) :: pn)) e te) (hb : attributeBase e n X.env (eval e X.env) = eval e X.env) : PE (X.suite a ((a, oe) :: pn)) (.Attribute e n pos) (tXfE X.K a cls d n te) := by
  refine ⟨fun pins s σ H Q I h => ?_⟩
  refine attr_of hb (thn (he.run pins s σ H _ I h) fun u s1 hh => ?_)
  obtain ⟨x, H1, I1, rx, ex, C, dd, fs, v, ec, T, hno, ed, ea, l, q⟩ := hh
  subst ex
  obtain rfl : u = Value.ref a := rx
  subst ec
  subst ed
  obtain ⟨ha, _⟩ := I1.pin (a, oe) (List.mem_append_left _ List.mem_cons_self)
  obtain ⟨vs, hd⟩ := hf
  have hx : ObjOk X.prog X.w H1 s1.heap dd (.xd fs) := I1.hok dd _ ea
  obtain ⟨mA, hns, hr⟩ := hx
  obtain ⟨od, ho, hl⟩ := lookIn_ns hns
  obtain ⟨u, hu, ru⟩ := RelO.some_of (v := v) (o := mA n) (by rw [← l]; exact hr n)
  have J : PySem.W.InstAt s1.heap a oe C (some od) := ⟨ha, hz.1, by unfold PySem.W.notCls; rw [hd] <;> rfl, by rw [hz.2]; exact ho⟩
  exact HandSPX.exc_get I1.kIn J T.ga T.gg T.exC (PySem.W.findObj_own T.hdC hno rfl (by rw [hl, hu])) (handed_of ru) ⟨v, H1, I1.tok _, ru, q⟩
/-- f(e), e the error that the suite holds, in slot i -/
def tCallE (K : PySem.W.Frag) (a : Addr) (cls : Value) (d : Option Addr) (sp : DSp) (i : Nat) : TE := fun σ H Q => σ[i]? = some (some (.ref a)) ∧ ∃ (C dd : Addr) (fs : List (Str × V)) (ds : List (Str × D)) (B : Bo) (G : Hp) (O : Ow) (r : D), cls = .ref C ∧ d = some dd ∧ Good K B O G H ∧ G dd = some (.xd fs) ∧ RpF K G fs ds ∧
  sp [.exc C ds] noOw (fun d O => d = r ∧ O = noOw) (fun _ _ => False) ∧ noX r = true ∧ ∀ v G' H', Step K B O G H O G' H' → Rp K G' v r → Q v H'
theorem pe_callE {k i : Nat} {f : Addr} {fd : FuncData} {p0 y : Str} {py : Pos} {sp : DSp} (F : FnQ X.prog X.w X.K X.mg X.base k f fd [p0] (spD X.K sp)) (hr : RoomW k X.A) (hz : Zc cls d oe) (hf : ∃ vs, oe.data = .fields vs) (nba : X.base.get? a = none) (hg : Gl X x) (hm : X.mg x = some (.ref f)) (hk : PySem.W.keepIn X.K (.ref f) = true) (hb : Binds X.K fd [p0] [])
    (hN : X.N[i]? = some y) (hv : Vis X.env.scope y) (hd : (y == ("__debug__" : Str)) = false) (hcd : (y == ("__classdict__" : Str)) = false) (hdb : (x == ("__debug__" : Str)) = false) (hst : starEach [.Name y py] X.env = [(false, eval (.Name y py) X.env)]) :
    PE (X.suite a ((a, oe) :: pn)) (.Call (.Name x q) [.Name y py] [] pos) (tCallE X.K a cls d sp i) := by
  refine ⟨fun pins s σ H Q I h => ?_⟩
  obtain ⟨hσ, C, dd, fs, ds, B, G, O, r, ec, ed, g, hdd, rf, hsp, nx, hq⟩ := h
  subst ec ed
  refine wpAny_Call_Name_kw (ld_glob I hg hm ?_ hdb)
  have ha : PA (X.suite a ((a, oe) :: pn)) [.Name y py] _ := pa_cons (pe_var hN hv hd hcd) pa_nil hst
  refine PySem.W.callWith_K (h₀ := X.base) I.ok.mod.kin hk (thn (ha.run pos pins s σ H (fun vs H1 => vs = [.ref a] ∧ H1 = H) I ⟨_, hσ, rfl, rfl⟩) fun us s1 hh => ?_) hst rfl
  obtain ⟨vs, H1, I1, rv, ev, eH⟩ := hh
  subst ev eH
  obtain ⟨u, rfl⟩ : ∃ u, us = [u] := by cases rv with | cons _ t => cases t; exact ⟨_, rfl⟩
  obtain rfl : u = .ref a := by cases rv with | cons x _ => exact x
  refine ⟨I1.kIn, ?_⟩
  obtain ⟨ha1, ha2, ha3, ha4, _⟩ := I1.pin (a, oe) (List.mem_append_left _ List.mem_cons_self)
  obtain ⟨vs0, hd0⟩ := hf
  let cv : Cv := fun b => if b = a then some oe else none
  have cva : cv a = some oe := if_pos rfl
  have cvn : ∀ {b : Addr} {o : Obj}, cv b = some o → b = a ∧ o = oe := fun {b o} e => by
    by_cases z : b = a
    · subst z; rw [cva] at e; cases e; exact ⟨rfl, rfl⟩
    · rw [show cv b = none from if_neg z] at e; cases e
  have un : ∀ b o, cv b = some o → H1 b = none := fun b o e => by obtain ⟨rfl, rfl⟩ := cvn e; exact ha2
  have cvo : CvOk X.base X.stack H1 s1.heap cv := by
    refine ⟨un, fun b o e => ?_, fun b o e hm => ?_, fun b o e => ?_⟩
    · obtain ⟨rfl, rfl⟩ := cvn e; exact ha1
    · obtain ⟨rfl, rfl⟩ := cvn e
      rcases List.mem_cons.mp (I1.stkSub b hm) with z | z
      · exact ha3 z
      · exact ha4 z
    · obtain ⟨rfl, rfl⟩ := cvn e; exact nba
  have g2 := good_free (cv := cv) g un
  have sp1 : Sub G (hplus G cv) := sub_plus fun b o e => g.freshG (un b o e)
  have bd := hb s1 [.ref a] I1.kIn rfl
  refine wpAny_call (codeAny_mono (F.run (X.suite a ((a, oe) :: pn)).A X.stack s1 (hplus H1 cv) ⟨[.ref a], []⟩ [.ref a] [.ref a] (fun v H' => Q v (hminus H' cv)) (fun _ _ _ => False) ⟨hr.dp, hr.un⟩ (env_plus I1.env0 cvo) bd (.cons rfl .nil)
    ⟨_, noOw, [.exc C ds], g2, .cons (.exc (hplus_in cva) ⟨oe, vs0, rfl, hz, hd0⟩ (sp1 _ _ hdd) (rf.mono sp1)) .nil, _, _, hsp, fun d O' ⟨e1, e2⟩ v G' H' t rv' => ?_, fun _ _ z => z.elim⟩) fun r s' hq' => ?_)
  · subst e1 e2
    have hs : Has G' cv := fun b o e => t.grow _ _ (hplus_in e)
    exact hq v _ _ (step_free g un t) (rp_free hs (fun b o e => by obtain ⟨rfl, rfl⟩ := cvn e; exact ⟨vs0, hd0⟩) nx rv')
  · cases r with
    | error e => exact (show False from hq').elim
    | ok fl =>
      cases fl with
      | ret u =>
        obtain ⟨v, H', os, ag, un', hk', rv', q⟩ := hq'
        have hs : Has H' cv := fun b o e => un'.frzs b o _ (hplus_in e)
        exact I1.after ⟨v, hminus H' cv, os, ag, un_minus un' cvo.un cvo.get cvo.fr hk', hok_minus hk' hs, rv', q⟩
      | next => exact False.elim hq'
      | brk => exact False.elim hq'
      | cont => exact False.elim hq'
end
end EV
set_option Elab.async false
set_option linter.all false
set_option maxRecDepth 100000
set_option maxHeartbeats 4000000
namespace EV
open PySem PySem.Spec PyProof.Rows L2 LamX
section
variable {X : Cx} {L : Pl} {a : Str} {p1 p2 : Pos}
/-- a(), a lambda in slot i -/
def dAct (R : LR) (i : Nat) : DE := fun ρ O Q E => match ρ[i]? with
  | some (.sh (.lam l)) => ∃ m, R l m ∧ m O Q E
  | _ => False
theorem d_act {R : LR} {j i : Nat} (hR : ∀ l m, R l m → ActV X.prog X.w X.K X.mg X.base j L.B l m ∧ MoL m) (hr : Room j X.A) (hx : ∀ σ, PassesAt (L2.CX X.prog X.w) X σ (L.W σ)) (hN : X.N[i]? = some a) (hv : Vis X.env.scope a) (hd : (a == ("__debug__" : Str)) = false) (hcd : (a == ("__classdict__" : Str)) = false) :
    DPE X L (.Call (.Name a p1) [] [] p2) (dAct R i) := by
  refine ⟨fun ρ O Q Q' E E' q hq z => ?_, ⟨fun pins s σ H Q I ⟨G, O, ρ, g, rs, q⟩ => ?_⟩⟩
  · unfold dAct at z ⊢
    split at z
    · obtain ⟨m, r, z⟩ := z
      exact ⟨m, r, (hR _ m r).2 _ _ _ _ _ q hq z⟩
    · exact z
  · unfold dAct at q
    split at q
    · rename_i l el
      obtain ⟨m, r, q⟩ := q
      obtain ⟨v, ev, rv⟩ := rs.sh i _ el
      refine wpAny_Call_Name_kw (thn ((pe_var (pos := p1) (i := i) hN hv hd hcd).run pins s σ H (fun w H1 => w = v ∧ H1 = H) I ⟨v, ev, rfl, rfl⟩) fun u s1 ⟨w, H1, I1, r1, e1, e2⟩ => ?_)
      subst e1 e2
      have rl := rv
      cases rv with
      | @lam f c _ fd hf hc hfd =>
        obtain rfl : u = Value.ref f := r1
        have hf1 := (I1.hok f _ (g.sub _ _ hf)).1
        refine PySem.W.callWith_F0 ⟨_, _, _, _, hf1⟩ ?_
        refine wpAny_call (codeAny_mono ((hR l m r).1 f X.A X.stack s1 H1 G O Q (L.W σ) hr I1.env0 g rl q) fun r s' hq => ?_)
        cases r with
        | error e => exact hx σ pins H1 s1 e s' I1 hq
        | ok fl =>
          cases fl with
          | ret u => exact I1.after hq
          | next => exact False.elim hq
          | brk => exact False.elim hq
          | cont => exact False.elim hq
    · exact q.elim
end
end EV
set_option Elab.async false
set_option linter.all false
set_option maxRecDepth 100000
set_option maxHeartbeats 4000000
namespace PySem.W
open PySem PySem.Spec PySem.Calls PyProof.Rows
section
variable {prog : Program} {w : World} {A : Around} {E : Value → Shared → Prop} {s : Shared} {K : Frag} {x D : Addr} {ox : Obj} {od : Option Obj}
theorem findObj_dataD {C : Addr} {name : Str} {a g : Value} (hc : (clsIn K C).isSome = true) (ha : findIn K (.ref C) name = some (some a)) (hg : specialIn K a "__get__" = some (some g)) (ht : takesIn K a = some true) : findObj K C od name = some (.bind g a) := by
  obtain ⟨cd, hc⟩ := Option.isSome_iff_exists.mp hc
  unfold findObj
  rw [hc, Option.bind_some, ha, Option.bind_some]
  simp [hg, ht]
theorem kin_classD {Q : Option Value → Shared → Prop} (hga : findIn K (.ref D) "__getattribute__" = some (some (.builtin "BaseException.__getattribute__"))) (hgt : findIn K (.ref D) "__getattr__" = some none) (hsub : subIn K (.ref D) (.type "BaseException") = some true)
    (hdct : hasDictIn K D = true) (ha : findIn K (.ref D) "__class__" = some (some (.builtin "object.__class__")))
    (hn : specialIn K (.builtin "object.__class__") "__get__" = some (some (.builtin "getset_descriptor.__get__"))) (htk : takesIn K (.builtin "object.__class__") = some true) (hm : mroIn K D (.type "object") = some true)
    (X : K.In s.heap) (I : InstAt s.heap x ox D od) (h : Q (some (.ref D)) { s with toks := s.toks + 1 }) : wpAny (model prog w) A (getAttr? (.ref x) "__class__") Q E s := by
  have hf : findObj K D od "__class__" = some (.bind (.builtin "getset_descriptor.__get__") (.builtin "object.__class__")) := findObj_dataD (by obtain ⟨cd, hc, _⟩ := any_some hdct; rw [hc]; rfl) ha hn htk
  obtain ⟨hp, g, d, t, os⟩ := s
  have L0 := I.type (M := model prog w)
  have L1 := looks_findIn (M := model prog w) X hga
  have L2 := looks_findIn (M := model prog w) X hgt
  have L3 := looks_find (M := model prog w) X I hf
  have sub : Looks (model prog w) hp (isInstance (.ref x) (.type "BaseException")) true := L0.andThen (looks_subIn X hsub)
  have hx0 : (false && onTheHeap (Value.builtin "BaseException.__getattribute__")) = false := rfl
  have hx2 : (Value.builtin "BaseException.__getattribute__" == Value.builtin "object.__getattribute__") = false := by decide +kernel
  have hx1 : (onTheHeap (Value.ref D) && Value.builtin "BaseException.__getattribute__" == Value.builtin "object.__getattribute__") = false := by rw [hx2]; rfl
  unfold getAttr? getAttrBy? getAttrBy
  refine wpAny_bind (wpAny_mkText (wpAny_bind (wpAny_attempt (wpAny_holding (wpAny_bind (L0.at (wpAny_bind (L1.at ?_))))))))
  show wpAny _ _ (if (onTheHeap (Value.ref D) && Value.builtin "BaseException.__getattribute__" == Value.builtin "object.__getattribute__") = true then _ else _) _ _ _
  rw [hx1, if_neg Bool.false_ne_true]
  unfold getAttrByItsOwn hookBefore
  refine wpAny_bind ?_
  rw [if_pos (show onTheHeap (Value.ref D) = true from rfl)]
  refine L2.at ?_
  refine wpAny_bind (wpAny_attempt (wpAny_holding ?_))
  unfold callGetattribute
  rw [hx0, if_neg Bool.false_ne_true]
  unfold boundAndCalled
  rw [PySem.F.excAttr_ValueError.ga.bind (.ref x)]
  refine wpAny_bind (wpAny_pure ?_)
  show wpAny _ _ (call (.builtin "BaseException.__getattribute__") [.ref x, .str "__class__" t]) _ _ _
  refine wpAny_call (codeAny_call_builtin PySem.F.excAttr_ValueError.ga.plain PySem.F.entry_bexc_ga ?_)
  refine @check_slot (model prog w) _ _ ⟨hp, g, d, t + 1, os⟩ "BaseException.__getattribute__" "BaseException" "__getattribute__" (.ref x) [.str "__class__" t] [] _ (by decide +kernel) (by decide +kernel) sub (PySem.F.args_bexc_ga (.ref x) (.str "__class__" t)) ?_
  unfold Builtin.«object.__getattribute__»
  refine wpAny_bind (wpAny_of_eq (a := ((Value.ref x : Value), [Value.str "__class__" t])) (by first | rfl | (simp only [slotArgs]; rfl)) ?_)
  refine wpAny_bind (wpAny_pure (wpAny_bind (L0.at (wpAny_bind (L3.at ?_)))))
  show wpAny _ _ (holding [Value.builtin "object.__class__"] (call (.builtin "getset_descriptor.__get__") [.builtin "object.__class__", .ref x, .ref D]) >>= ret) _ _ _
  refine wpAny_bind (wpAny_holding (wpAny_call (class_get (s := ⟨hp, g, d, t + 1, os⟩) (ox := ox) (od := od) X I hm ?_)))
  refine wpAny_pure ?_
  show wpAny _ _ (handedOut (.ref D)) _ _ _
  rw [handedOut_of (v := .ref D) rfl]
  first
    | exact wpAny_pure (wpAny_pure h)
    | exact wpAny_pure h
    | exact wpAny_pure (wpAny_bind (wpAny_pure (wpAny_pure h)))
theorem kitx_errD (hga : findIn K (.ref D) "__getattribute__" = some (some (.builtin "BaseException.__getattribute__"))) (hgt : findIn K (.ref D) "__getattr__" = some none) (hsub : subIn K (.ref D) (.type "BaseException") = some true) (hdct : hasDictIn K D = true) (ha : findIn K (.ref D) "__class__" = some (some (.builtin "object.__class__")))
    (hn : specialIn K (.builtin "object.__class__") "__get__" = some (some (.builtin "getset_descriptor.__get__"))) (htk : takesIn K (.builtin "object.__class__") = some true) (hm : mroIn K D (.type "object") = some true) :
    KitX K (.ref x) (.ref D) (fun h => InstAt h x ox D od) where
  ty := fun _ _ _ I => I.type
  it := fun _ _ X _ => by
    obtain ⟨cdD, hcD, _⟩ := any_some hdct
    unfold clsIn at hcD
    split at hcD
    · rename_i c' d' cd' sl' ho
      intro A' Q' E' s' k q
      unfold isType loadHead
      exact wpAny_bind (wpAny_loadPart (k _ _ (X _ _ ho)) (wpAny_pure q))
    · cases hcD
  ne := fun h tp dd its n sl X htp => by
    obtain ⟨cdD, hcD, _⟩ := any_some hdct
    refine Bool.eq_false_iff.mpr fun q => ?_
    have e : D = tp := Value.ref.inj (beq_iff_eq.mp q)
    subst e
    unfold clsIn at hcD
    split at hcD
    · rename_i c' d' cd' sl' ho
      have z := (X _ _ ho).symm.trans htp
      cases z
    · cases hcD
  ca := fun X I k => kin_classD hga hgt hsub hdct ha hn htk hm X I k
end
end PySem.W
namespace L2
open PySem PySem.Spec PyProof.Rows
/-- an error held as a value: its object and its dict -/
theorem exd_at {X : Cx} {pins : List (Addr × Obj)} {σ : St} {H : Hp} {s : Shared} {e C dx : Addr} {u : HO} {fs : List (Str × V)} (I : Inv X pins σ H s) (he : H e = some u) (hu : EV.ExO C dx u) (hd : H dx = some (.xd fs)) :
    ∃ (oe : Obj) (od : Obj) (mA : Str → Option Value), PySem.W.InstAt s.heap e oe C (some od) ∧ (∀ n, PySem.W.lookIn n od = some (mA n)) ∧ ∀ f, RelO (fs.lookup f) (mA f) := by
  obtain ⟨oe, vs, rfl, hz, hv⟩ := hu
  have h1 := (I.hok e _ he).1
  have hx : ObjOk X.prog X.w H s.heap dx (.xd fs) := I.hok dx _ hd
  obtain ⟨mA, hns, hr⟩ := hx
  obtain ⟨od, ho, hl⟩ := lookIn_ns hns
  exact ⟨oe, od, mA, ⟨h1, hz.1, by unfold PySem.W.notCls; rw [hv] <;> rfl, by rw [hz.2]; exact ho⟩, hl, hr⟩
section
variable {X : Cx} {C : Addr} {f : Str} {a : Expr} {ta : TE} {pos : Pos}
/-- e.f of an error held as a value -/
def tEf (K : PySem.W.Frag) (f : Str) (ta : TE) : TE := fun σ H Q => ta σ H fun x H1 => ∃ e C dx u fs v, x = .ref e ∧ H1 e = some u ∧ EV.ExO C dx u ∧ H1 dx = some (.xd fs) ∧ XfC K C ∧ PySem.W.findIn K (.ref C) f = some none ∧ fs.lookup f = some v ∧ Q v H1
theorem pe_ef (he : PE X a ta) (hb : attributeBase a f X.env (eval a X.env) = eval a X.env) : PE X (.Attribute a f pos) (tEf X.K f ta) := by
  refine ⟨fun pins s σ H Q I h => ?_⟩
  refine attr_of hb (thn (he.run pins s σ H _ I h) fun u s1 hh => ?_)
  obtain ⟨x, H1, I1, rx, e, C, dx, u0, fs, v, ex, ee, eu, ed, T, hno, l, q⟩ := hh
  subst ex
  obtain rfl : u = Value.ref e := rx
  obtain ⟨oe, od, mA, J, hl, hr⟩ := exd_at I1 ee eu ed
  obtain ⟨u, hu, ru⟩ := RelO.some_of (v := v) (o := mA f) (by rw [← l]; exact hr f)
  exact HandSPX.exc_get I1.kIn J T.ga T.gg T.exC (PySem.W.findObj_own T.hdC hno rfl (by rw [hl, hu])) (handed_of ru) ⟨v, H1, I1.tok _, ru, q⟩
/-- isinstance(e, c) of an error held as a value -/
def rIsV (K : PySem.W.Frag) : List V → Hp → VK → Prop := fun xs H Q => ∃ (e D dx : Addr) (u0 : HO) (fs : List (Str × V)) (c : V) (cv : Value) (b : Bool), xs = [.ref e, c] ∧ H e = some u0 ∧ EV.ExO D dx u0 ∧ H dx = some (.xd fs) ∧ ExcC K D ∧ (∀ u, RelV c u → u = cv) ∧ PySem.W.kitOne K (.ref D) cv = some b ∧ Q (.bl b) H
theorem call_isV : CallR X (.builtin "isinstance") (rIsV X.K) := by
  intro pins s σ H xs us Q I r h
  obtain ⟨e, D, dx, u0, fs, c, cv, b, rfl, ee, eu, ed, C, hcv, hk, q⟩ := h
  cases r with
  | cons rx rr =>
    cases rr with
    | cons rt rr =>
      cases rr
      cases rx
      have ec := hcv _ rt
      subst ec
      obtain ⟨oe, od, mA, J, _, _⟩ := exd_at I ee eu ed
      exact PySem.W.kia_one (PySem.W.kitx_errD C.hg C.hk C.hs C.hd C.ha C.hn C.ht C.hm) I.kIn J hk (fun z => nomatch z) fun tk => ⟨.bl b, H, I.kept (t' := tk) fun _ _ z => z, rfl, q⟩
end
end L2
namespace EV
open PySem PySem.Spec PyProof.Rows L2
section
variable {X : Cx} {L : Pl} {B : Bo} {f : Str} {a : Expr} {m : DE} {pos : Pos}
/-- e.f of an error: cs the classes it may be of -/
def efD (cs : List Addr) (f : Str) : D → (D → Prop) → Prop
  | .exc C fs, Q => C ∈ cs ∧ match fs.lookup f with
    | some d => Q d
    | none => False
  | _, _ => False
def dEf (cs : List Addr) (f : Str) (m : DE) : DE := fun ρ O Q E => m ρ O (fun x O1 => efD cs f x fun d => Q d O1) E
theorem d_ef {cs : List Addr} (T : ∀ C ∈ cs, XfC X.K C) (na : ∀ C ∈ cs, PySem.W.findIn X.K (.ref C) f = some none) (he : DPE X L a m) (hb : attributeBase a f X.env (eval a X.env) = eval a X.env) : DPE X L (.Attribute a f pos) (dEf cs f m) := by
  refine ⟨fun ρ O Q Q' E E' q hx x => he.mo ρ _ _ _ _ _ (fun d O1 z => ?_) hx x, pe_imp (pe_ef he.run hb) fun σ H Q ⟨G, O, ρ, g, rs, q⟩ => ?_⟩
  · unfold efD at z ⊢
    split at z
    · refine ⟨z.1, ?_⟩
      obtain ⟨_, z⟩ := z
      split at z
      · exact q _ _ z
      · exact z
    · exact z
  · refine up_of he.mo g rs q fun x v O1 G1 H1 q1 s1 r1 => ?_
    unfold efD at q1
    split at q1
    · obtain ⟨hc, q1⟩ := q1
      split at q1
      · rename_i d ed
        cases r1 with
        | exc h1 hx h2 rf =>
          obtain ⟨v, ev, rv⟩ := rf.look ed
          exact ⟨_, _, _, _, _, v, rfl, s1.good.sub _ _ h1, hx, s1.good.sub _ _ h2, T _ hc, na _ hc, ev, q1 _ _ _ s1 rv⟩
      · exact q1.elim
    · exact q1.elim
end
end EV
set_option Elab.async false
set_option linter.all false
set_option maxRecDepth 100000
set_option maxHeartbeats 4000000
namespace EV
open PySem PySem.Spec PyProof.Rows L2
/-- a class as the checker has it -/
def clV : V → Option Value
  | .ref a => some (.ref a)
  | .ty n => some (.type n)
  | _ => none
theorem clV_ok {c : V} {cv u : Value} (h : clV c = some cv) (r : RelV c u) : u = cv := by
  cases c <;> simp [clV] at h
  · subst h; exact r
  · subst h; exact r
/-- isinstance of an error by a table of classes -/
def isvD (tb : Addr → V → Option Bool) : PC
  | [.exc C _, .opq c], Q => match tb C c with
    | some b => Q (.bl b)
    | none => False
  | _, _ => False
section
variable {X : Cx} {L : Pl} {B : Bo}
theorem cd_isV {tb : Addr → V → Option Bool} (ht : ∀ C c b, tb C c = some b → ExcC X.K C ∧ ∃ cv, clV c = some cv ∧ PySem.W.kitOne X.K (.ref C) cv = some b) : CallD X B (.builtin "isinstance") (pc (isvD tb)) := by
  refine ⟨fun O x Q Q' q z => ?_, _, call_isV, fun O G H vs ds Q g r h => ?_⟩
  · dsimp only [pc] at z ⊢; unfold isvD at z ⊢
    split at z
    · split at z
      · exact q _ z
      · exact z
    · exact z
  · dsimp only [pc] at h; unfold isvD at h
    split at h
    · split at h
      · rename_i b eb
        obtain ⟨hC, cv, hc, hk⟩ := ht _ _ _ eb
        cases r with
        | cons r1 r2 =>
          cases r2 with
          | cons r3 r4 =>
            cases r4
            cases r3
            cases r1 with
            | exc h1 hx h2 rf => exact ⟨_, _, _, _, _, _, cv, b, rfl, g.sub _ _ h1, hx, g.sub _ _ h2, hC, fun u hu => clV_ok hc hu, hk, h _ _ _ (Step.refl g) (.bl _)⟩
      · exact h.elim
    · exact h.elim
/-- a class of the text, as a value -/
theorem d_cls {x : Str} {C : Addr} {pos : Pos} (hg : Gl X x) (hm : X.mg x = some (.ref C)) (hd : (x == ("__debug__" : Str)) = false) : DPE X L (.Name x pos) (dC (.opq (.ref C))) := d_c (v := .ref C) (pe_glob hg hm rfl hd) fun _ => .opq _
end
end EV
set_option Elab.async false
set_option linter.all false
set_option maxRecDepth 100000
set_option maxHeartbeats 4000000
namespace PySem
namespace XO
open PySem.W PySem.Calls PyProof.Rows PySem.HandSPX L2
/-- the text of an error's __init__ -/
structure IniD where
  cls : Str
  qual : Str
  params : Arguments
  body : List Stmt
  scope : Scope
def iniF (K : Frag) (c : Str) : Addr := He.ma K (He.ga K c) "__init__"
abbrev IniW := Option (Str × Str × Arguments × FuncBody × Scope × Addr × List Str × Addr)
def iniW (K : Frag) (c : Str) : IniW := match K.lookup (iniF K c) with
  | some ⟨_, _, .func fd, _⟩ => some (fd.name, fd.qualname, fd.params, fd.body, fd.scope, fd.globals, fd.closure.map (·.1), fd.builtins)
  | _ => none
def IniD.val (d : IniD) : IniW := some ("__init__", d.qual, d.params, .stmts d.body, d.scope, mainGlobals, ["__class__"], builtinsNs)
def cellB (K : Frag) (D : Addr) (cc : Addr) : Bool := match K.lookup cc with
  | some ⟨_, _, .cell (some (.ref a)), _⟩ => decide (a = D)
  | _ => false
def fileB (prog : Program) (K : Frag) : Value → Bool
  | .ref c => match K.lookup c with
    | some ⟨_, _, .fields vs, _⟩ => (match (vs[2]? : Option Value) with
      | some (Value.str file _) => (prog.main.file : Str) == file
      | _ => false)
    | _ => false
  | _ => false
def isNone : Value → Bool
  | .none => true
  | _ => false
def iniB (prog : Program) (K : Frag) (d : IniD) : Bool := match K.lookup (iniF K d.cls) with
  | some ⟨_, _, .func fd, _⟩ => codeIn K fd.code d.qual && (isNone fd.defaults && (isNone fd.kwdefaults && (fileB prog K fd.code && fd.closure.all fun q => cellB K (He.ga K d.cls) q.2)))
  | _ => false
theorem isNone_eq {v : Value} (h : isNone v = true) : v = .none := by cases v <;> first | rfl | cases h
theorem cellB_ok {K : Frag} {D cc : Addr} (h : cellB K D cc = true) : ∃ cl cld csl, K.lookup cc = some ⟨cl, cld, .cell (some (.ref D)), csl⟩ := by
  unfold cellB at h
  split at h
  · rename_i a b c d e
    exact ⟨_, _, _, by rw [e, of_decide_eq_true h]⟩
  · cases h
theorem fileB_ok {prog : Program} {K : Frag} {v : Value} (h : fileB prog K v = true) : ∃ c, v = .ref c ∧ ∃ ccl cdd vs ccs file tf, K.lookup c = some ⟨ccl, cdd, .fields vs, ccs⟩ ∧ vs[2]? = some (.str file tf) ∧ ((prog.main.file : Str) == file) = true := by
  unfold fileB at h
  split at h
  · rename_i c
    split at h
    · rename_i e
      split at h
      · rename_i e2
        exact ⟨c, rfl, _, _, _, _, _, _, e, e2, h⟩
      · cases h
    · cases h
  · cases h
/-- what can be seen of a scope -/
structure IniS (d : IniD) : Prop where
  self : ∃ ar, (d.params.posonlyargs ++ d.params.args).head? = some ar ∧ ar.arg = ("self" : Str)
  ks : d.scope.names.lookup ("super" : Str) = some .globalImplicit
  kc : d.scope.names.lookup ("__class__" : Str) = some .free
  ka : d.scope.names.lookup ("self" : Str) = some .local
  kd : d.scope.kind = .function
  nc : ∀ x ∈ d.scope.names, x.2 ≠ .cell
  co : d.scope.isCoroutine = false
  ge : d.scope.isGenerator = false
  ia : ∀ L f cda cc, interactive (ksEnv d.qual d.scope L f (.ref cda) cc) = false
theorem ini_of {prog : Program} {K : Frag} {d : IniD} (e : iniW K d.cls = d.val) (b : iniB prog K d = true) (S : IniS d) : ∃ cc cda fd, Ini prog K (He.ga K d.cls) (iniF K d.cls) d.qual d.params d.body d.scope cc cda fd := by
  unfold iniW at e
  unfold iniB at b
  cases q : K.lookup (iniF K d.cls) with
  | none => rw [q] at b; cases b
  | some o =>
    obtain ⟨oc, od, dt, osl⟩ := o
    rw [q] at b e
    cases dt with
    | func fd =>
      obtain ⟨n1, n2, n3, n4, n5, n6, n7, n8, n9, n10, n11, n12, n13, n14, n15⟩ := fd
      have e2 : (some (n1, n2, n3, n4, n5, n6, n7.map (·.1), n15) : IniW) = (some (("__init__" : Str), d.qual, d.params, FuncBody.stmts d.body, d.scope, mainGlobals, [("__class__" : Str)], builtinsNs) : IniW) := e
      simp only [Option.some.injEq, Prod.mk.injEq] at e2
      obtain ⟨h1, h2, h3, h4, h5, h6, h7, h8⟩ := e2
      subst h1 h2 h3 h4 h5 h6 h8
      have c3 : (codeIn K n13 d.qual && (isNone n8 && (isNone n9 && (fileB prog K n13 && n7.all fun q => cellB K (He.ga K d.cls) q.2)))) = true := b
      obtain ⟨k1, k2⟩ := He.ba c3
      obtain ⟨k3, k4⟩ := He.ba k2
      obtain ⟨k5, k6⟩ := He.ba k4
      obtain ⟨k7, k8⟩ := He.ba k6
      obtain rfl := isNone_eq k3
      obtain rfl := isNone_eq k5
      obtain ⟨cda, rfl, hfile⟩ := fileB_ok k7
      match n7, h7, k8 with
      | [(x, cc)], h7, k8 =>
        have ex : x = ("__class__" : Str) := by simpa using h7
        subst ex
        have hc : cellB K (He.ga K d.cls) cc = true := by simpa using k8
        exact ⟨cc, cda, _, ⟨⟨oc, od, n10, n11, n12, n14, osl, rfl, q⟩, k1, cellB_ok hc, hfile, S.self, S.ks, S.kc, S.ka, S.kd, S.nc, S.co, S.ge, fun L => S.ia L _ _ _⟩⟩
      | [], h7, _ => simp at h7
      | _ :: _ :: _, h7, _ => simp at h7
    | _ => cases b
end XO
end PySem
set_option Elab.async false
set_option linter.all false
set_option maxRecDepth 100000
set_option maxHeartbeats 4000000
namespace PySem
namespace XO
open PySem.W PySem.Calls PyProof.Rows PySem.HandSPX L2
/-! ### the Hook: HandS's facts, a Bool more, the texts of __init__ -/
structure SaysI (fa : List He.Fa) (fn : List He.DefD) (ts : List He.Tab) (ins : List IniD) (ex : Frag → Bool) (w : World) (K : Frag) : Prop where
  t : He.SaysT fa fn ts w K
  more : ex K = true
  ini : ∀ d ∈ ins, iniW K d.cls = d.val
abbrev AlI : Type := (He.AlT × Bool) × List IniW
def obsI (fa : List He.Fa) (fn : List He.DefD) (ts : List He.Tab) (ins : List IniD) (ex : Frag → Bool) (K : Frag) : AlI := ((He.obsT fa fn ts K, ex K), ins.map fun d => iniW K d.cls)
def valI (fn : List He.DefD) (ts : List He.Tab) (ins : List IniD) (w : World) : AlI := ((He.valT fn ts w, true), ins.map IniD.val)
def asI (g : Addr → Option Obj) : Nat → List Addr
  | 0 => [mainGlobals, cStatics]
  | n + 1 => He.growD g (asI g n)
def obsIG (n : Nat) (fa : List He.Fa) (fn : List He.DefD) (ts : List He.Tab) (ins : List IniD) (ex : Frag → Bool) (g : Addr → Option Obj) : AlI := obsI fa fn ts ins ex (He.frG g (asI g n))
theorem map_ext_mem {α β : Type} {f g : α → β} : ∀ {l : List α}, l.map f = l.map g → ∀ x ∈ l, f x = g x
  | [], _, x, h => by simp at h
  | a :: l, e, x, h => by
    simp only [List.map_cons, List.cons.injEq] at e
    rcases List.mem_cons.mp h with q | q
    · rw [q]; exact e.1
    · exact map_ext_mem e.2 x q
theorem saysI_of {fa : List He.Fa} {fn : List He.DefD} {ts : List He.Tab} {ins : List IniD} {ex : Frag → Bool} {w : World} {K : Frag} (e : obsI fa fn ts ins ex K = valI fn ts ins w) : SaysI fa fn ts ins ex w K := by
  have e1 : (He.obsT fa fn ts K, ex K) = (He.valT fn ts w, true) := congrArg (fun z : AlI => z.1) e
  have e2 : ins.map (fun d => iniW K d.cls) = ins.map IniD.val := congrArg (fun z : AlI => z.2) e
  exact ⟨congrArg (fun z : He.AlT × Bool => z.1) e1, congrArg (fun z : He.AlT × Bool => z.2) e1, fun d h => map_ext_mem e2 d h⟩
def hookI (n : Nat) (fa : List He.Fa) (fn : List He.DefD) (ts : List He.Tab) (ins : List IniD) (ex : Frag → Bool) : PySem.W.Hook where
  α := AlI
  obs := fun s => obsIG n fa fn ts ins ex s.heap.get?
  val := fun w => valI fn ts ins w
  says := fun w h => ∃ K : Frag, K.In h ∧ SaysI fa fn ts ins ex w K
  of := fun _ _ e => ⟨_, He.frG_in, saysI_of e⟩
  keeps := fun _ _ _ ⟨K, hK, c⟩ k => ⟨K, PySem.W.Frag.In.keeps hK k, c⟩
theorem obsIG_eq {n : Nat} {fa : List He.Fa} {fn : List He.DefD} {ts : List He.Tab} {ins : List IniD} {ex : Frag → Bool} {g : Addr → Option Obj} {s : Shared} (h : ∀ a, g a = s.heap.get? a) : obsIG n fa fn ts ins ex g = (hookI n fa fn ts ins ex).obs s := by
  have e : g = s.heap.get? := funext h
  rw [e] <;> rfl
/-! ### the classes -/
def eqV (a b : Option (Option Value)) : Bool := decide (a = b)
/-- a class over the built-in error B -/
def exB (B newId : String) (bmB : List Value) (K : Frag) (C : Addr) : Bool := excInitIn K C bmB newId && ((clsIn K C).any (fun cd => excTail bmB cd.mro && (!cd.mro.isEmpty && cd.hasDict)) && (eqV (findIn K (.ref C) "__setattr__") (some (some (.builtin "object.__setattr__"))) && (decide (subIn K (.ref C) (.type B) = some true) && eqV (nsIn K cStatics "thirdparty.any") (some none))))
theorem exB_ok {B newId i : String} {bmB : List Value} {K : Frag} {C : Addr} (kf : KxsFacts B i) (fb : ExcBaseFacts B newId i bmB) (st : StoreFacts B bmB "object.__setattr__" "object") (h : exB B newId bmB K C = true) : ExC K C B newId i bmB := by
  unfold exB at h
  simp only [Bool.and_eq_true] at h
  obtain ⟨h1, h2, h3, h4, h5⟩ := h
  refine ⟨kf, fb, st, h1, ?_, of_decide_eq_true h3, of_decide_eq_true h4, of_decide_eq_true h5⟩
  cases e : clsIn K C with
  | none => rw [e] at h2; cases h2
  | some cd =>
    rw [e] at h2
    have h2 : (excTail bmB cd.mro && (!cd.mro.isEmpty && cd.hasDict)) = true := h2
    simp only [Bool.and_eq_true, Bool.not_eq_true'] at h2
    exact ⟨cd, rfl, h2.1, h2.2.1, h2.2.2⟩
/-- what every error class has -/
def anB (K : Frag) (C f : Addr) : Bool := keepIn K (.ref C) && (decide (subIn K (.ref C) (.type "BaseException") = some true) && (decide (typeIn K (.ref C) = some (.type "type")) && (eqV (findIn K (.ref C) "__init__") (some (some (.ref f))) && (decide (typeIn K (.ref f) = some (.type "function")) && (fnIn K f && (decide (mroIn K C (.ref C) = some true)
  && (eqV (findIn K (.ref C) "__getattribute__") (some (some (.builtin "BaseException.__getattribute__"))) && (eqV (findIn K (.ref C) "__getattr__") (some none) && (hasDictIn K C && (eqV (findIn K (.ref C) "__class__") (some (some (.builtin "object.__class__"))) && (eqV (specialIn K (.builtin "object.__class__") "__get__") (some (some (.builtin "getset_descriptor.__get__"))) && (decide (takesIn K (.builtin "object.__class__") = some true) && decide (mroIn K C (.type "object") = some true)))))))))))))
structure AnC (K : Frag) (C f : Addr) : Prop where
  kp : keepIn K (.ref C) = true
  exC : subIn K (.ref C) (.type "BaseException") = some true
  tyC : typeIn K (.ref C) = some (.type "type")
  iC : findIn K (.ref C) "__init__" = some (some (.ref f))
  tf : typeIn K (.ref f) = some (.type "function")
  fn : fnIn K f = true
  mC : mroIn K C (.ref C) = some true
  xf : XfC K C
  xc : ExcC K C
theorem anB_ok {K : Frag} {C f : Addr} (h : anB K C f = true) : AnC K C f := by
  unfold anB at h
  simp only [Bool.and_eq_true] at h
  obtain ⟨h1, h2, h3, h4, h5, h6, h7, h8, h9, h10, h11, h12, h13, h14⟩ := h
  have e2 := of_decide_eq_true h2
  have e8 := of_decide_eq_true h8
  have e9 := of_decide_eq_true h9
  exact ⟨h1, e2, of_decide_eq_true h3, of_decide_eq_true h4, of_decide_eq_true h5, h6, of_decide_eq_true h7, ⟨e8, e9, e2, h10⟩, ⟨e8, e9, e2, h10, of_decide_eq_true h11, of_decide_eq_true h12, of_decide_eq_true h13, of_decide_eq_true h14⟩⟩
end XO
end PySem
set_option Elab.async false
set_option linter.all false
set_option maxRecDepth 100000
set_option maxHeartbeats 4000000
namespace PySem
namespace XO
open PySem.W PySem.Calls PyProof.Rows PySem.HandSPX L2
section
variable {prog : Program} {w : World} {K : Frag} {mg : Str → Option Value} {base : Heap}
variable {C D f f2 cc cda : Addr} {qual : Str} {ps : Arguments} {scope : Scope} {fd : FuncData} {B newId i : String} {bmB : List Value}
/-- def __init__(self, a, b): super().__init__("N"); self.a = a; self.b = b -/
theorem sub2_ok (EC : ExC K C B newId i bmB) {a b : Str} (na : findIn K (.ref C) a = some none) (nb : findIn K (.ref C) b = some none) {p0 p1 p2 p3 p4 r0 q0 q1 q2 r1 q3 q4 q5 r2 : Pos} {N : Str} {j0 n : Nat} (T : Ini prog K C f qual ps [.Expr (supC p0 p1 p2 p3 (.Constant (.str N) j0 r0)) p4, setS a q0 q1 q2 (.Name a r1), setS b q3 q4 q5 (.Name b r2)] scope cc cda fd) (Md : Mod K mg base) (hms : mg "super" = none) (htop : (prog.main.scope.names.lookup ("super" : Str)).isSome = false)
    (hm : ks_superIn K C C "__init__" = some (some (.ref f2))) (ht : typeIn K (.ref f2) = some (.type "function")) (hfn : fnIn K f2 = true) (hsub : mroIn K C (.ref C) = some true) (kal : scope.names.lookup a = some .local) (kbl : scope.names.lookup b = some .local) (had : (a == ("__debug__" : Str)) = false) (hbd : (b == ("__debug__" : Str)) = false) (has : a ≠ "self") (hbs : b ≠ "self") (hab : a ≠ b)
    {pl : Addr → Sem Bool} (hev : ∀ L, eval (supC p0 p1 p2 p3 (.Constant (.str N) j0 r0)) (ksEnv qual scope L f (.ref cda) cc) = (do
      let ov ← attributeBase (.Call (.Name "super" p0) [] [] p1) "__init__" (ksEnv qual scope L f (.ref cda) cc) (eval (.Call (.Name "super" p0) [] [] p1) (ksEnv qual scope L f (.ref cda) cc))
      standAt p2.atName
      let (f2, first) ← holding [ov] (getMethod ov "__init__" (pl L))
      callWith p3 f2 first (backTo p3 (starEach [.Constant (.str N) j0 r0] (ksEnv qual scope L f (.ref cda) cc))) []))
    (hbind : ∀ s x v u, BindsTo s fd ⟨[x, v, u], []⟩ [("self", x), (a, v), (b, u)]) (BO : ∀ v, InitOk prog w K mg base n C f2 [v] (fun mA => mA = fun (y : Str) => if y = "code" then some v else none)) (u v : Value) :
    InitOk prog w K mg base (n + 1) C f [u, v] (fun mA => ∃ t, mA = fun (y : Str) => if y = b then some v else if y = a then some u else if y = "code" then some (.str N t) else none) := by
  have eab : (a == b) = false := by simpa using hab
  have lb : ∀ x : Value, List.lookup b [(b, v), (a, u), (("self" : Str), x)] = some v := fun x => by simp [List.lookup]
  have la : ∀ x : Value, List.lookup a [(b, v), (a, u), (("self" : Str), x)] = some u := fun x => by simp [List.lookup, eab]
  have ls : ∀ x : Value, List.lookup ("self" : Str) [(b, v), (a, u), (("self" : Str), x)] = some x := fun x => by
    have h1 : (("self" : Str) == a) = false := by simpa using fun e => has e.symm
    have h2 : (("self" : Str) == b) = false := by simpa using fun e => hbs e.symm
    simp [List.lookup, h1, h2]
  refine sub_init EC (P := fun v => ∃ t, v = .str N t) (bs := fun x => [("self", x), (a, u), (b, v)]) T Md hms htop hm ht hfn hsub (fun s x => hbind s x u v) (fun x y hy => ?_) (fun x => ls x) (fun A L x => sim_str) (fun L => rfl) hev (fun L => rfl) (fun v _ => BO v) ?_
  · have hy' : y = (("self" : Str), x) ∨ y = (a, u) ∨ y = (b, v) := by simpa using hy
    rcases hy' with e | e | e
    · rw [e]; exact T.ka
    · rw [e]; exact kal
    · rw [e]; exact kbl
  · intro A E Q L x t1 dx vv hh g d t os ⟨tv, ev⟩ X hn hx n1 n2 n3 nK hns hq
    subst ev
    refine set_more EC na (P := (· = u)) X hn hx hns (nl := ["code"]) (Within.cons "code" (.str N tv) Within.nil) (by decide) (sim_name T.kd kal (la (.ref x)) had) (sim_name T.kd T.ka (ls (.ref x)) (by decide)) rfl fun h1 tk1 v1 hv1 k1 ns1 => ?_
    subst hv1
    have X1 : K.In h1 := fun c o z => k1 c o (fun e => by rw [e, nK] at z; cases z) (X c o z)
    have hn1 : h1.Ns L (fun y => List.lookup y [(b, v), (a, v1), (("self" : Str), Value.ref x)]) := hn.at fun o z => k1 _ o n1.symm z
    refine set_more EC nb (P := (· = v)) X1 hn1 (k1 _ _ n3.symm hx) ns1 (nl := [a, "code"]) (Within.cons a v1 (Within.cons "code" (.str N tv) Within.nil)) (by show 2 ≤ 1000; decide) (sim_name T.kd kbl (lb (.ref x)) hbd) (sim_name T.kd T.ka (ls (.ref x)) (by decide)) rfl fun h2 tk2 v2 hv2 k2 ns2 => ?_
    subst hv2
    exact wpAny_execs_nil (hq h2 tk2 _ ⟨tv, rfl⟩ (fun c o hc z => k2 c o hc (k1 c o hc z)) ns2)
/-- an error class, out of its __init__ -/
theorem err_of (EC : ExC K C B newId i bmB) (AC : AnC K C f) {code : Str} {names : List Str} {n : Nat} (hz : names.length ≤ 1000)
    (IO : Mod K mg base → ∀ us : List Value, us.length = names.length → InitOk prog w K mg base n C f us (fun mA => ∃ t, ∀ y, mA y = List.lookup y ((("code" : Str), Value.str code t) :: names.zip us))) : Err prog w K mg base (n + 1) C code names :=
  ⟨AC.kp, AC.exC, AC.tyC, fun Md us hl A R s bk hlim hroom hq => made EC Md AC.iC AC.tf (by rw [hl, sizeLine_eq]; omega) (IO Md us hl) bk hlim hroom fun h' tk e d mA ⟨t, hm⟩ M => hq h' tk e d mA t hm M⟩
theorem look1 {a : Str} {u c : Value} (ha : a ≠ "code") (y : Str) : (if y = a then some u else if y = "code" then some c else none) = List.lookup y [(("code" : Str), c), (a, u)] := by
  simp only [List.lookup_cons, List.lookup_nil]
  by_cases h1 : y = a
  · subst h1
    have : (y == ("code" : Str)) = false := by simpa using ha
    simp [this]
  · by_cases h2 : y = "code"
    · subst h2; simp [h1]
    · have e1 : (y == ("code" : Str)) = false := by simpa using h2
      have e2 : (y == a) = false := by simpa using h1
      simp [h1, h2, e1, e2]
theorem look0 {c : Value} (y : Str) : (if y = "code" then some c else none) = List.lookup y [(("code" : Str), c)] := by
  simp only [List.lookup_cons, List.lookup_nil]
  by_cases h2 : y = "code"
  · subst h2; simp
  · have e1 : (y == ("code" : Str)) = false := by simpa using h2
    simp [h2, e1]
end
end XO
end PySem
set_option Elab.async false
set_option linter.all false
set_option maxRecDepth 100000
set_option maxHeartbeats 4000000
namespace PySem
namespace XO
open PySem.W PySem.Calls PyProof.Rows PySem.HandSPX L2
/-- a built-in error beneath the text's classes -/
structure Lib (B newId i : String) (bmB : List Value) : Prop where
  kf : KxsFacts B i
  fb : ExcBaseFacts B newId i bmB
  st : StoreFacts B bmB "object.__setattr__" "object"
abbrev bmV : List Value := [.type "ValueError", .type "Exception", .type "BaseException", .type "object"]
abbrev bmL : List Value := [.type "LookupError", .type "Exception", .type "BaseException", .type "object"]
abbrev bmX : List Value := [.type "IndexError", .type "LookupError", .type "Exception", .type "BaseException", .type "object"]
theorem lib_V : Lib "ValueError" "ValueError.__new__" "ValueError.__init__" bmV := ⟨kxs_ValueError, F.excBase_ValueError, F.store_ValueError⟩
theorem lib_L : Lib "LookupError" "LookupError.__new__" "LookupError.__init__" bmL := ⟨kxs_LookupError, F.excBase_LookupError, F.store_LookupError⟩
theorem lib_X : Lib "IndexError" "IndexError.__new__" "IndexError.__init__" bmX := ⟨kxs_IndexError, F.excBase_IndexError, F.store_IndexError⟩
/-- a class, seen: fields that it does not have itself -/
def clsB (prog : Program) (B newId : String) (bmB : List Value) (K : Frag) (d : IniD) (fs : List Str) : Bool :=
  exB B newId bmB K (He.ga K d.cls) && (anB K (He.ga K d.cls) (iniF K d.cls) && (iniB prog K d && fs.all fun f => eqV (findIn K (.ref (He.ga K d.cls)) f) (some none)))
/-- a class c over D over a built-in -/
def overB (i : String) (K : Frag) (c D : Str) : Bool :=
  eqV (ks_superIn K (He.ga K c) (He.ga K c) "__init__") (some (some (.ref (iniF K D)))) && (eqV (ks_superIn K (He.ga K c) (He.ga K D) "__init__") (some (some (.builtin i))) && decide (mroIn K (He.ga K c) (.ref (He.ga K D)) = some true))
def over0B (i : String) (K : Frag) (c : Str) : Bool := eqV (ks_superIn K (He.ga K c) (He.ga K c) "__init__") (some (some (.builtin i)))
theorem eqV_ok {a b : Option (Option Value)} (h : eqV a b = true) : a = b := of_decide_eq_true h
structure ClsO (prog : Program) (B newId i : String) (bmB : List Value) (K : Frag) (d : IniD) (fs : List Str) : Prop where
  ec : ExC K (He.ga K d.cls) B newId i bmB
  an : AnC K (He.ga K d.cls) (iniF K d.cls)
  ini : ∃ cc cda fd, Ini prog K (He.ga K d.cls) (iniF K d.cls) d.qual d.params d.body d.scope cc cda fd
  na : ∀ f ∈ fs, findIn K (.ref (He.ga K d.cls)) f = some none
theorem clsO_of {prog : Program} {B newId i : String} {bmB : List Value} {K : Frag} {d : IniD} {fs : List Str} (lb : Lib B newId i bmB) (S : IniS d) (e : iniW K d.cls = d.val) (h : clsB prog B newId bmB K d fs = true) : ClsO prog B newId i bmB K d fs := by
  unfold clsB at h
  simp only [Bool.and_eq_true, List.all_eq_true] at h
  obtain ⟨h1, h2, h3, h4⟩ := h
  exact ⟨exB_ok lb.kf lb.fb lb.st h1, anB_ok h2, ini_of e h3 S, fun f hf => eqV_ok (h4 f hf)⟩
section
variable {prog : Program} {w : World} {K : Frag} {mg : Str → Option Value} {base : Heap} {B newId i : String} {bmB : List Value}
abbrev HevT (d : IniD) (p0 p1 p2 p3 : Pos) (e : Expr) : Prop := ∃ pl : Addr → Addr → Addr → Addr → Sem Bool, ∀ L f cda cc, eval (supC p0 p1 p2 p3 e) (ksEnv d.qual d.scope L f (.ref cda) cc) = (do
      let ov ← attributeBase (.Call (.Name "super" p0) [] [] p1) "__init__" (ksEnv d.qual d.scope L f (.ref cda) cc) (eval (.Call (.Name "super" p0) [] [] p1) (ksEnv d.qual d.scope L f (.ref cda) cc))
      standAt p2.atName
      let (f2, first) ← holding [ov] (getMethod ov "__init__" (pl L f cda cc))
      callWith p3 f2 first (backTo p3 (starEach [e] (ksEnv d.qual d.scope L f (.ref cda) cc))) [])
/-- the text of a base class: def __init__(self, code): super().__init__(code); self.code = code -/
structure BaseT (d : IniD) : Prop where
  body : ∃ p0 p1 p2 p3 p4 q0 q1 q2 r0 r1, d.body = [.Expr (supC p0 p1 p2 p3 (.Name "code" r0)) p4, setS "code" q0 q1 q2 (.Name "code" r1)] ∧ HevT d p0 p1 p2 p3 (.Name "code" r0)
  kc : d.scope.names.lookup ("code" : Str) = some .local
  bd : ∀ doc pm an cdv ct cc x v, bindArgs (ksFn "__init__" d.qual d.params d.body d.scope .none .none doc pm an cdv ct cc) ⟨[x, v], []⟩ = pure [(("self" : Str), x), (("code" : Str), v)]
structure Sub0T (d : IniD) (N : Str) : Prop where
  body : ∃ p0 p1 p2 p3 p4 j0 r0, d.body = [.Expr (supC p0 p1 p2 p3 (.Constant (.str N) j0 r0)) p4] ∧ HevT d p0 p1 p2 p3 (.Constant (.str N) j0 r0)
  bd : ∀ doc pm an cdv ct cc x, bindArgs (ksFn "__init__" d.qual d.params d.body d.scope .none .none doc pm an cdv ct cc) ⟨[x], []⟩ = pure [(("self" : Str), x)]
structure Base0T (d : IniD) (N : Str) : Prop where
  body : ∃ p0 p1 p2 p3 p4 q0 q1 q2 j0 j1 r0 r1, d.body = [.Expr (supC p0 p1 p2 p3 (.Constant (.str N) j0 r0)) p4, setS "code" q0 q1 q2 (.Constant (.str N) j1 r1)] ∧ HevT d p0 p1 p2 p3 (.Constant (.str N) j0 r0)
  bd : ∀ doc pm an cdv ct cc x, bindArgs (ksFn "__init__" d.qual d.params d.body d.scope .none .none doc pm an cdv ct cc) ⟨[x], []⟩ = pure [(("self" : Str), x)]
structure Sub1T (d : IniD) (N a : Str) : Prop where
  body : ∃ p0 p1 p2 p3 p4 q0 q1 q2 j0 r0 r1, d.body = [.Expr (supC p0 p1 p2 p3 (.Constant (.str N) j0 r0)) p4, setS a q0 q1 q2 (.Name a r1)] ∧ HevT d p0 p1 p2 p3 (.Constant (.str N) j0 r0)
  ka : d.scope.names.lookup a = some .local
  nm : (a == ("__debug__" : Str)) = false ∧ a ≠ "self" ∧ a ≠ "code"
  bd : ∀ doc pm an cdv ct cc x v, bindArgs (ksFn "__init__" d.qual d.params d.body d.scope .none .none doc pm an cdv ct cc) ⟨[x, v], []⟩ = pure [(("self" : Str), x), (a, v)]
structure Sub2T (d : IniD) (N a b : Str) : Prop where
  body : ∃ p0 p1 p2 p3 p4 q0 q1 q2 q3 q4 q5 j0 r0 r1 r2, d.body = [.Expr (supC p0 p1 p2 p3 (.Constant (.str N) j0 r0)) p4, setS a q0 q1 q2 (.Name a r1), setS b q3 q4 q5 (.Name b r2)] ∧ HevT d p0 p1 p2 p3 (.Constant (.str N) j0 r0)
  ka : d.scope.names.lookup a = some .local
  kb : d.scope.names.lookup b = some .local
  nm : (a == ("__debug__" : Str)) = false ∧ a ≠ "self" ∧ a ≠ "code"
  nn : (b == ("__debug__" : Str)) = false ∧ b ≠ "self" ∧ b ≠ "code"
  ab : a ≠ b
  bd : ∀ doc pm an cdv ct cc x v u, bindArgs (ksFn "__init__" d.qual d.params d.body d.scope .none .none doc pm an cdv ct cc) ⟨[x, v, u], []⟩ = pure [(("self" : Str), x), (a, v), (b, u)]
structure TopO (prog : Program) (mg : Str → Option Value) : Prop where
  sup : mg "super" = none
  top : (prog.main.scope.names.lookup ("super" : Str)).isSome = false
variable {d dD : IniD} {fs gs : List Str} {newB iB : String} {bB : List Value}
theorem overB_ok {c D : Str} (h : overB i K c D = true) : ks_superIn K (He.ga K c) (He.ga K c) "__init__" = some (some (.ref (iniF K D))) ∧ ks_superIn K (He.ga K c) (He.ga K D) "__init__" = some (some (.builtin i)) ∧ mroIn K (He.ga K c) (.ref (He.ga K D)) = some true := by
  unfold overB at h
  simp only [Bool.and_eq_true] at h
  exact ⟨eqV_ok h.1, eqV_ok h.2.1, of_decide_eq_true h.2.2⟩
/-- the base class's __init__, for the class c -/
theorem base_in (T : TopO prog mg) (O : ClsO prog B newId i bmB K d fs) (OD : ClsO prog B newId i bmB K dD gs) (TD : BaseT dD) (hc : ("code" : Str) ∈ fs) (ov : overB i K d.cls dD.cls = true) (Md : Mod K mg base) (v : Value) : InitOk prog w K mg base 0 (He.ga K d.cls) (iniF K dD.cls) [v] (fun mA => mA = fun (y : Str) => if y = "code" then some v else none) := by
  obtain ⟨h1, h2, h3⟩ := overB_ok ov
  obtain ⟨cc, cda, fd, I⟩ := OD.ini
  obtain ⟨p0, p1, p2, p3, p4, q0, q1, q2, r0, r1, eb, pl, hev⟩ := TD.body
  have hfd := I.fn
  rw [eb] at I
  obtain ⟨cdD, hcd, _⟩ := OD.ec.cd
  refine base_ok O.ec (O.na _ hc) I Md T.sup T.top h2 hcd h3 TD.kc (fun L => hev L _ _ _) (fun s x v => ?_) v
  obtain ⟨oc, od, doc, pm, an, ct, osl, rfl, _⟩ := hfd
  exact .of_eq (TD.bd _ _ _ _ _ _ _ _)
theorem err_sub0 {N : Str} (T : TopO prog mg) (O : ClsO prog B newId i bmB K d fs) (OD : ClsO prog B newId i bmB K dD gs) (TD : BaseT dD) (TS : Sub0T d N) (hc : ("code" : Str) ∈ fs) (ov : overB i K d.cls dD.cls = true) : Err prog w K mg base 2 (He.ga K d.cls) N [] := by
  obtain ⟨h1, h2, h3⟩ := overB_ok ov
  obtain ⟨cc, cda, fd, I⟩ := O.ini
  obtain ⟨p0, p1, p2, p3, p4, j0, r0, eb, pl, hev⟩ := TS.body
  have hfd := I.fn
  rw [eb] at I
  refine err_of O.ec O.an (by decide) fun Md us hl => ?_
  match us, hl with
  | [], _ =>
    have k := sub0_ok (n := 0) (w := w) O.ec I Md T.sup T.top h1 OD.an.tf OD.an.fn O.an.mC (fun L => hev L _ _ _) (fun s x => ?_) fun v => base_in (w := w) T O OD TD hc ov Md v
    · exact fun A R s x t0 a b c e f g => k A R s x t0 a b c e f fun h' tk dx mA ⟨t, ht⟩ => g h' tk dx mA ⟨t, fun y => by rw [ht]; exact look0 y⟩
    · obtain ⟨oc, od, doc, pm, an, ct, osl, rfl, _⟩ := hfd
      exact .of_eq (TS.bd _ _ _ _ _ _ _)
theorem err_base0 {N : Str} (T : TopO prog mg) (O : ClsO prog B newId i bmB K d fs) (TS : Base0T d N) (hc : ("code" : Str) ∈ fs) (ov : over0B i K d.cls = true) : Err prog w K mg base 1 (He.ga K d.cls) N [] := by
  obtain ⟨cc, cda, fd, I⟩ := O.ini
  obtain ⟨p0, p1, p2, p3, p4, q0, q1, q2, j0, j1, r0, r1, eb, pl, hev⟩ := TS.body
  have hfd := I.fn
  rw [eb] at I
  refine err_of O.ec O.an (by decide) fun Md us hl => ?_
  match us, hl with
  | [], _ =>
    have k := base0_ok (w := w) O.ec (O.na _ hc) I Md T.sup T.top (eqV_ok ov) O.an.mC (fun L => hev L _ _ _) (fun s x => ?_)
    · exact fun A R s x t0 a b c e f g => k A R s x t0 a b c e f fun h' tk dx mA ⟨t, ht⟩ => g h' tk dx mA ⟨t, fun y => by rw [ht]; exact look0 y⟩
    · obtain ⟨oc, od, doc, pm, an, ct, osl, rfl, _⟩ := hfd
      exact .of_eq (TS.bd _ _ _ _ _ _ _)
theorem err_sub1 {N a : Str} (T : TopO prog mg) (O : ClsO prog B newId i bmB K d fs) (OD : ClsO prog B newId i bmB K dD gs) (TD : BaseT dD) (TS : Sub1T d N a) (hc : ("code" : Str) ∈ fs) (ha : a ∈ fs) (ov : overB i K d.cls dD.cls = true) : Err prog w K mg base 2 (He.ga K d.cls) N [a] := by
  obtain ⟨h1, h2, h3⟩ := overB_ok ov
  obtain ⟨cc, cda, fd, I⟩ := O.ini
  obtain ⟨p0, p1, p2, p3, p4, q0, q1, q2, j0, r0, r1, eb, pl, hev⟩ := TS.body
  have hfd := I.fn
  rw [eb] at I
  refine err_of O.ec O.an (by show 1 ≤ 1000; decide) fun Md us hl => ?_
  match us, hl with
  | [u], _ =>
    have k := sub1_ok (n := 0) (w := w) O.ec (O.na _ ha) I Md T.sup T.top h1 OD.an.tf OD.an.fn O.an.mC TS.ka TS.nm.1 TS.nm.2.1 (fun L => hev L _ _ _) (fun s x v => ?_) (fun v => base_in (w := w) T O OD TD hc ov Md v) u
    · exact fun A R s x t0 a b c e f g => k A R s x t0 a b c e f fun h' tk dx mA ⟨t, ht⟩ => g h' tk dx mA ⟨t, fun y => by rw [ht]; exact look1 TS.nm.2.2 y⟩
    · obtain ⟨oc, od, doc, pm, an, ct, osl, rfl, _⟩ := hfd
      exact .of_eq (TS.bd _ _ _ _ _ _ _ _)
theorem look2 {a b : Str} {u v c : Value} (ha : a ≠ "code") (hb : b ≠ "code") (hab : a ≠ b) (y : Str) : (if y = b then some v else if y = a then some u else if y = "code" then some c else none) = List.lookup y [(("code" : Str), c), (a, u), (b, v)] := by
  simp only [List.lookup_cons, List.lookup_nil]
  by_cases h2 : y = "code"
  · subst h2
    have e1 : ¬ ("code" : Str) = b := fun e => hb e.symm
    have e2 : ¬ ("code" : Str) = a := fun e => ha e.symm
    simp [e1, e2]
  · have k2 : (y == ("code" : Str)) = false := by simpa using h2
    by_cases h1 : y = a
    · subst h1
      simp [k2, hab]
    · have k1 : (y == a) = false := by simpa using h1
      by_cases h3 : y = b
      · subst h3; simp [k2, k1]
      · have k3 : (y == b) = false := by simpa using h3
        simp [h1, h2, h3, k1, k2, k3]
theorem err_sub2 {N a b : Str} (T : TopO prog mg) (O : ClsO prog B newId i bmB K d fs) (OD : ClsO prog B newId i bmB K dD gs) (TD : BaseT dD) (TS : Sub2T d N a b) (hc : ("code" : Str) ∈ fs) (ha : a ∈ fs) (hb : b ∈ fs) (ov : overB i K d.cls dD.cls = true) : Err prog w K mg base 2 (He.ga K d.cls) N [a, b] := by
  obtain ⟨h1, h2, h3⟩ := overB_ok ov
  obtain ⟨cc, cda, fd, I⟩ := O.ini
  obtain ⟨p0, p1, p2, p3, p4, q0, q1, q2, q3, q4, q5, j0, r0, r1, r2, eb, pl, hev⟩ := TS.body
  have hfd := I.fn
  rw [eb] at I
  refine err_of O.ec O.an (by show 2 ≤ 1000; decide) fun Md us hl => ?_
  match us, hl with
  | [u, v], _ =>
    have k := sub2_ok (n := 0) (w := w) O.ec (O.na _ ha) (O.na _ hb) I Md T.sup T.top h1 OD.an.tf OD.an.fn O.an.mC TS.ka TS.kb TS.nm.1 TS.nn.1 TS.nm.2.1 TS.nn.2.1 TS.ab (fun L => hev L _ _ _) (fun s x v u => ?_) (fun v => base_in (w := w) T O OD TD hc ov Md v) u v
    · exact fun A R s x t0 a b c e f g => k A R s x t0 a b c e f fun h' tk dx mA ⟨t, ht⟩ => g h' tk dx mA ⟨t, fun y => by rw [ht]; exact look2 TS.nm.2.2 TS.nn.2.2 TS.ab y⟩
    · obtain ⟨oc, od, doc, pm, an, ct, osl, rfl, _⟩ := hfd
      exact .of_eq (TS.bd _ _ _ _ _ _ _ _ _)
end
end XO
end PySem
set_option Elab.async false
set_option linter.all false
set_option maxRecDepth 100000
set_option maxHeartbeats 4000000
namespace LW
open PySem PySem.Spec PyProof.Rows L2 EV PySem.XO PySem.W
def clsS (i j : Nat) : Stmt := match topS i with
  | .ClassDef _ _ _ body _ _ _ _ _ _ _ => body.getD j (.Pass ⟨0, 0, 0, 0⟩)
  | _ => .Pass ⟨0, 0, 0, 0⟩
abbrev Pr : Program := PySem.Challenge.pw_oncethrough_k11_limits_of_sayings
abbrev st_OnceError : Stmt := clsS 2 0
def in_OnceError : IniD := ⟨"OnceError", "OnceError.__init__", defArgs st_OnceError, defBody st_OnceError, defScope st_OnceError⟩
theorem is_OnceError : IniS in_OnceError := ⟨⟨_, rfl, rfl⟩, rfl, rfl, rfl, rfl, by decide +kernel, rfl, rfl, fun _ _ _ _ => rfl⟩
theorem tx_OnceError : BaseT in_OnceError := ⟨⟨_, _, _, _, _, _, _, _, _, _, rfl, _, fun _ _ _ _ => rfl⟩, rfl, fun _ _ _ _ _ _ _ _ => rfl⟩
def cb_OnceError (K : Frag) : Bool := clsB Pr "ValueError" "ValueError.__new__" bmV K in_OnceError ["code"]
abbrev st_Missing : Stmt := clsS 3 0
def in_Missing : IniD := ⟨"Missing", "Missing.__init__", defArgs st_Missing, defBody st_Missing, defScope st_Missing⟩
theorem is_Missing : IniS in_Missing := ⟨⟨_, rfl, rfl⟩, rfl, rfl, rfl, rfl, by decide +kernel, rfl, rfl, fun _ _ _ _ => rfl⟩
theorem tx_Missing : BaseT in_Missing := ⟨⟨_, _, _, _, _, _, _, _, _, _, rfl, _, fun _ _ _ _ => rfl⟩, rfl, fun _ _ _ _ _ _ _ _ => rfl⟩
def cb_Missing (K : Frag) : Bool := clsB Pr "LookupError" "LookupError.__new__" bmL K in_Missing ["code"]
abbrev st_NothingLeft : Stmt := clsS 4 0
def in_NothingLeft : IniD := ⟨"NothingLeft", "NothingLeft.__init__", defArgs st_NothingLeft, defBody st_NothingLeft, defScope st_NothingLeft⟩
theorem is_NothingLeft : IniS in_NothingLeft := ⟨⟨_, rfl, rfl⟩, rfl, rfl, rfl, rfl, by decide +kernel, rfl, rfl, fun _ _ _ _ => rfl⟩
theorem tx_NothingLeft : Base0T in_NothingLeft "NothingLeft" := ⟨⟨_, _, _, _, _, _, _, _, _, _, _, _, rfl, _, fun _ _ _ _ => rfl⟩, fun _ _ _ _ _ _ _ => rfl⟩
def cb_NothingLeft (K : Frag) : Bool := clsB Pr "IndexError" "IndexError.__new__" bmX K in_NothingLeft ["code"] && over0B "IndexError.__init__" K "NothingLeft"
abbrev st_InvalidNames : Stmt := clsS 5 0
def in_InvalidNames : IniD := ⟨"InvalidNames", "InvalidNames.__init__", defArgs st_InvalidNames, defBody st_InvalidNames, defScope st_InvalidNames⟩
theorem is_InvalidNames : IniS in_InvalidNames := ⟨⟨_, rfl, rfl⟩, rfl, rfl, rfl, rfl, by decide +kernel, rfl, rfl, fun _ _ _ _ => rfl⟩
theorem tx_InvalidNames : Sub1T in_InvalidNames "InvalidNames" "given" := ⟨⟨_, _, _, _, _, _, _, _, _, _, _, rfl, _, fun _ _ _ _ => rfl⟩, rfl, ⟨by decide, by decide, by decide⟩, fun _ _ _ _ _ _ _ _ => rfl⟩
def cb_InvalidNames (K : Frag) : Bool := clsB Pr "ValueError" "ValueError.__new__" bmV K in_InvalidNames ["code", "given"] && overB "ValueError.__init__" K "InvalidNames" "OnceError"
abbrev st_InvalidSaying : Stmt := clsS 6 0
def in_InvalidSaying : IniD := ⟨"InvalidSaying", "InvalidSaying.__init__", defArgs st_InvalidSaying, defBody st_InvalidSaying, defScope st_InvalidSaying⟩
theorem is_InvalidSaying : IniS in_InvalidSaying := ⟨⟨_, rfl, rfl⟩, rfl, rfl, rfl, rfl, by decide +kernel, rfl, rfl, fun _ _ _ _ => rfl⟩
theorem tx_InvalidSaying : Sub1T in_InvalidSaying "InvalidSaying" "given" := ⟨⟨_, _, _, _, _, _, _, _, _, _, _, rfl, _, fun _ _ _ _ => rfl⟩, rfl, ⟨by decide, by decide, by decide⟩, fun _ _ _ _ _ _ _ _ => rfl⟩
def cb_InvalidSaying (K : Frag) : Bool := clsB Pr "ValueError" "ValueError.__new__" bmV K in_InvalidSaying ["code", "given"] && overB "ValueError.__init__" K "InvalidSaying" "OnceError"
abbrev st_InvalidText : Stmt := clsS 7 0
def in_InvalidText : IniD := ⟨"InvalidText", "InvalidText.__init__", defArgs st_InvalidText, defBody st_InvalidText, defScope st_InvalidText⟩
theorem is_InvalidText : IniS in_InvalidText := ⟨⟨_, rfl, rfl⟩, rfl, rfl, rfl, rfl, by decide +kernel, rfl, rfl, fun _ _ _ _ => rfl⟩
theorem tx_InvalidText : Sub1T in_InvalidText "InvalidText" "line" := ⟨⟨_, _, _, _, _, _, _, _, _, _, _, rfl, _, fun _ _ _ _ => rfl⟩, rfl, ⟨by decide, by decide, by decide⟩, fun _ _ _ _ _ _ _ _ => rfl⟩
def cb_InvalidText (K : Frag) : Bool := clsB Pr "ValueError" "ValueError.__new__" bmV K in_InvalidText ["code", "line"] && overB "ValueError.__init__" K "InvalidText" "OnceError"
def erN : List Str := ["NothingLeft", "InvalidNames", "InvalidSaying", "InvalidText"]
def erA (K : Frag) : List Addr := erN.map (He.ga K)
def fN_given : List Str := ["InvalidNames", "InvalidSaying"]
def fA_given (K : Frag) : List Addr := fN_given.map (He.ga K)
def fN_name : List Str := []
def fA_name (K : Frag) : List Addr := fN_name.map (He.ga K)
def fN_table : List Str := []
def fA_table (K : Frag) : List Addr := fN_table.map (He.ga K)
def fN_at : List Str := []
def fA_at (K : Frag) : List Addr := fN_at.map (He.ga K)
def fN_line : List Str := ["InvalidText"]
def fA_line (K : Frag) : List Addr := fN_line.map (He.ga K)
def fN_most : List Str := []
def fA_most (K : Frag) : List Addr := fN_most.map (He.ga K)
def cb_exm (K : Frag) : Bool := erN.all fun c => decide (exmAny K (.ref (He.ga K c)) [.ref (He.ga K "OnceError"), .ref (He.ga K "Missing"), .ref (He.ga K "NothingLeft")] = some true)
def exL : List (Frag → Bool) := [cb_OnceError, cb_Missing, cb_NothingLeft, cb_InvalidNames, cb_InvalidSaying, cb_InvalidText, cb_exm]
def exK (K : Frag) : Bool := exL.all fun f => f K
def inL : List IniD := [in_OnceError, in_Missing, in_NothingLeft, in_InvalidNames, in_InvalidSaying, in_InvalidText]
theorem ex_at {K : Frag} (h : exK K = true) {f : Frag → Bool} (m : f ∈ exL) : f K = true := List.all_eq_true.mp h f m
section
variable {w : World} {K : Frag} {mg : Str → Option Value} {base : Heap}
theorem and1 {a b : Bool} (h : (a && b) = true) : a = true := by simp only [Bool.and_eq_true] at h; exact h.1
theorem and2 {a b : Bool} (h : (a && b) = true) : b = true := by simp only [Bool.and_eq_true] at h; exact h.2
theorem co_OnceError (h : exK K = true) (hi : ∀ d ∈ inL, iniW K d.cls = d.val) : ClsO Pr "ValueError" "ValueError.__new__" "ValueError.__init__" bmV K in_OnceError ["code"] := clsO_of lib_V is_OnceError (hi _ (by simp [inL])) (show clsB _ _ _ _ _ _ _ = true from (ex_at (f := cb_OnceError) h (by simp [exL])))
theorem co_Missing (h : exK K = true) (hi : ∀ d ∈ inL, iniW K d.cls = d.val) : ClsO Pr "LookupError" "LookupError.__new__" "LookupError.__init__" bmL K in_Missing ["code"] := clsO_of lib_L is_Missing (hi _ (by simp [inL])) (show clsB _ _ _ _ _ _ _ = true from (ex_at (f := cb_Missing) h (by simp [exL])))
theorem co_NothingLeft (h : exK K = true) (hi : ∀ d ∈ inL, iniW K d.cls = d.val) : ClsO Pr "IndexError" "IndexError.__new__" "IndexError.__init__" bmX K in_NothingLeft ["code"] := clsO_of lib_X is_NothingLeft (hi _ (by simp [inL])) (show clsB _ _ _ _ _ _ _ = true from and1 (ex_at (f := cb_NothingLeft) h (by simp [exL])))
theorem er_NothingLeft (T : TopO Pr mg) (h : exK K = true) (hi : ∀ d ∈ inL, iniW K d.cls = d.val) : Err Pr w K mg base 1 (He.ga K "NothingLeft") "NothingLeft" [] := err_base0 T (co_NothingLeft h hi) tx_NothingLeft (by decide) (and2 (ex_at (f := cb_NothingLeft) h (by simp [exL])))
theorem co_InvalidNames (h : exK K = true) (hi : ∀ d ∈ inL, iniW K d.cls = d.val) : ClsO Pr "ValueError" "ValueError.__new__" "ValueError.__init__" bmV K in_InvalidNames ["code", "given"] := clsO_of lib_V is_InvalidNames (hi _ (by simp [inL])) (show clsB _ _ _ _ _ _ _ = true from and1 (ex_at (f := cb_InvalidNames) h (by simp [exL])))
theorem er_InvalidNames (T : TopO Pr mg) (h : exK K = true) (hi : ∀ d ∈ inL, iniW K d.cls = d.val) : Err Pr w K mg base 2 (He.ga K "InvalidNames") "InvalidNames" ["given"] := err_sub1 T (co_InvalidNames h hi) (co_OnceError h hi) tx_OnceError tx_InvalidNames (by decide) (by decide) (and2 (ex_at (f := cb_InvalidNames) h (by simp [exL])))
theorem co_InvalidSaying (h : exK K = true) (hi : ∀ d ∈ inL, iniW K d.cls = d.val) : ClsO Pr "ValueError" "ValueError.__new__" "ValueError.__init__" bmV K in_InvalidSaying ["code", "given"] := clsO_of lib_V is_InvalidSaying (hi _ (by simp [inL])) (show clsB _ _ _ _ _ _ _ = true from and1 (ex_at (f := cb_InvalidSaying) h (by simp [exL])))
theorem er_InvalidSaying (T : TopO Pr mg) (h : exK K = true) (hi : ∀ d ∈ inL, iniW K d.cls = d.val) : Err Pr w K mg base 2 (He.ga K "InvalidSaying") "InvalidSaying" ["given"] := err_sub1 T (co_InvalidSaying h hi) (co_OnceError h hi) tx_OnceError tx_InvalidSaying (by decide) (by decide) (and2 (ex_at (f := cb_InvalidSaying) h (by simp [exL])))
theorem co_InvalidText (h : exK K = true) (hi : ∀ d ∈ inL, iniW K d.cls = d.val) : ClsO Pr "ValueError" "ValueError.__new__" "ValueError.__init__" bmV K in_InvalidText ["code", "line"] := clsO_of lib_V is_InvalidText (hi _ (by simp [inL])) (show clsB _ _ _ _ _ _ _ = true from and1 (ex_at (f := cb_InvalidText) h (by simp [exL])))
theorem er_InvalidText (T : TopO Pr mg) (h : exK K = true) (hi : ∀ d ∈ inL, iniW K d.cls = d.val) : Err Pr w K mg base 2 (He.ga K "InvalidText") "InvalidText" ["line"] := err_sub1 T (co_InvalidText h hi) (co_OnceError h hi) tx_OnceError tx_InvalidText (by decide) (by decide) (and2 (ex_at (f := cb_InvalidText) h (by simp [exL])))
theorem anK (hex : exK K = true) (hin : ∀ d ∈ inL, iniW K d.cls = d.val) : ∀ x ∈ erN, AnC K (He.ga K x) (iniF K x) := by
  intro x hx
  simp only [erN, List.mem_cons, List.not_mem_nil, or_false] at hx
  rcases hx with h | h | h | h
  · subst h; exact (co_NothingLeft hex hin).an
  · subst h; exact (co_InvalidNames hex hin).an
  · subst h; exact (co_InvalidSaying hex hin).an
  · subst h; exact (co_InvalidText hex hin).an
theorem naK_code (hex : exK K = true) (hin : ∀ d ∈ inL, iniW K d.cls = d.val) : ∀ x ∈ erN, findIn K (.ref (He.ga K x)) "code" = some none := by
  intro x hx
  simp only [erN, List.mem_cons, List.not_mem_nil, or_false] at hx
  rcases hx with h | h | h | h
  · subst h; exact (co_NothingLeft hex hin).na _ (by decide)
  · subst h; exact (co_InvalidNames hex hin).na _ (by decide)
  · subst h; exact (co_InvalidSaying hex hin).na _ (by decide)
  · subst h; exact (co_InvalidText hex hin).na _ (by decide)
theorem naK_given (hex : exK K = true) (hin : ∀ d ∈ inL, iniW K d.cls = d.val) : ∀ x ∈ fN_given, findIn K (.ref (He.ga K x)) "given" = some none := by
  intro x hx
  simp only [fN_given, List.mem_cons, List.not_mem_nil, or_false] at hx
  rcases hx with h | h
  · subst h; exact (co_InvalidNames hex hin).na _ (by decide)
  · subst h; exact (co_InvalidSaying hex hin).na _ (by decide)
theorem subN_given : ∀ x ∈ fN_given, x ∈ erN := by decide
theorem naK_name (hex : exK K = true) (hin : ∀ d ∈ inL, iniW K d.cls = d.val) : ∀ x ∈ fN_name, findIn K (.ref (He.ga K x)) "name" = some none := by
  intro x hx
  simp [fN_name] at hx
theorem subN_name : ∀ x ∈ fN_name, x ∈ erN := by decide
theorem naK_table (hex : exK K = true) (hin : ∀ d ∈ inL, iniW K d.cls = d.val) : ∀ x ∈ fN_table, findIn K (.ref (He.ga K x)) "table" = some none := by
  intro x hx
  simp [fN_table] at hx
theorem subN_table : ∀ x ∈ fN_table, x ∈ erN := by decide
theorem naK_at (hex : exK K = true) (hin : ∀ d ∈ inL, iniW K d.cls = d.val) : ∀ x ∈ fN_at, findIn K (.ref (He.ga K x)) "at" = some none := by
  intro x hx
  simp [fN_at] at hx
theorem subN_at : ∀ x ∈ fN_at, x ∈ erN := by decide
theorem naK_line (hex : exK K = true) (hin : ∀ d ∈ inL, iniW K d.cls = d.val) : ∀ x ∈ fN_line, findIn K (.ref (He.ga K x)) "line" = some none := by
  intro x hx
  simp only [fN_line, List.mem_cons, List.not_mem_nil, or_false] at hx
  subst hx; exact (co_InvalidText hex hin).na _ (by decide)
theorem subN_line : ∀ x ∈ fN_line, x ∈ erN := by decide
theorem naK_most (hex : exK K = true) (hin : ∀ d ∈ inL, iniW K d.cls = d.val) : ∀ x ∈ fN_most, findIn K (.ref (He.ga K x)) "most" = some none := by
  intro x hx
  simp [fN_most] at hx
theorem subN_most : ∀ x ∈ fN_most, x ∈ erN := by decide
theorem mem_ga {l : List Str} {P : Addr → Prop} (h : ∀ x ∈ l, P (He.ga K x)) : ∀ C ∈ l.map (He.ga K), P C := fun C hC => by
  obtain ⟨x, hx, rfl⟩ := List.mem_map.mp hC
  exact h x hx
theorem exmK (h : exK K = true) : ∀ x ∈ erN, exmAny K (.ref (He.ga K x)) [.ref (He.ga K "OnceError"), .ref (He.ga K "Missing"), .ref (He.ga K "NothingLeft")] = some true := fun x hx =>
  of_decide_eq_true (List.all_eq_true.mp (ex_at (f := cb_exm) h (by simp [exL])) x hx)
end
end LW
set_option Elab.async false
set_option linter.all false
set_option maxRecDepth 100000
set_option maxHeartbeats 4000000
set_option pp.maxSteps 400
namespace LW
open PySem PySem.Spec PyProof.Rows L2 EV PySem.XO PySem.W LamX
abbrev s_field : Stmt := topS 46
abbrev N_field : List Str := ["_law_e"]
theorem sc_field : FnScope N_field ["_law_e"] (defScope s_field) := ⟨rfl, rfl, rfl, by decide +kernel, rfl, by decide +kernel, by decide +kernel⟩

/-- what _law_field tells of an error with the code c -/
def fldD (c : Str) (fs : List (Str × D)) : Option D :=
  if (["InvalidNumber", "InvalidName", "InvalidThings", "InvalidNames", "InvalidSaying", "InvalidInputs", "InvalidStop"] : List Str).any (fun z => decide (c = z)) then fs.lookup ("given" : Str)
  else if (["InvalidTable", "Unfit", "DuplicateName", "NotAccepted", "UnknownTable", "UnknownName"] : List Str).any (fun z => decide (c = z)) then fs.lookup ("name" : Str)
  else if c = "InvalidRow" then (fs.lookup ("table" : Str)).bind fun x => (fs.lookup ("at" : Str)).bind fun y => some (.tup [x, y])
  else if (["InvalidCell", "InvalidStep", "InvalidCommand"] : List Str).any (fun z => decide (c = z)) then fs.lookup ("at" : Str)
  else if (["TooLong", "TooMany", "Full"] : List Str).any (fun z => decide (c = z)) then fs.lookup ("most" : Str)
  else if c = "InvalidText" then fs.lookup ("line" : Str) else some .non
def fieldS (K : Frag) : DSp := fun ds O Q _ => ∃ c fs r, ds = [.exc (He.ga K c) fs] ∧ c ∈ erN ∧ fs.lookup ("code" : Str) = some (.str c) ∧ fldD c fs = some r ∧ Q r O
section
variable {P : Program} {w : World} {K : PySem.W.Frag} {mg : Str → Option Value} {base : Heap}
theorem huw {A : Around} {k : Nat} (hr : RoomW k A) : A.units + 65 < cLine := by have := hr.un; omega
theorem huw1 {A : Around} {k : Nat} (hr : RoomW k A) : A.units + 64 < cLine := by have := hr.un; omega
theorem ok_field {f : Addr} {fd : FuncData} (F : Fun K "_law_field" "_law_field" s_field f fd) (hex : exK K = true) (hin : ∀ d ∈ inL, iniW K d.cls = d.val) : FnQ P w K mg base 1 f fd ["_law_e"] (spD K (fieldS K)) := by
  have hxf : ∀ C ∈ erA K, XfC K C := mem_ga fun x hx => (anK hex hin x hx).xf
  have NA_code : ∀ C ∈ erA K, findIn K (.ref C) "code" = some none := mem_ga (naK_code hex hin)
  have XF_given : ∀ C ∈ fA_given K, XfC K C := mem_ga fun x hx => (anK hex hin x (subN_given x hx)).xf
  have NA_given : ∀ C ∈ fA_given K, findIn K (.ref C) "given" = some none := mem_ga (naK_given hex hin)
  have XF_name : ∀ C ∈ fA_name K, XfC K C := mem_ga fun x hx => (anK hex hin x (subN_name x hx)).xf
  have NA_name : ∀ C ∈ fA_name K, findIn K (.ref C) "name" = some none := mem_ga (naK_name hex hin)
  have XF_table : ∀ C ∈ fA_table K, XfC K C := mem_ga fun x hx => (anK hex hin x (subN_table x hx)).xf
  have NA_table : ∀ C ∈ fA_table K, findIn K (.ref C) "table" = some none := mem_ga (naK_table hex hin)
  have XF_at : ∀ C ∈ fA_at K, XfC K C := mem_ga fun x hx => (anK hex hin x (subN_at x hx)).xf
  have NA_at : ∀ C ∈ fA_at K, findIn K (.ref C) "at" = some none := mem_ga (naK_at hex hin)
  have XF_line : ∀ C ∈ fA_line K, XfC K C := mem_ga fun x hx => (anK hex hin x (subN_line x hx)).xf
  have NA_line : ∀ C ∈ fA_line K, findIn K (.ref C) "line" = some none := mem_ga (naK_line hex hin)
  have XF_most : ∀ C ∈ fA_most K, XfC K C := mem_ga fun x hx => (anK hex hin x (subN_most x hx)).xf
  have NA_most : ∀ C ∈ fA_most K, findIn K (.ref C) "most" = some none := mem_ga (naK_most hex hin)
  refine fn_warm F sc_field (fun ds O Q E h => ?_) (fun cdv A outer s H E hr =>
    (d_scons (d_ifS (d_tcmp od_inS (d_ef hxf NA_code (d_var (i := 0) rfl (.inl rfl) (by decide) (by decide)) rfl) (d_lst (d_cons d_str (d_cons d_str (d_cons d_str (d_cons d_str (d_cons d_str (d_cons d_str (d_cons d_str d_nil rfl) rfl) rfl) rfl) rfl) rfl) rfl)) rfl) (d_sone (d_ret (d_ef XF_given NA_given (d_var (i := 0) rfl (.inl rfl) (by decide) (by decide)) rfl))) d_snil)
      (d_scons (d_ifS (d_tcmp od_inS (d_ef hxf NA_code (d_var (i := 0) rfl (.inl rfl) (by decide) (by decide)) rfl) (d_lst (d_cons d_str (d_cons d_str (d_cons d_str (d_cons d_str (d_cons d_str (d_cons d_str d_nil rfl) rfl) rfl) rfl) rfl) rfl)) rfl) (d_sone (d_ret (d_ef XF_name NA_name (d_var (i := 0) rfl (.inl rfl) (by decide) (by decide)) rfl))) d_snil)
      (d_scons (d_ifS (d_tcmp (od_eq (huw1 hr)) (d_ef hxf NA_code (d_var (i := 0) rfl (.inl rfl) (by decide) (by decide)) rfl) d_str (nomark _)) (d_sone (d_ret (d_tup (d_cons (d_ef XF_table NA_table (d_var (i := 0) rfl (.inl rfl) (by decide) (by decide)) rfl) (d_cons (d_ef XF_at NA_at (d_var (i := 0) rfl (.inl rfl) (by decide) (by decide)) rfl) d_nil rfl) rfl)))) d_snil)
      (d_scons (d_ifS (d_tcmp od_inS (d_ef hxf NA_code (d_var (i := 0) rfl (.inl rfl) (by decide) (by decide)) rfl) (d_lst (d_cons d_str (d_cons d_str (d_cons d_str d_nil rfl) rfl) rfl)) rfl) (d_sone (d_ret (d_ef XF_at NA_at (d_var (i := 0) rfl (.inl rfl) (by decide) (by decide)) rfl))) d_snil)
      (d_scons (d_ifS (d_tcmp od_inS (d_ef hxf NA_code (d_var (i := 0) rfl (.inl rfl) (by decide) (by decide)) rfl) (d_lst (d_cons d_str (d_cons d_str (d_cons d_str d_nil rfl) rfl) rfl)) rfl) (d_sone (d_ret (d_ef XF_most NA_most (d_var (i := 0) rfl (.inl rfl) (by decide) (by decide)) rfl))) d_snil)
      (d_sone (d_ret (d_if (d_tcmp (od_eq (huw1 hr)) (d_ef hxf NA_code (d_var (i := 0) rfl (.inl rfl) (by decide) (by decide)) rfl) d_str (nomark _)) (d_ef XF_line NA_line (d_var (i := 0) rfl (.inl rfl) (by decide) (by decide)) rfl) d_non))))))))) (fun ds O Q E h => ?_) (fun ds O Q E h => h)
  · obtain ⟨c, fs, r, rfl, _⟩ := h; rfl
  · obtain ⟨c, fs, r, rfl, hc, hl, hf, q⟩ := h
    rw [show startD N_field [.exc (He.ga K c) fs] = [.sh (.exc (He.ga K c) fs)] from rfl]
    have code : ∀ Q, Q (.str c) → efD (erA K) "code" (.exc (He.ga K c) fs) Q := fun Q q => ⟨List.mem_map_of_mem hc, by rw [hl]; exact q⟩
    have fldv : ∀ (l : List Str) (n : Str) (r : D) (Q : D → Prop), c ∈ l → fs.lookup n = some r → Q r → efD (l.map (He.ga K)) n (.exc (He.ga K c) fs) Q := fun l n r Q m e q => ⟨List.mem_map_of_mem m, by rw [e]; exact q⟩
    have g1 : ∀ c ∈ erN, (["InvalidNumber", "InvalidName", "InvalidThings", "InvalidNames", "InvalidSaying", "InvalidInputs", "InvalidStop"] : List Str).any (fun z => decide (c = z)) = true → c ∈ fN_given := by decide +kernel
    have g2 : ∀ c ∈ erN, (["InvalidTable", "Unfit", "DuplicateName", "NotAccepted", "UnknownTable", "UnknownName"] : List Str).any (fun z => decide (c = z)) = true → c ∈ fN_name := by decide +kernel
    have g3 : ∀ c ∈ erN, c = "InvalidRow" → c ∈ fN_table ∧ c ∈ fN_at := by decide +kernel
    have g4 : ∀ c ∈ erN, (["InvalidCell", "InvalidStep", "InvalidCommand"] : List Str).any (fun z => decide (c = z)) = true → c ∈ fN_at := by decide +kernel
    have g5 : ∀ c ∈ erN, (["TooLong", "TooMany", "Full"] : List Str).any (fun z => decide (c = z)) = true → c ∈ fN_most := by decide +kernel
    have g6 : ∀ c ∈ erN, c = "InvalidText" → c ∈ fN_line := by decide +kernel
    unfold fldD at hf
    refine code _ ⟨le_sz rfl, ?_⟩
    show bc ((["InvalidNumber", "InvalidName", "InvalidThings", "InvalidNames", "InvalidSaying", "InvalidInputs", "InvalidStop"] : List Str).any (fun z => decide (c = z))) _ _
    split at hf
    · rename_i h1
      rw [h1]
      exact fldv fN_given "given" r _ (g1 c hc h1) hf q
    rename_i h1
    rw [Bool.not_eq_true] at h1
    rw [h1]
    refine code _ ⟨le_sz rfl, ?_⟩
    show bc ((["InvalidTable", "Unfit", "DuplicateName", "NotAccepted", "UnknownTable", "UnknownName"] : List Str).any (fun z => decide (c = z))) _ _
    split at hf
    · rename_i h1
      rw [h1]
      exact fldv fN_name "name" r _ (g2 c hc h1) hf q
    rename_i h1
    rw [Bool.not_eq_true] at h1
    rw [h1]
    refine code _ ?_
    show bc (decide (c = "InvalidRow")) _ _
    split at hf
    · rename_i h1
      rw [decide_eq_true h1]
      cases e1 : fs.lookup ("table" : Str) with
      | none => rw [e1] at hf; cases hf
      | some x =>
        cases e2 : fs.lookup ("at" : Str) with
        | none => rw [e1, e2] at hf; cases hf
        | some y =>
          rw [e1, e2] at hf
          cases hf
          exact fldv fN_table "table" x _ (g3 c hc h1).1 e1 (fldv fN_at "at" y _ (g3 c hc h1).2 e2 ⟨le_sz rfl, q⟩)
    rename_i h1
    rw [decide_eq_false h1]
    refine code _ ⟨le_sz rfl, ?_⟩
    show bc ((["InvalidCell", "InvalidStep", "InvalidCommand"] : List Str).any (fun z => decide (c = z))) _ _
    split at hf
    · rename_i h1
      rw [h1]
      exact fldv fN_at "at" r _ (g4 c hc h1) hf q
    rename_i h1
    rw [Bool.not_eq_true] at h1
    rw [h1]
    refine code _ ⟨le_sz rfl, ?_⟩
    show bc ((["TooLong", "TooMany", "Full"] : List Str).any (fun z => decide (c = z))) _ _
    split at hf
    · rename_i h1
      rw [h1]
      exact fldv fN_most "most" r _ (g5 c hc h1) hf q
    rename_i h1
    rw [Bool.not_eq_true] at h1
    rw [h1]
    refine code _ ?_
    show bc (decide (c = "InvalidText")) _ _
    split at hf
    · rename_i h1
      rw [decide_eq_true h1]
      exact fldv fN_line "line" r _ (g6 c hc h1) hf q
    · rename_i h1
      rw [decide_eq_false h1]
      cases hf
      exact q
end
end LW
set_option Elab.async false
set_option linter.all false
set_option maxRecDepth 100000
set_option maxHeartbeats 4000000
set_option pp.maxSteps 400
namespace LW
open PySem PySem.Spec PyProof.Rows L2 EV PySem.XO PySem.W LamX
abbrev s_got : Stmt := topS 47
abbrev N_got : List Str := ["_law_ask", "_law_e"]
theorem sc_got : FnScope N_got ["_law_ask"] (defScope s_got) := ⟨rfl, rfl, rfl, by decide +kernel, rfl, by decide +kernel, by decide +kernel⟩

/-- what _law_got makes of an error -/
def gotE (K : Frag) (x : Xc) (Q : D → Prop) : Prop := ∃ c r, c ∈ erN ∧ x.1 = He.ga K c ∧ x.2.lookup ("code" : Str) = some (.str c) ∧ fldD c x.2 = some r ∧ noX r = true ∧ Q (.tup [.str c, r])
def gotS (K : Frag) (R : LR) : DSp := fun ds O Q _ => ∃ l m, ds = [.lam l] ∧ R l m ∧ m O (fun d O1 => Q (.tup [.str "", d]) O1) (fun x O1 => gotE K x fun r => Q r O1)
theorem set_get {α : Type} {l : List α} {i : Nat} {x : α} (h : i < l.length) : (l.set i x)[i]? = some x := by simp [h]
section
variable {P : Program} {w : World} {K : PySem.W.Frag} {mg : Str → Option Value} {base : Heap}
theorem ok_got {f fF : Addr} {fd fdF : FuncData} {j : Nat} (F : Fun K "_law_got" "_law_got" s_got f fd) (hex : exK K = true) (hin : ∀ d ∈ inL, iniW K d.cls = d.val) (G_field : FnQ P w K mg base 1 fF fdF ["_law_e"] (spD K (fieldS K))) (T_field : Gf K mg "_law_field" fF fdF ["_law_e"])
    (M1 : mg "OnceError" = some (.ref (He.ga K "OnceError"))) (M2 : mg "Missing" = some (.ref (He.ga K "Missing"))) (M3 : mg "NothingLeft" = some (.ref (He.ga K "NothingLeft"))) : FnL P w K mg base j (j + 2) f fd ["_law_ask"] (gotS K) := by
  intro B R hR
  refine F.ok sc_got (fun vs H Q E ⟨G, O, ds, g, r, Q0, E0, ⟨l, m, e, _⟩, _⟩ => ?_) (fun cdv A outer s H vs Q E hr ⟨G, O, ds, g, r, Q0, E0, ⟨l, m, e, rl, h0⟩, hq, hx⟩ => ?_)
  · rw [r.length, e]; rfl
  · subst e
    refine ⟨_, pss_one (ps_try_as3 (i := 1) (tb := fun W => upS K ⟨B, fun σ cls d H => W cls d σ H⟩ (dRet (dTup (dCons (dC (.str "")) (dCons (dAct R 0) dNil))))) rfl rfl sc_got.nd rfl rfl ⟨rfl, M1, by decide⟩ ⟨rfl, M2, by decide⟩ ⟨rfl, M3, by decide⟩
      (fun W pn xe tk po => (d_sone (d_ret (d_tup (d_cons d_str (d_cons (d_act (L := ⟨B, fun σ cls d H => W cls d σ H⟩) (i := 0) hR (hr.mono (by omega)) (fun σ => passAt tk σ) rfl (.inl rfl) (by decide) (by decide)) d_nil rfl) rfl)))).run)
      (fun a oe cls d pn hz hf nba => pss_one (ps_ret (pe_tup (pa_cons (pe_xfE hz hf (pv 1) rfl) (pa_cons (pe_callE (i := 1) G_field (L2H.roomH_of (hr.mono (by omega))) hz hf nba rfl T_field.m T_field.k T_field.b rfl (.inl rfl) (by decide) (by decide) (by decide) rfl) pa_nil)))))), ?_⟩
    refine ⟨G, O, [.sh (.lam l), .un], g, start_rp r, m, rl, (hR l m rl).2 _ _ _ _ _ (fun d O1 z => ⟨le_sz rfl, fun v G' H' st rv => hq _ _ z v G' H' st rv⟩) (fun x O1 z => ?_) h0⟩
    obtain ⟨c, r', hc, ex, el, ef, nx, z⟩ := z
    obtain ⟨xC, xf⟩ := x
    subst ex
    intro σ' d fs G' H' st rs' hd rf
    refine ⟨exmK hex c hc, fun a na => ?_⟩
    have hlen : σ'.length = 2 := rs'.len
    obtain ⟨v, ev, rv⟩ := rf.look el
    cases rv
    refine ⟨.ref a, set_get (by omega), rfl, He.ga K c, d, fs, .str c, rfl, (anK hex hin c hc).xf, naK_code hex hin c hc, rfl, st.good.sub _ _ hd, ev, ?_⟩
    refine ⟨set_get (by omega), He.ga K c, d, fs, _, B, G', O1, r', rfl, rfl, st.good, hd, rf, ⟨c, _, r', rfl, hc, el, ef, rfl, rfl⟩, nx, fun v2 G2 H2 st2 rv2 => ⟨le_sz rfl, fun p np => ?_⟩⟩
    have st3 := Step.new (o := .tup [.str c, v2]) st2.good np
    exact hq _ _ z _ _ _ ((st.trans st2).trans st3) (new_tup st2.good np (.cons (.str _) (.cons rv2 .nil)))
end
end LW
set_option Elab.async false
set_option linter.all false
set_option maxRecDepth 100000
set_option maxHeartbeats 4000000
namespace EV
open PySem PySem.Spec PyProof.Rows L2 LamX
section
variable {X : Cx} {L : Pl} {e : Expr} {es : List Expr} {mA : DA} {p pos : Pos}
/-- a def that is promised at this very place -/
theorem d_callP {CX : CXT} {k : Nat} {f : Addr} {fd : FuncData} {ps : List Str} {sp : DSp} {x : Str} (Fn : FnOk X.prog X.w X.K X.mg X.base CX k f fd ps (spL X.K L.B sp)) (hr : Room k X.A) (hg : Gl X x) (hm : X.mg x = some (.ref f)) (hk : PySem.W.keepIn X.K (.ref f) = true) (hb : Binds X.K fd ps [])
    (hx : ∀ σ, PassesAt CX X σ (L.W σ)) (ha : DPA X L (e :: es) mA) (hdb : (x == ("__debug__" : Str)) = false) (he : starEach (e :: es) X.env = (false, eval e X.env) :: starEach es X.env) (hpl : (backTo pos (starEach es X.env)).any (·.1) = false) :
    DPE X L (.Call (.Name x p) (e :: es) [] pos) (dCall sp mA) := by
  refine ⟨mo_call ha.mo, pe_imp (pe_callSD Fn hr hg hm hk hb .nil hx ha.run hdb he hpl) fun σ H Q ⟨G, O, ρ, g, rs, q⟩ => ?_⟩
  refine upA_of ha.mo g rs q fun xs vs O1 G1 H1 q1 s1 r1 => ?_
  exact ⟨G1, O1, xs, s1.good, by rw [List.append_nil]; exact r1, spM_mo (fun d _ z => z.step s1) (fun x _ z => z.step s1) q1⟩
end
section
variable {P : Program} {w : World} {K : PySem.W.Frag} {mg : Str → Option Value} {base : Heap}
/-- a def that raises nothing, at the place B -/
theorem fn_at {B : Bo} {x qual : Str} {st : Stmt} {f : Addr} {fd : FuncData} {N ps : List Str} {k : Nat} {sp : DSp} {ms : DS} (Fn : Fun K x qual st f fd) (S : FnScope N ps (defScope st)) (len : ∀ ds O Q E, sp ds O Q E → ds.length = ps.length)
    (hb : ∀ (cdv : Value) (A : Around) (outer : List Env) (s : Shared) (H : Hp) (E : XK), Room k (A.deeper (envOfC qual (defScope st) s.heap.objs.size f cdv)) →
      DPSs (cxOf CX0 P w K mg base N qual (defScope st) f cdv A outer s H E).nox ⟨B, fun _ _ _ _ => False⟩ (defBody st) ms)
    (h : ∀ ds O Q E, sp ds O Q E → ms (endsD Q E) (startD N ds) O) (noex : ∀ ds O Q E, sp ds O Q E → sp ds O Q fun _ _ => False) : FnOk P w K mg base CX0 (k + 1) f fd ps (spL K B sp) := by
  refine Fn.ok S (fun vs H Q E ⟨G, O, ds, g, r, Q0, E0, h0, _⟩ => ?_) (fun cdv A outer s H vs Q E hr ⟨G, O, ds, g, r, Q0, E0, h0, hq, hx⟩ => ?_)
  · rw [r.length]; exact len _ _ _ _ h0
  · have b := hb cdv A outer s H E hr
    refine ⟨_, b.run, G, O, startD N ds, g, start_rp r, b.mo (endsD Q0 fun _ _ => False) _ _ _ ⟨fun ρ O1 z σ' G' H' s _ => hq _ _ z _ G' H' s .non, fun d O1 z v G' H' s rv => hq _ _ z v G' H' s rv, fun _ _ z => z.elim, fun _ _ z => z.elim, fun x ρ _ z => z.elim⟩ (h ds O Q0 (fun _ _ => False) (noex _ _ _ _ h0))⟩
end
end EV
set_option Elab.async false
set_option linter.all false
set_option maxRecDepth 100000
set_option maxHeartbeats 4000000
set_option pp.maxSteps 400
namespace LW
open PySem PySem.Spec PyProof.Rows L2 EV PySem.XO PySem.W LamX
abbrev s_all_got : Stmt := topS 48
abbrev N_all_got : List Str := ["_law_asks", "_law_ask"]
theorem sc_all_got : FnScope N_all_got ["_law_asks"] (defScope s_all_got) := ⟨rfl, rfl, rfl, by decide +kernel, rfl, by decide +kernel, by decide +kernel⟩

def allG (K : Frag) (R : LR) : List D → List D → Ow → QD → Prop
  | [], acc, O, Q => Q (.lst acc) O
  | d :: ds, acc, O, Q => ∃ l m, d = .lam l ∧ R l m ∧ acc.length < sizeLine ∧ m O (fun y O1 => allG K R ds (acc ++ [.tup [.str "", y]]) O1 Q) (fun x O1 => gotE K x fun r => allG K R ds (acc ++ [r]) O1 Q)
def allS (K : Frag) (R : LR) : DSp := fun ds O Q _ => ∃ xs, ds = [.lst xs] ∧ allG K R xs [] O Q
section
variable {P : Program} {w : World} {K : PySem.W.Frag} {mg : Str → Option Value} {base : Heap}
theorem gotE_mo {x : Xc} {Q Q' : D → Prop} (h : ∀ d, Q d → Q' d) (z : gotE K x Q) : gotE K x Q' := by
  obtain ⟨c, r, a, b, d, e, f, g⟩ := z
  exact ⟨c, r, a, b, d, e, f, h _ g⟩
theorem ok_all_got {f fG : Addr} {fd fdG : FuncData} {j : Nat} (F : Fun K "_law_all_got" "_law_all_got" s_all_got f fd) (G_got : FnL P w K mg base j (j + 2) fG fdG ["_law_ask"] (gotS K)) (T_got : Gf K mg "_law_got" fG fdG ["_law_ask"]) : FnL P w K mg base j (j + 3) f fd ["_law_asks"] (allS K) := by
  intro B R hR
  have G_got' := G_got B R hR
  refine fn_at F sc_all_got (fun ds O Q E h => ?_) (fun cdv A outer s H E hr =>
    (d_sone (d_ret (d_lc rfl sc_all_got.nd (d_iter (d_var (i := 0) rfl (.inl rfl) (by decide) (by decide))) (blkOk_by (own := [("_law_ask", 1)]) (N := N_all_got) (sc := defScope s_all_got) (by decide +kernel)) (fun _ _ _ _ _ => (dg_name (i := 1) sc_all_got.nd rfl (.inl rfl) (.inr rfl))) (fun _ _ _ _ _ => d_ifs0) (fun _ _ _ _ _ => (d_callP G_got' hr rfl T_got.m T_got.k T_got.b (fun _ => pass0A) (d_cons (d_var (i := 1) rfl (.inl rfl) (by decide) (by decide)) d_nil rfl) (by decide) rfl rfl)) (by decide +kernel) (fun _ => rfl))))) (fun ds O Q E h => ?_) (fun ds O Q E h => h)
  · obtain ⟨xs, rfl, _⟩ := h; rfl
  · obtain ⟨xs, rfl, h⟩ := h
    rw [show startD N_all_got [.lst xs] = [.sh (.lst xs), .un] from rfl]
    show lcW tt1 (dgName 1) dYes (dCall (gotS K R) (dCons (dVar 1) dNil)) [.sh (.lst xs), .un] xs [] O fun l O2 => Q (.lst l) O2
    have key : ∀ (ys acc : List D) (O : Ow), allG K R ys acc O Q → lcW tt1 (dgName 1) dYes (dCall (gotS K R) (dCons (dVar 1) dNil)) [.sh (.lst xs), .un] ys acc O fun l O2 => Q (.lst l) O2 := by
      intro ys
      induction ys with
      | nil => intro acc O h; exact ⟨trivial, h⟩
      | cons y ys ih =>
        intro acc O ⟨l, m, e, rl, hl, h⟩
        subst e
        refine ⟨trivial, spM.of ⟨l, m, rfl, rl, (hR l m rl).2 _ _ _ _ _ (fun d O1 z => ⟨hl, ih _ _ z⟩) (fun x O1 z => gotE_mo (fun d z => ⟨hl, ih _ _ z⟩) z) h⟩⟩
    exact key xs [] O h
end
end LW
set_option Elab.async false
set_option linter.all false
set_option maxRecDepth 100000
set_option maxHeartbeats 4000000
namespace PySem
open Sem (wp)
theorem enum_new1 {v : Value} {o : Obj} {H : Heap → Prop} (B : Begins v o H) :
    Meets (Builtin.«enumerate.__new__» ⟨[.type "enumerate", v], []⟩) (fun _ R s => H s.heap ∧
      R (.ok (.ret (.ref (s.heap.push o).objs.size))) { s with heap := (s.heap.push o).push { cls := .type "enumerate", data := .fields #[.none, .bool false, .ref s.heap.objs.size, rawInt 0, .none, .none] } }) :=
  .of_wp fun prog w A R s h => by
    obtain ⟨hp, g, d, tk, os⟩ := s; obtain ⟨h1, h⟩ := h
    have hsub := sub_enumerate
    have q1 : ∀ {A' : Around} {E : Value → Shared → Prop} {Q : Value → Shared → Prop}, Q (.ref hp.objs.size) ⟨hp.push o, g, d, tk, os⟩ → wpAny (model prog w) A' (pyIter v) Q E ⟨hp, g, d, tk, os⟩ :=
      fun q => B.iter prog w _ _ ⟨hp, g, d, tk, os⟩ _ h1 q
    wp_walk using q1
    refine wpAny_stack_any fun st => wpAny_pure ?_
    split
    · rename_i c _ _ _ _ _
      cases (c == Value.type "enumerate")
      · wp_walk using q1
        exact ⟨_, rfl, h⟩
      · wp_walk using q1
        exact ⟨_, rfl, h⟩
    · wp_walk using q1
      exact ⟨_, rfl, h⟩
theorem enum_begins1 {prog : Program} {w : World} {A : Around} {E : Value → Shared → Prop} {s : Shared} {v : Value} {o : Obj} {H : Heap → Prop} {Q : Value → Shared → Prop} (B : Begins v o H) (h1 : H s.heap)
    (h : ∀ h', IsEnum h' (s.heap.objs.size + 1) s.heap.objs.size 0 .none → h'.get? s.heap.objs.size = some o → h'.objs.size = s.heap.objs.size + 2 →
      (∀ b o, s.heap.get? b = some o → h'.get? b = some o) → Q (.ref (s.heap.objs.size + 1)) { s with heap := h' }) :
    wpAny (model prog w) A (call (.type "enumerate") [v]) Q E s := by
  refine callType_new F.called_enumerate (by decide) (F.typeCall_enumerate_1 _) (F.newCall_enumerate_1 _) (fun obj => F.args_object_init_2 obj _) F.entry_enumerate_new (enum_new1 B) ⟨h1, ?_⟩
  have hz : (s.heap.push o).objs.size = s.heap.objs.size + 1 := Heap.size_push ..
  show _ ∧ _
  rw [hz]
  have he : IsEnum ((s.heap.push o).push { cls := .type "enumerate", data := .fields #[.none, .bool false, .ref s.heap.objs.size, rawInt 0, .none, .none] }) (s.heap.objs.size + 1) s.heap.objs.size 0 .none := by
    have := Heap.get?_push_size (s.heap.push o) (o := { cls := .type "enumerate", data := .fields #[.none, .bool false, .ref s.heap.objs.size, rawInt 0, .none, .none] }) rfl
    rw [hz] at this; exact this
  refine ⟨⟨_, he, rfl⟩, h _ he (Heap.get?_push_of_some _ (Heap.get?_push_size _ B.free)) (by rw [Heap.size_push, hz]) fun b o x => Heap.get?_push_of_some _ (Heap.get?_push_of_some _ x)⟩
end PySem
namespace EV
open PySem PySem.Spec PyProof.Rows L2
def Iten (K : PySem.W.Frag) (r : Src) : It :=
  ⟨fun i H => ∃ (xs : List V) (x : V), SrcAt K H r xs ∧ xs[i]? = some x,
    fun i H v H' => ∃ T x, v = .ref T ∧ H T = none ∧ H' = upd H T (.tup [.int (i : Nat), x]) ∧ ∀ xs, SrcAt K H r xs → xs[i]? = some x,
    fun i H => ∃ xs : List V, SrcAt K H r xs ∧ i = xs.length⟩
theorem turn_en {P : Program} {w : World} {K : PySem.W.Frag} {elts : List Expr} {kk : Nat} {tpos : Pos} {e it : Addr} {r : Src} (hne : e ≠ it) (n1 : it ∉ r.fp) (n2 : e ∉ r.fp) :
    Turn P w K (.Tuple elts kk tpos) (Iten K r) [e, it] e (fun i h => (∃ old, IsEnum h e it ((i : Nat) : Int) old) ∧ r.pos it i h) where
  mem := by simp
  obj := fun i h st c hc => by
    obtain ⟨⟨old, he⟩, p⟩ := st
    have e' : c = e ∨ c = it := by simpa using hc
    rcases e' with q | q
    · rw [q]; exact ⟨_, he, fun v q => nomatch q⟩
    · rw [q]; exact Src.pos_obj p
  keep := fun i h h' st k => by
    obtain ⟨⟨old, he⟩, p⟩ := st
    exact ⟨⟨old, k e (by simp) _ he⟩, Src.pos_at p fun o q => k it (by simp) o q⟩
  item := by
    intro X hP hw hK hc i pins s σ H E I hf st hg
    subst hP hw hK
    obtain ⟨he, p⟩ := st
    obtain ⟨xs, x, q1, hx⟩ := hg
    have hh : X.A.in1.handled = none := I.ok.hd hc
    obtain ⟨fp, P1, St, rfl, D, st1, rel, posn⟩ := src_draws I q1 p X.A.in1 hh n1
    have W := WalksT.enumerateD (A := X.A) D e hne (by simp only [List.mem_cons, not_or]; exact ⟨hne, n2⟩) (by simp)
    have hi : i < xs.length := getElem?_lt hx
    refine W.item i s _ E hi ⟨he, st1⟩ fun T vals h' tk hp hT hTup mid keep => ?_
    refine ⟨_, rfl, W.go elts kk tpos i T { s with heap := h', toks := tk } _ E mid fun h2 stn keep2 => ?_⟩
    obtain ⟨t, u, pu, rfl⟩ := hp
    obtain ⟨x', ex, ru⟩ := rel i u pu
    rw [hx] at ex
    cases ex
    have nT : T ∉ [e, it] := W.apart i T h' mid
    have hT2 : h2.IsTuple T #[.int i t, u] := hTup.at fun o q => keep2 T o nT q
    have new : ObjOk X.prog X.w (upd H T (.tup [.int (i : Nat), x])) h2 T (.tup [.int (i : Nat), x]) := ⟨by show 2 ≤ sizeLine; decide, [.int i t, u], .cons ⟨_, rfl⟩ (.cons ru .nil), hT2⟩
    have I1 : Inv X pins σ (upd H T (.tup [.int (i : Nat), x])) { s with heap := h2, toks := tk } := I.turnedNew (t' := tk) (ch := [e, it]) (fun c o hc q => keep2 c o hc (keep c o hc q)) hf hT new
    refine ⟨.ref T, _, I1, rfl, ⟨T, x, rfl, I.hok.fresh hT, rfl, fun l hl => by rw [src_inj I hl q1]; exact hx⟩, ⟨stn.1, posn _ _ stn.2⟩, fun c hcm => ?_⟩
    have hlt : c < s.heap.objs.size := by
      have e' : c = e ∨ c = it := by simpa using hcm
      rcases e' with q | q
      · obtain ⟨old, he⟩ := he
        rw [q]; exact Heap.lt_size he
      · rw [q]; obtain ⟨o, z, _⟩ := Src.pos_obj p; exact Heap.lt_size z
    rw [upd_ne (Nat.ne_of_lt (Nat.lt_of_lt_of_le hlt hT))]
    exact (hf c hcm).1
  done := by
    intro X hP hw hK hc i pins s σ H E I hf st hg
    subst hP hw hK
    obtain ⟨he, p⟩ := st
    obtain ⟨xs, q1, hend⟩ := hg
    have hh : X.A.in1.handled = none := I.ok.hd hc
    obtain ⟨fp, P1, St, rfl, D, st1, rel, posn⟩ := src_draws I q1 p X.A.in1 hh n1
    have W := WalksT.enumerateD (A := X.A) D e hne (by simp only [List.mem_cons, not_or]; exact ⟨hne, n2⟩) (by simp)
    subst hend
    exact W.done s _ E ⟨he, st1⟩ fun h' tk keep => ⟨rfl, I.turnedL (t' := tk) (ch := [e, it]) (fun c o hc q => keep c o hc q) hf⟩
  self := fun A i s Q E st h => let ⟨⟨_, he⟩, _⟩ := st; wpAny_pyIter_enum he h
section
variable {X : Cx} {L : Pl} {e : Expr} {mA : DA} {pos p : Pos}
def iEn (K : PySem.W.Frag) (ta : TA) : TI := fun σ H R => ta σ H fun vs H1 => ∃ v r, vs = [v] ∧ SrcV v r ∧ (∃ xs, SrcAt K H1 r xs) ∧ R (Iten K r) H1
theorem pi_en {ta : TA} {tpos : Pos} {elts : List Expr} {kk : Nat} (hg : Gl X "enumerate") (hm : X.mg "enumerate" = none) (ha : PA X [e] ta) (hs : starEach [e] X.env = [(false, eval e X.env)]) :
    PI X (.Tuple elts kk tpos) (.Call (.Name "enumerate" p) [e] [] pos) (iEn X.K ta) := by
  refine ⟨fun pins s σ H R I h => ?_⟩
  refine Call_ (ld_blt I hg hm boot_enumerate (PyProof.Rows.callWith_type1 (thn (ha.run pos pins s σ H _ I h) fun us s1 ⟨vs, H1, I1, r1, q1⟩ => ?_) hs rfl))
  obtain ⟨v, c, ex, k1, ⟨xs, a1⟩, q⟩ := q1
  subst ex
  cases r1 with
  | cons r rr =>
    cases rr
    obtain ⟨o1, Hc1, B1, h1, p1, f1⟩ := src_begins I1 k1 a1 r
    refine enum_begins1 B1 h1 fun h' he g1 hsz hk => wpAny_pyIter_enum he ?_
    have nf : ∀ {fp : List Addr} {c : Addr}, (∀ b ∈ fp, b < s1.heap.objs.size) → s1.heap.objs.size ≤ c → c ∉ fp := fun hf hc z => absurd (Nat.lt_of_lt_of_le (hf _ z) hc) (Nat.lt_irrefl _)
    have I2 : Inv X pins σ H1 { s1 with heap := h' } := I1.kept (t' := s1.toks) hk
    refine ⟨s1.heap.objs.size + 1, [s1.heap.objs.size + 1, s1.heap.objs.size], _, _, H1, rfl, I2, turn_en (Nat.succ_ne_self _) (nf f1 (Nat.le_refl _)) (nf f1 (Nat.le_succ _)), ⟨⟨.none, he⟩, p1 _ _ g1⟩, fun b hb => ?_, q⟩
    have e' : b = s1.heap.objs.size + 1 ∨ b = s1.heap.objs.size := by simpa using hb
    have hle : s1.heap.objs.size ≤ b := by
      rcases e' with z | z
      · rw [z]; exact Nat.le_add_right _ _
      · rw [z]; exact Nat.le_refl _
    exact I1.fpOk hle (I1.hok.fresh hle)
/-- the pairs of enumerate -/
def enumL (xs : List D) : List D := xs.zipIdx.map fun p => .tup [.int p.2, p.1]
def enumD : List D → (IL → Prop) → Prop
  | [x], Q => itemsP x fun xs => Q (tt1, enumL xs)
  | _, _ => False
theorem enumD_mo {x : List D} {Q Q' : IL → Prop} (h : ∀ d, Q d → Q' d) (z : enumD x Q) : enumD x Q' := by
  unfold enumD at z ⊢
  split at z
  · exact itemsP_mo (fun _ w => h _ w) z
  · exact z
def dEnum (mA : DA) : DI := fun ρ O Q E => mA ρ O (fun xs O1 => enumD xs fun l => Q l O1) E
theorem itd_en {K : PySem.W.Frag} {B : Bo} {G0 : Hp} {c : Src} {xs : List V} {ds : List D} (r1 : RpL K G0 xs ds) (a1 : ∀ H, Sub G0 H → SrcAt K H c xs) : ItD K B G0 (Iten K c) (tt1, enumL ds) := fun i O G H g sb _ => by
  have sH := sb.trans g.sub
  have hl : (enumL ds).length = xs.length := by simp [enumL, r1.length]
  refine ⟨fun d e => ?_, fun (h : i = (enumL ds).length) => ⟨xs, a1 H sH, by rw [← hl]; exact h⟩⟩
  have e : (enumL ds)[i]? = some d := e
  unfold enumL at e
  rw [List.getElem?_map, List.getElem?_zipIdx] at e
  cases e1 : ds[i]? with
  | none => rw [e1] at e; cases e
  | some d1 =>
    rw [e1] at e
    simp only [Option.map_some, Option.some.injEq, Nat.zero_add] at e
    subst e
    obtain ⟨v1, f1, q1⟩ := r1.get e1
    refine ⟨⟨xs, v1, a1 H sH, f1⟩, fun x H' y => ?_⟩
    obtain ⟨T, x', rfl, nT, rfl, g1⟩ := y
    have h1 := g1 xs (a1 H sH)
    rw [f1] at h1
    cases h1
    have st := Step.new (o := .tup [.int (i : Nat), v1]) g nT
    exact ⟨_, st, new_tup g nT (.cons (.int _) (.cons (q1.mono sb) .nil))⟩
theorem d_enum {tpos : Pos} {elts : List Expr} {kk : Nat} (hg : Gl X "enumerate") (hm : X.mg "enumerate" = none) (ha : DPA X L [e] mA) (hs : starEach [e] X.env = [(false, eval e X.env)]) :
    DPI X L (.Tuple elts kk tpos) (.Call (.Name "enumerate" p) [e] [] pos) (dEnum mA) := by
  refine ⟨fun ρ O Q Q' E E' q hx x => ha.mo ρ _ _ _ _ _ (fun _ _ z => enumD_mo (fun _ => q _ _) z) hx x, pi_imp (pi_en hg hm ha.run hs) fun σ H Q ⟨G, O, ρ, g, rs, q⟩ => ?_⟩
  refine upA_of ha.mo g rs q fun ds vs O1 G1 H1 q1 s1 r1 => ?_
  unfold enumD at q1
  split at q1
  · cases r1 with
    | cons r1 r2 =>
      cases r2
      obtain ⟨c, xs, ds', k1, rl, a1, q1⟩ := src_of r1 q1
      exact ⟨_, c, rfl, k1, ⟨xs, a1 _ s1.good.sub⟩, q1 _ _ _ s1 (itd_en rl a1)⟩
  · exact q1.elim
end
end EV
set_option Elab.async false
set_option linter.all false
set_option maxRecDepth 100000
set_option maxHeartbeats 4000000
namespace EV
open PySem PySem.Spec PyProof.Rows L2
/-! ### dicts of the text, with text keys and plain values -/
def scV : D → Option V
  | .str x => some (.str x)
  | .int i => some (.int i)
  | .bl b => some (.bl b)
  | .non => some .non
  | _ => none
theorem scV_rp {K : PySem.W.Frag} {G : Hp} {d : D} {v : V} (h : scV d = some v) : Rp K G v d := by
  cases d <;> simp [scV] at h <;> subst h
  · exact .non
  · exact .bl _
  · exact .int _
  · exact .str _
def entB : List DictEntry → List (Str × D) → Bool
  | [], [] => true
  | e :: es, (k, d) :: r => (match e.key with
    | .str x _ => decide (x = k)
    | _ => false) && ((match scV d with
    | some v => He.relB v e.val
    | none => false) && entB es r)
  | _, _ => false
def tabB (K : PySem.W.Frag) (a : Addr) (kvs : List (Str × D)) : Bool := match K.lookup a with
  | some ⟨_, _, .dict es _, _⟩ => entB es.toList kvs
  | _ => false
theorem entB_ok : ∀ {l : List DictEntry} {kvs : List (Str × D)}, entB l kvs = true → ∀ z : Str, (match kvs.lookup z with
    | some d => ∃ v u, scV d = some v ∧ (l.find? fun e => Value.isStrOf z e.key).map (·.val) = some u ∧ RelV v u
    | none => (l.find? fun e => Value.isStrOf z e.key).map (·.val) = none)
  | [], [], _, z => rfl
  | e :: es, (k, d) :: r, h, z => by
    unfold entB at h
    simp only [Bool.and_eq_true] at h
    obtain ⟨h1, h2, h3⟩ := h
    split at h1
    · rename_i x t ek
      have ex : x = k := of_decide_eq_true h1
      subst ex
      have hs : Value.isStrOf z e.key = decide (x = z) := by rw [ek]; by_cases q : x = z <;> simp [Value.isStrOf, q]
      rw [List.lookup_cons, List.find?_cons, hs]
      by_cases q : x = z
      · subst q
        simp only [beq_self_eq_true, decide_true, Option.map_some]
        split at h2
        · rename_i v ev
          exact ⟨v, e.val, ev, rfl, He.relB_ok h2⟩
        · cases h2
      · have q1 : (z == x) = false := by simpa using fun y => q y.symm
        simp only [q1, decide_eq_false q]
        exact entB_ok h3 z
    · cases h1
  | [], _ :: _, h, _ => by cases h
  | _ :: _, [], h, _ => by cases h
structure TabK (K : PySem.W.Frag) (w : World) (a : Addr) (kvs : List (Str × D)) : Prop where
  ex : ∃ es n, KDict K w a es n ∧ ∀ z : Str, (match kvs.lookup z with
    | some d => ∃ v u, scV d = some v ∧ findBy Value.isStrOf es z = some u ∧ RelV v u
    | none => findBy Value.isStrOf es z = none)
theorem tabK_of {K : PySem.W.Frag} {w : World} {a : Addr} {kvs : List (Str × D)} {es : Array DictEntry} {n : Nat} (D : KDict K w a es n) (h : tabB K a kvs = true) : TabK K w a kvs := by
  unfold tabB at h
  rw [D.at_] at h
  have h : entB es.toList kvs = true := h
  refine ⟨es, n, D, fun z => ?_⟩
  have := entB_ok h z
  have e : findBy Value.isStrOf es z = (es.toList.find? fun e => Value.isStrOf z e.key).map (·.val) := by
    obtain ⟨l⟩ := es
    unfold findBy
    rw [List.find?_toArray]
  rw [e]
  exact this
section
variable {X : Cx} {L : Pl} {B : Bo} {a b : Expr} {ma mb : DE} {pos : Pos}
/-- x in t, t a dict of the text at ad -/
def inK (ad : Addr) (kvs : List (Str × D)) (f : Bool → Bool) : P2
  | .str z, .opq (.ref p), Q => p = ad ∧ Q (.bl (f (kvs.lookup z).isSome))
  | _, _, _ => False
theorem inK_mo {ad : Addr} {kvs : List (Str × D)} {f : Bool → Bool} : MoO (pu (inK ad kvs f)) := fun O x y Q Q' h z => by
  dsimp only [pu] at z ⊢; unfold inK at z ⊢
  split at z
  · exact ⟨z.1, h _ z.2⟩
  · exact z
theorem find_some {K : PySem.W.Frag} {w : World} {ad : Addr} {kvs : List (Str × D)} {es : Array DictEntry} {z : Str} (h : match kvs.lookup z with
    | some d => ∃ v u, scV d = some v ∧ findBy Value.isStrOf es z = some u ∧ RelV v u
    | none => findBy Value.isStrOf es z = none) : (findBy Value.isStrOf es z).isSome = (kvs.lookup z).isSome := by
  cases e : kvs.lookup z with
  | none => rw [e] at h; rw [h]; rfl
  | some d => rw [e] at h; obtain ⟨v, u, _, h, _⟩ := h; rw [h]; rfl
theorem od_inK {ad : Addr} {kvs : List (Str × D)} (T : TabK X.K X.w ad kvs) : OpD X B (compareOp .In) (pu (inK ad kvs id)) := by
  obtain ⟨es, n, KD, hf⟩ := T.ex
  refine ⟨inK_mo, fun x y H Q => ∃ z, x = .str z ∧ y = .ref ad ∧ Q (.bl (kvs.lookup z).isSome) H, ?_, fun O G H x y a b Q gd r1 r2 q => ?_⟩
  · intro pins s σ H x y v u Q I rx ry h
    obtain ⟨z, rfl, rfl, q⟩ := h
    obtain ⟨t, rfl⟩ := rx
    cases ry
    refine wpAny_in_of (PySem.strKind_is X.prog X.w z t) KD.low (PySem.W.mapOf_K (prog := X.prog) I.kIn KD.at_ KD.lit) ?_
    rw [find_some (K := X.K) (w := X.w) (ad := ad) (hf z)]
    exact ⟨.bl _, H, I.tok _, rfl, q⟩
  · dsimp only [pu] at q; unfold inK at q
    split at q
    · obtain ⟨rfl, q⟩ := q
      cases r1
      cases r2
      exact ⟨_, rfl, rfl, q _ _ _ (Step.refl gd) (.bl _)⟩
    · exact q.elim
theorem od_notinK {ad : Addr} {kvs : List (Str × D)} (T : TabK X.K X.w ad kvs) : OpD X B (compareOp .NotIn) (pu (inK ad kvs not)) := by
  obtain ⟨es, n, KD, hf⟩ := T.ex
  refine ⟨inK_mo, fun x y H Q => ∃ z, x = .str z ∧ y = .ref ad ∧ Q (.bl (!(kvs.lookup z).isSome)) H, ?_, fun O G H x y a b Q gd r1 r2 q => ?_⟩
  · intro pins s σ H x y v u Q I rx ry h
    obtain ⟨z, rfl, rfl, q⟩ := h
    obtain ⟨t, rfl⟩ := rx
    cases ry
    refine wpAny_notIn_of (PySem.strKind_is X.prog X.w z t) KD.low (PySem.W.mapOf_K (prog := X.prog) I.kIn KD.at_ KD.lit) ?_
    rw [find_some (K := X.K) (w := X.w) (ad := ad) (hf z)]
    exact ⟨.bl _, H, I.tok _, rfl, q⟩
  · dsimp only [pu] at q; unfold inK at q
    split at q
    · obtain ⟨rfl, q⟩ := q
      cases r1
      cases r2
      exact ⟨_, rfl, rfl, q _ _ _ (Step.refl gd) (.bl _)⟩
    · exact q.elim
/-- t[x] -/
def ixK (ad : Addr) (kvs : List (Str × D)) : P2
  | .opq (.ref p), .str z, Q => p = ad ∧ match kvs.lookup z with
    | some d => Q d
    | none => False
  | _, _, _ => False
theorem d_ixK {ad : Addr} {kvs : List (Str × D)} (T : TabK X.K X.w ad kvs) (ha : DPE X L a ma) (hb : DPE X L b mb) (hs : NoSl b) : DPE X L (.Subscript a b pos) (dOp (pu (ixK ad kvs)) ma mb) := by
  obtain ⟨es, n, KD, hf⟩ := T.ex
  have mo : MoO (pu (ixK ad kvs)) := fun O x y Q Q' h z => by
    dsimp only [pu] at z ⊢; unfold ixK at z ⊢
    split at z
    · refine ⟨z.1, ?_⟩
      obtain ⟨_, z⟩ := z
      split at z
      · exact h _ z
      · exact z
    · exact z
  have hP : PE X (.Subscript a b pos) (tOp (fun x y H Q => ∃ z d v, x = .ref ad ∧ y = .str z ∧ kvs.lookup z = some d ∧ scV d = some v ∧ Q v H) (up X.K L.B L.W ma) (up X.K L.B L.W mb)) := by
    refine ⟨fun pins s σ H Q I h => ?_⟩
    refine subD_of PySem.F.slot_dict_getitem.lookup hs (thn (ha.run.run pins s σ H _ I h) fun u s1 ⟨x, H1, I1, rx, q1⟩ => thn (hb.run.run pins s1 σ H1 _ I1 q1) fun iv s2 ⟨y, H2, I2, ry, z, d, v, ex, ey, el, ev, q2⟩ => ?_)
    subst ex ey
    obtain rfl : u = Value.ref ad := rx
    obtain ⟨t, rfl⟩ := ry
    have hz := hf z
    rw [el] at hz
    obtain ⟨v', u, e1, e2, e3⟩ := hz
    rw [ev] at e1; cases e1
    exact ⟨kd_type KD I2, wpAny_getItem_of (PySem.strKind_is X.prog X.w z t) (PySem.W.mapOf_K (prog := X.prog) I2.kIn KD.at_ KD.lit) e2 ⟨v, H2, I2.tok _, e3, q2⟩⟩
  have hrun : RunO X.K L.B (fun x y H Q => ∃ z d v, x = .ref ad ∧ y = .str z ∧ kvs.lookup z = some d ∧ scV d = some v ∧ Q v H) (pu (ixK ad kvs)) := fun O G H x y a b Q gd r1 r2 q => by
    dsimp only [pu] at q; unfold ixK at q
    split at q
    · rename_i p z
      obtain ⟨rfl, q⟩ := q
      cases r1
      cases r2
      have hz := hf z
      cases ed : kvs.lookup z with
      | none => rw [ed] at q; exact q.elim
      | some d =>
        rw [ed] at q hz
        obtain ⟨v, u, e1, _⟩ := hz
        exact ⟨z, d, v, rfl, rfl, ed, e1, q _ _ _ (Step.refl gd) (scV_rp e1)⟩
    · exact q.elim
  exact ⟨mo_op mo ha.mo hb.mo, pe_imp hP fun σ H Q q => run_op hrun mo ha.mo hb.mo q⟩
/-- a dict of the text, by its name -/
theorem d_gdict {x : Str} {ad : Addr} (hg : Gl X x) (hm : X.mg x = some (.ref ad)) (hd : (x == ("__debug__" : Str)) = false) : DPE X L (.Name x pos) (dC (.opq (.ref ad))) := d_c (v := .ref ad) (pe_glob hg hm rfl hd) fun _ => .opq _
/-! ### tuples of the text -/
def itemsB : List Value → List D → Bool
  | [], [] => true
  | u :: us, d :: ds => (match scV d with
    | some v => He.relB v u
    | none => false) && itemsB us ds
  | _, _ => false
def gtupB (K : PySem.W.Frag) (a : Addr) (ds : List D) : Bool := match K.lookup a with
  | some ⟨.type c, _, .seq its _, _⟩ => decide (c = "tuple") && (decide (its.size ≤ sizeLine) && itemsB its.toList ds)
  | _ => false
theorem itemsB_ok {K : PySem.W.Frag} {G : Hp} : ∀ {us : List Value} {ds : List D}, itemsB us ds = true → ∃ vs, Vals vs us ∧ RpL K G vs ds
  | [], [], _ => ⟨[], .nil, .nil⟩
  | u :: us, d :: ds, h => by
    unfold itemsB at h
    simp only [Bool.and_eq_true] at h
    obtain ⟨h1, h2⟩ := h
    obtain ⟨vs, a, b⟩ := itemsB_ok (K := K) (G := G) h2
    split at h1
    · rename_i v ev
      exact ⟨v :: vs, .cons (He.relB_ok h1) a, .cons (scV_rp ev) b⟩
    · cases h1
  | [], _ :: _, h => by cases h
  | _ :: _, [], h => by cases h
theorem gtup_rp {K : PySem.W.Frag} {a : Addr} {ds : List D} (h : gtupB K a ds = true) (G : Hp) : Rp K G (.ref a) (.tup ds) := by
  unfold gtupB at h
  split at h
  · rename_i c od its n sl e
    simp only [Bool.and_eq_true] at h
    obtain ⟨h1, h2, h3⟩ := h
    have ec : c = "tuple" := of_decide_eq_true h1
    subst ec
    obtain ⟨vs, a1, b1⟩ := itemsB_ok (K := K) (G := G) h3
    exact .tup (.inr ⟨_, its, n, e, rfl, rfl, of_decide_eq_true h2, a1⟩) b1
  · cases h
theorem d_gtup {x : Str} {ad : Addr} {ds : List D} (h : gtupB X.K ad ds = true) (hg : Gl X x) (hm : X.mg x = some (.ref ad)) (hd : (x == ("__debug__" : Str)) = false) : DPE X L (.Name x pos) (dC (.tup ds)) := d_c (v := .ref ad) (pe_glob hg hm rfl hd) fun G => gtup_rp h G
end
end EV
set_option Elab.async false
set_option linter.all false
set_option maxRecDepth 100000
set_option maxHeartbeats 4000000
/-! tuple(x), list(x) -/
namespace EV
open PySem PySem.Spec PyProof.Rows L2
def tupD : PC
  | [.lst xs], Q => Q (.tup xs)
  | [.tup xs], Q => Q (.tup xs)
  | _, _ => False
def listD : PC
  | [.lst xs], Q => Q (.lst xs)
  | [.tup xs], Q => Q (.lst xs)
  | _, _ => False
def tupO : DC := fun O xs Q => tupD (xs.map (lk O)) Q
def listO : DC := fun O xs Q => listD (xs.map (lk O)) Q
section
variable {X : Cx} {B : Bo}
theorem tupD_mo {x : List D} {Q Q' : D → Prop} (q : ∀ d, Q d → Q' d) (z : tupD x Q) : tupD x Q' := by
  unfold tupD at z ⊢
  split at z
  · exact q _ z
  · exact q _ z
  · exact z
theorem listD_mo {x : List D} {Q Q' : D → Prop} (q : ∀ d, Q d → Q' d) (z : listD x Q) : listD x Q' := by
  unfold listD at z ⊢
  split at z
  · exact q _ z
  · exact q _ z
  · exact z
theorem one_of {P : List D → (D → Prop) → Prop} {K : PySem.W.Frag} {G : Hp} {O : Ow} {vs : List V} {ds : List D} {Q : D → Prop} (hP : ∀ xs Q, P xs Q → xs.length = 1) (r : RpL K G vs ds) (h : P (ds.map (lk O)) Q) : ∃ v d, vs = [v] ∧ Rp K G v d ∧ P [lk O d] Q := by
  have := hP _ _ h
  cases r with
  | nil => cases this
  | cons r1 r2 => cases r2 with
    | cons _ _ => simp at this
    | nil => exact ⟨_, _, rfl, r1, h⟩
theorem cd_tuple : CallD X B (.type "tuple") tupO := by
  refine ⟨fun O x Q Q' q z => tupD_mo q z, _, call_tuple_of, fun O G H vs ds Q g r h => ?_⟩
  obtain ⟨v, d, rfl, r1, h⟩ := one_of (P := tupD) (fun xs Q h => by unfold tupD at h; split at h <;> first | rfl | exact h.elim) r h
  have rx := lk_rp g r1
  generalize lk O d = d at rx h
  cases d <;> first | exact h.elim | skip
  · obtain ⟨a, vs, rfl, s, l⟩ := rx.lst g.sub
    exact ⟨a, vs, rfl, .inl ⟨.inl (.inl s), fun q n => h _ _ _ (Step.new g n) (new_tup g n l)⟩⟩
  · rcases rx with rx | ⟨p, _, z⟩
    · cases rx with
      | tup s l => exact ⟨_, _, rfl, .inr ⟨g.sub.sqT s, h _ _ _ (Step.refl g) (.tup s l)⟩⟩
    · exact z.elim
theorem cd_list : CallD X B (.type "list") listO := by
  refine ⟨fun O x Q Q' q z => listD_mo q z, _, call_list_of, fun O G H vs ds Q g r h => ?_⟩
  obtain ⟨v, d, rfl, r1, h⟩ := one_of (P := listD) (fun xs Q h => by unfold listD at h; split at h <;> first | rfl | exact h.elim) r h
  have rx := lk_rp g r1
  generalize lk O d = d at rx h
  cases d <;> first | exact h.elim | skip
  · obtain ⟨a, vs, rfl, s, l⟩ := rx.lst g.sub
    exact ⟨a, vs, rfl, .inl (.inl (.inl s)), fun q n => h _ _ _ (Step.new g n) (new_lst g n l)⟩
  · obtain ⟨a, vs, rfl, s, l⟩ := rx.tup g.sub
    exact ⟨a, vs, rfl, .inr s, fun q n => h _ _ _ (Step.new g n) (new_lst g n l)⟩
end
end EV
set_option Elab.async false
set_option linter.all false
set_option maxRecDepth 100000
set_option maxHeartbeats 4000000
set_option pp.maxSteps 400
/-! is_number, is_name -/
namespace LW
open PySem PySem.Spec PyProof.Rows L2 EV
abbrev s_is_number : Stmt := topS 14
abbrev N_is_number : List Str := ["value", "least", "most"]
theorem sc_is_number : FnScope N_is_number ["value", "least", "most"] (defScope s_is_number) := ⟨rfl, rfl, rfl, by decide +kernel, rfl, by decide +kernel, by decide +kernel⟩

def isNum : D → Int → Int → Bool
  | .int i, a, b => decide (a ≤ i) && decide (i ≤ b)
  | _, _, _ => false
def numS : DSp := fun ds O Q _ => ∃ v a b, ds = [v, .int a, .int b] ∧ (tyD v).isSome = true ∧ Q (.bl (isNum v a b)) O
abbrev s_is_name : Stmt := topS 13
abbrev N_is_name : List Str := ["value", "letter"]
theorem sc_is_name : FnScope N_is_name ["value"] (defScope s_is_name) := ⟨rfl, rfl, rfl, by decide +kernel, rfl, by decide +kernel, by decide +kernel⟩

abbrev lettersT : Str := "abcdefghijklmnopqrstuvwxyz"
def isNm : D → Bool
  | .str y => decide (1 ≤ y.length) && decide (y.length ≤ 6) && (co y).all fun c => decide (c ∈ co lettersT)
  | _ => false
def lettB : D → D
  | .str z => .bl (decide ((co z).headD 0 ∈ co lettersT))
  | _ => .non
theorem lettB_one (c : Nat) : lettB (.str ⟨#[c]⟩) = .bl (decide (c ∈ co lettersT)) := by simp [lettB, co]
def nameS : DSp := fun ds O Q _ => ∃ v, ds = [v] ∧ (tyD v).isSome = true ∧ (∀ y, v = .str y → y.length ≤ sizeLine) ∧ Q (.bl (isNm v)) O
section
variable {P : Program} {w : World} {K : PySem.W.Frag} {mg : Str → Option Value} {base : Heap}
theorem ok_is_number {f : Addr} {fd : FuncData} (F : Fun K "is_number" "is_number" s_is_number f fd) (m_isinstance : mg "isinstance" = none) (m_bool : mg "bool" = none) (m_int : mg "int" = none) :
    FnOk P w K mg base CX0 1 f fd ["value", "least", "most"] (spD K numS) := by
  refine fn_pure F sc_is_number (fun ds O Q E h => ?_) (fun cdv A outer s H E hr =>
    (d_sone (d_ret (d_and (d_callB cd_isi rfl m_isinstance boot_isinstance (d_cons (d_var (i := 0) rfl (.inl rfl) (by decide) (by decide)) (d_cons (d_ty rfl m_int boot_int (by decide) (by decide)) d_nil rfl) rfl) (by decide) (by decide) rfl rfl) (d_and (d_not (d_callB cd_isi rfl m_isinstance boot_isinstance (d_cons (d_var (i := 0) rfl (.inl rfl) (by decide) (by decide)) (d_cons (d_ty rfl m_bool boot_bool (by decide) (by decide)) d_nil rfl) rfl) (by decide) (by decide) rfl rfl)) (d_one (d_chain od_le od_le (d_var (i := 1) rfl (.inl rfl) (by decide) (by decide)) (d_var (i := 0) rfl (.inl rfl) (by decide) (by decide)) (d_var (i := 2) rfl (.inl rfl) (by decide) (by decide)) (by with_unfolding_all rfl)))))))) (fun ds O Q E h => ?_) (fun ds O Q E h => h)
  · obtain ⟨v, a, b, rfl, _⟩ := h; rfl
  · obtain ⟨v, a, b, rfl, hv, q⟩ := h
    rw [show startD N_is_number [v, .int a, .int b] = [.sh v, .sh (.int a), .sh (.int b)] from rfl]
    cases v with
    | int i =>
      refine ⟨rfl, rfl, ?_⟩
      refine ⟨rfl, rfl, ?_⟩
      show bc (decide (a ≤ i)) _ _
      by_cases h : a ≤ i
      · rw [decide_eq_true h]
        simp only [isNum, decide_eq_true h, Bool.true_and] at q
        exact q
      · rw [decide_eq_false h]
        simp only [isNum, decide_eq_false h, Bool.false_and] at q
        exact q
    | bl b' => exact ⟨rfl, rfl, rfl, rfl, q⟩
    | non => exact ⟨rfl, rfl, q⟩
    | str => exact ⟨rfl, rfl, q⟩
    | lst => exact ⟨rfl, rfl, q⟩
    | tup => exact ⟨rfl, rfl, q⟩
    | dic => exact ⟨rfl, rfl, q⟩
    | opq => cases hv
    | ins => cases hv
    | exc => cases hv
    | lam => cases hv
theorem ok_is_name {f : Addr} {fd : FuncData} (F : Fun K "is_name" "is_name" s_is_name f fd) (m_isinstance : mg "isinstance" = none) (m_str : mg "str" = none) (m_len : mg "len" = none) (m_all : mg "all" = none)
    {tL tN : Tok} (M_LETTERS : mg "LETTERS" = some (.str lettersT tL)) (M_LONGEST_NAME : mg "LONGEST_NAME" = some (.int 6 tN)) :
    FnOk P w K mg base CX0 1 f fd ["value"] (spD K nameS) := by
  refine fn_pure F sc_is_name (fun ds O Q E h => ?_) (fun cdv A outer s H E hr =>
    (d_scons (d_ifS (DPW.pt (d_wor (d_tnot (d_test (d_callB cd_isi rfl m_isinstance boot_isinstance (d_cons (d_var (i := 0) rfl (.inl rfl) (by decide) (by decide)) (d_cons (d_ty rfl m_str boot_str (by decide) (by decide)) d_nil rfl) rfl) (by decide) (by decide) rfl rfl) (by intro _; rfl))) (d_or1 (d_tnot (d_tchain od_le od_le d_int (d_callB cd_len rfl m_len boot_len (d_cons (d_var (i := 0) rfl (.inl rfl) (by decide) (by decide)) d_nil rfl) (by decide) (by decide) rfl rfl) (d_globI rfl M_LONGEST_NAME (by decide)) (by with_unfolding_all rfl)))))) (d_sone (d_ret d_bl)) d_snil)
      (d_sone (d_ret (d_callB (cd_all rfl) rfl m_all boot_all (d_cons (d_lc rfl sc_is_name.nd (d_iter (d_var (i := 0) rfl (.inl rfl) (by decide) (by decide))) (blkOk_by (own := [("letter", 1)]) (N := N_is_name) (sc := defScope s_is_name) (by decide +kernel)) (fun _ _ _ _ _ => (dg_name (i := 1) sc_is_name.nd rfl (.inl rfl) (.inr rfl))) (fun _ _ _ _ _ => d_ifs0) (fun _ _ _ _ _ => (d_cmp (od_in (hu1 hr)) (d_var (i := 1) rfl (.inl rfl) (by decide) (by decide)) (d_globS rfl M_LETTERS (by decide)) rfl)) (by decide +kernel) (fun _ => rfl)) d_nil rfl) (by decide) (by decide) rfl rfl))))) (fun ds O Q E h => ?_) (fun ds O Q E h => h)
  · obtain ⟨v, rfl, _⟩ := h; rfl
  · obtain ⟨v, rfl, hv, hs, q⟩ := h
    rw [show startD N_is_name [v] = [.sh v, .un] from rfl]
    cases v with
    | str y =>
      have hl := hs y rfl
      refine ⟨rfl, rfl, ?_⟩
      refine ⟨hl, ?_⟩
      show bc (decide ((1 : Int) ≤ (y.length : Int))) _ _
      by_cases h1 : 1 ≤ y.length
      · rw [decide_eq_true (by omega)]
        show bc (!decide ((y.length : Int) ≤ 6)) _ _
        by_cases h2 : y.length ≤ 6
        · rw [decide_eq_true (by omega)]
          simp only [isNm, decide_eq_true h1, decide_eq_true h2, Bool.true_and] at q
          refine lcW_map trivial lettB (fun d md Qy hq => ?_) (by simp [charsD]; exact hl) ?_
          · obtain ⟨c, mc, rfl⟩ := List.mem_map.mp md
            have e := lettB_one c
            rw [e] at hq
            exact hq
          · rw [List.nil_append, charsD, List.map_map]
            rw [show (lettB ∘ fun c => D.str { cps := #[c] }) = fun c => .bl (decide (c ∈ co lettersT)) from funext lettB_one]
            show allD [.lst ((co y).map fun c => D.bl (decide (c ∈ co lettersT)))] (fun d => Q d O)
            refine allD_of (toBs_map (fun c : Nat => decide (c ∈ co lettersT)) _) ?_
            rw [List.all_map]
            exact q
        · rw [decide_eq_false (by omega)]
          simp only [isNm, decide_eq_false h2, Bool.and_false, Bool.false_and] at q
          exact q
      · rw [decide_eq_false (by omega)]
        simp only [isNm, decide_eq_false h1, Bool.false_and] at q
        exact q
    | int => exact ⟨rfl, rfl, q⟩
    | bl b' => exact ⟨rfl, rfl, q⟩
    | non => exact ⟨rfl, rfl, q⟩
    | lst => exact ⟨rfl, rfl, q⟩
    | tup => exact ⟨rfl, rfl, q⟩
    | dic => exact ⟨rfl, rfl, q⟩
    | opq => cases hv
    | ins => cases hv
    | exc => cases hv
    | lam => cases hv
end
end LW
set_option Elab.async false
set_option linter.all false
set_option maxRecDepth 100000
set_option maxHeartbeats 4000000
/-! dicts that may change: {}, d[k], d.get(k), d.get(k, x), d[k] = v, k in d -/
namespace EV
open PySem PySem.Spec PyProof.Rows L2
def kD : Key → D
  | .inl i => .int i
  | .inr x => .str x
def valD (kds : List (Key × D)) (k : Key) : Option D := (kds.find? fun kv => decide (kv.1 = k)).map (·.2)
def putKD (kds : List (Key × D)) (k : Key) (v : D) : List (Key × D) :=
  if (kds.any fun kv => decide (kv.1 = k)) = true then kds.map (fun kv => if kv.1 = k then (kv.1, v) else kv) else kds ++ [(k, v)]
section
variable {K : PySem.W.Frag} {G H : Hp} {O : Ow} {B : Bo}
theorem kD_rp {k : Key} {v : V} (r : Rp K G v (kD k)) : v = kV k := by
  cases k <;> cases r <;> rfl
theorem RpK.length : ∀ {fs : List (Key × V)} {ds : List (Key × D)}, RpK K G fs ds → fs.length = ds.length
  | _, _, .nil => rfl
  | _, _, .cons _ r => congrArg (· + 1) (RpK.length r)
theorem RpK.val {k : Key} : ∀ {fs : List (Key × V)} {ds : List (Key × D)}, RpK K G fs ds → (∀ d, valD ds k = some d → ∃ v, valV fs k = some v ∧ Rp K G v d) ∧ (valD ds k = none → valV fs k = none)
  | _, _, .nil => ⟨fun d e => (nomatch e), fun _ => rfl⟩
  | _, _, .cons (k := j) (d := d0) (ds := ds) r t => by
    by_cases e : j = k
    · refine ⟨fun d h => ?_, fun h => ?_⟩
      · have : valD ((j, d0) :: ds) k = some d0 := by simp [valD, List.find?_cons, e]
        rw [this] at h; cases h
        exact ⟨_, valV_pos e, r⟩
      · have : valD ((j, d0) :: ds) k = some d0 := by simp [valD, List.find?_cons, e]
        rw [this] at h; cases h
    · have h1 : valD ((j, d0) :: ds) k = valD ds k := by simp [valD, List.find?_cons, e]
      have ih := RpK.val (k := k) t
      rw [h1]
      refine ⟨fun d h => ?_, fun h => ?_⟩
      · obtain ⟨v, a, b⟩ := ih.1 d h
        exact ⟨v, by rw [valV_neg e]; exact a, b⟩
      · rw [valV_neg e]; exact ih.2 h
theorem RpK.any {k : Key} : ∀ {fs : List (Key × V)} {ds : List (Key × D)}, RpK K G fs ds → (fs.any fun kv => decide (kv.1 = k)) = (ds.any fun kv => decide (kv.1 = k))
  | _, _, .nil => rfl
  | _, _, .cons r t => by simp only [List.any_cons, RpK.any t]
theorem RpK.app : ∀ {xs ys : List (Key × V)} {us ws : List (Key × D)}, RpK K G xs us → RpK K G ys ws → RpK K G (xs ++ ys) (us ++ ws)
  | _, _, _, _, .nil, s => s
  | _, _, _, _, .cons r t, s => .cons r (RpK.app t s)
theorem RpK.mapv {k : Key} {v : V} {d : D} (r : Rp K G v d) : ∀ {fs : List (Key × V)} {ds : List (Key × D)}, RpK K G fs ds → RpK K G (fs.map fun kv => if kv.1 = k then (kv.1, v) else kv) (ds.map fun kv => if kv.1 = k then (kv.1, d) else kv)
  | _, _, .nil => .nil
  | _, _, .cons (k := j) r0 t => by
    simp only [List.map_cons]
    by_cases e : j = k
    · simp only [if_pos e]; exact .cons r (RpK.mapv r t)
    · simp only [if_neg e]; exact .cons r0 (RpK.mapv r t)
theorem RpK.put {k : Key} {v : V} {d : D} {fs : List (Key × V)} {ds : List (Key × D)} (r : Rp K G v d) (t : RpK K G fs ds) : RpK K G (putK fs k v) (putKD ds k d) := by
  unfold putK putKD
  rw [t.any]
  split
  · exact RpK.mapv r t
  · exact t.app (.cons r .nil)
end
section
variable {X : Cx} {L : Pl} {a b c e f o i : Expr} {m ma mb mc : DE} {pos pos' apos cpos : Pos}
def dDNew : DE := fun _ O Q _ => ∀ p, O p = none → Q (.opq (.ref p)) (oset O p (.dic []))
theorem d_dnew : DPE X L (.Dict [] [] pos) dDNew :=
  ⟨fun ρ O Q Q' E E' q _ x p n => q _ _ (x p n), pe_imp pe_dnewK fun σ H Q ⟨G, O, ρ, g, rs, q⟩ p np => q p (g.fresh np) _ _ _ (new_own g np ⟨[], upd_same, .nil⟩) (.opq _)⟩
/-- what a dict has at a key -/
def atDic (x y : D) (Q : Option D → Prop) : Prop := match x with
  | .dic kds => ∃ k, y = kD k ∧ Q (valD kds k)
  | _ => False
theorem atDic_mo {x y : D} {Q Q' : Option D → Prop} (h : ∀ d, Q d → Q' d) (z : atDic x y Q) : atDic x y Q' := by
  unfold atDic at z ⊢
  split at z
  · obtain ⟨k, e, z⟩ := z; exact ⟨k, e, h _ z⟩
  · exact z
theorem atDic_run {K : PySem.W.Frag} {B : Bo} {O : Ow} {G H : Hp} {x y : D} {vx vy : V} {Q : Option D → Prop} (g : Good K B O G H) (rx : Rp K G vx x) (ry : Rp K G vy y) (h : atDic (lk O x) y Q) :
    ∃ (p : Addr) (r : Option V) (d : Option D), vx = .ref p ∧ DGet H p vy r ∧ Q d ∧ (∀ d', d = some d' → ∃ v, r = some v ∧ Rp K G v d') ∧ (d = none → r = none) := by
  have rr := lk_rp g rx
  generalize lk O x = x' at rr h
  unfold atDic at h
  split at h
  · obtain ⟨k, rfl, h⟩ := h
    obtain ⟨p, vs, rfl, hp, rk⟩ := rr.dic g.sub
    have := kD_rp ry
    subst this
    exact ⟨p, _, _, rfl, .inl ⟨_, k, hp, rfl, rfl⟩, h, rk.val.1, rk.val.2⟩
  · exact h.elim
def dDGet (ma mb : DE) : DE := fun ρ O Q E => ma ρ O (fun x O1 => mb ρ O1 (fun y O2 => atDic (lk O2 x) y fun d => match d with
  | some d => Q d O2
  | none => False) E) E
theorem d_dget (hu : X.A.units + 1 < cLine) (ha : DPE X L a ma) (hb : DPE X L b mb) (hs : NoSl b) : DPE X L (.Subscript a b pos) (dDGet ma mb) := by
  refine ⟨fun ρ O Q Q' E E' q hx x => ha.mo ρ _ _ _ _ _ (fun _ _ z => hb.mo ρ _ _ _ _ _ (fun _ _ y => atDic_mo (fun d w => by cases d <;> first | exact w | exact q _ _ w) y) hx z) hx x, pe_imp (pe_dget hu ha.run hb.run hs) fun σ H Q ⟨G, O, ρ, g, rs, q⟩ => ?_⟩
  refine up_of ha.mo g rs q fun x vx O1 G1 H1 q1 s1 r1 => ?_
  refine up_of hb.mo s1.good (rs.step s1) (mo_step hb.mo s1 q1) fun y vy O2 G2 H2 q2 s2 r2 => ?_
  obtain ⟨p, r, d, rfl, hg, hq, h1, h2⟩ := atDic_run s2.good (r1.mono s2.grow) r2 q2
  cases d with
  | none => exact hq.elim
  | some d =>
    obtain ⟨v, rfl, rv⟩ := h1 d rfl
    exact ⟨p, v, rfl, hg, hq _ _ _ (s1.trans s2) rv⟩
/-- x is a dict, here and behind what follows -/
def isDic (x : D) : Prop := match x with
  | .dic _ => True
  | _ => False
theorem isDic_run {K : PySem.W.Frag} {B : Bo} {O : Ow} {G H : Hp} {x : D} {vx : V} (g : Good K B O G H) (rx : Rp K G vx x) (h : isDic (lk O x)) : ∃ p, vx = .ref p ∧ IsD H p := by
  have rr := lk_rp g rx
  generalize lk O x = x' at rr h
  unfold isDic at h
  split at h
  · obtain ⟨p, vs, rfl, hp, rk⟩ := rr.dic g.sub
    exact ⟨p, rfl, .inl ⟨_, hp⟩⟩
  · exact h.elim
def dDGet1 (ma mb : DE) : DE := fun ρ O Q E => ma ρ O (fun x O1 => isDic (lk O1 x) ∧ mb ρ O1 (fun y O2 => atDic (lk O2 x) y fun d => Q (d.getD .non) O2) E) E
theorem d_dget1 (hu : X.A.units + 1 < cLine) (ha : DPE X L a ma) (hb : DPE X L b mb) (hm : M1 X a "get" apos b cpos) : DPE X L (.Call (.Attribute a "get" apos) [b] [] cpos) (dDGet1 ma mb) := by
  refine ⟨fun ρ O Q Q' E E' q hx x => ha.mo ρ _ _ _ _ _ (fun _ _ z => ⟨z.1, hb.mo ρ _ _ _ _ _ (fun _ _ y => atDic_mo (fun d w => q _ _ w) y) hx z.2⟩) hx x, pe_imp (pe_dget1 hu ha.run hb.run hm) fun σ H Q ⟨G, O, ρ, g, rs, q⟩ => ?_⟩
  refine up_of ha.mo g rs q fun x vx O1 G1 H1 q1 s1 r1 => ?_
  obtain ⟨p, rfl, hd⟩ := isDic_run s1.good r1 q1.1
  refine ⟨p, rfl, hd, ?_⟩
  refine up_of hb.mo s1.good (rs.step s1) (mo_step hb.mo s1 q1.2) fun y vy O2 G2 H2 q2 s2 r2 => ?_
  obtain ⟨p', r, d, ep, hg, hq, h1, h2⟩ := atDic_run s2.good (r1.mono s2.grow) r2 q2
  cases ep
  cases d with
  | none => cases h2 rfl; exact ⟨none, hg, hq _ _ _ (s1.trans s2) .non⟩
  | some d =>
    obtain ⟨v, rfl, rv⟩ := h1 d rfl
    exact ⟨some v, hg, hq _ _ _ (s1.trans s2) rv⟩
def dDGet2 (ma mb mc : DE) : DE := fun ρ O Q E => ma ρ O (fun x O1 => isDic (lk O1 x) ∧ mb ρ O1 (fun y O2 => mc ρ O2 (fun z O3 => atDic (lk O3 x) y fun d => Q (d.getD z) O3) E) E) E
theorem d_dget2 (hu : X.A.units + 1 < cLine) (ha : DPE X L a ma) (hb : DPE X L b mb) (hc : DPE X L c mc) (hm : M2 X a "get" apos b c cpos) : DPE X L (.Call (.Attribute a "get" apos) [b, c] [] cpos) (dDGet2 ma mb mc) := by
  refine ⟨fun ρ O Q Q' E E' q hx x => ha.mo ρ _ _ _ _ _ (fun _ _ z => ⟨z.1, hb.mo ρ _ _ _ _ _ (fun _ _ y => hc.mo ρ _ _ _ _ _ (fun _ _ y => atDic_mo (fun d w => q _ _ w) y) hx y) hx z.2⟩) hx x, pe_imp (pe_dget2 hu ha.run hb.run hc.run hm) fun σ H Q ⟨G, O, ρ, g, rs, q⟩ => ?_⟩
  refine up_of ha.mo g rs q fun x vx O1 G1 H1 q1 s1 r1 => ?_
  obtain ⟨p, rfl, hd⟩ := isDic_run s1.good r1 q1.1
  refine ⟨p, rfl, hd, ?_⟩
  refine up_of hb.mo s1.good (rs.step s1) (mo_step hb.mo s1 q1.2) fun y vy O2 G2 H2 q2 s2 r2 => ?_
  have s12 := s1.trans s2
  refine up_of hc.mo s2.good (rs.step s12) (mo_step hc.mo s12 q2) fun z vz O3 G3 H3 q3 s3 r3 => ?_
  obtain ⟨p', r, d, ep, hg, hq, h1, h2⟩ := atDic_run s3.good (r1.mono (s2.trans s3).grow) (r2.mono s3.grow) q3
  cases ep
  cases d with
  | none => cases h2 rfl; exact ⟨none, hg, hq _ _ _ (s12.trans s3) r3⟩
  | some d =>
    obtain ⟨v, rfl, rv⟩ := h1 d rfl
    exact ⟨some v, hg, hq _ _ _ (s12.trans s3) rv⟩
/-- d[k] = v, d a handle -/
def dDPut (ma mb mv : DE) : DS := fun A ρ O => mv ρ O (fun v O1 => ma ρ O1 (fun x O2 => mb ρ O2 (fun y O3 => match x with
  | .opq (.ref p) => ∃ kds k, O3 p = some (.dic kds) ∧ y = kD k ∧ kds.length < sizeLine ∧ A.nx ρ (oset O3 p (.dic (putKD kds k v)))
  | _ => False) (fun x O => A.ex x ρ O)) (fun x O => A.ex x ρ O)) (fun x O => A.ex x ρ O)
theorem d_dput (hu : X.A.units + 1 < cLine) (ha : DPE X L a ma) (hb : DPE X L b mb) (hv : DPE X L c mc) (hs : swapsWith c (some (.Subscript a b pos')) pos.line X.env = pure false) : DPS X L (.Assign [.Subscript a b pos'] c pos) (dDPut ma mb mc) := by
  refine ⟨fun A A' ρ O l z => hv.mo _ _ _ _ _ _ (fun v _ y => ha.mo _ _ _ _ _ _ (fun x _ y => hb.mo _ _ _ _ _ _ (fun k _ y => ?_) (fun x _ y => l.ex _ _ _ y) y) (fun x _ y => l.ex _ _ _ y) y) (fun x _ y => l.ex _ _ _ y) z, ps_imp (ps_dput hu ha.run hb.run hv.run hs) fun Dn σ H ⟨G, O, ρ, g, rs, q⟩ => ?_⟩
  · skip
    split at y
    · obtain ⟨kds, k, e1, e2, e3, z⟩ := y
      exact ⟨kds, k, e1, e2, e3, l.nx _ _ z⟩
    · exact y
  refine upE hv.mo g rs q fun v vv O1 G1 H1 q1 s1 r1 => ?_
  refine upE ha.mo s1.good (rs.step s1) (ha.mo _ _ _ _ _ _ (fun x O2 y => hb.mo _ _ _ _ _ _ (fun k O3 y => y) (fun x O z => (dn_step s1).ex x ρ O z) y) (fun x O z => (dn_step s1).ex x ρ O z) q1) fun x vx O2 G2 H2 q2 s2 r2 => ?_
  have s12 := s1.trans s2
  refine upE hb.mo s2.good (rs.step s12) (hb.mo _ _ _ _ _ _ (fun k O3 y => y) (fun x O z => (dn_step s2).ex x ρ O z) q2) fun y vy O3 G3 H3 q3 s3 r3 => ?_
  have s13 := s12.trans s3
  split at q3
  · rename_i p
    obtain ⟨kds, k, eo, rfl, hl, z⟩ := q3
    cases r2
    have := kD_rp r3
    subst this
    obtain ⟨nG, nb, vs, hp, rk⟩ := s3.good.own p _ eo
    have rv := r1.mono (s2.trans s3).grow
    have st := Step.put (o := .dK (putK vs k vv)) (d := .dic (putKD kds k v)) s3.good nG nb ⟨_, upd_same, rk.put rv⟩ (.inl (by rw [eo]; exact Option.some_ne_none _))
    exact ⟨p, _, rfl, DPut.k hp (by rw [rk.length]; exact hl), z _ _ _ (s13.trans st) (rs.step (s13.trans st))⟩
  · exact q3.elim
end
end EV
set_option Elab.async false
set_option linter.all false
set_option maxRecDepth 100000
set_option maxHeartbeats 4000000
/-! handles that are let go; instances with keywords; defs that raise and let handles go -/
namespace EV
open PySem PySem.Spec PyProof.Rows L2
def OSub (O1 O : Ow) : Prop := ∀ p d, O1 p = some d → O p = some d
theorem OSub.refl (O : Ow) : OSub O O := fun _ _ h => h
theorem OSub.trans {A B C : Ow} (a : OSub A B) (b : OSub B C) : OSub A C := fun p d h => b p d (a p d h)
theorem OSub.new {O : Ow} {p : Addr} {d : D} (n : O p = none) : OSub O (oset O p d) := fun q x h => by
  rw [oset_ne (fun e => by rw [e, n] at h; cases h)]; exact h
theorem OSub.none {O1 O : Ow} (s : OSub O1 O) {p : Addr} (h : O p = none) : O1 p = none := by
  cases e : O1 p with
  | none => rfl
  | some d => rw [s p d e] at h; cases h
def frg {α : Type} (Q : α → Ow → Prop) : α → Ow → Prop := fun d O => ∃ O1, OSub O1 O ∧ Q d O1
theorem frg.of {α : Type} {Q : α → Ow → Prop} {d : α} {O : Ow} (h : Q d O) : frg Q d O := ⟨O, OSub.refl O, h⟩
section
variable {K : PySem.W.Frag} {B : Bo} {O O' O1 : Ow} {G H G' H' : Hp}
theorem Good.frg (s : OSub O1 O) (g : Good K B O G H) : Good K B O1 G H := ⟨g.sub, g.box, g.amb, fun p d e => g.own p d (s p d e)⟩
theorem Step.frg (s : OSub O1 O') (t : Step K B O G H O' G' H') : Step K B O G H O1 G' H' :=
  ⟨t.grow, t.good.frg s, t.keep, fun a o h g n => ⟨(t.hid a o h g n).1, s.none (t.hid a o h g n).2⟩, t.still⟩
theorem kv.frg {Q : VK} {d : D} (h : frg (kv K B O G H Q) d O') : kv K B O G H Q d O' := by
  obtain ⟨O1, s, h⟩ := h
  exact fun v G' H' t r => h v G' H' (t.frg s) r
theorem kx.frg {E : XK} {x : Xc} (h : frg (kx K B O G H E) x O') : kx K B O G H E x O' := by
  obtain ⟨O1, s, h⟩ := h
  exact fun d fs G' H' t a r => h d fs G' H' (t.frg s) a r
theorem frg_mo {α : Type} {Q Q' : α → Ow → Prop} (q : ∀ d O, Q d O → Q' d O) {d : α} {O : Ow} (h : EV.frg Q d O) : EV.frg Q' d O := by
  obtain ⟨O1, s, h⟩ := h
  exact ⟨O1, s, q _ _ h⟩
/-- C(..), shown; what was begun is let go where it fails -/
def mkG (C : Addr) (sp : DSp) (ds : List D) (O : Ow) (Q : QD) (E : QX) : Prop := ∀ p, O p = none → spM sp (.opq (.ref p) :: ds) (oset O p (.ins C [])) (fun d O2 => d = .non ∧ ∃ C' fs, O2 p = some (.ins C' fs) ∧ Q (.ins C' fs) (odel O2 p)) (frg E)
theorem mkG_mo {C : Addr} {sp : DSp} {ds : List D} {Q Q' : QD} {E E' : QX} (q : ∀ d O, Q d O → Q' d O) (x : ∀ d O, E d O → E' d O) (h : mkG C sp ds O Q E) : mkG C sp ds O Q' E' := fun p n => spM_mo (fun _ _ z => ⟨z.1, let ⟨y, y', a, b⟩ := z.2; ⟨y, y', a, q _ _ b⟩⟩) (fun _ _ z => frg_mo x z) (h p n)
theorem run_mkG {C x dx : Addr} {sp : DSp} {vs : List V} {ds : List D} {Q : VK} {E : XK} (g : Good K B O G H) (r : RpL K G vs ds) (nx : H x = none) (nd : H dx = none) (hd : dx ≠ x) (h : mkG C sp ds O (kv K B O G H Q) (kx K B O G H E)) :
    spD K sp (.ref x :: vs) (upd (upd H dx (.own x)) x (.ins C dx [])) (fun v H' => v = .non ∧ Q (.ref x) H') E := by
  refine run_mkF g r nx nd hd fun p n => spM_mo (fun _ _ z => z) (fun _ _ z => kx.frg z) (h p n)
end
section
variable {X : Cx} {L : Pl} {e : Expr} {es : List Expr} {mA mK : DA} {pos p : Pos}
theorem d_makeG {CX : CXT} {k n : Nat} {C f : Addr} {fd : FuncData} {ps ks : List Str} {sp : DSp} {x : Str} {E : XK} {kws : List Keyword} {g : List Value → List Value → List Value} {gV : List V → List V → List V} {gD : List D → List D → List D} (hE : ∀ σ, L.W σ = E) (M : Mk X.K C f) (Fn : FnOk X.prog X.w X.K X.mg X.base CX k f fd ps (spD X.K sp)) (hr : Room (k + 1) X.A) (hg : Gl X x) (hm : X.mg x = some (.ref C)) (hb : KBn X.K fd ps (n + 1) ks g gV)
    (hgD : ∀ (K : PySem.W.Frag) (G : Hp) (v : V) (vs zs : List V) (ds es : List D), RpL K G vs ds → RpL K G zs es → vs.length = n → zs.length = ks.length → ∃ ws, gV (v :: vs) zs = v :: ws ∧ RpL K G ws (gD ds es)) (hx : Passes CX X E)
    (ha : DPA X L (e :: es) mA) (hk : DPK X L kws mK) (hall : (backToKw pos (keywordEach kws X.env)).all (·.1.isSome) = true) (hks : (backToKw pos (keywordEach kws X.env)).filterMap (·.1) = ks) (hdb : (x == ("__debug__" : Str)) = false)
    (he : starEach (e :: es) X.env = (false, eval e X.env) :: starEach es X.env) (hpl : ((backTo pos (starEach (e :: es) X.env)).any (·.1) || (backToKw pos (keywordEach kws X.env)).any (·.1.isNone)) = false) :
    DPE X L (.Call (.Name x p) (e :: es) kws pos) (dMkK C n ks.length (fun ds zs _ => mkG C sp (gD ds zs)) mA mK) := by
  refine ⟨fun ρ O Q Q' E E' q hx x => ha.mo ρ _ _ _ _ _ (fun _ _ z => hk.mo ρ _ _ _ _ _ (fun _ _ y => ⟨y.1, y.2.1, mkG_mo q hx y.2.2⟩) hx z) hx x, pe_imp (pe_makeK M Fn hr hg hm hb hx ha.run hk.run hall hks hdb he hpl) fun σ H Q ⟨G, O, ρ, g, rs, q⟩ => ?_⟩
  refine upA_of ha.mo g rs q fun xs vs O1 G1 H1 q1 s1 r1 => ?_
  refine upA_of hk.mo s1.good (rs.step s1) (mo_step hk.mo s1 q1) fun zs ws O2 G2 H2 q2 s2 r2 => ?_
  obtain ⟨l1, l2, q2⟩ := q2
  refine ⟨by rw [r1.length]; exact l1, by rw [r2.length]; exact l2, fun x dx nx nd hd => ?_⟩
  obtain ⟨us, e1, r3⟩ := hgD _ _ (.ref x) _ _ _ _ (r1.mono s2.grow) r2 (by rw [r1.length]; exact l1) (by rw [r2.length]; exact l2)
  rw [e1]
  have s12 := s1.trans s2
  exact run_mkG s2.good r3 nx nd hd (mkG_mo (fun _ _ z => z.step s12) (fun _ _ z => by rw [hE] at z; exact z.step s12) q2)
end
section
variable {P : Program} {w : World} {K : PySem.W.Frag} {mg : Str → Option Value} {base : Heap}
theorem fn_excF {x qual : Str} {st : Stmt} {f : Addr} {fd : FuncData} {N ps : List Str} {k : Nat} {sp : DSp} {ms : DS} (Fn : Fun K x qual st f fd) (S : FnScope N ps (defScope st)) (len : ∀ ds O Q E, sp ds O Q E → ds.length = ps.length)
    (hb : ∀ (cdv : Value) (A : Around) (outer : List Env) (s : Shared) (H : Hp) (E : XK), Room k (A.deeper (envOfC qual (defScope st) s.heap.objs.size f cdv)) → Tk (cxOf (L2.CX P w) P w K mg base N qual (defScope st) f cdv A outer s H E) ⟨bo0, fun _ => E⟩ →
      DPSs (cxOf (L2.CX P w) P w K mg base N qual (defScope st) f cdv A outer s H E) ⟨bo0, fun _ => E⟩ (defBody st) ms)
    (h : ∀ ds O Q E, sp ds O Q E → ms (endsD (frg Q) (frg E)) (startD N ds) O) : FnOk P w K mg base (L2.CX P w) (k + 1) f fd ps (spD K sp) := by
  refine Fn.okX S (fun vs H Q E ⟨G, O, ds, g, r, Q0, E0, h0, _⟩ => ?_) (fun cdv A outer s H vs Q E hr ⟨G, O, ds, g, r, Q0, E0, h0, hq, hx⟩ => ?_)
  · rw [r.length]; exact len _ _ _ _ h0
  · have b := hb cdv A outer s H E hr (takes_of rfl rfl rfl rfl)
    refine ⟨_, b.run, G, O, startD N ds, g, start_rp r, b.mo (endsD (frg Q0) (frg E0)) _ _ _ ⟨fun ρ O1 z σ' G' H' s _ => kv.frg (frg_mo hq z) _ G' H' s .non, fun d O1 z v G' H' s rv => kv.frg (frg_mo hq z) v G' H' s rv, fun _ _ z => z.elim, fun _ _ z => z.elim, fun x ρ _ z σ' d fs G' H' s _ a rf => kx.frg (frg_mo hx z) d fs G' H' s a rf⟩ (h ds O Q0 E0 h0)⟩
end
end EV
set_option Elab.async false
set_option linter.all false
set_option maxRecDepth 100000
set_option maxHeartbeats 4000000
/-! lambdas of a law: what they do, given to a def -/
namespace EV
open PySem PySem.Spec PyProof.Rows L2 LamX
section
variable {X : Cx} {L : Pl}
theorem lam_tk {A : Around} {outer : List Env} {s : Shared} {H : Hp} {E : XK} {scope : Scope} {f c' : Addr} {B : Bo} : Tk (lamCx X A outer s H E scope f c') ⟨B, fun _ => E⟩ := takes_of rfl rfl rfl rfl
theorem lam_pass {A : Around} {outer : List Env} {s : Shared} {H : Hp} {E : XK} {scope : Scope} {f c' : Addr} : Passes (L2.CX X.prog X.w) (lamCx X A outer s H E scope f c') E := fun pins σ H' s1 e s' I c => passAt (W := fun cls d _ H => E cls d H) (takes_of (X := lamCx X A outer s H E scope f c') rfl rfl rfl rfl) σ pins H' s1 e s' I c
/-- one lambda -/
def lam1 (l : LamD) (m : DE) : LamD → DE → Prop := fun l' m' => l' = l ∧ m' = m
def lamOr (T U : LamD → DE → Prop) : LamD → DE → Prop := fun l m => T l m ∨ U l m
theorem lams_one {j : Nat} {params : Arguments} {body : Expr} {scope : Scope} {m : DE} (hr : Room (j + 1) X.A) (LW : LamW X.N X.env.scope scope)
    (hb : ∀ (A : Around) (outer : List Env) (s : Shared) (H : Hp) (E : XK) (f c' : Addr), Room j (A.deeper (lamEnv X scope s.heap.objs.size f c')) → DPE (lamCx X A outer s H E scope f c') ⟨L.B, fun _ => E⟩ body m) : LamsOf X L.B j (lam1 (lamOf X params body scope) m) := fun l m' ⟨e1, e2⟩ => by
  subst e1 e2
  exact ⟨params, body, scope, rfl, LW, (hb X.A X.stack X.s_0 X.H_0 (fun _ _ _ => True) 0 0 (hr.deeper (lamEnv X scope X.s_0.heap.objs.size 0 0))).mo, hb⟩
theorem lams_or {j : Nat} {T U : LamD → DE → Prop} (h1 : LamsOf X L.B j T) (h2 : LamsOf X L.B j U) : LamsOf X L.B j (lamOr T U) := fun l m h => h.elim (h1 l m) (h2 l m)
/-- f(lambda: body) -/
theorem d_callL1 {j k : Nat} {f : Addr} {fd : FuncData} {ps : List Str} {S : LR → DSp} {x : Str} {params : Arguments} {body : Expr} {scope : Scope} {m : DE} {p pos lpos : Pos} (Fn : FnL X.prog X.w X.K X.mg X.base (j + 1) k f fd ps S) (hj : Room (j + 1) X.A) (hfn : ∀ y, X.fn y = true) (hr : Room k X.A) (hg : Gl X x) (hm : X.mg x = some (.ref f)) (hk : PySem.W.keepIn X.K (.ref f) = true) (hb : Binds X.K fd ps [])
    (LA : LamAt X L) (LW : LamW X.N X.env.scope scope) (hdef : defaultsOf params X.env = ([], [])) (hbind : ∀ (q : Str) (cl : List (Str × Addr)) (doc pm cv ctv : Value), bindArgs (PySem.W.kdv_fn "<lambda>" q params (.expr body) scope cl .none doc pm cv ctv) ⟨[], []⟩ = pure [])
    (hbd : ∀ (A : Around) (outer : List Env) (s : Shared) (H : Hp) (E : XK) (f c' : Addr), Room j (A.deeper (lamEnv X scope s.heap.objs.size f c')) → DPE (lamCx X A outer s H E scope f c') ⟨L.B, fun _ => E⟩ body m)
    (hdb : (x == ("__debug__" : Str)) = false) (he : starEach [.Lambda params body scope lpos] X.env = (false, eval (.Lambda params body scope lpos) X.env) :: starEach [] X.env) (hpl : (backTo pos (starEach [] X.env)).any (·.1) = false) :
    DPE X L (.Call (.Name x p) [.Lambda params body scope lpos] [] pos) (dCallL S (lam1 (lamOf X params body scope) m) (dCons (dC (.lam (lamOf X params body scope))) dNil)) :=
  d_callL Fn (lams_one (L := L) hj LW hbd) hfn hr hg hm hk hb (d_cons (d_lam LA LW hdef hbind) d_nil he) hdb he hpl
theorem lam_at' {b l c PT : Addr} {q : Str} (hq : X.env.qual = q) (hB : L.B.bx = some (b, l, [(PT, q ++ "<lambda>")])) (TB : TabB X.base X.mg c PT) (hc : X.env.code = .ref c) : LamAt X L := by
  subst hq
  refine ⟨b, l, _, c, PT, hB, TB, hc, List.mem_cons_self, fun p hp _ => ?_⟩
  rcases List.mem_cons.mp hp with h | h
  · rw [h]
  · cases h
/-- the name of a lambda of the def q -/
abbrev lamQ (q : Str) : Str := (q ++ ".<locals>.") ++ "<lambda>"
theorem lam_at {P : Program} {w : World} {K : PySem.W.Frag} {mg : Str → Option Value} {base : Heap} {N : List Str} {sc : Scope} {q : Str} {f c : Addr} {A : Around} {outer : List Env} {s : Shared} {H : Hp} {E : XK} {b l PT : Addr} {W : L2.St → XK} (TB : TabB base mg c PT) : LamAt (cxOf CX0 P w K mg base N q sc f (.ref c) A outer s H E).nox ⟨boB b l [(PT, lamQ q)], W⟩ :=
  lam_at' (q := q ++ ".<locals>.") rfl rfl TB rfl
theorem passF {P : Program} {w : World} : Passes (L2.CX P w) X (fun _ _ _ => False) := fun _ _ _ _ _ _ _ ⟨_, _, _, _, _, _, _, _, _, _, _, _, h⟩ => h.elim
end
end EV
set_option Elab.async false
set_option linter.all false
set_option maxRecDepth 100000
set_option maxHeartbeats 4000000
/-! the Hook with tables of code objects -/
namespace PySem
namespace XO
open PySem.W PySem.Calls PyProof.Rows PySem.HandSPX L2
structure SaysJ (fa : List He.Fa) (fn : List He.DefD) (ts : List He.Tab) (ins : List IniD) (tf : List He.Defn) (ex : Frag → Bool) (w : World) (h : Heap) (K : Frag) : Prop where
  i : SaysI fa fn ts ins ex w K
  hd : ∀ p ∈ tf, codeHdIn K (He.cT K p).1 (He.cT K p).2 = true
  out : ∀ p ∈ tf, K.lookup (He.cT K p).2 = none
  empty : ∀ p ∈ tf, h.get? (He.cT K p).2 = some { cls := .none, data := .fields #[] }
abbrev AlJ : Type := AlI × Bool
def obsJ (n : Nat) (fa : List He.Fa) (fn : List He.DefD) (ts : List He.Tab) (ins : List IniD) (tf : List He.Defn) (ex : Frag → Bool) (g : Addr → Option Obj) : AlJ := (obsI fa fn ts ins ex (He.frT g (asI g n)), He.tabsB g tf (He.frT g (asI g n)))
theorem saysJ_of {n : Nat} {fa : List He.Fa} {fn : List He.DefD} {ts : List He.Tab} {ins : List IniD} {tf : List He.Defn} {ex : Frag → Bool} {w : World} {h : Heap} (e : obsJ n fa fn ts ins tf ex h.get? = (valI fn ts ins w, true)) : SaysJ fa fn ts ins tf ex w h (He.frT h.get? (asI h.get? n)) := by
  have e1 : obsI fa fn ts ins ex (He.frT h.get? (asI h.get? n)) = valI fn ts ins w := congrArg (fun z : AlJ => z.1) e
  have h2 : He.tabsB h.get? tf (He.frT h.get? (asI h.get? n)) = true := congrArg (fun z : AlJ => z.2) e
  have key : ∀ p ∈ tf, codeHdIn (He.frT h.get? (asI h.get? n)) (He.cT (He.frT h.get? (asI h.get? n)) p).1 (He.cT (He.frT h.get? (asI h.get? n)) p).2 = true ∧ ∃ o, h.get? (He.cT (He.frT h.get? (asI h.get? n)) p).2 = some o ∧ He.emptyTab o = true := fun p hp => by
    have h3 := List.all_eq_true.mp h2 p hp
    rw [Bool.and_eq_true] at h3
    obtain ⟨h3, h4⟩ := h3
    refine ⟨h3, ?_⟩
    cases q : h.get? (He.cT (He.frT h.get? (asI h.get? n)) p).2 with
    | none =>
      rw [q] at h4
      cases h4
    | some o =>
      rw [q] at h4
      exact ⟨o, rfl, h4⟩
  exact ⟨saysI_of e1, fun p hp => (key p hp).1, fun p hp => by
    obtain ⟨_, o, q, z⟩ := key p hp
    exact He.frT_none q z, fun p hp => by
    obtain ⟨_, o, q, z⟩ := key p hp
    rw [q, He.emptyTab_eq z]⟩
def hookJ (n : Nat) (fa : List He.Fa) (fn : List He.DefD) (ts : List He.Tab) (ins : List IniD) (tf : List He.Defn) (ex : Frag → Bool) : PySem.W.Hook where
  α := AlJ
  obs := fun s => obsJ n fa fn ts ins tf ex s.heap.get?
  val := fun w => (valI fn ts ins w, true)
  says := fun w h => ∃ K : Frag, K.In h ∧ SaysJ fa fn ts ins tf ex w h K
  of := fun _ _ e => ⟨_, He.frT_in, saysJ_of e⟩
  keeps := fun _ _ _ ⟨K, hK, c⟩ k => ⟨K, PySem.W.Frag.In.keeps hK k, ⟨c.i, c.hd, c.out, fun p hp => k _ _ (c.empty p hp)⟩⟩
theorem obsJ_eq {n : Nat} {fa : List He.Fa} {fn : List He.DefD} {ts : List He.Tab} {ins : List IniD} {tf : List He.Defn} {ex : Frag → Bool} {g : Addr → Option Obj} {s : Shared} (h : ∀ a, g a = s.heap.get? a) : obsJ n fa fn ts ins tf ex g = (hookJ n fa fn ts ins tf ex).obs s := by
  have e : g = s.heap.get? := funext h
  rw [e] <;> rfl
end XO
end PySem
namespace L2
open PySem PySem.Spec PyProof.Rows
section
variable {P : Program} {w : World} {K : PySem.W.Frag} {mg : Str → Option Value} {base : Heap}
/-- a def that raises nothing, its code object known -/
theorem Fun.okC {p : He.Defn} {x qual : Str} {st : Stmt} {fd : FuncData} {N ps : List Str} {k : Nat} {sp : Sp} (F : Fun K x qual st (He.fAd K p) fd) (S : FnScope N ps (defScope st)) (len : ∀ vs H Q E, sp vs H Q E → vs.length = ps.length)
    (hbody : ∀ (A : Around) (outer : List Env) (s : Shared) (H : Hp) (vs : List V) (Q : VK) (E : XK), Room k (A.deeper (envOfC qual (defScope st) s.heap.objs.size (He.fAd K p) (.ref (He.codeOf K p)))) → sp vs H Q E →
      ∃ t, PSs (cxOf CX0 P w K mg base N qual (defScope st) (He.fAd K p) (.ref (He.codeOf K p)) A outer s H E).nox (defBody st) t ∧ t { nx := fun _ H' => Q .non H', rt := Q } (start N vs) H) : FnOk P w K mg base CX0 (k + 1) (He.fAd K p) fd ps sp := by
  obtain ⟨oc, od, kV, doc, pm, an, cdv, ct, osl, rfl, lk, hcd⟩ := F.ex
  obtain ⟨c, rfl⟩ := He.codeIn_ref hcd
  have e : He.codeOf K p = c := He.codeOf_eq lk rfl
  refine fn_of lk hcd S len fun A outer s H vs Q E hr hsp => ?_
  rw [← e] at hr ⊢
  obtain ⟨t, h, q⟩ := hbody A outer s H vs Q E hr hsp
  exact ⟨t, h.nox, q⟩
end
end L2
set_option Elab.async false
set_option linter.all false
set_option maxRecDepth 100000
set_option maxHeartbeats 4000000
/-! [*x, ..] -/
namespace EV
open PySem PySem.Spec PyProof.Rows L2 StX
def dStar (m : DE) (mr : DA) : DA := fun ρ O Q E => m ρ O (fun d O1 => match d with
  | .lst xs => mr ρ O1 (fun ys O2 => Q (xs ++ ys) O2) E
  | .tup xs => mr ρ O1 (fun ys O2 => Q (xs ++ ys) O2) E
  | _ => False) E
section
variable {X : Cx} {L : Pl} {e : Expr} {es : List Expr} {m : DE} {mA : DA} {p : Pos}
theorem mo_star (ha : Mo m) (hr : Mo mA) : Mo (dStar m mA) := fun ρ O Q Q' E E' q hx x => ha ρ _ _ _ _ _ (fun d _ z => by
  cases d <;> first
    | exact hr ρ _ _ _ _ _ (fun _ _ y => q _ _ y) hx z
    | exact z) hx x
theorem d_star (ha : DPE X L e m) (hr : DPA X L es mA) (hs : starEach (.Starred e p :: es) X.env = (true, eval e X.env) :: starEach es X.env) : DPA X L (.Starred e p :: es) (dStar m mA) := by
  refine ⟨mo_star ha.mo hr.mo, pa_imp (pa_star ha.run hr.run hs) fun σ H Q ⟨G, O, ρ, g, rs, q⟩ => ?_⟩
  refine up_of ha.mo g rs q fun x v O1 G1 H1 q1 s1 r1 => ?_
  cases r1 with
  | lst h r => exact ⟨_, _, rfl, .inr (s1.good.sub.sqL (SqL.of h)), upA_of hr.mo s1.good (rs.step s1) (mo_step hr.mo s1 q1) fun xs vs O2 G2 H2 q2 s2 r2 => q2 _ _ _ (s1.trans s2) ((r.mono s2.grow).append r2)⟩
  | tup h r => exact ⟨_, _, rfl, .inl (s1.good.sub.sqT h), upA_of hr.mo s1.good (rs.step s1) (mo_step hr.mo s1 q1) fun xs vs O2 G2 H2 q2 s2 r2 => q2 _ _ _ (s1.trans s2) ((r.mono s2.grow).append r2)⟩
  | _ => exact q1.elim
end
end EV
set_option Elab.async false
set_option linter.all false
set_option maxRecDepth 100000
set_option maxHeartbeats 4000000
/-! len(x) by an own __len__; x[::k] -/
namespace EV
open PySem PySem.Spec PyProof.Rows L2
section
variable {X : Cx}
theorem call_lenOwn {n : Nat} {C f : Addr} {fd : FuncData} {ps : List Str} {sp : Sp} (F : FnOk X.prog X.w X.K X.mg X.base CX0 n f fd ps sp) (hr : Room (n + 1) X.A)
    (hs : PySem.W.findIn X.K (.ref C) "__len__" = some (some (.ref f))) (hf : PySem.W.isFn X.K (.ref f) = true) (hb : Binds X.K fd ps []) :
    CallR X (.builtin "len") (fun xs H Q => ∃ a dx fs, xs = [.ref a] ∧ H a = some (.ins C dx fs) ∧ sp [.ref a] H (fun v H' => ∃ k : Int, v = .int k ∧ 0 ≤ k ∧ k < 2 ^ 63 ∧ Q (.int k) H') fun _ _ _ => False) := by
  intro pins s σ H xs us Q I r h
  obtain ⟨a, dx, fs, rfl, ha, hsp⟩ := h
  obtain ⟨u, rfl, ru⟩ := vals1 r
  cases ru
  obtain ⟨mA, J, _⟩ := ins_get I.hok ha
  obtain ⟨od, J, _⟩ := J.look
  obtain ⟨m, hF⟩ := I.fr
  refine PySem.W.len_K hF I.ok.mod.kin J hs hf ?_
  have e0 : Env0 X.prog X.w X.K X.mg X.base X.A.in1 X.stack s H := I.env0.in1
  have hl := F.len _ _ _ _ hsp
  have r2 : Vals [V.ref a] [Value.ref a] := .cons rfl .nil
  refine wpAny_call (codeAny_mono (F.run X.A.in1 X.stack s H ⟨[.ref a], []⟩ [.ref a] [.ref a] _ _ hr.in1 e0 (by
    have := hb s [.ref a] I.kIn (by simpa using hl)
    simpa using this) r2 hsp) fun r s' hq => ?_)
  cases r with
  | error e => exact False.elim hq
  | ok fl =>
    cases fl with
    | ret w =>
      obtain ⟨z, H', I', rz, k, ez, k0, k1, q⟩ := I.after hq
      subst ez
      obtain ⟨t, rfl⟩ := rz
      exact ⟨⟨k0, k1⟩, .int k, H', I'.tok _, ⟨_, rfl⟩, q⟩
    | next => exact False.elim hq
    | brk => exact False.elim hq
    | cont => exact False.elim hq
/-- what an own __len__ promises -/
def lenIS (C : Addr) (g : List (Str × D) → Option Nat) : DSp := fun ds O Q _ => ∃ fs k, ds = [.ins C fs] ∧ g fs = some k ∧ Q (.int k) O
def lenI (C : Addr) (g : List (Str × D) → Option Nat) : DC := fun _ ds Q => ∃ fs k, ds = [.ins C fs] ∧ g fs = some k ∧ k < 2 ^ 62 ∧ Q (.int k)
theorem cd_lenI {B : Bo} {n : Nat} {C f : Addr} {fd : FuncData} {ps : List Str} {g : List (Str × D) → Option Nat} (F : FnOk X.prog X.w X.K X.mg X.base CX0 n f fd ps (spD X.K (lenIS C g))) (hr : Room (n + 1) X.A)
    (hs : PySem.W.findIn X.K (.ref C) "__len__" = some (some (.ref f))) (hf : PySem.W.isFn X.K (.ref f) = true) (hb : Binds X.K fd ps []) : CallD X B (.builtin "len") (lenI C g) := by
  refine ⟨fun O x Q Q' q ⟨fs, k, e, hk, h2, z⟩ => ⟨fs, k, e, hk, h2, q _ z⟩, _, call_lenOwn F hr hs hf hb, fun O G H vs ds Q gd r h => ?_⟩
  obtain ⟨fs, k, rfl, hk, h2, q⟩ := h
  cases r with
  | cons r1 r2 =>
  cases r2
  cases r1 with
  | ins h3 rf =>
    refine ⟨_, _, _, rfl, gd.sub _ _ h3, G, O, [.ins C fs], gd.none, .cons (.ins h3 rf) .nil, spM.of ⟨fs, k, rfl, hk, fun v G' H' st rv => ?_⟩⟩
    cases rv
    exact ⟨k, rfl, by omega, by omega, q _ _ _ (st.lift gd) (.int _)⟩
/-! ### x[::k] -/
def tStp (K : PySem.W.Frag) (te : TE) (tk : TO) : TE := fun σ H Q => te σ H fun x H1 => tk σ H1 fun o H2 => ∃ a xs ys, x = .ref a ∧ SqL K H2 a xs ∧ ((o = some (-1) ∧ ys = xs.reverse) ∨ (o = some 1 ∧ ys = xs)) ∧ ∀ p, H2 p = none → Q (.ref p) (upd H2 p (.lst ys))
theorem pe_stp {e st : Expr} {te : TE} {tk : TO} {p3 pos : Pos} (he : PE X e te) (hk : PO X (some st) tk) : PE X (.Subscript e (.Slice none none (some st) p3) pos) (tStp X.K te tk) := by
  refine ⟨fun pins s σ H Q I h => ?_⟩
  refine Subscript_ (thn (he.run pins s σ H _ I h) fun v s1 ⟨x, H1, I1, r1, q1⟩ => ?_)
  refine wpAny_Slice (thn (po_none.run pins s1 σ H1 (fun o H2 => o = none ∧ H2 = H1) I1 ⟨rfl, rfl⟩) fun vl s2 ⟨l, H2, I2, pl, el, e2⟩ => ?_)
  subst el e2
  refine thn (po_none.run pins s2 σ H2 (fun o H3 => o = none ∧ H3 = H2) I2 ⟨rfl, rfl⟩) fun vu s3 ⟨u, H3, I3, pu, eu, e3⟩ => ?_
  subst eu e3
  refine thn (hk.run pins s3 σ H3 _ I3 q1) fun vs s4 ⟨o, H4, I4, ps, a, xs, ys, ex, hx, hy, q⟩ => ?_
  subst ex
  cases r1
  have I5 : Inv X pins σ H4 { s4 with heap := s4.heap.push { cls := .type "slice", data := .fields #[vl, vu, vs] } } := I4.kept (t' := s4.toks) fun b ob q => Heap.get?_push_of_some _ q
  obtain ⟨its, r, ht, hz⟩ := I5.list hx
  have hlen := r.length
  show wpAny (model X.prog X.w) X.A (subscriptTail e (.Slice none none (some st) p3) (.ref a) (.ref s4.heap.objs.size)) (EP X pins σ Q) X.xe { s4 with heap := s4.heap.push { cls := .type "slice", data := .fields #[vl, vu, vs] } }
  refine tail_any (ops := [.ref a, .ref s4.heap.objs.size]) ht.isList.typeIs (PySem.slot_list_getitem.lookup) ?_ (by with_unfolding_all rfl)
  rcases hy with ⟨rfl, rfl⟩ | ⟨rfl, rfl⟩
  · refine wpAny_getItem_list_slice ht.isList (Heap.IsSliceOf.new _ vl vu vs) pl pu ps (by decide) ?_ (by rw [List.size_toArray]; omega)
    rw [PySem.W.krv_pick]
    refine ⟨.ref _, _, I5.laid (t' := s4.toks) (o := .lst xs.reverse) (fun b ob q => Heap.get?_push_of_some _ q) (Nat.le_refl _) ?_, rfl, q _ (I5.hok.fresh (Nat.le_refl _))⟩
    exact ⟨by rw [List.length_reverse]; exact hz, _, 0, r.reverse, Heap.get?_push_size _ rfl⟩
  · refine wpAny_getItem_list_slice ht.isList (Heap.IsSliceOf.new _ vl vu vs) pl pu ps (by decide) ?_ (by rw [List.size_toArray]; omega)
    have ep : slicePick its.toArray none none (some 1) = its.toArray := by
      have : slicePick its.toArray none none (some 1) = slicePick its.toArray none none none := rfl
      rw [this, slicePick_cut]
      simp [HT.sIx]
    rw [ep]
    refine ⟨.ref _, _, I5.laid (t' := s4.toks) (o := .lst ys) (fun b ob q => Heap.get?_push_of_some _ q) (Nat.le_refl _) ?_, rfl, q _ (I5.hok.fresh (Nat.le_refl _))⟩
    exact ⟨hz, _, 0, r, Heap.get?_push_size _ rfl⟩
def dStp (m mk : DE) : DE := fun ρ O Q E => m ρ O (fun x O1 => mk ρ O1 (fun y O2 => ∃ xs, x = .lst xs ∧ ((y = .int 1 ∧ Q (.lst xs) O2) ∨ (y = .int (-1) ∧ Q (.lst xs.reverse) O2))) E) E
variable {L : Pl} {e st : Expr} {m mk : DE} {pos : Pos}
theorem mo_stp (h : Mo m) (hk : Mo mk) : Mo (dStp m mk) := fun ρ O Q Q' E E' q hx x => h ρ _ _ _ _ _ (fun _ _ z => hk ρ _ _ _ _ _ (fun _ _ ⟨xs, e, y⟩ => ⟨xs, e, y.elim (fun y => .inl ⟨y.1, q _ _ y.2⟩) fun y => .inr ⟨y.1, q _ _ y.2⟩⟩) hx z) hx x
theorem RpL.rev {K : PySem.W.Frag} {G : Hp} : ∀ {vs : List V} {ds : List D}, RpL K G vs ds → RpL K G vs.reverse ds.reverse
  | _, _, .nil => .nil
  | _, _, .cons r1 r2 => by
    rw [List.reverse_cons, List.reverse_cons]
    exact (RpL.rev r2).append (.cons r1 .nil)
theorem d_stp {p2 : Pos} (h : DPE X L e m) (hk : DPE X L st mk) : DPE X L (.Subscript e (.Slice none none (some st) p2) pos) (dStp m mk) := by
  refine ⟨mo_stp h.mo hk.mo, pe_imp (pe_stp h.run (po_some hk.run)) fun σ H Q ⟨G, O, ρ, g, rs, q⟩ => ?_⟩
  refine up_of h.mo g rs q fun x v O1 G1 H1 q1 s1 r1 => ?_
  refine up_of hk.mo s1.good (rs.step s1) (mo_step hk.mo s1 q1) fun y vy O2 G2 H2 q2 s2 r2 => ?_
  have s12 := s1.trans s2
  obtain ⟨xs, rfl, q2⟩ := q2
  have r3 := r1.mono s2.grow
  cases r3 with
  | lst h rl =>
  have e : SqL X.K H2 _ _ := s2.good.sub.sqL (SqL.of h)
  rcases q2 with ⟨rfl, q3⟩ | ⟨rfl, q3⟩
  · cases r2
    exact ⟨1, rfl, _, _, _, rfl, e, .inr ⟨rfl, rfl⟩, fun p np => q3 _ _ _ (s12.trans (Step.new s2.good np)) (new_lst s2.good np rl)⟩
  · cases r2
    exact ⟨-1, rfl, _, _, _, rfl, e, .inl ⟨rfl, rfl⟩, fun p np => q3 _ _ _ (s12.trans (Step.new s2.good np)) (new_lst s2.good np (RpL.rev rl))⟩
end
end EV
set_option Elab.async false
set_option linter.all false
set_option maxRecDepth 100000
set_option maxHeartbeats 4000000
/-! [e for a in xs for b in ys] -/
namespace EV
open PySem PySem.Spec PyProof.Rows L2
/-- what is gathered so far, at Dd -/
structure Gth (K : PySem.W.Frag) (B : Bo) (O : Ow) (G H : Hp) (Dd : Addr) (O1 : Ow) (G1 H1 : Hp) (acc : List D) (vacc : List V) : Prop where
  st : Step K B O G H O1 G1 H1
  gD : G1 Dd = none
  oD : O1 Dd = none
  hD : H1 Dd = some (.lst vacc)
  ra : RpL K G1 vacc acc
section
variable {K : PySem.W.Frag} {B : Bo} {O O1 O2 : Ow} {G H G1 H1 G2 H2 : Hp} {Dd : Addr} {acc : List D} {vacc : List V}
theorem Gth.step (nb : ¬ Hid B Dd) (g : Gth K B O G H Dd O1 G1 H1 acc vacc) (s : Step K B O1 G1 H1 O2 G2 H2) : Gth K B O G H Dd O2 G2 H2 acc vacc :=
  ⟨g.st.trans s, (s.hid _ _ g.hD g.gD g.oD).1, (s.hid _ _ g.hD g.gD g.oD).2, s.keep _ _ g.hD nb g.oD, g.ra.mono s.grow⟩
theorem Gth.lay (nb : ¬ Hid B Dd) (nH : H Dd = none) (st : Step K B O G H O1 G1 H1) (gD : G1 Dd = none) (oD : O1 Dd = none) (n3 : ∀ φ, H1 Dd ≠ some (.ext φ)) (ra : RpL K G1 vacc acc) : Gth K B O G H Dd O1 G1 (upd H1 Dd (.lst vacc)) acc vacc := by
  have gd := st.good
  have gd2 : Good K B O1 G1 (upd H1 Dd (.lst vacc)) := by
    refine ⟨fun a o e => ?_, fun b l T e => ?_, gd.amb, fun p d e => ?_⟩
    · rw [upd_ne (fun z => by rw [z, gD] at e; cases e)]; exact gd.sub a o e
    · refine (gd.box b l T e).step (Sub.refl _) (fun a ha => gd.hidG ⟨b, l, T, e, ha⟩) fun a o ha h => ?_
      rw [upd_ne (fun z => ?_)]
      · exact h
      · subst z
        rcases ha with ha | ⟨φ, rfl⟩
        · exact nb ⟨b, l, T, e, ha⟩
        · exact n3 φ h
    · obtain ⟨a, b, c⟩ := gd.own p d e
      exact ⟨a, b, c.mono (Sub.refl _) fun o h => by rw [upd_ne (fun z => by rw [z, oD] at e; cases e)]; exact h⟩
  exact ⟨⟨st.grow, gd2, fun a o e n z => by rw [upd_ne (fun z => by rw [z, nH] at e; cases e)]; exact st.keep a o e n z, st.hid, fun a h => upd_still a (st.still a h)⟩, gD, oD, upd_same, ra⟩
theorem Gth.put {v : V} {d : D} (nb : ¬ Hid B Dd) (nH : H Dd = none) (g : Gth K B O G H Dd O1 G1 H1 acc vacc) (r : Rp K G1 v d) : Gth K B O G H Dd O1 G1 (upd H1 Dd (.lst (vacc ++ [v]))) (acc ++ [d]) (vacc ++ [v]) :=
  Gth.lay nb nH g.st g.gD g.oD (fun φ z => by rw [g.hD] at z; cases z) (g.ra.append (.cons r .nil))
theorem in_run {σ2 : L2.St} {ρ2 : Slots} {g : DG} {tt : DT} {te : DE} {vs is : List Nat} {J : It} {I : Ow → Prop} {ds : List D} {P : List D → Ow → Prop} (hg : MoG g) (ht : Mo tt) (he : Mo te) (nb : ¬ Hid B Dd) (nH : H Dd = none)
    (g0 : Gth K B O G H Dd O1 G1 H1 acc vacc) (rs : RpS K G1 σ2 ρ2) (it : ItD K B G1 J (I, ds)) (h : lcW I g tt te (wipeD ρ2 vs) ds acc O1 P) (hv : ∀ i ∈ is, i ∈ vs) (Nx : Hp → Prop)
    (hP : ∀ acc vacc O2 G2 H2, P acc O2 → Gth K B O G H Dd O2 G2 H2 acc vacc → Sub G1 G2 → Nx H2) :
    ∃ W : Nat → Nat → Hp → Prop, (∃ m, W 0 m H1) ∧ ∀ i m H, W i m H →
      (J.stop i H ∧ Nx H) ∨ (J.go i H ∧ ∃ Nx1 : Hp → Prop, (∀ H', Nx1 H' → ∃ m', m' < m ∧ W (i + 1) m' H') ∧ ∀ x H', J.yld i H x H' → upG K B is g x (L2.wipe σ2 vs) H' fun σ3 H2 => L2.wipe σ3 vs = L2.wipe σ2 vs ∧ upT K B (fun _ _ _ _ => False) tt σ3 H2 fun b H3 =>
        if b = true then up K B (fun _ _ _ _ => False) te σ3 H3 fun y H4 => ∃ acc, H4 Dd = some (.lst acc) ∧ acc.length < sizeLine ∧ Nx1 (upd H4 Dd (.lst (acc ++ [y]))) else Nx1 H3) := by
  refine ⟨fun i m H2 => ∃ G2 O2 acc vacc, m = ds.length - i ∧ i ≤ ds.length ∧ Gth K B O G H Dd O2 G2 H2 acc vacc ∧ Sub G1 G2 ∧ lcW I g tt te (wipeD ρ2 vs) (ds.drop i) acc O2 P, ⟨ds.length, G1, O1, acc, vacc, by simp, Nat.zero_le _, g0, Sub.refl _, by simpa using h⟩, ?_⟩
  rintro i m H2 ⟨G2, O2, acc, vacc, rfl, hi, gt, sb, hl⟩
  rcases Nat.lt_or_ge i ds.length with hlt | hge
  · have ei : ds[i]? = some ds[i] := List.getElem?_eq_getElem hlt
    have ed : ds.drop i = ds[i] :: ds.drop (i + 1) := List.drop_eq_getElem_cons hlt
    rw [ed] at hl
    obtain ⟨hI, hl⟩ := hl
    obtain ⟨go, yl⟩ := (it i O2 G2 H2 gt.st.good sb hI).1 _ ei
    refine .inr ⟨go, fun H3 => ∃ G3 O3 acc vacc, Gth K B O G H Dd O3 G3 H3 acc vacc ∧ Sub G1 G3 ∧ lcW I g tt te (wipeD ρ2 vs) (ds.drop (i + 1)) acc O3 P, fun H3 ⟨G3, O3, acc3, vacc3, a, b, c⟩ => ⟨ds.length - (i + 1), by omega, G3, O3, acc3, vacc3, rfl, by omega, a, b, c⟩, fun x H3 y => ?_⟩
    obtain ⟨G3, s3, rx⟩ := yl x H3 y
    have gt3 := gt.step nb s3
    refine ⟨G3, O2, wipeD ρ2 vs, ds[i], s3.good, (rs.mono (sb.trans s3.grow)).wipe vs, rx, hg _ _ _ _ (fun ρ' z σ3 rs3 o3 => ⟨wipe_off o3 hv, ?_⟩) hl⟩
    refine ⟨G3, O2, ρ', s3.good, rs3, ht _ _ _ _ _ _ (fun c O4 z2 G4 H4 s4 => ?_) (fun _ _ x => x.elim) z⟩
    have gt4 := gt3.step nb s4
    cases c with
    | false => exact iteF ⟨G4, O4, acc, vacc, gt4, (sb.trans s3.grow).trans s4.grow, z2⟩
    | true =>
      refine iteT ⟨G4, O4, ρ', s4.good, rs3.step s4, he _ _ _ _ _ _ (fun y O5 z3 vy G5 H5 s5 ry => ?_) (fun _ _ x => x.elim) z2⟩
      have gt5 := gt4.step nb s5
      exact ⟨vacc, gt5.hD, by rw [gt5.ra.length]; exact z3.1, G5, O5, acc ++ [y], vacc ++ [vy], gt5.put nb nH ry, ((sb.trans s3.grow).trans s4.grow).trans s5.grow, z3.2⟩
  · rw [List.drop_eq_nil_of_le hge] at hl
    obtain ⟨hI, hl⟩ := hl
    exact .inl ⟨(it i O2 G2 H2 gt.st.good sb hI).2 (show i = ds.length by omega), hP acc vacc O2 G2 H2 hl gt sb⟩
/-- the turns of two fors -/
def lcW2 (I : Ow → Prop) (g : DG) (tt : DT) (mi1 : DI) (g1 : DG) (tt1 : DT) (te : DE) (vs1 : List Nat) (ρ : Slots) : List D → List D → Ow → (List D → Ow → Prop) → Prop
  | [], acc, O, Q => I O ∧ Q acc O
  | d :: ds, acc, O, Q => I O ∧ g d ρ fun ρ2 => tt ρ2 O (fun c O1 => bc c (mi1 ρ2 O1 (fun x O2 => lcW x.1 g1 tt1 te (wipeD ρ2 vs1) x.2 acc O2 fun acc' O3 => lcW2 I g tt mi1 g1 tt1 te vs1 ρ ds acc' O3 Q) (fun _ _ => False)) (lcW2 I g tt mi1 g1 tt1 te vs1 ρ ds acc O1 Q)) (fun _ _ => False)
theorem lcW2_mo {I : Ow → Prop} {g : DG} {tt : DT} {mi1 : DI} {g1 : DG} {tt1 : DT} {te : DE} {vs1 : List Nat} (hg : MoG g) (ht : Mo tt) (hi : Mo mi1) (hg1 : MoG g1) (ht1 : Mo tt1) (he : Mo te) {ρ : Slots} {Q Q' : List D → Ow → Prop} (h : ∀ d O, Q d O → Q' d O) : ∀ {ds acc : List D} {O : Ow}, lcW2 I g tt mi1 g1 tt1 te vs1 ρ ds acc O Q → lcW2 I g tt mi1 g1 tt1 te vs1 ρ ds acc O Q'
  | [], _, _, z => ⟨z.1, h _ _ z.2⟩
  | d :: ds, acc, _, z => ⟨z.1, hg _ _ _ _ (fun ρ' z1 => ht _ _ _ _ _ _ (fun c _ z2 => by
      cases c with
      | true => exact (hi _ _ _ _ _ _ (fun y _ z3 => lcW_mo hg1 ht1 he (fun _ _ z4 => lcW2_mo hg ht hi hg1 ht1 he h z4) z3) (fun _ _ x => x) z2)
      | false => exact (lcW2_mo hg ht hi hg1 ht1 he h z2)) (fun _ _ x => x) z1) z.2⟩
def dLc2 (mi : DI) (g : DG) (tt : DT) (mi1 : DI) (g1 : DG) (tt1 : DT) (te : DE) (vs vs1 : List Nat) : DE := fun ρ O Q E => mi ρ O (fun x O1 => lcW2 x.1 g tt mi1 g1 tt1 te vs1 (wipeD ρ vs) x.2 [] O1 fun l O2 => Q (.lst l) O2) E
theorem lc2_run {σ0 : L2.St} {ρ0 : Slots} {g g1 : DG} {tt tt1 : DT} {mi1 : DI} {te : DE} {vs vs1 is is1 : List Nat} {J : It} {I : Ow → Prop} {O0 : Ow} {G0 H0 : Hp} {ds : List D} {Q : VK} {P : List D → Ow → Prop} (hg : MoG g) (ht : Mo tt) (hi1 : Mo mi1) (hg1 : MoG g1) (ht1 : Mo tt1) (he : Mo te)
    (s0 : Step K B O G H O0 G0 H0) (rs : RpS K G σ0 ρ0) (it : ItD K B G0 J (I, ds)) (h : lcW2 I g tt mi1 g1 tt1 te vs1 (wipeD ρ0 vs) ds [] O0 P) (nD : H0 Dd = none) (hv : ∀ i ∈ is, i ∈ vs) (hv1 : ∀ i ∈ is1, i ∈ vs1)
    (hP : ∀ acc vacc O1 G1 H1, P acc O1 → Step K B O G H O1 G1 H1 → O1 Dd = none → G1 Dd = none → H Dd = none → H1 Dd = some (.lst vacc) → ¬ Hid B Dd → RpL K G1 vacc acc → Q (.ref Dd) H1) :
    ∃ W : Nat → Nat → Hp → Prop, (∃ m, W 0 m (upd H0 Dd (.lst []))) ∧ ∀ i m H, W i m H →
      (J.stop i H ∧ Q (.ref Dd) H) ∨ (J.go i H ∧ ∃ Nx : Hp → Prop, (∀ H', Nx H' → ∃ m', m' < m ∧ W (i + 1) m' H') ∧ ∀ x H', J.yld i H x H' → upG K B is g x (L2.wipe σ0 vs) H' fun σ2 H2 => L2.wipe σ2 vs = L2.wipe σ0 vs ∧ upT K B (fun _ _ _ _ => False) tt σ2 H2 fun b H3 =>
        if b = true then upI K B (fun _ _ _ _ => False) mi1 σ2 H3 fun J1 H4 => ∃ W1 : Nat → Nat → Hp → Prop, (∃ m, W1 0 m H4) ∧ ∀ j k H, W1 j k H →
          (J1.stop j H ∧ Nx H) ∨ (J1.go j H ∧ ∃ Nx1 : Hp → Prop, (∀ H', Nx1 H' → ∃ k', k' < k ∧ W1 (j + 1) k' H') ∧ ∀ x H', J1.yld j H x H' → upG K B is1 g1 x (L2.wipe σ2 vs1) H' fun σ3 H5 => L2.wipe σ3 vs1 = L2.wipe σ2 vs1 ∧ upT K B (fun _ _ _ _ => False) tt1 σ3 H5 fun b H6 =>
            if b = true then up K B (fun _ _ _ _ => False) te σ3 H6 fun y H7 => ∃ acc, H7 Dd = some (.lst acc) ∧ acc.length < sizeLine ∧ Nx1 (upd H7 Dd (.lst (acc ++ [y]))) else Nx1 H6)
        else Nx H3) := by
  have nb : ¬ Hid B Dd := s0.good.nhid nD
  have nG : G0 Dd = none := s0.good.freshG nD
  have nO : O0 Dd = none := s0.good.fresh nD
  have nH : H Dd = none := by
    cases eo : H Dd with
    | none => rfl
    | some o =>
      exfalso
      cases eO : O Dd with
      | none => have := s0.keep _ _ eo nb eO; rw [nD] at this; cases this
      | some d => exact absurd nD (s0.still _ (by rw [eo]; exact Option.some_ne_none _))
  refine ⟨fun i m H1 => ∃ G1 O1 acc vacc, m = ds.length - i ∧ i ≤ ds.length ∧ Gth K B O G H Dd O1 G1 H1 acc vacc ∧ Sub G0 G1 ∧ lcW2 I g tt mi1 g1 tt1 te vs1 (wipeD ρ0 vs) (ds.drop i) acc O1 P, ⟨ds.length, G0, O0, [], [], by simp, Nat.zero_le _, Gth.lay nb nH s0 nG nO (fun φ z => by rw [nD] at z; cases z) .nil, Sub.refl _, by simpa using h⟩, ?_⟩
  rintro i m H1 ⟨G1, O1, acc, vacc, rfl, hi, gt, sb, hl⟩
  rcases Nat.lt_or_ge i ds.length with hlt | hge
  · have ei : ds[i]? = some ds[i] := List.getElem?_eq_getElem hlt
    have ed : ds.drop i = ds[i] :: ds.drop (i + 1) := List.drop_eq_getElem_cons hlt
    rw [ed] at hl
    obtain ⟨hI, hl⟩ := hl
    obtain ⟨go, yl⟩ := (it i O1 G1 H1 gt.st.good sb hI).1 _ ei
    refine .inr ⟨go, fun H2 => ∃ G2 O2 acc vacc, Gth K B O G H Dd O2 G2 H2 acc vacc ∧ Sub G0 G2 ∧ lcW2 I g tt mi1 g1 tt1 te vs1 (wipeD ρ0 vs) (ds.drop (i + 1)) acc O2 P, fun H2 ⟨G2, O2, acc2, vacc2, a, b, c⟩ => ⟨ds.length - (i + 1), by omega, G2, O2, acc2, vacc2, rfl, by omega, a, b, c⟩, fun x H2 y => ?_⟩
    obtain ⟨G2, s2, rx⟩ := yl x H2 y
    have gt2 := gt.step nb s2
    refine ⟨G2, O1, wipeD ρ0 vs, ds[i], s2.good, (rs.step gt2.st).wipe vs, rx, hg _ _ _ _ (fun ρ' z σ2 rs2 o2 => ⟨wipe_off o2 hv, ?_⟩) hl⟩
    refine ⟨G2, O1, ρ', s2.good, rs2, ht _ _ _ _ _ _ (fun c O3 z2 G3 H3 s3 => ?_) (fun _ _ x => x.elim) z⟩
    have gt3 := gt2.step nb s3
    have sb3 := (sb.trans s2.grow).trans s3.grow
    cases c with
    | false => exact iteF ⟨G3, O3, acc, vacc, gt3, sb3, z2⟩
    | true =>
      refine iteT ⟨G3, O3, ρ', s3.good, rs2.step s3, hi1 _ _ _ _ _ _ (fun x1 O4 z3 J1 G4 H4 s4 it1 => ?_) (fun _ _ x => x.elim) z2⟩
      have gt4 := gt3.step nb s4
      exact in_run hg1 ht1 he nb nH gt4 ((rs2.step s3).step s4) it1 z3 hv1 _ fun acc5 vacc5 O5 G5 H5 p gt5 sb5 => ⟨G5, O5, acc5, vacc5, gt5, (sb3.trans s4.grow).trans sb5, p⟩
  · rw [List.drop_eq_nil_of_le hge] at hl
    obtain ⟨hI, hl⟩ := hl
    exact .inl ⟨(it i O1 G1 H1 gt.st.good sb hI).2 (show i = ds.length by omega), hP acc vacc O1 G1 H1 hl gt.st gt.oD gt.gD nH gt.hD nb gt.ra⟩
end
section
variable {X : Cx} {L : Pl} {pos : Pos}
theorem d_lc2 {elt tg iter tg1 iter1 : Expr} {ifs ifs1 : List Expr} {scope : Scope} {own : List (Str × Nat)} {vs1 is is1 : List Nat} {mi mi1 : DI} {g g1 : DG} {tt tt1 : DT} {te : DE} (hc : X.calm = true) (hN : X.N.Nodup) (hi : DPI X L tg iter mi) (ok : BlkOk X.N X.env.scope scope own) (hvs : ∀ i ∈ vs1, i ∈ own.map (·.2))
    (hg : ∀ (s : Shared) (H : Hp) (C : Addr) (cl : List (Str × Addr)) (fp : List Addr), DPG (X.blk s H scope (compEnvC scope cl C X.env) fp) L.blk tg is g)
    (ht : ∀ (s : Shared) (H : Hp) (C : Addr) (cl : List (Str × Addr)) (fp : List Addr), DPTs (X.blk s H scope (compEnvC scope cl C X.env) fp) L.blk ifs tt)
    (hi1 : ∀ (s : Shared) (H : Hp) (C : Addr) (cl : List (Str × Addr)) (fp : List Addr), DPI (X.blk s H scope (compEnvC scope cl C X.env) fp) L.blk tg1 iter1 mi1)
    (hg1 : ∀ (s : Shared) (H : Hp) (C : Addr) (cl : List (Str × Addr)) (fp : List Addr), DPG (X.blk s H scope (compEnvC scope cl C X.env) fp) L.blk tg1 is1 g1)
    (ht1 : ∀ (s : Shared) (H : Hp) (C : Addr) (cl : List (Str × Addr)) (fp : List Addr), DPTs (X.blk s H scope (compEnvC scope cl C X.env) fp) L.blk ifs1 tt1)
    (he : ∀ (s : Shared) (H : Hp) (C : Addr) (cl : List (Str × Addr)) (fp : List Addr), DPE (X.blk s H scope (compEnvC scope cl C X.env) fp) L.blk elt te)
    (hv : is.all (fun i => (own.map (·.2)).contains i) = true) (hv1 : is1.all (fun i => vs1.contains i) = true) (hs : ∀ x, foldedSetIterable iter X.env x = pure x) (hs1 : ∀ env x, foldedSetIterable iter1 env x = pure x) :
    DPE X L (.ListComp elt [⟨tg, iter, ifs, 0⟩, ⟨tg1, iter1, ifs1, 0⟩] scope pos) (dLc2 mi g tt mi1 g1 tt1 te (own.map (·.2)) vs1) := by
  have mg := (hg X.s_0 X.H_0 0 [] []).mo
  have mt := (ht X.s_0 X.H_0 0 [] []).mo
  have mi' := (hi1 X.s_0 X.H_0 0 [] []).mo
  have mg1 := (hg1 X.s_0 X.H_0 0 [] []).mo
  have mt1 := (ht1 X.s_0 X.H_0 0 [] []).mo
  have me := (he X.s_0 X.H_0 0 [] []).mo
  refine ⟨fun ρ O Q Q' E E' q hx x => hi.mo ρ _ _ _ _ _ (fun _ _ z => lcW2_mo mg mt mi' mg1 mt1 me (fun _ => q _) z) hx x, pe_imp (pe_lc2 (g := upG X.K L.B is g) (tt := upT X.K L.B (fun _ _ _ _ => False) tt) (wi1 := upI X.K L.B (fun _ _ _ _ => False) mi1) (g1 := upG X.K L.B is1 g1) (tt1 := upT X.K L.B (fun _ _ _ _ => False) tt1) (te := up X.K L.B (fun _ _ _ _ => False) te) hc hN hi.run ok hvs (fun s H C cl fp => (hg s H C cl fp).run) (fun s H C cl fp => (ht s H C cl fp).run) (fun s H C cl fp => (hi1 s H C cl fp).run) (fun s H C cl fp => (hg1 s H C cl fp).run) (fun s H C cl fp => (ht1 s H C cl fp).run) (fun s H C cl fp => (he s H C cl fp).run) hs hs1) fun σ H Q ⟨G, O, ρ, gd, rs, q⟩ => ?_⟩
  refine ⟨G, O, ρ, gd, rs, hi.mo ρ _ _ _ _ _ (fun x O1 z J G1 H1 s1 it Dd nD => ?_) (fun _ _ x => x) q⟩
  exact lc2_run mg mt mi' mg1 mt1 me s1 rs it z nD (in_of hv) (in_of hv1) fun acc vacc O1 G1 H1 p st a b c d e f => lc_show acc vacc O1 G1 H1 p st a b c d e f
end
end EV
set_option Elab.async false
set_option linter.all false
set_option maxRecDepth 100000
set_option maxHeartbeats 4000000
/-! len(set(x)), x a list of texts -/
namespace EV
open PySem PySem.Spec PyProof.Rows L2
/-- texts, each once, as they are met -/
def metI (l : List Str) (x : Str) : List Str := if l.any (· == x) = true then l else l ++ [x]
def met (xs : List Str) : List Str := xs.foldl metI []
theorem metI_any (l : List Str) (x z : Str) : (metI l x).any (· == z) = (l.any (· == z) || decide (z = x)) := by
  unfold metI
  split
  · rename_i h
    by_cases e : z = x
    · subst e; simp [h]
    · simp [e]
  · by_cases e : z = x
    · subst e; simp
    · have : ¬ x = z := fun q => e q.symm
      simp [this, e]
theorem metI_len (l : List Str) (x : Str) : (metI l x).length = if l.any (· == x) = true then l.length else l.length + 1 := by
  unfold metI
  split <;> simp
theorem met_take {xs : List Str} {i : Nat} (h : i < xs.length) : met (xs.take (i + 1)) = metI (met (xs.take i)) (xs.getD i Str.empty) := by
  unfold met
  rw [List.take_add_one, List.getElem?_eq_getElem h, List.foldl_append]
  simp [List.getD, List.getElem?_eq_getElem h]
theorem met_le : ∀ (xs l : List Str), (xs.foldl metI l).length ≤ l.length + xs.length
  | [], l => by simp
  | x :: xs, l => by
    have := met_le xs (metI l x)
    have h2 := metI_len l x
    rw [List.foldl_cons, List.length_cons]
    split at h2 <;> omega
abbrev SetM (P : Program) (w : World) (h : Heap) (S : Addr) (l : List Str) : Prop := h.SetOf (PySem.strKind P w) S (fun z => l.any (· == z)) l.length
section
variable {P : Program} {w : World} {A : Around} {R : Result → Shared → Prop}
theorem set_walk {I S : Addr} {fp wr : List Addr} {GG : Array GenState → Array GenState → Prop} {n : Nat} {Pv : Nat → Value → Prop} {St : Nat → Shared → Prop} {xs : List Str} (W : WalksS P w A.in1 I fp wr GG n Pv St) (off : S ∉ fp) (hl : xs.length = n) (hb : n + 1 < scanBound) (hv : ∀ i v, Pv i v → ∃ t, v = .str (xs.getD i Str.empty) t) :
    ∀ (k i : Nat) (s : Shared), i + k = n → St i s → SetM P w s.heap S (met (xs.take i)) → (∀ s', Moved (S :: wr) GG s s' → SetM P w s'.heap S (met xs) → R (.ok (.ret .none)) s') → codeAny (model P w) A (.builtin "set.update.loop" ⟨[.ref S, .ref I], []⟩) R s
  | 0, i, s, hk, st, hS, fin => by
    obtain rfl : i = n := by omega
    refine codeAny_builtin PyProof.Rows.F.entry_set_update_loop ?_
    rw [Around.under_plainId PyProof.Rows.F.plain_set_update_loop _]
    refine wpAny_bind (W.done s _ _ st fun s1 mv => wpAny_pure (fin s1 (mv.mono fun b hb => .tail _ hb) ?_))
    rw [← hl, List.take_length] at hS
    obtain ⟨o, es, ep, t, ho, more⟩ := hS
    exact ⟨o, es, ep, t, mv.heap S _ (fun q => off (W.sub _ q)) ho, more⟩
  | k + 1, i, s, hk, st, hS, fin => by
    have hi : i < xs.length := by omega
    refine codeAny_builtin PyProof.Rows.F.entry_set_update_loop ?_
    rw [Around.under_plainId PyProof.Rows.F.plain_set_update_loop _]
    refine wpAny_bind (W.item i s _ _ (by omega) st fun v s1 pv st1 mv => ?_)
    obtain ⟨t, rfl⟩ := hv i v pv
    have hS1 : SetM P w s1.heap S (met (xs.take i)) := by
      obtain ⟨o, es, ep, tb, ho, more⟩ := hS
      exact ⟨o, es, ep, tb, mv.heap S _ (fun q => off (W.sub _ q)) ho, more⟩
    generalize hx : xs.getD i Str.empty = x at *
    have room : (met (xs.take i)).length + 1 < scanBound := by
      have h3 := met_le (xs.take i) []
      have h4 : (met (xs.take i)).length ≤ 0 + (xs.take i).length := h3
      rw [List.length_take] at h4
      omega
    refine wpAny_bind (m := holding [Value.str x t] (setAdd S (.str x t))) (wpAny_holding (wpAny_holding (wpAny_bind ((PySem.strKind P w).pyHash (k := x) (strKind_is _ _ _ _) ?_))))
    refine wpAny_setAddHashed_of (knd := PySem.strKind P w) (s := { s1 with toks := s1.toks + 1 }) (strKind_is _ _ _ _) rfl hS1 room fun h2 same hS2 => ?_
    have hS3 : SetM P w h2 S (met (xs.take (i + 1))) := by
      rw [met_take hi, hx]
      exact SetOf_congr hS2 (fun z => (metI_any _ _ _).symm) (metI_len _ _).symm
    refine wpAny_pure ⟨plainId_quiet PyProof.Rows.F.plain_set_update_loop _, set_walk W off hl hb hv k (i + 1) _ (by omega) (W.frame _ s1 _ _ st1 (Nat.le_succ _) fun b hb o e => ?_) hS3 fun s3 mv3 hS4 => fin s3 (Moved.trans W.gtrans ((mv.mono fun b hb => .tail _ hb).then_heap (Nat.le_succ _) fun b o hb e => ?_) mv3) hS4⟩
    · exact (same.2 b fun q => off (q ▸ hb)).trans e
    · exact (same.2 b fun q => hb (q ▸ .head _)).trans e
/-- a new set -/
abbrev setO (led : Bool) : Obj := { cls := .type "set", dict := none, data := .set #[] 0 (.fresh 0 0 led) }
variable {E : Value → Shared → Prop} {s : Shared}
/-- what set(x) leaves -/
def SetEnd (P : Program) (w : World) (s : Shared) (xs : List Str) (r : Value) (s2 : Shared) : Prop :=
  r = .none ∧ ∃ (h2 : Heap) (tk : Nat), s2 = { s with heap := h2, toks := tk } ∧ SetM P w h2 s.heap.objs.size (met xs) ∧ ∀ b o, b < s.heap.objs.size → s.heap.get? b = some o → h2.get? b = some o
theorem set_init {l : Addr} {items : Array Value} {xs : List Str} {led : Bool} (hh : A.handled = none) (hl : s.heap.IsList l items) (hi : PyProof.Rows.StrsAre items.toList xs) (hb : xs.length + 1 < scanBound) :
    codeAny (model P w) A (.call (.builtin "set.__init__") ⟨[.ref s.heap.objs.size, .ref l], []⟩) (wants (SetEnd P w s xs) E) { s with heap := s.heap.push (setO led) } := by
  have gS : (s.heap.push (setO led)).get? s.heap.objs.size = some (setO led) := Heap.get?_push_size _ rfl
  refine codeAny_call_builtin PySem.F.called_set.init.plain PySem.F.entry_set_init (check_set_init_1 ⟨_, gS, rfl⟩ ?_)
  obtain ⟨⟨oc, od, odt, osl⟩, go, ec, nl, ed⟩ := hl
  dsimp only at ec ed
  subst ec ed
  have gl : (s.heap.push (setO led)).get? l = some { cls := .type "list", dict := od, data := .seq items nl, slots := osl } := Heap.get?_push_of_some _ go
  have f1 := PySem.F.sub_list_set
  have f2 := PySem.F.sub_list_frozenset
  have f3 : (Value.type "list" == Value.type "dict") = false := by decide
  have il : (s.heap.push (setO led)).IsList l items := ⟨_, gl, rfl, nl, rfl⟩
  have ls : l < s.heap.objs.size := Heap.lt_size go
  have ez : xs.length = items.size := by rw [← StrsAre.len_eq hi, Array.length_toList]
  unfold Builtin.«set.__init__» noKeywords Builtin.Frozenset.updateFrom
  generalize eI : pyIter = PI
  wp_walk
  subst eI
  refine wpAny_pyIter_list il (wpAny_bind (wpAny_runValue ?_))
  have n1 : l ≠ (s.heap.push (setO led)).objs.size := by rw [Heap.size_push]; exact Nat.ne_of_lt (Nat.lt_succ_of_lt ls)
  have n2 : s.heap.objs.size ∉ [(s.heap.push (setO led)).objs.size, l] := by
    rw [Heap.size_push]
    simp only [List.mem_cons, List.not_mem_nil, or_false, not_or]
    exact ⟨Nat.ne_of_lt (Nat.lt_succ_self _), Nat.ne_of_gt ls⟩
  refine set_walk (xs := xs) ((Walks.list (show A.in1.in1.handled = none by simp [hh]) _ l n1 items).toS) n2 ez (by omega) (fun i v e => SS.strs_at hi i v (by rw [Array.getElem?_toList]; exact e)) items.size 0 _ (Nat.zero_add _) ?_ ?_ fun s3 mv hS => ?_
  · exact ⟨⟨_, Heap.get?_push_size _ rfl, rfl, rfl⟩, il.push _⟩
  · exact SetOf_congr ((setObjOf_fresh (knd := PySem.strKind P w) led).setOf (Heap.get?_push_of_some _ gS) (by unfold scanBound; omega)) (fun _ => rfl) rfl
  · obtain ⟨h3, g3, d3, t3, o3⟩ := s3
    obtain rfl : g3 = s.gens := mv.gens
    obtain rfl : d3 = s.drawn := mv.drawn
    obtain rfl : o3 = s.os := mv.os
    refine wpAny_pure (wpAny_pure ⟨rfl, h3, t3, rfl, hS, fun b o hb e => ?_⟩)
    refine mv.heap b o ?_ (Heap.get?_push_of_some _ (Heap.get?_push_of_some _ e))
    rw [Heap.size_push]
    simp only [List.mem_cons, List.not_mem_nil, or_false, not_or]
    exact ⟨Nat.ne_of_lt hb, Nat.ne_of_lt (Nat.lt_succ_of_lt hb)⟩
theorem set_texts {l : Addr} {items : Array Value} {xs : List Str} {Q : Value → Shared → Prop} (hh : A.handled = none) (hl : s.heap.IsList l items) (hi : PyProof.Rows.StrsAre items.toList xs) (hb : xs.length + 1 < scanBound)
    (h : ∀ (h2 : Heap) (tk : Nat), SetM P w h2 s.heap.objs.size (met xs) → (∀ b o, b < s.heap.objs.size → s.heap.get? b = some o → h2.get? b = some o) → Q (.ref s.heap.objs.size) { s with heap := h2, toks := tk }) :
    wpAny (model P w) A (call (.type "set") [.ref l]) Q E s := by
  obtain ⟨c, tl, e0⟩ := PySem.F.called_set.mro
  have e1 := PySem.F.called_set.made
  have e2 := PySem.F.called_set.sub
  have e3 := PySem.F.called_set.notType
  have e4 := PySem.F.called_set.canCreate
  have e5 := PySem.F.typeCall_set_1 (.ref l)
  refine wpAny_call (codeAny_of_tree (wpAny_pure ⟨Code.quiet_builtin _ (by decide +kernel), codeAny_builtin PySem.F.entry_type_call ?_⟩))
  rw [Around.under_plain (weight_type_call_type "set" [.ref l] []) rfl]
  repeat (any_goals (first | assumption | wp_step))
  refine codeAny_mono (code_set_new_1 (.ref l) (E := E) (Q₁ := fun obj s1 => ∃ led : Bool, obj = .ref s.heap.objs.size ∧ s1 = { s with heap := s.heap.push (setO led) }) fun led => ⟨led, rfl, rfl⟩) fun r s1 hr => ?_
  cases r with
  | error e => exact hr
  | ok fl =>
    cases fl <;> first | exact hr.elim | skip
    obtain ⟨led, rfl, rfl⟩ := hr
    have tS : Shared.TypeIs { s with heap := s.heap.push (setO led) } (.ref s.heap.objs.size) "set" := ⟨_, Heap.get?_push_size _ rfl, rfl⟩
    have e6 := PySem.F.called_set.init.lookup
    have e7 := PySem.F.called_set.init.bind (.ref s.heap.objs.size)
    repeat (any_goals (first | assumption | wp_step))
    refine codeAny_mono (set_init (E := E) (by simp [hh]) hl hi hb) fun r2 s2 hr2 => ?_
    cases r2 with
    | error e => exact hr2
    | ok fl2 =>
      cases fl2 <;> first | exact hr2.elim | skip
      obtain ⟨rfl, h2, tk, rfl, hS, hk⟩ := hr2
      repeat (any_goals (first | assumption | wp_step))
      exact h _ _ hS hk
end
/-! ### in the layer -/
def tSetL (K : PySem.W.Frag) (ta : TE) : TE := fun σ H Q => ta σ H fun x H1 => ∃ l, ∃ xs : List Str, x = .ref l ∧ SqL K H1 l (xs.map V.str) ∧ xs.length ≤ 1000 ∧ Q (.int (met xs).length) H1
section
variable {X : Cx} {L : Pl}
theorem pe_setL {a : Expr} {ta : TE} {p p2 q pos : Pos} (hc : X.calm = true) (hg : Gl X "len") (hm : X.mg "len" = none) (hg2 : Gl X "set") (hm2 : X.mg "set" = none) (ha : PE X a ta) (na : starEach [a] X.env = (false, eval a X.env) :: starEach [] X.env) :
    PE X (.Call (.Name "len" p) [.Call (.Name "set" p2) [a] [] q] [] pos) (tSetL X.K ta) := by
  refine ⟨fun pins s σ H Q I h => Call_ (ld_blt I hg hm boot_len ?_)⟩
  refine PyProof.Rows.callWith_builtin1 (PyProof.Rows.args_cons (Call_ (ld_blt I hg2 hm2 boot_set ?_)) rfl) rfl rfl
  refine PyProof.Rows.callWith_type1 (PyProof.Rows.args_cons (thn (ha.run pins s σ H _ I h) fun v s1 ⟨x, H1, I1, r1, l, xs, ex, hq, h1, q1⟩ => PyProof.Rows.args_nil ?_) na) na rfl
  subst ex
  cases r1
  obtain ⟨its, r, pl, hz⟩ := I1.list hq
  refine set_texts (I1.ok.hd hc) pl.isList (by simpa using strsAre_of r) (by unfold scanBound; omega) fun h2 tk hS hk => PyProof.Rows.args_nil ?_
  obtain ⟨o, es, ep, t, ho, hex, hd, _, _, _, hf, hn⟩ := hS
  have hlen : (met xs).length ≤ 0 + xs.length := met_le xs []
  have I2 : Inv X pins σ H1 { s1 with heap := h2, toks := tk } := I1.kept fun b o e => hk b o (Heap.lt_size e) e
  exact call_len_set ho hex hd hf (by rw [hn]; omega) ⟨.int (met xs).length, H1, I2.tok _, ⟨_, by rw [hn]⟩, q1⟩
def dSetL (m : DE) : DE := fun ρ O Q E => m ρ O (fun d O1 => ∃ xs : List Str, d = .lst (xs.map D.str) ∧ xs.length ≤ 1000 ∧ Q (.int (met xs).length) O1) E
theorem rp_strs {K : PySem.W.Frag} {G : Hp} : ∀ {vs : List V} {xs : List Str}, RpL K G vs (xs.map D.str) → vs = xs.map V.str
  | _, [], .nil => rfl
  | _, x :: xs, .cons (.str _) r => by rw [rp_strs r]; rfl
theorem d_setL {a : Expr} {m : DE} {p p2 q pos : Pos} (hc : X.calm = true) (hg : Gl X "len") (hm : X.mg "len" = none) (hg2 : Gl X "set") (hm2 : X.mg "set" = none) (ha : DPE X L a m) (na : starEach [a] X.env = (false, eval a X.env) :: starEach [] X.env) :
    DPE X L (.Call (.Name "len" p) [.Call (.Name "set" p2) [a] [] q] [] pos) (dSetL m) := by
  refine ⟨fun ρ O Q Q' E E' h hx x => ha.mo ρ _ _ _ _ _ (fun _ _ ⟨xs, e, z, y⟩ => ⟨xs, e, z, h _ _ y⟩) hx x, pe_imp (pe_setL hc hg hm hg2 hm2 ha.run na) fun σ H Q ⟨G, O, ρ, g, rs, h⟩ => ?_⟩
  refine up_of ha.mo g rs h fun x v O1 G1 H1 q1 s1 r1 => ?_
  obtain ⟨xs, rfl, z, y⟩ := q1
  cases r1 with
  | lst h1 rl =>
    have e := rp_strs rl
    subst e
    exact ⟨_, xs, rfl, s1.good.sub.sqL (SqL.of h1), z, y _ _ _ s1 (.int _)⟩
end
end EV
set_option Elab.async false
set_option linter.all false
set_option maxRecDepth 100000
set_option maxHeartbeats 4000000
/-! t.get(x, y), t a dict of the text -/
namespace EV
open PySem PySem.Spec PyProof.Rows L2
section
variable {X : Cx} {L : Pl} {a b c : Expr} {ma mb mc : DE} {apos cpos : Pos}
def dGetK (ad : Addr) (kvs : List (Str × D)) (ma mb mc : DE) : DE := fun ρ O Q E => ma ρ O (fun x O1 => x = .opq (.ref ad) ∧ mb ρ O1 (fun y O2 => mc ρ O2 (fun z O3 => ∃ k, y = .str k ∧ Q ((kvs.lookup k).getD z) O3) E) E) E
theorem d_getK {ad : Addr} {kvs : List (Str × D)} (T : TabK X.K X.w ad kvs) (ha : DPE X L a ma) (hb : DPE X L b mb) (hc : DPE X L c mc) (m : M2 X a "get" apos b c cpos) : DPE X L (.Call (.Attribute a "get" apos) [b, c] [] cpos) (dGetK ad kvs ma mb mc) := by
  obtain ⟨es, n, KD, hf⟩ := T.ex
  have hP : PE X (.Call (.Attribute a "get" apos) [b, c] [] cpos) (fun σ H Q => up X.K L.B L.W ma σ H fun x H1 => x = .ref ad ∧ up X.K L.B L.W mb σ H1 fun y H2 => up X.K L.B L.W mc σ H2 fun z H3 => ∃ k, y = .str k ∧ ∀ v, (∀ d, kvs.lookup k = some d → scV d = some v) → (kvs.lookup k = none → v = z) → Q v H3) := by
    refine ⟨fun pins s σ H Q I h => ?_⟩
    refine wpAny_Call_method m.base m.few m.line PySem.F.plainAttrs_dict PySem.F.slot_dict_get PySem.F.type_dict_get (thn (ha.run.run pins s σ H _ I h) fun u s1 ⟨x, H1, I1, rx, ex, q1⟩ => ?_)
    subst ex
    obtain rfl : u = Value.ref ad := rx
    refine ⟨kd_type KD I1, fun b q => ?_, ?_⟩
    · cases q
      exact ⟨_, I1.kIn _ _ KD.at_, rfl⟩
    rw [m.trees]
    refine Calls.callWith_builtin rfl (Calls.evalArgs_plain (Calls.spliced_cons (thn (hb.run.run pins s1 σ H1 _ I1 q1) fun iv s2 ⟨y, H2, I2, ry, q2⟩ => Calls.spliced_cons (thn (hc.run.run pins s2 σ H2 _ I2 q2) fun fv s3 ⟨z, H3, I3, rz, k, ey, q3⟩ => Calls.spliced_nil ?_))))
    subst ey
    obtain ⟨t, rfl⟩ := ry
    refine call_meetsIn PySem.F.slot_dict_get (kd_type KD I3) PySem.F.entry_dict_get (PySem.F.args_dict_get_3 _ _ _) (meets_dict_get_default (PySem.strKind X.prog X.w) ad (PySem.strKind_is X.prog X.w k t) KD.low fv) ⟨_, PySem.W.mapOf_K (prog := X.prog) I3.kIn KD.at_ KD.lit, ?_⟩
    have hz := hf k
    cases el : kvs.lookup k with
    | none =>
      rw [el] at hz
      have e : (findBy Value.isStrOf es k).getD fv = fv := by rw [hz]; rfl
      show EP X pins σ Q ((findBy Value.isStrOf es k).getD fv) _
      rw [e]
      exact ⟨z, H3, I3.tok _, rz, q3 z (fun d e => by rw [el] at e; cases e) fun _ => rfl⟩
    | some d =>
      rw [el] at hz
      obtain ⟨v, u, e1, e2, e3⟩ := hz
      have e : (findBy Value.isStrOf es k).getD fv = u := by rw [e2]; rfl
      show EP X pins σ Q ((findBy Value.isStrOf es k).getD fv) _
      rw [e]
      exact ⟨v, H3, I3.tok _, e3, q3 v (fun d' e => by rw [el] at e; cases e; exact e1) fun e => by rw [el] at e; cases e⟩
  refine ⟨fun ρ O Q Q' E E' q hx x => ha.mo ρ _ _ _ _ _ (fun _ _ z => ⟨z.1, hb.mo ρ _ _ _ _ _ (fun _ _ y => hc.mo ρ _ _ _ _ _ (fun _ _ ⟨k, e, w⟩ => ⟨k, e, q _ _ w⟩) hx y) hx z.2⟩) hx x, pe_imp hP fun σ H Q ⟨G, O, ρ, g, rs, q⟩ => ?_⟩
  refine up_of ha.mo g rs q fun x vx O1 G1 H1 q1 s1 r1 => ?_
  obtain ⟨rfl, q1⟩ := q1
  cases r1
  refine ⟨rfl, ?_⟩
  refine up_of hb.mo s1.good (rs.step s1) (mo_step hb.mo s1 q1) fun y vy O2 G2 H2 q2 s2 r2 => ?_
  have s12 := s1.trans s2
  refine up_of hc.mo s2.good (rs.step s12) (mo_step hc.mo s12 q2) fun z vz O3 G3 H3 q3 s3 r3 => ?_
  obtain ⟨k, rfl, q3⟩ := q3
  cases r2
  refine ⟨k, rfl, fun v h1 h2 => ?_⟩
  cases el : kvs.lookup k with
  | none =>
    rw [el] at q3
    rw [h2 el]
    exact q3 _ _ _ (s12.trans s3) r3
  | some d =>
    rw [el] at q3
    exact q3 _ _ _ (s12.trans s3) (scV_rp (h1 d el))
end
end EV
set_option Elab.async false
set_option linter.all false
set_option maxRecDepth 100000
set_option maxHeartbeats 4000000
set_option pp.maxSteps 400
/-! values by rules -/
namespace LW
open PySem PySem.Spec PyProof.Rows L2 EV PySem.XO PySem.W LamX
theorem ix0 {x : D} {xs : List D} {Q : D → Prop} (q : Q x) : ixP (.tup (x :: xs)) (.int 0) Q := by
  have e : atI (x :: xs) (0 : Int) = some x := atI_nat (xs := x :: xs) (j := 0) rfl
  unfold ixP
  simp only [e]
  exact q
theorem cut1 (x : D) (xs : List D) : EV.cutD (x :: xs) (some 1) none = xs := by
  have h1 : HT.sIx (x :: xs).length 0 (some 1) = 1 := by simp [HT.sIx]; try omega
  have h2 : HT.sIx (x :: xs).length (x :: xs).length none = (x :: xs).length := by simp [HT.sIx]
  unfold EV.cutD
  rw [h1, h2]
  simp
theorem sl1 {x : D} {xs : List D} {Q : D → Prop} (q : Q (.tup xs)) : slD (.tup (x :: xs)) (some 1) none Q := by
  have h1 : HT.sIx (x :: xs).length 0 (some 1) = 1 := by simp [HT.sIx]; try omega
  refine ⟨by rw [h1]; simp, ?_⟩
  rw [cut1]; exact q
theorem val_sl1 {m : DE} {ρ : Slots} {O : Ow} (x : D) (xs : List D) (h : ∀ Q E, Q (.tup (x :: xs)) O → m ρ O Q E) : ∀ Q E, Q (.tup xs) O → dSl m (dPart (dC (.int 1))) dNoPart ρ O Q E := fun Q E q => h _ _ (show slD (.tup (x :: xs)) (some 1) none (fun d => Q d O) from sl1 q)
theorem hud {A : Around} {k : Nat} (hr : Room k A) : A.units + 1 < cLine := by have := hr.un; omega
theorem tg_pair {i j : Nat} {x y : D} {ρ : Slots} {Q : Slots → Prop} (ρ' : Slots) (e : (ρ.set i (.sh x)).set j (.sh y) = ρ') (h : Q ρ') : dgCons (dgName i) (dgCons (dgName j) dgNil) [x, y] ρ Q := by subst e; exact h
theorem bcT {P Q : Prop} (h : P) : bc true P Q := h
theorem bcF {P Q : Prop} (h : Q) : bc false P Q := h
theorem bcN {P : Prop} {A : DEnds} {ρ : Slots} {O : Ow} (h : A.nx ρ O) : bc false P (dNext A ρ O) := h
theorem st_if {t : DT} {u v rest : DS} {A : DEnds} {ρ : Slots} {O : Ow} (b : Bool) (h : ∀ Q E, Q b O → t ρ O Q E) (k : bc b (u { A with nx := rest A } ρ O) (v { A with nx := rest A } ρ O)) : dSeq (dIfS t u v) rest A ρ O := h _ _ k
theorem st_if1 {t : DT} {u v : DS} {A : DEnds} {ρ : Slots} {O : Ow} (b : Bool) (h : ∀ Q E, Q b O → t ρ O Q E) (k : bc b (u A ρ O) (v A ρ O)) : dIfS t u v A ρ O := h _ _ k
theorem st_for {mi : DI} {g : DG} {b rest : DS} {A : DEnds} {ρ : Slots} {O : Ow} (xs : List D) (h : ∀ Q E, Q (tt1, xs) O → mi ρ O Q E) (k : forW tt1 g b { A with nx := rest A } xs ρ O) : dSeq (dFor mi g b) rest A ρ O := h _ _ k
theorem val_enum {mA : DA} {ρ : Slots} {O : Ow} {d : D} {rs : List D} (hd : d = .lst rs ∨ d = .tup rs) (h : ∀ Q E, Q [d] O → mA ρ O Q E) : ∀ Q E, Q (tt1, enumL rs) O → dEnum mA ρ O Q E := fun Q E q => h _ _ (by
  rcases hd with rfl | rfl <;> exact q)
theorem val_len {mA : DA} {ρ : Slots} {O : Ow} {d : D} {rs : List D} (hd : d = .lst rs ∨ d = .tup rs) (h : ∀ Q E, Q [d] O → mA ρ O Q E) : ∀ Q E, Q (.int rs.length) O → dCB lenO mA ρ O Q E := fun Q E q => h _ _ (by
  rcases hd with rfl | rfl <;> exact q)
theorem val_ix {ma mb : DE} {ρ : Slots} {O : Ow} {d : D} {rs : List D} {i : Int} {y : D} (hd : d = .lst rs ∨ d = .tup rs) (h : ∀ Q E, Q d O → ma ρ O Q E) (hi : ∀ Q E, Q (.int i) O → mb ρ O Q E) (e : atI rs i = some y) : ∀ Q E, Q y O → dOp ixD ma mb ρ O Q E := fun Q E q => h _ _ (hi _ _ (by
  rcases hd with rfl | rfl
  · show ixP (.lst rs) (.int i) _
    simp only [ixP, e]; exact q
  · show ixP (.tup rs) (.int i) _
    simp only [ixP, e]; exact q))
theorem val_tst {m : DE} {ρ : Slots} {O : Ow} (b : Bool) (h : ∀ Q E, Q (.bl b) O → m ρ O Q E) : ∀ Q E, Q b O → dTest m ρ O Q E := fun Q E q => h _ _ q
theorem val_tstB {m : DE} {ρ : Slots} {O : Ow} (b : Bool) (h : ∀ Q E, Q (.bl b) O → m ρ O Q E) : ∀ Q E, Q b O → dTestB m ρ O Q E := fun Q E q => h _ _ q
theorem val_not {t : DT} {ρ : Slots} {O : Ow} (b : Bool) (h : ∀ Q E, Q b O → t ρ O Q E) : ∀ Q E, Q (!b) O → dNot t ρ O Q E := fun Q E q => h _ _ q
theorem val_raise {C : Addr} {code : Str} {names : List Str} {mA : DA} {A : DEnds} {ρ : Slots} {O : Ow} (xs : List D) (hl : xs.length = names.length) (h : ∀ Q E, Q xs O → mA ρ O Q E) (k : A.ex (C, errD code names xs) ρ O) : dRaise C code names mA A ρ O := h _ _ ⟨hl, k⟩
theorem val_call {sp : DSp} {mA : DA} {ρ : Slots} {O : Ow} (xs : List D) (y : D) (h : ∀ Q E, Q xs O → mA ρ O Q E) (k : ∀ Q E, Q y O → sp xs O Q E) : ∀ Q E, Q y O → dCall sp mA ρ O Q E := fun Q E q => h _ _ (spM.of (k _ _ q))
theorem val_ixK {a : Addr} {kvs : List (Str × D)} {ma mb : DE} {ρ : Slots} {O : Ow} (z : Str) (y : D) (h : ∀ Q E, Q (.opq (.ref a)) O → ma ρ O Q E) (hi : ∀ Q E, Q (.str z) O → mb ρ O Q E) (e : kvs.lookup z = some y) : ∀ Q E, Q y O → dOp (pu (ixK a kvs)) ma mb ρ O Q E := fun Q E q => h _ _ (hi _ _ ⟨rfl, by rw [e]; exact q⟩)
theorem find_at {n i : Nat} {p : Nat → Bool} (hi : i < n) (h : p i = true) (hj : ∀ j, j < i → p j = false) : (List.range n).find? p = some i :=
  List.find?_range_eq_some.mpr ⟨h, List.mem_range.mpr hi, fun j h => by simp [hj j h]⟩
theorem find_no {n : Nat} {p : Nat → Bool} (hj : ∀ j, j < n → p j = false) : (List.range n).find? p = none :=
  List.find?_range_eq_none.mpr fun j h => by simp [hj j h]
def Seq (d : D) (xs : List D) : Prop := d = .lst xs ∨ d = .tup xs
theorem st_forJ {mi : DI} {g : DG} {b rest : DS} {A : DEnds} {ρ : Slots} {O : Ow} (xs : List D) (J : Nat → Slots → Prop) (h : ∀ Q E, Q (tt1, xs) O → mi ρ O Q E) (j0 : J 0 ρ)
    (step : ∀ i d, xs[i]? = some d → ∀ ρ, J i ρ → ∀ N : Slots → Ow → Prop, (∀ r, J (i + 1) r → N r O) → g d ρ fun ρ' => b { nx := N, rt := A.rt, bk := rest A, ct := N, ex := A.ex } ρ' O) (k : ∀ r, J xs.length r → rest A r O) : dSeq (dFor mi g b) rest A ρ O := by
  refine h _ _ ?_
  refine forW_at (I := tt1) xs (fun i r O' => O' = O ∧ J i r) (fun _ _ _ _ => trivial) ?_ ?_ (i := 0) rfl (Nat.zero_le _) ⟨rfl, j0⟩
  · rintro i d e ρ O' ⟨rfl, hj⟩ N hN
    exact step i d e ρ hj N fun r hr => hN r _ ⟨rfl, hr⟩
  · rintro r O' ⟨rfl, hj⟩
    exact k r hj
theorem tg_one {i : Nat} {x : D} {ρ : Slots} {Q : Slots → Prop} (ρ' : Slots) (e : ρ.set i (.sh x) = ρ') (h : Q ρ') : dgName i x ρ Q := by subst e; exact h
theorem tg_tup {n : Nat} {gs : DGs} {xs : List D} {ρ : Slots} {Q : Slots → Prop} (e : xs.length = n) (h : gs xs ρ Q) : dgTup n gs (.tup xs) ρ Q := ⟨e, h⟩
theorem enum_at {xs : List D} {i : Nat} {d : D} (h : (enumL xs)[i]? = some d) : ∃ x, xs[i]? = some x ∧ d = .tup [.int i, x] := by
  simp only [enumL, List.getElem?_map, List.getElem?_zipIdx, Option.map_map] at h
  cases e : xs[i]? with
  | none => rw [e] at h; cases h
  | some x => rw [e] at h; simp at h; exact ⟨x, rfl, h.symm⟩
theorem enum_len (xs : List D) : (enumL xs).length = xs.length := by simp [enumL]
theorem rng_at {n i : Nat} {d : D} (h : (rngD 0 n)[i]? = some d) : i < n ∧ d = .int i := by
  unfold rngD at h
  rw [List.getElem?_map] at h
  by_cases hi : i < n
  · rw [List.getElem?_range hi] at h
    simp at h
    exact ⟨hi, h.symm⟩
  · rw [List.getElem?_eq_none (by simp; omega)] at h; cases h
theorem getD_of {xs : List D} {i : Nat} {x : D} (h : xs[i]? = some x) : xs.getD i .non = x := by simp [List.getD, h]
theorem val_tupO {mA : DA} {ρ : Slots} {O : Ow} {d : D} {rs : List D} (hd : Seq d rs) (h : ∀ Q E, Q [d] O → mA ρ O Q E) : ∀ Q E, Q (.tup rs) O → dCB tupO mA ρ O Q E := fun Q E q => h _ _ (by
  rcases hd with rfl | rfl <;> exact q)
def lamE : Expr → Nat → Arguments × Expr × Scope
  | .List es _, i => (match es[i]? with
    | some (.Lambda a b s _) => (a, b, s)
    | _ => default)
  | _, _ => default
theorem val_mkK {C : Addr} {n m : Nat} {k : List D → List D → DSp} {mA mK : DA} {ρ : Slots} {O : Ow} {Q : QD} {E : QX} (ds : List D) (hA : ∀ Q E, Q ds O → mA ρ O Q E) (hK : mK ρ O (fun zs O2 => ds.length = n ∧ zs.length = m ∧ k ds zs [] O2 Q E) E) : dMkK C n m k mA mK ρ O Q E := hA _ _ hK
theorem val_one {m : DE} {ρ : Slots} {O : Ow} {Q : List D → Ow → Prop} {E : QX} (h : m ρ O (fun d O1 => Q [d] O1) E) : dCons m dNil ρ O Q E := h
theorem flat_rep : ∀ n : Nat, (List.replicate n [D.int 0]).flatten = List.replicate n (.int 0)
  | 0 => rfl
  | n + 1 => by rw [List.replicate_succ, List.replicate_succ, List.flatten_cons, flat_rep n]; rfl
theorem flat_repx (x : D) : ∀ n : Nat, (List.replicate n [x]).flatten = List.replicate n x
  | 0 => rfl
  | n + 1 => by rw [List.replicate_succ, List.replicate_succ, List.flatten_cons, flat_repx x n]; rfl
theorem val_rep {mx mk : DE} {ρ : Slots} {O : Ow} (x : D) (k : Nat) (hx : ∀ Q E, Q (.lst [x]) O → mx ρ O Q E) (hk : ∀ Q E, Q (.int k) O → mk ρ O Q E) (hl : k ≤ 1000) : ∀ Q E, Q (.lst (List.replicate k x)) O → dOp (pu mulD) mx mk ρ O Q E := fun Q E q => hx _ _ (hk _ _ ⟨by omega, by omega, by
  have : 1000 ≤ sizeLine := by decide
  simp; omega, by rw [Int.toNat_natCast, flat_repx]; exact q⟩)
theorem val_fld {C : Addr} {f : Str} {m : DE} {ρ : Slots} {O : Ow} {fs : List (Str × D)} {d : D} (h : ∀ Q E, Q (.ins C fs) O → m ρ O Q E) (e : fs.lookup f = some d) : ∀ Q E, Q d O → dFld C f m ρ O Q E := fun Q E q => h _ _ (by
  show EV.fldD C f (.ins C fs) _
  unfold EV.fldD
  refine ⟨rfl, ?_⟩
  rw [e]; exact q)
theorem val_got {K : Frag} {l : LamD} {m : DE} {ρ : Slots} {O : Ow} {Q : QD} {E : QX} (h : m ρ O (fun d O1 => Q (.tup [.str "", d]) O1) (fun x O1 => gotE K x fun r => Q r O1)) : dCallL (gotS K) (lam1 l m) (dCons (dC (.lam l)) dNil) ρ O Q E := spM.of ⟨l, _, rfl, ⟨m, ⟨rfl, rfl⟩, rfl⟩, h⟩
theorem val_pull {b : Addr} {mb mN : DE} {ρ : Slots} {O : Ow} (n : Int) (hb : ∀ Q E, Q (.opq (.ref b)) O → mb ρ O Q E) (hN : ∀ Q E, Q (.int n) O → mN ρ O Q E) (h0 : 0 < n) (h1 : n < 1073741824) : ∀ Q E, (∀ k, 0 ≤ k → k < n → Q (.int k) O) → dCallX b pullS (dCons mb (dCons mN dNil)) ρ O Q E := fun Q E q => hb _ _ (hN _ _ ⟨rfl, spM.of ⟨n, rfl, h0, h1, q⟩⟩)
theorem val_of {b : Addr} {mb md : DE} {ρ : Slots} {O : Ow} (d : D) (hb : ∀ Q E, Q (.opq (.ref b)) O → mb ρ O Q E) (hd : ∀ Q E, Q d O → md ρ O Q E) (h0 : 0 < (itemsL d).length) (h1 : (itemsL d).length < 1000000) : ∀ Q E, (∀ y ∈ itemsL d, Q y O) → dCallX b ofS (dCons mb (dCons md dNil)) ρ O Q E := fun Q E q => hb _ _ (hd _ _ ⟨rfl, spM.of ⟨d, rfl, h0, h1, q⟩⟩)
theorem each_mem {l : List D} : ∀ {ds ys : List D}, Each (fun _ y => y ∈ l) ds ys → ∀ y ∈ ys, y ∈ l
  | _, _, .nil, y, h => by cases h
  | _, _, .cons a r, y, h => by
    rcases List.mem_cons.mp h with rfl | h
    · exact a
    · exact each_mem r y h
theorem cut_at (xs : List D) (k : Nat) (h : k ≤ xs.length) : EV.cutD xs none (some (k : Int)) = xs.take k ∧ EV.cutD xs (some (k : Int)) none = xs.drop k := by
  have h1 : ∀ d, HT.sIx xs.length d (some (k : Int)) = k := fun d => by rw [HT.sIx_nat]; omega
  have h2 : ∀ d, HT.sIx xs.length d none = d := fun d => by simp [HT.sIx]
  unfold EV.cutD
  rw [h1, h1, h2, h2]
  exact ⟨by simp, List.take_of_length_le (by simp)⟩
theorem val_to {m mk : DE} {ρ : Slots} {O : Ow} (xs : List D) (k : Int) (h : ∀ Q E, Q (.lst xs) O → m ρ O Q E) (hk : ∀ Q E, Q (.int k) O → mk ρ O Q E) : ∀ Q E, Q (.lst (EV.cutD xs none (some k))) O → dSl m dNoPart (dPart mk) ρ O Q E := fun Q E q => h _ _ (hk _ _ q)
theorem val_from {m mk : DE} {ρ : Slots} {O : Ow} (xs : List D) (k : Int) (h : ∀ Q E, Q (.lst xs) O → m ρ O Q E) (hk : ∀ Q E, Q (.int k) O → mk ρ O Q E) : ∀ Q E, Q (.lst (EV.cutD xs (some k) none)) O → dSl m (dPart mk) dNoPart ρ O Q E := fun Q E q => h _ _ (hk _ _ q)
theorem val_join {m : DE} {sep : Str} {ρ : Slots} {O : Ow} {Q : QD} {E : QX} (h : m ρ O (fun d O1 => joinD sep d fun r => Q r O1) E) : dM1 joinD (dC (.str sep)) m ρ O Q E := h
theorem st_asg2 {mA : DA} {i j : Nat} {rest : DS} {A : DEnds} {ρ : Slots} {O : Ow} (P : D → D → Prop) (h : ∀ Q E, (∀ u v, P u v → Q [u, v] O) → mA ρ O Q E) (k : ∀ u v, P u v → rest A ((ρ.set i (.sh u)).set j (.sh v)) O) : dSeq (dAsg (dTup mA) (dgTup 2 (dgCons (dgName i) (dgCons (dgName j) dgNil)))) rest A ρ O := h _ _ fun u v p => ⟨le_sz rfl, ⟨rfl, k u v p⟩⟩
theorem st_asg3 {mA : DA} {i j l : Nat} {rest : DS} {A : DEnds} {ρ : Slots} {O : Ow} (P : D → D → D → Prop) (h : ∀ Q E, (∀ u v w, P u v w → Q [u, v, w] O) → mA ρ O Q E) (k : ∀ u v w, P u v w → rest A (((ρ.set i (.sh u)).set j (.sh v)).set l (.sh w)) O) : dSeq (dAsg (dTup mA) (dgTup 3 (dgCons (dgName i) (dgCons (dgName j) (dgCons (dgName l) dgNil))))) rest A ρ O := h _ _ fun u v w p => ⟨le_sz rfl, ⟨rfl, k u v w p⟩⟩
theorem szk {n : Nat} (h : n ≤ 1000) : n ≤ sizeLine := Nat.le_trans h (by decide)
theorem val_lenS {mA : DA} {ρ : Slots} {O : Ow} {y : Str} (hl : y.length ≤ sizeLine) (h : ∀ Q E, Q [.str y] O → mA ρ O Q E) : ∀ Q E, Q (.int y.length) O → dCB lenO mA ρ O Q E := fun Q E q => h _ _ ⟨hl, q⟩
theorem val_rng {mA : DA} {ρ : Slots} {O : Ow} (n : Nat) (hn : n < 1000000) (h : ∀ Q E, Q [.int n] O → mA ρ O Q E) : ∀ Q E, Q (tt1, rngD 0 n) O → dRng1 mA ρ O Q E := fun Q E q => h _ _ ⟨by omega, by omega, q⟩
theorem st_par3N {mA : DA} {i j l : Nat} {rest : DS} {A : DEnds} {ρ : Slots} {O : Ow} (P : D → D → D → Prop) (h : ∀ Q E, (∀ u v w, P u v w → Q [u, v, w] O) → mA ρ O Q E) (k : ∀ u v w, P u v w → rest A (((ρ.set i (.sh u)).set j (.sh v)).set l (.sh w)) O) : dSeq (dPar3 i j l mA) rest A ρ O := h _ _ k
theorem val_inB {ma mb : DE} {ρ : Slots} {O : Ow} (z : Str) (ss : List Str) (b : Bool) (ha : ∀ Q E, Q (.str z) O → ma ρ O Q E) (hb : ∀ Q E, Q (.tup (ss.map fun x => .str x)) O → mb ρ O Q E) (e : (ss.any fun y => decide (z = y)) = b) : ∀ Q E, Q (.bl b) O → dOp (pu (inSD id)) ma mb ρ O Q E := fun Q E q => ha _ _ (hb _ _ (by
  show (match toSs (ss.map fun x => .str x) with
    | some ss => Q (.bl (id (ss.any fun y => decide (z = y)))) O
    | none => False)
  rw [toSs_map (fun x => x)]
  show Q (.bl (id ((ss.map fun x => x).any fun y => decide (z = y)))) O
  rw [List.map_id', e]
  exact q))
theorem val_eqB {ma mb : DE} {ρ : Slots} {O : Ow} (z y : Str) (b : Bool) (ha : ∀ Q E, Q (.str z) O → ma ρ O Q E) (hb : ∀ Q E, Q (.str y) O → mb ρ O Q E) (e : decide (z = y) = b) : ∀ Q E, Q (.bl b) O → dOp (pu (eqD id)) ma mb ρ O Q E := fun Q E q => ha _ _ (hb _ _ (by
  show Q (.bl (decide (z = y))) O
  rw [e]; exact q))
theorem val_ret {m : DE} {A : DEnds} {ρ : Slots} {O : Ow} (d : D) (h : ∀ Q E, Q d O → m ρ O Q E) (q : A.rt d O) : dRet m A ρ O := h _ _ q
theorem val_retX {m : DE} {A : DEnds} {ρ : Slots} {O : Ow} (h : m ρ O A.rt fun x O1 => A.ex x ρ O1) : dRet m A ρ O := h
theorem val_if {t : DT} {ma mb : DE} {ρ : Slots} {O : Ow} (b : Bool) (h : ∀ Q E, Q b O → t ρ O Q E) {Q : QD} {E : QX} (k : bc b (ma ρ O Q E) (mb ρ O Q E)) : dIf t ma mb ρ O Q E := h _ _ k
theorem each_P {P : D → Prop} : ∀ {ds ys : List D}, Each (fun _ y => P y) ds ys → ∀ y ∈ ys, P y
  | _, _, .nil, y, h => by cases h
  | _, _, .cons a r, y, h => by
    rcases List.mem_cons.mp h with rfl | h
    · exact a
    · exact each_P r y h
theorem val_ofN {b : Addr} {mb md : DE} {ρ : Slots} {O : Ow} {P : D → Prop} (hb : ∀ Q E, Q (.opq (.ref b)) O → mb ρ O Q E) (hd : ∀ Q E, (∀ d, P d → Q d O) → md ρ O Q E) (h0 : ∀ d, P d → 0 < (itemsL d).length ∧ (itemsL d).length < 1000000) : ∀ Q E, (∀ d, P d → ∀ y ∈ itemsL d, Q y O) → dCallX b ofS (dCons mb (dCons md dNil)) ρ O Q E := fun Q E q => hb _ _ (hd _ _ fun d hP => ⟨rfl, spM.of ⟨d, rfl, (h0 d hP).1, (h0 d hP).2, q d hP⟩⟩)
theorem vN_tup3 {m1 m2 m3 : DE} {ρ : Slots} {O : Ow} {Q : QD} {E : QX} (a c : D) {P : D → Prop} (h1 : ∀ Q E, Q a O → m1 ρ O Q E) (h2 : ∀ Q E, (∀ d, P d → Q d O) → m2 ρ O Q E) (h3 : ∀ Q E, Q c O → m3 ρ O Q E) (q : ∀ d, P d → Q (.tup [a, d, c]) O) : dTup (dCons m1 (dCons m2 (dCons m3 dNil))) ρ O Q E := h1 _ _ (h2 _ _ fun d p => h3 _ _ ⟨le_sz rfl, q d p⟩)
theorem vN_app1 {m1 m2 : DE} {ρ : Slots} {O : Ow} (xs : List D) {P : D → Prop} (h1 : ∀ Q E, Q (.lst xs) O → m1 ρ O Q E) (h2 : ∀ Q E, (∀ d, P d → Q d O) → m2 ρ O Q E) (hl : xs.length + 1 ≤ sizeLine) : ∀ Q E, (∀ d, P d → Q (.lst (xs ++ [d])) O) → dOp (pu addD) m1 (dLst (dCons m2 dNil)) ρ O Q E := fun Q E q => h1 _ _ (h2 _ _ fun d p => ⟨le_sz rfl, ⟨hl, q d p⟩⟩)
theorem getD_el {α : Type} {l : List α} {i : Nat} {d : α} (h : i < l.length) : l.getD i d = l[i] := by simp [List.getD, List.getElem?_eq_getElem h]
theorem any_mem {l : List Str} {z : Str} (h : (l.any fun y => decide (z = y)) = true) : z ∈ l := by
  obtain ⟨y, hy, e⟩ := List.any_eq_true.mp h
  rw [of_decide_eq_true e]; exact hy
theorem ad0 {x : D} {xs : List D} : atI (x :: xs) 0 = some x := (show atI _ ((0 : Nat) : Int) = _ from atI_nat rfl)
theorem ad1 {x y : D} {xs : List D} : atI (x :: y :: xs) 1 = some y := (show atI _ ((1 : Nat) : Int) = _ from atI_nat rfl)
theorem ad2 {x y z : D} {xs : List D} : atI (x :: y :: z :: xs) 2 = some z := (show atI _ ((2 : Nat) : Int) = _ from atI_nat rfl)
theorem ad3 {x y z u : D} {xs : List D} : atI (x :: y :: z :: u :: xs) 3 = some u := (show atI _ ((3 : Nat) : Int) = _ from atI_nat rfl)
theorem val_or1 {t u : DT} {ρ : Slots} {O : Ow} (h : ∀ Q E, Q true O → t ρ O Q E) : ∀ Q E, Q true O → dOr t u ρ O Q E := fun Q E q => h _ _ q
theorem val_or2 {t u : DT} {ρ : Slots} {O : Ow} {b : Bool} (h : ∀ Q E, Q false O → t ρ O Q E) (k : ∀ Q E, Q b O → u ρ O Q E) : ∀ Q E, Q b O → dOr t u ρ O Q E := fun Q E q => h _ _ (k _ _ q)
theorem val_inF {ma mb : DE} {ρ : Slots} {O : Ow} (f : Bool → Bool) (z : Str) (ss : List Str) (b : Bool) (ha : ∀ Q E, Q (.str z) O → ma ρ O Q E) (hb : ∀ Q E, Q (.tup (ss.map fun x => .str x)) O → mb ρ O Q E) (e : f (ss.any fun y => decide (z = y)) = b) : ∀ Q E, Q (.bl b) O → dOp (pu (inSD f)) ma mb ρ O Q E := fun Q E q => ha _ _ (hb _ _ (by
  show (match toSs (ss.map fun x => .str x) with
    | some ss => Q (.bl (f (ss.any fun y => decide (z = y)))) O
    | none => False)
  rw [toSs_map (fun x => x)]
  show Q (.bl (f ((ss.map fun x => x).any fun y => decide (z = y)))) O
  rw [List.map_id', e]
  exact q))
theorem val_star {m : DE} {mr : DA} {ρ : Slots} {O : Ow} {xs ys : List D} (h : ∀ Q E, Q (.tup xs) O → m ρ O Q E) (k : ∀ Q E, Q ys O → mr ρ O Q E) : ∀ Q E, Q (xs ++ ys) O → dStar m mr ρ O Q E := fun Q E q => h _ _ (k _ _ q)
theorem val_star1 {m : DE} {ρ : Slots} {O : Ow} {xs : List D} (h : ∀ Q E, Q (.tup xs) O → m ρ O Q E) : ∀ Q E, Q xs O → dStar m dNil ρ O Q E := fun Q E q => h _ _ (by
  show Q (xs ++ []) O
  rw [List.append_nil]; exact q)
theorem val_toT {m mk : DE} {ρ : Slots} {O : Ow} (xs : List D) (k : Nat) (hk1 : k < xs.length) (h : ∀ Q E, Q (.tup xs) O → m ρ O Q E) (hk : ∀ Q E, Q (.int k) O → mk ρ O Q E) : ∀ Q E, Q (.tup (xs.take k)) O → dSl m dNoPart (dPart mk) ρ O Q E := fun Q E q => h _ _ (hk _ _ ⟨fun z => by
  have := z.2
  rw [HT.sIx_nat] at this
  omega, by
  rw [(cut_at xs k (by omega)).1]; exact q⟩)
theorem val_fromT {m mk : DE} {ρ : Slots} {O : Ow} (xs : List D) (k : Nat) (hk0 : 0 < k) (hk1 : k ≤ xs.length) (hx : xs ≠ []) (h : ∀ Q E, Q (.tup xs) O → m ρ O Q E) (hk : ∀ Q E, Q (.int k) O → mk ρ O Q E) : ∀ Q E, Q (.tup (xs.drop k)) O → dSl m (dPart mk) dNoPart ρ O Q E := fun Q E q => h _ _ (hk _ _ ⟨fun z => by
  have := z.1
  rw [HT.sIx_nat] at this
  omega, by
  rw [(cut_at xs k (by omega)).2]; exact q⟩)
theorem val_and1 {t u : DT} {ρ : Slots} {O : Ow} (h : ∀ Q E, Q false O → t ρ O Q E) : ∀ Q E, Q false O → dAnd t u ρ O Q E := fun Q E q => h _ _ q
theorem val_and2 {t u : DT} {ρ : Slots} {O : Ow} {b : Bool} (h : ∀ Q E, Q true O → t ρ O Q E) (k : ∀ Q E, Q b O → u ρ O Q E) : ∀ Q E, Q b O → dAnd t u ρ O Q E := fun Q E q => h _ _ (k _ _ q)
theorem val_toL {m mk : DE} {ρ : Slots} {O : Ow} (xs : List D) (k : Nat) (hk1 : k ≤ xs.length) (h : ∀ Q E, Q (.lst xs) O → m ρ O Q E) (hk : ∀ Q E, Q (.int k) O → mk ρ O Q E) : ∀ Q E, Q (.lst (xs.take k)) O → dSl m dNoPart (dPart mk) ρ O Q E := fun Q E q => h _ _ (hk _ _ (by
  show Q (.lst (EV.cutD xs none (some (k : Int)))) O
  rw [(cut_at xs k hk1).1]; exact q))
theorem val_fromL {m mk : DE} {ρ : Slots} {O : Ow} (xs : List D) (k : Nat) (hk1 : k ≤ xs.length) (h : ∀ Q E, Q (.lst xs) O → m ρ O Q E) (hk : ∀ Q E, Q (.int k) O → mk ρ O Q E) : ∀ Q E, Q (.lst (xs.drop k)) O → dSl m (dPart mk) dNoPart ρ O Q E := fun Q E q => h _ _ (hk _ _ (by
  show Q (.lst (EV.cutD xs (some (k : Int)) none)) O
  rw [(cut_at xs k hk1).2]; exact q))
theorem plain_num {c : D} {n : Nat} {a b : Int} (h : isNum c a b = true) : Plain n c := by
  cases c with
  | int i => cases n <;> trivial
  | _ => simp [isNum] at h
theorem st_via {m rest : DS} {A : DEnds} {ρ : Slots} {O : Ow} (ρ' : Slots) (h : ∀ A : DEnds, A.nx ρ' O → m A ρ O) (k : rest A ρ' O) : dSeq m rest A ρ O := h { A with nx := rest A } k
theorem val_stp {m mk : DE} {ρ : Slots} {O : Ow} {Q : QD} {E : QX} (xs : List D) (hx : ∀ Q E, Q (.lst xs) O → m ρ O Q E) (hk : ∀ Q E, Q (.int 1) O → Q (.int (-1)) O → mk ρ O Q E) (q1 : Q (.lst xs) O) (q2 : Q (.lst xs.reverse) O) : dStp m mk ρ O Q E := hx _ _ (hk _ _ ⟨xs, rfl, .inl ⟨rfl, q1⟩⟩ ⟨xs, rfl, .inr ⟨rfl, q2⟩⟩)
theorem val_repB {mx mk : DE} {ρ : Slots} {O : Ow} (x : D) (k : Nat) (hx : ∀ Q E, Q (.lst [x]) O → mx ρ O Q E) (hk : ∀ Q E, Q (.int k) O → mk ρ O Q E) (hl : k ≤ 100000) : ∀ Q E, Q (.lst (List.replicate k x)) O → dOp (pu mulD) mx mk ρ O Q E := fun Q E q => hx _ _ (hk _ _ ⟨by omega, by omega, by
  have : 100000 ≤ sizeLine := by decide
  simp; omega, by rw [Int.toNat_natCast, flat_repx]; exact q⟩)
theorem val_in1 {m1 m2 m3 : DE} {ρ : Slots} {O : Ow} (xs ys : List D) (k : Nat) (hk : k ≤ xs.length) (hl : xs.length + ys.length ≤ 1000) (h1 : ∀ Q E, Q (.lst (xs.take k)) O → m1 ρ O Q E) (h2 : ∀ Q E, Q (.lst ys) O → m2 ρ O Q E) (h3 : ∀ Q E, Q (.lst (xs.drop k)) O → m3 ρ O Q E) : ∀ Q E, Q (.lst (xs.take k ++ ys ++ xs.drop k)) O → dOp (pu addD) (dOp (pu addD) m1 m2) m3 ρ O Q E :=
  val_op (.lst (xs.take k ++ ys)) (.lst (xs.drop k)) _ (val_op (.lst (xs.take k)) (.lst ys) _ h1 h2 (fun Q q => ⟨szk (by rw [List.length_take]; omega), q⟩)) h3 (fun Q q => ⟨szk (by rw [List.length_append, List.length_take, List.length_drop]; omega), q⟩)
theorem plain_pair {n : Nat} {c : Str} {d : D} (h : Plain n d) : Plain (n + 1) (.tup [.str c, d]) := ⟨le_sz rfl, fun x hx => by
  simp only [List.mem_cons, List.not_mem_nil, or_false] at hx
  rcases hx with h' | h'
  · subst h'; cases n <;> trivial
  · subst h'; exact h⟩
end LW
set_option Elab.async false
set_option linter.all false
set_option maxRecDepth 100000
set_option maxHeartbeats 4000000
set_option pp.maxSteps 400
/-! is_listed, inner, bound, used, is_test -/
namespace LW
open PySem PySem.Spec PyProof.Rows L2 EV PySem.XO PySem.W LamX
local macro_rules | `(tactic| walk_at "n") => `(tactic| refine st_norm (by simp only [List.set_cons_succ, List.set_cons_zero]; rfl) ?_)
/-- of a known kind, of no great size -/
def Flat (d : D) : Prop := (tyD d).isSome = true ∧ ∀ y, d = .str y → y.length ≤ sizeLine
def lenN : List (Str × Int) := [("has", 3), ("link", 4), ("same", 3), ("less", 3), ("not", 2), ("and", 3), ("or", 3), ("some", 3), ("all", 3), ("count", 4), ("way", 6), ("within", 7)]
def lenT : List (Str × D) := [("has", .int 3), ("link", .int 4), ("same", .int 3), ("less", .int 3), ("not", .int 2), ("and", .int 3), ("or", .int 3), ("some", .int 3), ("all", .int 3), ("count", .int 4), ("way", .int 6), ("within", .int 7)]
def placesT : List (Str × D) := [("has", .int 1), ("link", .int 2)]
def isOf (z : Str) (l : List Str) : Bool := l.any fun y => decide (z = y)
def gNot : List Str := ["not", "and", "or"]
def gSome : List Str := ["some", "all"]
def gCount : List Str := ["count", "way"]
def gBound : List Str := ["some", "all", "count"]
def gHas : List Str := ["has", "link"]
def gSame : List Str := ["same", "less"]
def gWay : List Str := ["way", "within"]
def gLeast : List Str := ["least", "most"]
def innerL (z : Str) (xs : List D) : List D := if isOf z gNot then xs else if isOf z gSome then [xs.getD 1 .non] else if isOf z gCount then [xs.getD 2 .non] else if z = "within" then [xs.getD 3 .non] else []
def boundL (z : Str) (xs : List D) : List D := if isOf z gBound then [xs.getD 0 .non] else if z = "way" then [xs.getD 0 .non, xs.getD 1 .non] else if z = "within" then [xs.getD 1 .non, xs.getD 2 .non] else []
def usedL (z : Str) (xs : List D) : List D := if isOf z gHas then xs.drop 1 else if isOf z gSame then xs else if isOf z gWay then xs.drop (xs.length - 2) else []
/-- a saying's head, by its length -/
def Shp (z : Str) (xs : List D) : Prop := lenN.lookup z = some ((xs.length : Int) + 1)
def headS (f : Str → List D → List D) : DSp := fun ds O Q _ => ∃ z xs, ds = [.tup (.str z :: xs)] ∧ Shp z xs ∧ Q (.lst (f z xs)) O
abbrev s_is_listed : Stmt := topS 15
abbrev N_is_listed : List Str := ["value"]
theorem sc_is_listed : FnScope N_is_listed ["value"] (defScope s_is_listed) := ⟨rfl, rfl, rfl, by decide +kernel, rfl, by decide +kernel, by decide +kernel⟩

def isLst : D → Bool
  | .lst _ => true
  | .tup _ => true
  | _ => false
def listedS : DSp := fun ds O Q _ => ∃ v, ds = [v] ∧ (tyD v).isSome = true ∧ Q (.bl (isLst v)) O
abbrev s_inner : Stmt := topS 25
abbrev N_inner : List Str := ["saying"]
theorem sc_inner : FnScope N_inner ["saying"] (defScope s_inner) := ⟨rfl, rfl, rfl, by decide +kernel, rfl, by decide +kernel, by decide +kernel⟩

abbrev s_bound : Stmt := topS 26
abbrev N_bound : List Str := ["saying"]
theorem sc_bound : FnScope N_bound ["saying"] (defScope s_bound) := ⟨rfl, rfl, rfl, by decide +kernel, rfl, by decide +kernel, by decide +kernel⟩

abbrev s_used : Stmt := topS 27
abbrev N_used : List Str := ["saying"]
theorem sc_used : FnScope N_used ["saying"] (defScope s_used) := ⟨rfl, rfl, rfl, by decide +kernel, rfl, by decide +kernel, by decide +kernel⟩

abbrev s_is_test : Stmt := topS 28
abbrev N_is_test : List Str := ["value"]
theorem sc_is_test : FnScope N_is_test ["value"] (defScope s_is_test) := ⟨rfl, rfl, rfl, by decide +kernel, rfl, by decide +kernel, by decide +kernel⟩

def isTest : D → Bool
  | .tup (.str z :: x :: t) => if isOf z gLeast then decide (t.length = 0) && isNum x 0 8 else if z = "rest" then (match t with
    | [y] => (match x with
      | .int i => isNum x 2 8 && isNum y 0 (i - 1)
      | _ => false)
    | _ => false) else false
  | _ => false
def TestOk (v : D) : Prop := (tyD v).isSome = true ∧ ∀ xs, v = .tup xs → (∀ x ∈ xs, (tyD x).isSome = true) ∧ (2 ≤ xs.length → ∃ z t, xs = .str z :: t)
def testS : DSp := fun ds O Q _ => ∃ v, ds = [v] ∧ TestOk v ∧ Q (.bl (isTest v)) O
theorem shp_of {z : Str} {xs : List D} {n : Int} (h : Shp z xs) (e : lenN.lookup z = some n) : (xs.length : Int) + 1 = n := by
  unfold Shp at h
  rw [e] at h
  exact (Option.some.inj h).symm
theorem at_of {x : D} {xs : List D} {i : Nat} (h : i < xs.length) : atI (x :: xs) ((i + 1 : Nat) : Int) = some (xs.getD i .non) := by
  rw [getD_el h]
  exact atI_nat (by rw [List.getElem?_cons_succ]; exact List.getElem?_eq_getElem h)
theorem isOf_mem {z : Str} {l : List Str} (h : isOf z l = true) : z ∈ l := any_mem h
/-- x in (..), the first of a tuple -/
theorem val_hd {mA : DA} {ρ : Slots} {O : Ow} {i : Nat} {z : Str} {xs : List D} (f : Bool → Bool) (l : List Str) (hi : ∀ Q E, Q (.tup (.str z :: xs)) O → dVar i ρ O Q E) (hA : ∀ Q E, Q (l.map fun x => .str x) O → mA ρ O Q E) (hl : l.length ≤ 100) : ∀ Q E, Q (.bl (f (isOf z l))) O → dOp (pu (inSD f)) (dOp ixD (dVar i) (dC (.int 0))) (dTup mA) ρ O Q E :=
  val_inF f z l _ (val_ix (rs := .str z :: xs) (.inr rfl) hi (fun Q E q => q) ad0) (val_tup _ hA (by rw [List.length_map]; exact szk (by omega))) rfl
theorem val_hdE {ρ : Slots} {O : Ow} {i : Nat} {z : Str} {xs : List D} (y : Str) (hi : ∀ Q E, Q (.tup (.str z :: xs)) O → dVar i ρ O Q E) : ∀ Q E, Q (.bl (decide (z = y))) O → dOp (pu (eqD id)) (dOp ixD (dVar i) (dC (.int 0))) (dC (.str y)) ρ O Q E :=
  val_eqB z y _ (val_ix (rs := .str z :: xs) (.inr rfl) hi (fun Q E q => q) ad0) (fun Q E q => q) rfl
theorem val_it {ρ : Slots} {O : Ow} {i : Nat} {x : D} {xs : List D} {j : Int} (k : Nat) (e : ((k + 1 : Nat) : Int) = j) (hi : ∀ Q E, Q (.tup (x :: xs)) O → dVar i ρ O Q E) (hk : k < xs.length) : ∀ Q E, Q (xs.getD k .non) O → dOp ixD (dVar i) (dC (.int j)) ρ O Q E := by
  subst e
  exact val_ix (rs := x :: xs) (.inr rfl) hi (fun Q E q => q) (at_of hk)
theorem isTest_short {xs : List D} (h : xs.length < 2) : isTest (.tup xs) = false := by
  match xs, h with
  | [], _ => rfl
  | [x], _ => cases x <;> rfl
theorem val_andV {ma mb : DE} {ρ : Slots} {O : Ow} (b c : Bool) (ha : ∀ Q E, Q (.bl b) O → ma ρ O Q E) (hb : b = true → ∀ Q E, Q (.bl c) O → mb ρ O Q E) : ∀ Q E, Q (.bl (b && c)) O → dAndV ma mb ρ O Q E := fun Q E q => ha _ _ (by
  cases b with
  | true => exact hb rfl _ _ q
  | false => exact q)
/-- list(x[-2:]) -/
theorem val_last2 {m : DE} {ρ : Slots} {O : Ow} (x : D) (xs : List D) (hl : 2 ≤ xs.length) (h : ∀ Q E, Q (.tup (x :: xs)) O → m ρ O Q E) : ∀ Q E, Q (.lst (xs.drop (xs.length - 2))) O → dCB listO (dCons (dSl m (dPart (dC (.int (-2)))) dNoPart) dNil) ρ O Q E := fun Q E q => h _ _ (by
  have h1 : HT.sIx (x :: xs).length 0 (some (-2)) = xs.length - 1 := by
    simp [HT.sIx]; omega
  have h2 : HT.sIx (x :: xs).length (x :: xs).length none = (x :: xs).length := by simp [HT.sIx]
  refine ⟨fun z => by rw [h1] at z; omega, ?_⟩
  show Q (.lst (EV.cutD (x :: xs) (some (-2)) none)) O
  have e : EV.cutD (x :: xs) (some (-2)) none = xs.drop (xs.length - 2) := by
    unfold EV.cutD
    rw [h1, h2, show xs.length - 1 = (xs.length - 2) + 1 by omega, List.drop_succ_cons]
    exact List.take_of_length_le (by rw [List.length_drop, List.length_cons]; omega)
  rw [e]; exact q)
section
variable {P : Program} {w : World} {K : PySem.W.Frag} {mg : Str → Option Value} {base : Heap}
theorem ok_is_listed {f : Addr} {fd : FuncData} (F : Fun K "is_listed" "is_listed" s_is_listed f fd) (m_isinstance : mg "isinstance" = none) (m_list : mg "list" = none) (m_tuple : mg "tuple" = none) :
    FnOk P w K mg base CX0 1 f fd ["value"] (spD K listedS) := by
  refine fn_pure F sc_is_listed (fun ds O Q E h => ?_) (fun cdv A outer s H E hr =>
    (d_sone (d_ret (d_isiT rfl m_isinstance (d_var (i := 0) rfl (.inl rfl) (by decide) (by decide)) (d_cons (d_ty rfl m_list boot_list (by decide) (by decide)) (d_cons (d_ty rfl m_tuple boot_tuple (by decide) (by decide)) d_nil rfl) rfl) rfl rfl rfl)))) (fun ds O Q E h => ?_) (fun ds O Q E h => h)
  · obtain ⟨v, rfl, _⟩ := h; rfl
  · obtain ⟨v, rfl, ty, q⟩ := h
    rw [show startD N_is_listed [v] = [.sh v] from rfl]
    cases v <;> first | cases ty; done | exact ⟨show 2 ≤ 100 by decide, rfl, q⟩
theorem ok_inner {f : Addr} {fd : FuncData} (F : Fun K "inner" "inner" s_inner f fd) (m_list : mg "list" = none) : FnOk P w K mg base CX0 1 f fd ["saying"] (spD K (headS innerL)) := by
  refine fn_pure F sc_inner (fun ds O Q E h => ?_) (fun cdv A outer s H E hr =>
    (d_scons (d_ifS (d_tcmp od_inS (d_ix (d_var (i := 0) rfl (.inl rfl) (by decide) (by decide)) d_int (fun _ _ => rfl)) (d_tup (d_cons d_str (d_cons d_str (d_cons d_str d_nil rfl) rfl) rfl)) rfl) (d_sone (d_ret (d_callTy cd_list rfl m_list boot_list (d_cons (d_sl (d_var (i := 0) rfl (.inl rfl) (by decide) (by decide)) (d_part d_int) d_nopart) d_nil rfl) (by decide) (by decide) rfl rfl))) d_snil)
      (d_scons (d_ifS (d_tcmp od_inS (d_ix (d_var (i := 0) rfl (.inl rfl) (by decide) (by decide)) d_int (fun _ _ => rfl)) (d_tup (d_cons d_str (d_cons d_str d_nil rfl) rfl)) rfl) (d_sone (d_ret (d_lst (d_cons (d_ix (d_var (i := 0) rfl (.inl rfl) (by decide) (by decide)) d_int (fun _ _ => rfl)) d_nil rfl)))) d_snil)
      (d_scons (d_ifS (d_tcmp od_inS (d_ix (d_var (i := 0) rfl (.inl rfl) (by decide) (by decide)) d_int (fun _ _ => rfl)) (d_tup (d_cons d_str (d_cons d_str d_nil rfl) rfl)) rfl) (d_sone (d_ret (d_lst (d_cons (d_ix (d_var (i := 0) rfl (.inl rfl) (by decide) (by decide)) d_int (fun _ _ => rfl)) d_nil rfl)))) d_snil)
      (d_sone (d_ret (d_if (d_tcmp (od_eq hr.units) (d_ix (d_var (i := 0) rfl (.inl rfl) (by decide) (by decide)) d_int (fun _ _ => rfl)) d_str (nomark _)) (d_lst (d_cons (d_ix (d_var (i := 0) rfl (.inl rfl) (by decide) (by decide)) d_int (fun _ _ => rfl)) d_nil rfl)) (d_lst d_nil)))))))) (fun ds O Q E h => ?_) (fun ds O Q E h => h)
  · obtain ⟨z, xs, rfl, _⟩ := h; rfl
  · obtain ⟨z, xs, rfl, hs, q⟩ := h
    rw [show startD N_inner [.tup (.str z :: xs)] = [.sh (.tup (.str z :: xs))] from rfl]
    have hv : ∀ Q E, Q (.tup (.str z :: xs)) O → dVar 0 [.sh (.tup (.str z :: xs))] O Q E := fun Q E q => q
    refine st_if (isOf z gNot) (val_tstB _ (val_hd id gNot hv (fun Q E q => q) (by decide))) ?_
    unfold innerL at q
    cases e1 : isOf z gNot with
    | true =>
      rw [if_pos e1] at q
      exact bcT (val_retX (val_sl1 (.str z) xs (fun Q E q => q) _ _ q))
    | false =>
    rw [if_neg (by rw [e1]; decide)] at q
    refine bcN ?_
    dsimp only
    refine st_if (isOf z gSome) (val_tstB _ (val_hd id gSome hv (fun Q E q => q) (by decide))) ?_
    cases e2 : isOf z gSome with
    | true =>
      rw [if_pos e2] at q
      have hl : 1 < xs.length := by
        have hm := isOf_mem e2
        simp only [gSome, List.mem_cons, List.not_mem_nil, or_false] at hm
        rcases hm with rfl | rfl
        · have := shp_of (n := 3) hs rfl; omega
        · have := shp_of (n := 3) hs rfl; omega
      exact bcT (val_retX (val_lst _ (val_cons _ _ (val_it 1 rfl hv hl) val_nil) (le_sz rfl) _ _ q))
    | false =>
    rw [if_neg (by rw [e2]; decide)] at q
    refine bcN ?_
    dsimp only
    refine st_if (isOf z gCount) (val_tstB _ (val_hd id gCount hv (fun Q E q => q) (by decide))) ?_
    cases e3 : isOf z gCount with
    | true =>
      rw [if_pos e3] at q
      have hl : 2 < xs.length := by
        have hm := isOf_mem e3
        simp only [gCount, List.mem_cons, List.not_mem_nil, or_false] at hm
        rcases hm with rfl | rfl
        · have := shp_of (n := 4) hs rfl; omega
        · have := shp_of (n := 6) hs rfl; omega
      exact bcT (val_retX (val_lst _ (val_cons _ _ (val_it 2 rfl hv hl) val_nil) (le_sz rfl) _ _ q))
    | false =>
    rw [if_neg (by rw [e3]; decide)] at q
    refine bcN ?_
    dsimp only
    refine val_retX (val_if (decide (z = "within")) (val_tstB _ (val_hdE "within" hv)) ?_)
    cases e4 : decide (z = "within") with
    | true =>
      have ez := of_decide_eq_true e4
      rw [if_pos ez] at q
      have hl : 3 < xs.length := by
        subst ez
        have := shp_of (n := 7) hs rfl; omega
      exact bcT (val_lst _ (val_cons _ _ (val_it 3 rfl hv hl) val_nil) (le_sz rfl) _ _ q)
    | false =>
      rw [if_neg (of_decide_eq_false e4)] at q
      exact bcF (val_lst _ val_nil (le_sz rfl) _ _ q)
theorem ok_bound {f : Addr} {fd : FuncData} (F : Fun K "bound" "bound" s_bound f fd) : FnOk P w K mg base CX0 1 f fd ["saying"] (spD K (headS boundL)) := by
  refine fn_pure F sc_bound (fun ds O Q E h => ?_) (fun cdv A outer s H E hr =>
    (d_scons (d_ifS (d_tcmp od_inS (d_ix (d_var (i := 0) rfl (.inl rfl) (by decide) (by decide)) d_int (fun _ _ => rfl)) (d_tup (d_cons d_str (d_cons d_str (d_cons d_str d_nil rfl) rfl) rfl)) rfl) (d_sone (d_ret (d_lst (d_cons (d_ix (d_var (i := 0) rfl (.inl rfl) (by decide) (by decide)) d_int (fun _ _ => rfl)) d_nil rfl)))) d_snil)
      (d_scons (d_ifS (d_tcmp (od_eq hr.units) (d_ix (d_var (i := 0) rfl (.inl rfl) (by decide) (by decide)) d_int (fun _ _ => rfl)) d_str (nomark _)) (d_sone (d_ret (d_lst (d_cons (d_ix (d_var (i := 0) rfl (.inl rfl) (by decide) (by decide)) d_int (fun _ _ => rfl)) (d_cons (d_ix (d_var (i := 0) rfl (.inl rfl) (by decide) (by decide)) d_int (fun _ _ => rfl)) d_nil rfl) rfl)))) d_snil)
      (d_sone (d_ret (d_if (d_tcmp (od_eq hr.units) (d_ix (d_var (i := 0) rfl (.inl rfl) (by decide) (by decide)) d_int (fun _ _ => rfl)) d_str (nomark _)) (d_lst (d_cons (d_ix (d_var (i := 0) rfl (.inl rfl) (by decide) (by decide)) d_int (fun _ _ => rfl)) (d_cons (d_ix (d_var (i := 0) rfl (.inl rfl) (by decide) (by decide)) d_int (fun _ _ => rfl)) d_nil rfl) rfl)) (d_lst d_nil))))))) (fun ds O Q E h => ?_) (fun ds O Q E h => h)
  · obtain ⟨z, xs, rfl, _⟩ := h; rfl
  · obtain ⟨z, xs, rfl, hs, q⟩ := h
    rw [show startD N_bound [.tup (.str z :: xs)] = [.sh (.tup (.str z :: xs))] from rfl]
    have hv : ∀ Q E, Q (.tup (.str z :: xs)) O → dVar 0 [.sh (.tup (.str z :: xs))] O Q E := fun Q E q => q
    unfold boundL at q
    refine st_if (isOf z gBound) (val_tstB _ (val_hd id gBound hv (fun Q E q => q) (by decide))) ?_
    cases e1 : isOf z gBound with
    | true =>
      rw [if_pos e1] at q
      have hl : 0 < xs.length := by
        have hm := isOf_mem e1
        simp only [gBound, List.mem_cons, List.not_mem_nil, or_false] at hm
        rcases hm with rfl | rfl | rfl
        · have := shp_of (n := 3) hs rfl; omega
        · have := shp_of (n := 3) hs rfl; omega
        · have := shp_of (n := 4) hs rfl; omega
      exact bcT (val_retX (val_lst _ (val_cons _ _ (val_it 0 rfl hv hl) val_nil) (le_sz rfl) _ _ q))
    | false =>
    rw [if_neg (by rw [e1]; decide)] at q
    refine bcN ?_
    dsimp only
    refine st_if (decide (z = "way")) (val_tstB _ (val_hdE "way" hv)) ?_
    cases e2 : decide (z = "way") with
    | true =>
      have ez := of_decide_eq_true e2
      rw [if_pos ez] at q
      have hl : 1 < xs.length := by
        subst ez
        have := shp_of (n := 6) hs rfl; omega
      exact bcT (val_retX (val_lst _ (val_cons _ _ (val_it 0 rfl hv (by omega)) (val_cons _ _ (val_it 1 rfl hv hl) val_nil)) (le_sz rfl) _ _ q))
    | false =>
    rw [if_neg (of_decide_eq_false e2)] at q
    refine bcN ?_
    dsimp only
    refine val_retX (val_if (decide (z = "within")) (val_tstB _ (val_hdE "within" hv)) ?_)
    cases e4 : decide (z = "within") with
    | true =>
      have ez := of_decide_eq_true e4
      rw [if_pos ez] at q
      have hl : 2 < xs.length := by
        subst ez
        have := shp_of (n := 7) hs rfl; omega
      exact bcT (val_lst _ (val_cons _ _ (val_it 1 rfl hv (by omega)) (val_cons _ _ (val_it 2 rfl hv hl) val_nil)) (le_sz rfl) _ _ q)
    | false =>
      rw [if_neg (of_decide_eq_false e4)] at q
      exact bcF (val_lst _ val_nil (le_sz rfl) _ _ q)
theorem ok_used {f : Addr} {fd : FuncData} (F : Fun K "used" "used" s_used f fd) (m_list : mg "list" = none) : FnOk P w K mg base CX0 1 f fd ["saying"] (spD K (headS usedL)) := by
  refine fn_pure F sc_used (fun ds O Q E h => ?_) (fun cdv A outer s H E hr =>
    (d_scons (d_ifS (d_tcmp od_inS (d_ix (d_var (i := 0) rfl (.inl rfl) (by decide) (by decide)) d_int (fun _ _ => rfl)) (d_tup (d_cons d_str (d_cons d_str d_nil rfl) rfl)) rfl) (d_sone (d_ret (d_callTy cd_list rfl m_list boot_list (d_cons (d_sl (d_var (i := 0) rfl (.inl rfl) (by decide) (by decide)) (d_part d_int) d_nopart) d_nil rfl) (by decide) (by decide) rfl rfl))) d_snil)
      (d_scons (d_ifS (d_tcmp od_inS (d_ix (d_var (i := 0) rfl (.inl rfl) (by decide) (by decide)) d_int (fun _ _ => rfl)) (d_tup (d_cons d_str (d_cons d_str d_nil rfl) rfl)) rfl) (d_sone (d_ret (d_callTy cd_list rfl m_list boot_list (d_cons (d_sl (d_var (i := 0) rfl (.inl rfl) (by decide) (by decide)) (d_part d_int) d_nopart) d_nil rfl) (by decide) (by decide) rfl rfl))) d_snil)
      (d_sone (d_ret (d_if (d_tcmp od_inS (d_ix (d_var (i := 0) rfl (.inl rfl) (by decide) (by decide)) d_int (fun _ _ => rfl)) (d_tup (d_cons d_str (d_cons d_str d_nil rfl) rfl)) rfl) (d_callTy cd_list rfl m_list boot_list (d_cons (d_sl (d_var (i := 0) rfl (.inl rfl) (by decide) (by decide)) (d_part (d_neg d_int)) d_nopart) d_nil rfl) (by decide) (by decide) rfl rfl) (d_lst d_nil))))))) (fun ds O Q E h => ?_) (fun ds O Q E h => h)
  · obtain ⟨z, xs, rfl, _⟩ := h; rfl
  · obtain ⟨z, xs, rfl, hs, q⟩ := h
    rw [show startD N_used [.tup (.str z :: xs)] = [.sh (.tup (.str z :: xs))] from rfl]
    have hv : ∀ Q E, Q (.tup (.str z :: xs)) O → dVar 0 [.sh (.tup (.str z :: xs))] O Q E := fun Q E q => q
    unfold usedL at q
    refine st_if (isOf z gHas) (val_tstB _ (val_hd id gHas hv (fun Q E q => q) (by decide))) ?_
    cases e1 : isOf z gHas with
    | true =>
      rw [if_pos e1] at q
      have hl : 1 < xs.length := by
        have hm := isOf_mem e1
        simp only [gHas, List.mem_cons, List.not_mem_nil, or_false] at hm
        rcases hm with rfl | rfl
        · have := shp_of (n := 3) hs rfl; omega
        · have := shp_of (n := 4) hs rfl; omega
      refine bcT (val_retX ?_)
      exact val_fromT (.str z :: xs) 2 (by decide) (by rw [List.length_cons]; omega) (by simp) (fun Q E q => q) (fun Q E q => q) _ _ q
    | false =>
    rw [if_neg (by rw [e1]; decide)] at q
    refine bcN ?_
    dsimp only
    refine st_if (isOf z gSame) (val_tstB _ (val_hd id gSame hv (fun Q E q => q) (by decide))) ?_
    cases e2 : isOf z gSame with
    | true =>
      rw [if_pos e2] at q
      exact bcT (val_retX (val_sl1 (.str z) xs (fun Q E q => q) _ _ q))
    | false =>
    rw [if_neg (by rw [e2]; decide)] at q
    refine bcN ?_
    dsimp only
    refine val_retX (val_if (isOf z gWay) (val_tstB _ (val_hd id gWay hv (fun Q E q => q) (by decide))) ?_)
    cases e4 : isOf z gWay with
    | true =>
      rw [if_pos e4] at q
      have hl : 4 < xs.length := by
        have hm := isOf_mem e4
        simp only [gWay, List.mem_cons, List.not_mem_nil, or_false] at hm
        rcases hm with rfl | rfl
        · have := shp_of (n := 6) hs rfl; omega
        · have := shp_of (n := 7) hs rfl; omega
      exact bcT (val_last2 (.str z) xs (by omega) hv _ _ q)
    | false =>
      rw [if_neg (by rw [e4]; decide)] at q
      exact bcF (val_lst _ val_nil (le_sz rfl) _ _ q)
theorem ok_is_test {f fM : Addr} {fd fdM : FuncData} (F : Fun K "is_test" "is_test" s_is_test f fd) (G_is_number : FnOk P w K mg base CX0 1 fM fdM ["value", "least", "most"] (spD K numS)) (T_is_number : Gf K mg "is_number" fM fdM ["value", "least", "most"]) (m_isinstance : mg "isinstance" = none) (m_tuple : mg "tuple" = none) (m_len : mg "len" = none) :
    FnOk P w K mg base CX0 2 f fd ["value"] (spD K testS) := by
  refine fn_pure F sc_is_test (fun ds O Q E h => ?_) (fun cdv A outer s H E hr =>
    (d_scons (d_ifS (DPW.pt (d_wor (d_tnot (d_test (d_callB cd_isi rfl m_isinstance boot_isinstance (d_cons (d_var (i := 0) rfl (.inl rfl) (by decide) (by decide)) (d_cons (d_ty rfl m_tuple boot_tuple (by decide) (by decide)) d_nil rfl) rfl) (by decide) (by decide) rfl rfl) (by intro _; rfl))) (d_or1 (d_tcmp od_lt (d_callB cd_len rfl m_len boot_len (d_cons (d_var (i := 0) rfl (.inl rfl) (by decide) (by decide)) d_nil rfl) (by decide) (by decide) rfl rfl) d_int (nomark _))))) (d_sone (d_ret d_bl)) d_snil)
      (d_scons (d_ifS (d_tcmp od_inS (d_ix (d_var (i := 0) rfl (.inl rfl) (by decide) (by decide)) d_int (fun _ _ => rfl)) (d_tup (d_cons d_str (d_cons d_str d_nil rfl) rfl)) rfl) (d_sone (d_ret (d_and (d_cmp (od_eq hr.units) (d_callB cd_len rfl m_len boot_len (d_cons (d_var (i := 0) rfl (.inl rfl) (by decide) (by decide)) d_nil rfl) (by decide) (by decide) rfl rfl) d_int (nomark _)) (d_one (d_call G_is_number (hr.mono (by decide)) rfl T_is_number.m T_is_number.k T_is_number.b (fun _ => pass0A) (d_cons (d_ix (d_var (i := 0) rfl (.inl rfl) (by decide) (by decide)) d_int (fun _ _ => rfl)) (d_cons d_int (d_cons d_int d_nil rfl) rfl) rfl) (by decide) rfl rfl))))) d_snil)
      (d_scons (d_ifS (DPW.pt (d_wor (d_tcmp (od_ne hr.units) (d_ix (d_var (i := 0) rfl (.inl rfl) (by decide) (by decide)) d_int (fun _ _ => rfl)) d_str (nomark _)) (d_wor (d_tcmp (od_ne hr.units) (d_callB cd_len rfl m_len boot_len (d_cons (d_var (i := 0) rfl (.inl rfl) (by decide) (by decide)) d_nil rfl) (by decide) (by decide) rfl rfl) d_int (nomark _)) (d_or1 (d_tnot (d_test (d_call G_is_number (hr.mono (by decide)) rfl T_is_number.m T_is_number.k T_is_number.b (fun _ => pass0A) (d_cons (d_ix (d_var (i := 0) rfl (.inl rfl) (by decide) (by decide)) d_int (fun _ _ => rfl)) (d_cons d_int (d_cons d_int d_nil rfl) rfl) rfl) (by decide) rfl rfl) (by intro _; rfl))))))) (d_sone (d_ret d_bl)) d_snil)
      (d_sone (d_ret (d_call G_is_number (hr.mono (by decide)) rfl T_is_number.m T_is_number.k T_is_number.b (fun _ => pass0A) (d_cons (d_ix (d_var (i := 0) rfl (.inl rfl) (by decide) (by decide)) d_int (fun _ _ => rfl)) (d_cons d_int (d_cons (d_op od_sub (d_ix (d_var (i := 0) rfl (.inl rfl) (by decide) (by decide)) d_int (fun _ _ => rfl)) d_int) d_nil rfl) rfl) rfl) (by decide) rfl rfl))))))) (fun ds O Q E h => ?_) (fun ds O Q E h => h)
  · obtain ⟨v, rfl, _⟩ := h; rfl
  · obtain ⟨v, rfl, ⟨ty, hvv⟩, q⟩ := h
    rw [show startD N_is_test [v] = [.sh v] from rfl]
    cases v with
    | tup xs =>
      obtain ⟨ht, hz⟩ := hvv xs rfl
      have hlen : ∀ Q E, Q (.int xs.length) O → dCB lenO (dCons (dVar 0) dNil) [.sh (.tup xs)] O Q E := val_len (.inr rfl) (fun Q E q => q)
      refine st_if (decide ((xs.length : Int) < 2)) (val_or2 (fun Q E q => ⟨rfl, rfl, q⟩) (val_tstB _ (val_op (.int xs.length) (.int 2) _ hlen (fun Q E q => q) (fun Q q => q)))) ?_
      by_cases h2 : xs.length < 2
      · rw [decide_eq_true (by omega)]
        rw [isTest_short h2] at q
        exact bcT q
      · rw [decide_eq_false (by omega)]
        refine bcN ?_
        dsimp only
        obtain ⟨z, r, rfl⟩ := hz (by omega)
        obtain ⟨x, t, rfl⟩ : ∃ x t, r = x :: t := by
          cases r with
          | nil => simp at h2
          | cons x t => exact ⟨x, t, rfl⟩
        have hv : ∀ Q E, Q (.tup (.str z :: x :: t)) O → dVar 0 [.sh (.tup (.str z :: x :: t))] O Q E := fun Q E q => q
        have tx : (tyD x).isSome = true := ht x (by simp)
        refine st_if (isOf z gLeast) (val_tstB _ (val_hd id gLeast hv (fun Q E q => q) (by decide))) ?_
        have q1 : Q (.bl (if isOf z gLeast then decide (t.length = 0) && isNum x 0 8 else if z = "rest" then (match t with
          | [y] => (match x with
            | .int i => isNum x 2 8 && isNum y 0 (i - 1)
            | _ => false)
          | _ => false) else false)) O := q
        cases e1 : isOf z gLeast with
        | true =>
          rw [if_pos e1] at q1
          refine bcT (val_retX (val_andV (decide (t.length = 0)) (isNum x 0 8) ?_ (fun _ => ?_) _ _ q1))
          · refine fun Q E q => val_op (.int ((.str z :: x :: t : List D).length)) (.int 2) (.bl (decide (t.length = 0))) hlen (fun Q E q => q) (fun Q q => ?_) Q E q
            show Q (.bl (decide ((((.str z :: x :: t : List D).length : Nat) : Int) = 2)))
            rw [show decide ((((.str z :: x :: t : List D).length : Nat) : Int) = 2) = decide (t.length = 0) from decide_eq_decide.mpr (by simp only [List.length_cons]; omega)]
            exact q
          · exact val_call [x, .int 0, .int 8] _ (val_cons _ _ (val_ix (.inr rfl) hv (fun Q E q => q) ad1) (fun Q E q => q)) fun Q E q => ⟨x, 0, 8, rfl, tx, q⟩
        | false =>
        rw [if_neg (by rw [e1]; decide)] at q1
        refine bcN ?_
        dsimp only
        have h0 : ∀ (f : Bool → Bool) (Q : QD) (E : QX), Q (.bl (f (decide (z = "rest")))) O → dOp (pu (eqD f)) (dOp ixD (dVar 0) (dC (.int 0))) (dC (.str "rest")) [.sh (.tup (.str z :: x :: t))] O Q E := fun f => val_op (.str z) (.str "rest") _ (val_ix (.inr rfl) hv (fun Q E q => q) ad0) (fun Q E q => q) (fun Q q => q)
        have h3 : ∀ (f : Bool → Bool) (Q : QD) (E : QX), Q (.bl (f (decide (t.length = 1)))) O → dOp (pu (eqD f)) (dCB lenO (dCons (dVar 0) dNil)) (dC (.int 3)) [.sh (.tup (.str z :: x :: t))] O Q E := fun f Q E q => hlen _ _ (by
          show Q (.bl (f (decide ((((.str z :: x :: t : List D).length : Nat) : Int) = 3)))) O
          rw [show decide ((((.str z :: x :: t : List D).length : Nat) : Int) = 3) = decide (t.length = 1) from decide_eq_decide.mpr (by simp only [List.length_cons]; omega)]
          exact q)
        by_cases hr : z = "rest"
        · rw [if_pos hr] at q1
          by_cases ht1 : t.length = 1
          · obtain ⟨y, rfl⟩ := List.length_eq_one_iff.mp ht1
            have ty2 : (tyD y).isSome = true := ht y (by simp)
            refine st_if (!isNum x 2 8) (val_or2 (val_tstB false (by have := h0 not; rw [decide_eq_true hr] at this; exact this)) (val_or2 (val_tstB false (by have := h3 not; rw [decide_eq_true ht1] at this; exact this)) (val_not _ (val_tst _ (val_call [x, .int 2, .int 8] _ (val_cons _ _ (val_ix (.inr rfl) hv (fun Q E q => q) ad1) (fun Q E q => q)) fun Q E q => ⟨x, 2, 8, rfl, tx, q⟩))))) ?_
            cases hn : isNum x 2 8 with
            | false =>
              refine bcT ?_
              cases x <;> first | exact q1 | skip
              have q2 : Q (.bl (isNum _ 2 8 && isNum y 0 _)) O := q1
              rw [hn, Bool.false_and] at q2
              exact q2
            | true =>
              cases x <;> first | cases hn | skip
              rename_i i
              have q2 : Q (.bl (isNum (.int i) 2 8 && isNum y 0 (i - 1))) O := q1
              rw [hn, Bool.true_and] at q2
              refine bcN ?_
              dsimp only
              exact val_retX (val_call [y, .int 0, .int (i - 1)] _ (val_cons _ _ (val_ix (.inr rfl) hv (fun Q E q => q) ad2) (val_cons _ _ (fun Q E q => q) (val_cons _ _ (val_op (.int i) (.int 1) _ (val_ix (.inr rfl) hv (fun Q E q => q) ad1) (fun Q E q => q) (fun Q q => ⟨trivial, q⟩)) val_nil))) (fun Q E q => ⟨y, 0, i - 1, rfl, ty2, q⟩) _ _ q2)
          · refine st_if true (val_or2 (val_tstB false (by have := h0 not; rw [decide_eq_true hr] at this; exact this)) (val_or1 (val_tstB true (by have := h3 not; rw [decide_eq_false ht1] at this; exact this)))) (bcT ?_)
            match t, ht1, q1 with
            | [], _, q1 => exact q1
            | _ :: _ :: _, _, q1 => exact q1
        · rw [if_neg hr] at q1
          exact st_if true (val_or1 (val_tstB true (by have := h0 not; rw [decide_eq_false hr] at this; exact this))) (bcT q1)
    | opq => cases ty
    | ins => cases ty
    | exc => cases ty
    | lam => cases ty
    | _ => exact ⟨rfl, rfl, q⟩
end
end LW
set_option Elab.async false
set_option linter.all false
set_option maxRecDepth 100000
set_option maxHeartbeats 4000000
set_option pp.maxSteps 400
/-! is_headed, is_saying -/
namespace LW
open PySem PySem.Spec PyProof.Rows L2 EV PySem.XO PySem.W LamX
local macro_rules | `(tactic| walk_at "n") => `(tactic| refine st_norm (by simp only [List.set_cons_succ, List.set_cons_zero]; rfl) ?_)
abbrev s_is_headed : Stmt := topS 29
abbrev N_is_headed : List Str := ["saying", "names", "fresh", "name"]
theorem sc_is_headed : FnScope N_is_headed ["saying", "names"] (defScope s_is_headed) := ⟨rfl, rfl, rfl, by decide +kernel, rfl, by decide +kernel, by decide +kernel⟩

def inN (ns : List Str) : D → Bool
  | .str y => isOf y ns
  | _ => false
/-- two names that are not one -/
def apart : List D → Bool
  | [a, b] => !(match a, b with
    | .str x, .str y => decide (x = y)
    | _, _ => false)
  | _ => true
def isHdX (z : Str) (xs : List D) (ns : List Str) : Bool :=
  (!isOf z gHas || isNm (xs.getD 0 .non)) && ((!decide (z = "count") || isTest (xs.getD 1 .non)) && ((!decide (z = "within") || isNum (xs.getD 0 .non) 0 8) && (((usedL z xs).all fun d => isNm d && inN ns d) && (((boundL z xs).all fun d => isNm d && !inN ns d) && apart (boundL z xs)))))
def isHd (s : D) (ns : List Str) : Bool := match s with
  | .tup (.str z :: xs) => decide (lenN.lookup z = some ((xs.length : Int) + 1)) && isHdX z xs ns
  | _ => false
/-- what is_headed may look at -/
def HdPre (s : D) : Prop := (tyD s).isSome = true ∧ ∀ xs, s = .tup xs → xs.length ≤ 1000 ∧ (∀ x ∈ xs, Flat x) ∧ ∀ v, xs[2]? = some v → TestOk v
abbrev nmL (ns : List Str) : D := .lst (ns.map D.str)
def hdS : DSp := fun ds O Q _ => ∃ s ns, ds = [s, nmL ns] ∧ HdPre s ∧ ns.length ≤ 1000 ∧ Q (.bl (isHd s ns)) O
abbrev s_is_saying : Stmt := topS 30
abbrev N_is_saying : List Str := ["saying", "names", "deep", "scope", "part"]
theorem sc_is_saying : FnScope N_is_saying ["saying", "names", "deep"] (defScope s_is_saying) := ⟨rfl, rfl, rfl, by decide +kernel, rfl, by decide +kernel, by decide +kernel⟩

def strsOf (ds : List D) : List Str := ds.filterMap fun d => match d with
  | .str y => some y
  | _ => none
theorem strsOf_map : ∀ {ds : List D}, (∀ d ∈ ds, isNm d = true) → ds = (strsOf ds).map D.str
  | [], _ => rfl
  | d :: ds, h => by
    have hd := h d (by simp)
    cases d with
    | str y =>
      show D.str y :: ds = D.str y :: (strsOf ds).map D.str
      rw [← strsOf_map fun x hx => h x (List.mem_cons_of_mem _ hx)]
    | _ => cases hd
theorem hd_shape {s : D} {ns : List Str} (h : isHd s ns = true) : ∃ z xs, s = .tup (.str z :: xs) ∧ Shp z xs ∧ ∀ d ∈ boundL z xs, isNm d = true := by
  unfold isHd at h
  split at h
  · rename_i z xs
    rw [Bool.and_eq_true] at h
    refine ⟨z, xs, rfl, by unfold Shp; exact of_decide_eq_true h.1, fun d hd => ?_⟩
    have h2 := h.2
    unfold isHdX at h2
    simp only [Bool.and_eq_true] at h2
    have := List.all_eq_true.mp h2.2.2.2.2.1 d hd
    rw [Bool.and_eq_true] at this
    exact this.1
  · cases h
theorem inner_len {z : Str} {xs : List D} (hs : Shp z xs) : (innerL z xs).length ≤ 2 := by
  unfold innerL
  split
  · rename_i e
    have hm := isOf_mem e
    simp only [gNot, List.mem_cons, List.not_mem_nil, or_false] at hm
    rcases hm with rfl | rfl | rfl
    · have := shp_of (n := 2) hs rfl; omega
    · have := shp_of (n := 3) hs rfl; omega
    · have := shp_of (n := 3) hs rfl; omega
  · split
    · simp
    · split
      · simp
      · split <;> simp
theorem inner_sub {z : Str} {xs : List D} (hs : Shp z xs) : ∀ d ∈ innerL z xs, d ∈ xs := by
  intro d hd
  have mem : ∀ i, i < xs.length → xs.getD i .non ∈ xs := fun i hi => by rw [getD_el hi]; exact List.getElem_mem hi
  unfold innerL at hd
  split at hd
  · exact hd
  · split at hd
    · rename_i e
      have hm := isOf_mem e
      simp only [gSome, List.mem_cons, List.not_mem_nil, or_false] at hm hd
      subst hd
      rcases hm with rfl | rfl
      · have := shp_of (n := 3) hs rfl; exact mem 1 (by omega)
      · have := shp_of (n := 3) hs rfl; exact mem 1 (by omega)
    · split at hd
      · rename_i e
        have hm := isOf_mem e
        simp only [gCount, List.mem_cons, List.not_mem_nil, or_false] at hm hd
        subst hd
        rcases hm with rfl | rfl
        · have := shp_of (n := 4) hs rfl; exact mem 2 (by omega)
        · have := shp_of (n := 6) hs rfl; exact mem 2 (by omega)
      · split at hd
        · rename_i e
          subst e
          have := shp_of (n := 7) hs rfl
          simp only [List.mem_cons, List.not_mem_nil, or_false] at hd
          subst hd
          exact mem 3 (by omega)
        · cases hd
def partsB (f : D → List Str → Bool) (s : D) (ns : List Str) : Bool := match s with
  | .tup (.str z :: xs) => decide ((ns.length : Int) + (boundL z xs).length ≤ 6) && (innerL z xs).all fun p => f p (ns ++ strsOf (boundL z xs))
  | _ => false
def isSay : Nat → D → List Str → Bool
  | 0, _, _ => false
  | n + 1, s, ns => isHd s ns && partsB (isSay n) s ns
def Sy : Nat → D → Prop
  | 0, _ => True
  | n + 1, s => HdPre s ∧ ∀ xs, s = .tup xs → ∀ x ∈ xs, Sy n x
def sayS (n : Nat) : DSp := fun ds O Q _ => ∃ s ns, ds = [s, nmL ns, .int n] ∧ Sy n s ∧ ns.length ≤ 100 ∧ Q (.bl (isSay n s ns)) O
/-- if ..: return False -/
theorem st_guard {t : DT} {rest : DS} {A : DEnds} {ρ : Slots} {O : Ow} (b c : Bool) (h : ∀ Q E, Q (!b) O → t ρ O Q E) (q : A.rt (.bl (b && c)) O) (k : b = true → A.rt (.bl c) O → rest A ρ O) : dSeq (dIfS t (dRet (dC (.bl false))) dNext) rest A ρ O := h _ _ (by
  cases b with
  | true => exact k rfl q
  | false => exact q)
theorem len_look (z : Str) : lenT.lookup z = (lenN.lookup z).map D.int := by
  have : lenT = lenN.map fun p => (p.1, .int p.2) := rfl
  rw [this]
  induction lenN with
  | nil => rfl
  | cons p l ih =>
    obtain ⟨k, v⟩ := p
    simp only [List.map_cons, List.lookup_cons]
    cases z == k with
    | true => rfl
    | false => exact ih
theorem place_look (z : Str) : (placesT.lookup z).isSome = isOf z gHas := by
  simp only [placesT, gHas, isOf, List.lookup_cons, List.any_cons, List.any_nil, Bool.or_false, List.lookup_nil]
  by_cases h1 : z = "has"
  · subst h1; rfl
  · by_cases h2 : z = "link"
    · subst h2; rfl
    · have e1 : (z == ("has" : Str)) = false := beq_eq_false_iff_ne.mpr h1
      have e2 : (z == ("link" : Str)) = false := beq_eq_false_iff_ne.mpr h2
      simp [e1, e2, h1, h2]
theorem nm_str {d : D} (h : isNm d = true) : ∃ y, d = .str y := by
  cases d <;> first | exact ⟨_, rfl⟩ | cases h
theorem getD_flat {xs : List D} {i : Nat} (h : ∀ x ∈ xs, Flat x) (hi : i < xs.length) : Flat (xs.getD i .non) := by
  rw [getD_el hi]; exact h _ (List.getElem_mem hi)
theorem used_sub {z : Str} {xs : List D} : ∀ d ∈ usedL z xs, d ∈ xs := by
  intro d hd
  unfold usedL at hd
  split at hd
  · exact List.mem_of_mem_drop hd
  · split at hd
    · exact hd
    · split at hd
      · exact List.mem_of_mem_drop hd
      · cases hd
theorem used_le {z : Str} {xs : List D} : (usedL z xs).length ≤ xs.length := by
  unfold usedL
  split
  · rw [List.length_drop]; omega
  · split
    · omega
    · split
      · rw [List.length_drop]; omega
      · simp
theorem bound_len {z : Str} {xs : List D} : (boundL z xs).length ≤ 2 := by
  unfold boundL
  split
  · simp
  · split
    · simp
    · split <;> simp
theorem bound_sub {z : Str} {xs : List D} (hs : Shp z xs) : ∀ d ∈ boundL z xs, d ∈ xs := by
  intro d hd
  have mem : ∀ i, i < xs.length → xs.getD i .non ∈ xs := fun i hi => by rw [getD_el hi]; exact List.getElem_mem hi
  unfold boundL at hd
  split at hd
  · rename_i e
    have hm := isOf_mem e
    simp only [gBound, List.mem_cons, List.not_mem_nil, or_false] at hm hd
    subst hd
    rcases hm with rfl | rfl | rfl
    · have := shp_of (n := 3) hs rfl; exact mem 0 (by omega)
    · have := shp_of (n := 3) hs rfl; exact mem 0 (by omega)
    · have := shp_of (n := 4) hs rfl; exact mem 0 (by omega)
  · split at hd
    · rename_i e
      subst e
      have := shp_of (n := 6) hs rfl
      simp only [List.mem_cons, List.not_mem_nil, or_false] at hd
      rcases hd with rfl | rfl
      · exact mem 0 (by omega)
      · exact mem 1 (by omega)
    · split at hd
      · rename_i e
        subst e
        have := shp_of (n := 7) hs rfl
        simp only [List.mem_cons, List.not_mem_nil, or_false] at hd
        rcases hd with rfl | rfl
        · exact mem 1 (by omega)
        · exact mem 2 (by omega)
      · cases hd
/-- is_name(x) and x in names -/
theorem val_nmIn {ρ : Slots} {O : Ow} {i j : Nat} (f : Bool → Bool) (d : D) (ns : List Str) (hd : Flat d) (hi : ∀ Q E, Q d O → dVar i ρ O Q E) (hj : ∀ Q E, Q (nmL ns) O → dVar j ρ O Q E) : ∀ Q E, Q (.bl (isNm d && f (inN ns d))) O → dAndV (dCall nameS (dCons (dVar i) dNil)) (dOp (pu (inSD f)) (dVar i) (dVar j)) ρ O Q E := by
  refine val_andV (isNm d) (f (inN ns d)) (val_call [d] _ (val_cons _ _ hi val_nil) fun Q E q => ⟨d, rfl, hd.1, hd.2, q⟩) (fun hn => ?_)
  obtain ⟨y, rfl⟩ := nm_str hn
  intro Q E q
  refine hi _ _ (hj _ _ ?_)
  show (match toSs (ns.map D.str) with
    | some ss => Q (.bl (f (ss.any fun z => decide (y = z)))) O
    | none => False)
  rw [toSs_map (fun x => x)]
  show Q (.bl (f ((ns.map fun x => x).any fun z => decide (y = z)))) O
  rw [List.map_id']
  exact q
/-- all([.. for x in ..]) -/
theorem val_all {mi : DI} {g : DG} {te : DE} {vs : List Nat} {ρ : Slots} {O : Ow} (ds : List D) (p : D → Bool) (hl : ds.length ≤ 1000) (hi : ∀ Q E, Q (tt1, ds) O → mi ρ O Q E) (he : ∀ d ∈ ds, ∀ Qy : QD, Qy (.bl (p d)) O → g d (wipeD ρ vs) fun ρ' => te ρ' O Qy fun _ _ => False) : ∀ Q E, Q (.bl (ds.all p)) O → dCB (pc allD) (dCons (dLc mi g dYes te vs) dNil) ρ O Q E := fun Q E q =>
  hi _ _ (lcW_map (I := tt1) trivial (fun d => .bl (p d)) he (by rw [List.length_nil]; exact szk (by dsimp only; omega)) (by
    show allD [.lst (ds.map fun d => .bl (p d))] fun d => Q d O
    refine allD_of (toBs_map p ds) ?_
    rw [List.all_map]
    exact q))
section
variable {P : Program} {w : World} {K : PySem.W.Frag} {mg : Str → Option Value} {base : Heap}
theorem ok_is_headed {f fN fM fT fU fB aL aP : Addr} {fd fdN fdM fdT fdU fdB : FuncData} (F : Fun K "is_headed" "is_headed" s_is_headed f fd)
    (G_is_name : FnOk P w K mg base CX0 1 fN fdN ["value"] (spD K nameS)) (T_is_name : Gf K mg "is_name" fN fdN ["value"])
    (G_is_number : FnOk P w K mg base CX0 1 fM fdM ["value", "least", "most"] (spD K numS)) (T_is_number : Gf K mg "is_number" fM fdM ["value", "least", "most"])
    (G_is_test : FnOk P w K mg base CX0 2 fT fdT ["value"] (spD K testS)) (T_is_test : Gf K mg "is_test" fT fdT ["value"])
    (G_used : FnOk P w K mg base CX0 1 fU fdU ["saying"] (spD K (headS usedL))) (T_used : Gf K mg "used" fU fdU ["saying"])
    (G_bound : FnOk P w K mg base CX0 1 fB fdB ["saying"] (spD K (headS boundL))) (T_bound : Gf K mg "bound" fB fdB ["saying"])
    (m_isinstance : mg "isinstance" = none) (m_tuple : mg "tuple" = none) (m_str : mg "str" = none) (m_len : mg "len" = none) (m_all : mg "all" = none)
    (M_LENGTHS : mg "LENGTHS" = some (.ref aL)) (T_LENGTHS : TabK K w aL lenT) (M_PLACES : mg "PLACES" = some (.ref aP)) (T_PLACES : TabK K w aP placesT) :
    FnOk P w K mg base CX0 3 f fd ["saying", "names"] (spD K hdS) := by
  refine fn_pure F sc_is_headed (fun ds O Q E h => ?_) (fun cdv A outer s H E hr =>
    (d_scons (d_ifS (DPW.pt (d_wor (d_tnot (d_test (d_callB cd_isi rfl m_isinstance boot_isinstance (d_cons (d_var (i := 0) rfl (.inl rfl) (by decide) (by decide)) (d_cons (d_ty rfl m_tuple boot_tuple (by decide) (by decide)) d_nil rfl) rfl) (by decide) (by decide) rfl rfl) (by intro _; rfl))) (d_wor (d_tcmp (od_eq hr.units) (d_callB cd_len rfl m_len boot_len (d_cons (d_var (i := 0) rfl (.inl rfl) (by decide) (by decide)) d_nil rfl) (by decide) (by decide) rfl rfl) d_int (nomark _)) (d_or1 (d_tnot (d_test (d_callB cd_isi rfl m_isinstance boot_isinstance (d_cons (d_ix (d_var (i := 0) rfl (.inl rfl) (by decide) (by decide)) d_int (fun _ _ => rfl)) (d_cons (d_ty rfl m_str boot_str (by decide) (by decide)) d_nil rfl) rfl) (by decide) (by decide) rfl rfl) (by intro _; rfl))))))) (d_sone (d_ret d_bl)) d_snil)
      (d_scons (d_ifS (d_tcmp (od_ne hr.units) (d_getK T_LENGTHS (d_gdict rfl M_LENGTHS (by decide)) (d_ix (d_var (i := 0) rfl (.inl rfl) (by decide) (by decide)) d_int (fun _ _ => rfl)) d_int ⟨rfl, rfl, rfl, rfl⟩) (d_callB cd_len rfl m_len boot_len (d_cons (d_var (i := 0) rfl (.inl rfl) (by decide) (by decide)) d_nil rfl) (by decide) (by decide) rfl rfl) (nomark _)) (d_sone (d_ret d_bl)) d_snil)
      (d_scons (d_ifS (DPW.pt (d_wand (d_tcmp (od_inK T_PLACES) (d_ix (d_var (i := 0) rfl (.inl rfl) (by decide) (by decide)) d_int (fun _ _ => rfl)) (d_gdict rfl M_PLACES (by decide)) rfl) (d_and1 (d_tnot (d_test (d_call G_is_name (hr.mono (by decide)) rfl T_is_name.m T_is_name.k T_is_name.b (fun _ => pass0A) (d_cons (d_ix (d_var (i := 0) rfl (.inl rfl) (by decide) (by decide)) d_int (fun _ _ => rfl)) d_nil rfl) (by decide) rfl rfl) (by intro _; rfl)))))) (d_sone (d_ret d_bl)) d_snil)
      (d_scons (d_ifS (DPW.pt (d_wand (d_tcmp (od_eq hr.units) (d_ix (d_var (i := 0) rfl (.inl rfl) (by decide) (by decide)) d_int (fun _ _ => rfl)) d_str (nomark _)) (d_and1 (d_tnot (d_test (d_call G_is_test (hr.mono (by decide)) rfl T_is_test.m T_is_test.k T_is_test.b (fun _ => pass0A) (d_cons (d_ix (d_var (i := 0) rfl (.inl rfl) (by decide) (by decide)) d_int (fun _ _ => rfl)) d_nil rfl) (by decide) rfl rfl) (by intro _; rfl)))))) (d_sone (d_ret d_bl)) d_snil)
      (d_scons (d_ifS (DPW.pt (d_wand (d_tcmp (od_eq hr.units) (d_ix (d_var (i := 0) rfl (.inl rfl) (by decide) (by decide)) d_int (fun _ _ => rfl)) d_str (nomark _)) (d_and1 (d_tnot (d_test (d_call G_is_number (hr.mono (by decide)) rfl T_is_number.m T_is_number.k T_is_number.b (fun _ => pass0A) (d_cons (d_ix (d_var (i := 0) rfl (.inl rfl) (by decide) (by decide)) d_int (fun _ _ => rfl)) (d_cons d_int (d_cons d_int d_nil rfl) rfl) rfl) (by decide) rfl rfl) (by intro _; rfl)))))) (d_sone (d_ret d_bl)) d_snil)
      (d_scons (d_ifS (d_tnot (d_test (d_callB (cd_all rfl) rfl m_all boot_all (d_cons (d_lc rfl sc_is_headed.nd (d_iter (d_call G_used (hr.mono (by decide)) rfl T_used.m T_used.k T_used.b (fun _ => pass0A) (d_cons (d_var (i := 0) rfl (.inl rfl) (by decide) (by decide)) d_nil rfl) (by decide) rfl rfl)) (blkOk_by (own := [("name", 3)]) (N := N_is_headed) (sc := defScope s_is_headed) (by decide +kernel)) (fun _ _ _ _ _ => (dg_name (i := 3) sc_is_headed.nd rfl (.inl rfl) (.inr rfl))) (fun _ _ _ _ _ => d_ifs0) (fun _ _ _ _ _ => (d_and (d_call G_is_name (hr.mono (by decide)) rfl T_is_name.m T_is_name.k T_is_name.b (fun _ => pass0A) (d_cons (d_var (i := 3) rfl (.inl rfl) (by decide) (by decide)) d_nil rfl) (by decide) rfl rfl) (d_one (d_cmp od_inS (d_var (i := 3) rfl (.inl rfl) (by decide) (by decide)) (d_var (i := 1) rfl (.inr (.inl rfl)) (by decide) (by decide)) rfl)))) (by decide +kernel) (fun _ => rfl)) d_nil rfl) (by decide) (by decide) rfl rfl) (by intro _; rfl))) (d_sone (d_ret d_bl)) d_snil)
      (d_scons (d_set (i := 2) sc_is_headed.nd rfl (.inl rfl) (d_call G_bound (hr.mono (by decide)) rfl T_bound.m T_bound.k T_bound.b (fun _ => pass0A) (d_cons (d_var (i := 0) rfl (.inl rfl) (by decide) (by decide)) d_nil rfl) (by decide) rfl rfl) rfl (.inl rfl))
      (d_scons (d_ifS (d_tnot (d_test (d_callB (cd_all rfl) rfl m_all boot_all (d_cons (d_lc rfl sc_is_headed.nd (d_iter (d_var (i := 2) rfl (.inl rfl) (by decide) (by decide))) (blkOk_by (own := [("name", 3)]) (N := N_is_headed) (sc := defScope s_is_headed) (by decide +kernel)) (fun _ _ _ _ _ => (dg_name (i := 3) sc_is_headed.nd rfl (.inl rfl) (.inr rfl))) (fun _ _ _ _ _ => d_ifs0) (fun _ _ _ _ _ => (d_and (d_call G_is_name (hr.mono (by decide)) rfl T_is_name.m T_is_name.k T_is_name.b (fun _ => pass0A) (d_cons (d_var (i := 3) rfl (.inl rfl) (by decide) (by decide)) d_nil rfl) (by decide) rfl rfl) (d_one (d_cmp od_notinS (d_var (i := 3) rfl (.inl rfl) (by decide) (by decide)) (d_var (i := 1) rfl (.inr (.inl rfl)) (by decide) (by decide)) rfl)))) (by decide +kernel) (fun _ => rfl)) d_nil rfl) (by decide) (by decide) rfl rfl) (by intro _; rfl))) (d_sone (d_ret d_bl)) d_snil)
      (d_sone (d_ret (d_or (d_cmp od_lt (d_callB cd_len rfl m_len boot_len (d_cons (d_var (i := 2) rfl (.inl rfl) (by decide) (by decide)) d_nil rfl) (by decide) (by decide) rfl rfl) d_int (nomark _)) (d_one (d_cmp (od_ne hr.units) (d_ix (d_var (i := 2) rfl (.inl rfl) (by decide) (by decide)) d_int (fun _ _ => rfl)) (d_ix (d_var (i := 2) rfl (.inl rfl) (by decide) (by decide)) d_int (fun _ _ => rfl)) (nomark _))))))))))))))) (fun ds O Q E h => ?_) (fun ds O Q E h => h)
  · obtain ⟨s, ns, rfl, _⟩ := h; rfl
  · obtain ⟨s, ns, rfl, hp, hn, q⟩ := h
    rw [show startD N_is_headed [s, nmL ns] = [.sh s, .sh (nmL ns), .un, .un] from rfl]
    obtain ⟨ty, hp⟩ := hp
    cases s with
    | tup xs =>
      obtain ⟨hl, hf, ht⟩ := hp xs rfl
      cases xs with
      | nil => exact ⟨rfl, rfl, q⟩
      | cons a xs =>
        have hlen : ∀ Q E, Q (.int ((a :: xs).length)) O → dCB lenO (dCons (dVar 0) dNil) [.sh (.tup (a :: xs)), .sh (nmL ns), .un, .un] O Q E := val_len (.inr rfl) (fun Q E q => q)
        have fa := hf a (by simp)
        cases a with
        | str z =>
          have hv : ∀ (s2 s3 : Sl) (Q : QD) (E : QX), Q (.tup (.str z :: xs)) O → dVar 0 [.sh (.tup (.str z :: xs)), .sh (nmL ns), s2, s3] O Q E := fun _ _ Q E q => q
          have hx : ∀ x ∈ xs, Flat x := fun x h => hf x (List.mem_cons_of_mem _ h)
          have hlx : xs.length ≤ 1000 := by rw [List.length_cons] at hl; omega
          refine st_if false (val_or2 (fun Q E q => ⟨rfl, rfl, q⟩) (val_or2 (val_tstB false (val_op (.int ((D.str z :: xs).length)) (.int 0) (.bl false) hlen (fun Q E q => q) (fun Q q => ?_))) (val_not true (fun Q E q => ix0 ⟨rfl, rfl, q⟩)))) (bcN ?_)
          · show Q (.bl (decide ((((D.str z :: xs).length : Nat) : Int) = 0)))
            rw [decide_eq_false (by rw [List.length_cons]; omega)]
            exact q
          dsimp only
          refine st_guard (decide (lenN.lookup z = some ((xs.length : Int) + 1))) (isHdX z xs ns) (val_tstB _ (val_op (.int ((lenN.lookup z).getD 0)) (.int ((D.str z :: xs).length)) _ (fun Q E q => ?_) hlen (fun Q q => ?_))) q fun hsh q => ?_
          · refine ⟨rfl, ix0 ⟨z, rfl, ?_⟩⟩
            rw [len_look]
            cases hlk : lenN.lookup z with
            | none => rw [hlk] at q; exact q
            | some n => rw [hlk] at q; exact q
          · show Q (.bl (not (decide ((lenN.lookup z).getD 0 = (((D.str z :: xs).length : Nat) : Int)))))
            rw [show decide ((lenN.lookup z).getD 0 = (((D.str z :: xs).length : Nat) : Int)) = decide (lenN.lookup z = some ((xs.length : Int) + 1)) from decide_eq_decide.mpr ?_]
            · exact q
            · rw [List.length_cons]
              cases hlk : lenN.lookup z with
              | none => simp; omega
              | some n => simp
          have hs : Shp z xs := by unfold Shp; exact of_decide_eq_true hsh
          have q2 : Q (.bl ((!isOf z gHas || isNm (xs.getD 0 .non)) && ((!decide (z = "count") || isTest (xs.getD 1 .non)) && ((!decide (z = "within") || isNum (xs.getD 0 .non) 0 8) && (((usedL z xs).all fun d => isNm d && inN ns d) && (((boundL z xs).all fun d => isNm d && !inN ns d) && apart (boundL z xs))))))) O := q
          clear q
          refine st_guard _ _ (fun Q E q => ?_) q2 fun _ q3 => ?_
          · refine ix0 ⟨rfl, ?_⟩
            show bc (placesT.lookup z).isSome _ _
            rw [place_look]
            cases e : isOf z gHas with
            | false => rw [e] at q; exact q
            | true =>
              rw [e] at q
              have h1 : 0 < xs.length := by
                have hm := isOf_mem e
                simp only [gHas, List.mem_cons, List.not_mem_nil, or_false] at hm
                rcases hm with rfl | rfl
                · have := shp_of (n := 3) hs rfl; omega
                · have := shp_of (n := 4) hs rfl; omega
              have fl := getD_flat hx h1
              exact val_not _ (val_tst _ (val_call [xs.getD 0 .non] _ (val_cons _ _ (val_it 0 rfl (hv _ _) h1) val_nil) fun Q E q => ⟨_, rfl, fl.1, fl.2, q⟩)) _ _ q
          refine st_guard _ _ (fun Q E qq => ?_) q3 fun _ q4 => ?_
          · refine val_tstB _ (val_hdE "count" (hv _ _)) _ _ ?_
            by_cases e : z = "count"
            · rw [decide_eq_true e] at qq ⊢
              subst e
              have := shp_of (n := 4) hs rfl
              have h1 : 1 < xs.length := by omega
              have te : TestOk (xs.getD 1 .non) := ht _ (by rw [getD_el h1, List.getElem?_cons_succ]; exact List.getElem?_eq_getElem h1)
              exact val_not _ (val_tst _ (val_call [xs.getD 1 .non] _ (val_cons _ _ (val_it 1 rfl (hv _ _) h1) val_nil) fun Q E q => ⟨_, rfl, te, q⟩)) _ _ qq
            · rw [decide_eq_false e] at qq ⊢
              exact qq
          refine st_guard _ _ (fun Q E qq => ?_) q4 fun _ q5 => ?_
          · refine val_tstB _ (val_hdE "within" (hv _ _)) _ _ ?_
            by_cases e : z = "within"
            · rw [decide_eq_true e] at qq ⊢
              subst e
              have := shp_of (n := 7) hs rfl
              have h1 : 0 < xs.length := by omega
              have fl := getD_flat hx h1
              exact val_not _ (val_tst _ (val_call [xs.getD 0 .non, .int 0, .int 8] _ (val_cons _ _ (val_it 0 rfl (hv _ _) h1) (fun Q E q => q)) fun Q E q => ⟨_, 0, 8, rfl, fl.1, q⟩)) _ _ qq
            · rw [decide_eq_false e] at qq ⊢
              exact qq
          refine st_guard _ _ (fun Q E qq => ?_) q5 fun _ q6 => ?_
          · refine val_not _ (fun Q E q => ?_) _ _ qq
            refine val_tstB _ (val_all (usedL z xs) (fun d => isNm d && inN ns d) ?_ ?_ ?_) _ _ q
            · have : (usedL z xs).length ≤ xs.length := used_le
              omega
            · exact fun Q E q => val_call [.tup (.str z :: xs)] (.lst (usedL z xs)) (val_cons _ _ (hv .un .un) val_nil) (fun Q E q => ⟨z, xs, rfl, hs, q⟩) _ _ q
            · intro d hd Qy hq
              refine tg_one [.sh (.tup (.str z :: xs)), .sh (nmL ns), .un, .sh d] rfl ?_
              refine val_nmIn (i := 3) (j := 1) id d ns (hx d (used_sub d hd)) ?_ ?_ _ _ hq
              · exact fun Q E q => q
              · exact fun Q E q => q
          refine st_set (.lst (boundL z xs)) (val_call [.tup (.str z :: xs)] _ (val_cons _ _ (hv .un .un) val_nil) fun Q E q => ⟨z, xs, rfl, hs, q⟩) ?_
          intro vb eb
          rw [eb]
          clear eb vb
          walk_at "n"
          have hb2 : (boundL z xs).length ≤ 2 := bound_len
          have hbx : ∀ d ∈ boundL z xs, Flat d := fun d hd => hx d (bound_sub hs d hd)
          generalize boundL z xs = bs at q6 hb2 hbx ⊢
          refine st_guard _ _ (fun Q E qq => ?_) q6 fun hall q7 => ?_
          · refine val_not _ (fun Q E q => ?_) _ _ qq
            refine val_tstB _ (val_all bs (fun d => isNm d && !inN ns d) ?_ ?_ ?_) _ _ q
            · omega
            · exact fun Q E q => q
            · intro d hd Qy hq
              refine tg_one [.sh (.tup (.str z :: xs)), .sh (nmL ns), .sh (.lst bs), .sh d] rfl ?_
              refine val_nmIn (i := 3) (j := 1) not d ns (hbx d hd) ?_ ?_ _ _ hq
              · exact fun Q E q => q
              · exact fun Q E q => q
          have nm : ∀ d ∈ bs, ∃ y, d = .str y := fun d hd => by
            have := List.all_eq_true.mp hall d hd
            rw [Bool.and_eq_true] at this
            exact nm_str this.1
          match bs, hb2, nm, q7 with
          | [], _, _, q7 => exact q7
          | [_], _, _, q7 => exact q7
          | [a, b], _, nm, q7 =>
            obtain ⟨x, rfl⟩ := nm a (by simp)
            obtain ⟨y, rfl⟩ := nm b (by simp)
            exact q7
        | opq => cases fa.1
        | ins => cases fa.1
        | exc => cases fa.1
        | lam => cases fa.1
        | _ => exact ⟨rfl, rfl, ix0 ⟨rfl, rfl, q⟩⟩
    | opq => cases ty
    | ins => cases ty
    | exc => cases ty
    | lam => cases ty
    | _ => exact ⟨rfl, rfl, q⟩
theorem ok_is_saying {f fH fB fI : Addr} {fd fdH fdB fdI : FuncData} (F : Fun K "is_saying" "is_saying" s_is_saying f fd) (T_is_saying : Gf K mg "is_saying" f fd ["saying", "names", "deep"])
    (G_is_headed : FnOk P w K mg base CX0 3 fH fdH ["saying", "names"] (spD K hdS)) (T_is_headed : Gf K mg "is_headed" fH fdH ["saying", "names"])
    (G_bound : FnOk P w K mg base CX0 1 fB fdB ["saying"] (spD K (headS boundL))) (T_bound : Gf K mg "bound" fB fdB ["saying"])
    (G_inner : FnOk P w K mg base CX0 1 fI fdI ["saying"] (spD K (headS innerL))) (T_inner : Gf K mg "inner" fI fdI ["saying"])
    (m_len : mg "len" = none) (m_all : mg "all" = none) {t1 : Tok} (M_MOST_NAMES : mg "MOST_NAMES" = some (.int 6 t1)) :
    ∀ n : Nat, FnOk P w K mg base CX0 (n + 4) f fd ["saying", "names", "deep"] (spD K (sayS n)) := by
  have step : ∀ (k n : Nat) (S : DSp), FnOk P w K mg base CX0 (k + 3) f fd ["saying", "names", "deep"] (spD K S) → (∀ (m : Nat) s ns O Q E, n = m + 1 → Sy m s → ns.length ≤ 100 → Q (.bl (isSay m s ns)) O → S [s, nmL ns, .int m] O Q E) → FnOk P w K mg base CX0 (k + 4) f fd ["saying", "names", "deep"] (spD K (sayS n)) := by
    intro k n S G_is_saying hS
    refine fn_pure F sc_is_saying (fun ds O Q E h => ?_) (fun cdv A outer s H E hr =>
      (d_scons (d_ifS (DPW.pt (d_wor (d_tcmp (od_eq hr.units) (d_var (i := 2) rfl (.inr (.inl rfl)) (by decide) (by decide)) d_int (nomark _)) (d_or1 (d_tnot (d_test (d_call G_is_headed (hr.mono (by omega)) rfl T_is_headed.m T_is_headed.k T_is_headed.b (fun _ => pass0A) (d_cons (d_var (i := 0) rfl (.inl rfl) (by decide) (by decide)) (d_cons (d_var (i := 1) rfl (.inl rfl) (by decide) (by decide)) d_nil rfl) rfl) (by decide) rfl rfl) (by intro _; rfl)))))) (d_sone (d_ret d_bl)) d_snil)
      (d_scons (d_set (i := 3) sc_is_saying.nd rfl (.inr rfl) (d_op od_add (d_var (i := 1) rfl (.inl rfl) (by decide) (by decide)) (d_call G_bound (hr.mono (by omega)) rfl T_bound.m T_bound.k T_bound.b (fun _ => pass0A) (d_cons (d_var (i := 0) rfl (.inl rfl) (by decide) (by decide)) d_nil rfl) (by decide) rfl rfl)) rfl (.inl rfl))
      (d_scons (d_ifS (d_tcmp od_gt (d_callB cd_len rfl m_len boot_len (d_cons (d_var (i := 3) rfl (.inr (.inl rfl)) (by decide) (by decide)) d_nil rfl) (by decide) (by decide) rfl rfl) (d_globI rfl M_MOST_NAMES (by decide)) (nomark _)) (d_sone (d_ret d_bl)) d_snil)
      (d_sone (d_ret (d_callB (cd_all rfl) rfl m_all boot_all (d_cons (d_lc rfl sc_is_saying.nd (d_iter (d_call G_inner (hr.mono (by omega)) rfl T_inner.m T_inner.k T_inner.b (fun _ => pass0A) (d_cons (d_var (i := 0) rfl (.inl rfl) (by decide) (by decide)) d_nil rfl) (by decide) rfl rfl)) (blkOk_by (own := [("part", 4)]) (N := N_is_saying) (sc := defScope s_is_saying) (by decide +kernel)) (fun _ _ _ _ _ => (dg_name (i := 4) sc_is_saying.nd rfl (.inl rfl) (.inr rfl))) (fun _ _ _ _ _ => d_ifs0) (fun _ _ _ _ _ => (d_call G_is_saying (hr.mono (by omega)) rfl T_is_saying.m T_is_saying.k T_is_saying.b (fun _ => pass0A) (d_cons (d_var (i := 4) rfl (.inl rfl) (by decide) (by decide)) (d_cons (d_var (i := 3) rfl (.inr (.inl rfl)) (by decide) (by decide)) (d_cons (d_op od_sub (d_var (i := 2) rfl (.inr (.inl rfl)) (by decide) (by decide)) d_int) d_nil rfl) rfl) rfl) (by decide) rfl rfl)) (by decide +kernel) (fun _ => rfl)) d_nil rfl) (by decide) (by decide) rfl rfl))))))) (fun ds O Q E h => ?_) (fun ds O Q E h => h)
    · obtain ⟨s, ns, rfl, _⟩ := h; rfl
    · obtain ⟨s, ns, rfl, hsy, hn, q⟩ := h
      rw [show startD N_is_saying [s, nmL ns, .int n] = [.sh s, .sh (nmL ns), .sh (.int n), .un, .un] from rfl]
      cases n with
      | zero => exact st_if true (val_or1 (val_tstB true (fun Q E q => q))) (bcT q)
      | succ m =>
        obtain ⟨hp, hsub⟩ := hsy
        have q1 : Q (.bl (isHd s ns && partsB (isSay m) s ns)) O := q
        refine st_guard _ _ (val_or2 (val_tstB false (fun Q E q => ?_)) (val_not _ (val_tst _ (val_call [s, nmL ns] _ (val_cons _ _ (fun Q E q => q) (val_cons _ _ (fun Q E q => q) val_nil)) fun Q E q => ⟨s, ns, rfl, hp, by omega, q⟩)))) q1 fun hh q2 => ?_
        · show Q (.bl (decide (((m + 1 : Nat) : Int) = 0))) O
          rw [decide_eq_false (by omega)]
          exact q
        obtain ⟨z, xs, rfl, hs, hb⟩ := hd_shape hh
        have q3 : Q (.bl (decide ((ns.length : Int) + (boundL z xs).length ≤ 6) && (innerL z xs).all fun p => isSay m p (ns ++ strsOf (boundL z xs)))) O := q2
        have hb2 : (boundL z xs).length ≤ 2 := bound_len
        have ebs : boundL z xs = (strsOf (boundL z xs)).map D.str := strsOf_map hb
        have hbl : (strsOf (boundL z xs)).length = (boundL z xs).length := by
          have := congrArg List.length ebs
          rw [List.length_map] at this
          exact this.symm
        have hin : ∀ p ∈ innerL z xs, p ∈ xs := inner_sub hs
        have hil : (innerL z xs).length ≤ 2 := inner_len hs
        have hv : ∀ (s3 s4 : Sl) (Q : QD) (E : QX), Q (.tup (.str z :: xs)) O → dVar 0 [.sh (.tup (.str z :: xs)), .sh (nmL ns), .sh (.int ((m + 1 : Nat) : Int)), s3, s4] O Q E := fun _ _ Q E q => q
        refine st_set (nmL (ns ++ strsOf (boundL z xs))) (fun Q E q => ?_) ?_
        · refine val_op (nmL ns) (.lst (boundL z xs)) _ (fun Q E q => q) (val_call [.tup (.str z :: xs)] _ (val_cons _ _ (hv .un .un) val_nil) fun Q E q => ⟨z, xs, rfl, hs, q⟩) (fun Q q => ⟨szk (by rw [List.length_map]; omega), q⟩) _ _ ?_
          rw [show (ns.map D.str ++ boundL z xs) = (ns ++ strsOf (boundL z xs)).map D.str by rw [List.map_append, ← ebs]]
          exact q
        intro vs es
        rw [es]
        clear es vs
        walk_at "n"
        refine st_guard _ _ (val_tstB _ (val_op (.int (((ns ++ strsOf (boundL z xs)).map D.str).length)) (.int 6) _ (val_len (.inl rfl) (fun Q E q => q)) (fun Q E q => q) (fun Q q => ?_))) q3 fun hle q4 => ?_
        · show Q (.bl (decide ((6 : Int) < (((ns ++ strsOf (boundL z xs)).map D.str).length : Nat))))
          rw [show decide ((6 : Int) < (((ns ++ strsOf (boundL z xs)).map D.str).length : Nat)) = !decide ((ns.length : Int) + (boundL z xs).length ≤ 6) by
            rw [List.length_map, List.length_append, hbl, ← decide_not]
            exact decide_eq_decide.mpr (by omega)]
          exact q
        refine val_retX (val_all (innerL z xs) (fun p => isSay m p (ns ++ strsOf (boundL z xs))) (by omega) ?_ ?_ _ _ q4)
        · exact fun Q E q => val_call [.tup (.str z :: xs)] (.lst (innerL z xs)) (val_cons _ _ (hv _ .un) val_nil) (fun Q E q => ⟨z, xs, rfl, hs, q⟩) _ _ q
        · intro p hpm Qy hq
          refine tg_one [.sh (.tup (.str z :: xs)), .sh (nmL ns), .sh (.int ((m + 1 : Nat) : Int)), .sh (nmL (ns ++ strsOf (boundL z xs))), .sh p] rfl ?_
          refine val_call [p, nmL (ns ++ strsOf (boundL z xs)), .int m] (.bl (isSay m p (ns ++ strsOf (boundL z xs)))) ?_ ?_ _ _ hq
          · refine val_cons _ _ (fun Q E q => q) (val_cons _ _ (fun Q E q => q) (val_cons _ _ (val_op (.int ((m + 1 : Nat) : Int)) (.int 1) (.int m) (fun Q E q => q) (fun Q E q => q) (fun Q q => ⟨trivial, ?_⟩)) val_nil))
            show Q (.int (((m + 1 : Nat) : Int) - 1))
            rw [show ((m + 1 : Nat) : Int) - 1 = m by omega]
            exact q
          · have hle2 := of_decide_eq_true hle
            exact fun Q E q => hS m p _ O Q E rfl (hsub _ rfl p (List.mem_cons_of_mem _ (hin p hpm))) (by rw [List.length_append]; omega) q
  intro n
  induction n with
  | zero =>
    refine step 0 0 (fun _ _ _ _ => False) ?_ (fun m s ns O Q E e => nomatch e)
    exact ⟨fun vs H Q E ⟨_, _, _, _, _, _, _, h, _⟩ => h.elim, fun A outer s H args us vs Q E _ _ _ _ ⟨_, _, _, _, _, _, _, h, _⟩ => h.elim⟩
  | succ n ih => exact step (n + 1) (n + 1) (sayS n) ih (fun m s ns O Q E e h1 h2 q => by cases e; exact ⟨s, ns, rfl, h1, h2, q⟩)
end
end LW
set_option Elab.async false
set_option linter.all false
set_option maxRecDepth 100000
set_option maxHeartbeats 4000000
set_option pp.maxSteps 400
/-! forms_in, agree -/
namespace LW
open PySem PySem.Spec PyProof.Rows L2 EV PySem.XO PySem.W LamX
local macro_rules | `(tactic| walk_at "n") => `(tactic| refine st_norm (by simp only [List.set_cons_succ, List.set_cons_zero]; rfl) ?_)
/-- [y for x in ds for y in F x] -/
theorem lc2_fm {I : Ow → Prop} {i j : Nat} {mi1 : DI} {t1 : DT} {te : DE} {vs1 : List Nat} {ρ : Slots} {O : Ow} (hI : I O) (F : D → List D) (f : D → D → Option D) {Q : List D → Ow → Prop} : ∀ {ds acc : List D}, (∀ d ∈ ds, ∀ K : IL → Ow → Prop, K (tt1, F d) O → mi1 (ρ.set i (.sh d)) O K fun _ _ => False) →
    (∀ d ∈ ds, ∀ x ∈ F d, ∀ (Qy : QD) (Qs : Ow → Prop), (∀ y, f d x = some y → Qy y O) → (f d x = none → Qs O) → elW (dgName j) t1 te (wipeD (ρ.set i (.sh d)) vs1) x O Qy Qs) →
    acc.length + (ds.map fun d => (F d).length).sum ≤ sizeLine → Q (acc ++ ds.flatMap fun d => (F d).filterMap (f d)) O → lcW2 I (dgName i) dYes mi1 (dgName j) t1 te vs1 ρ ds acc O Q
  | [], acc, _, _, _, q => ⟨hI, by simpa using q⟩
  | d :: ds, acc, h1, h2, hl, q => ⟨hI, h1 d (by simp) _ (lcW_fm (I := tt1) trivial (f d) (h2 d (by simp)) (by
      simp only [List.map_cons, List.sum_cons] at hl
      show acc.length + (F d).length ≤ sizeLine
      omega) (lc2_fm hI F f (fun x hx => h1 x (List.mem_cons_of_mem _ hx)) (fun x hx => h2 x (List.mem_cons_of_mem _ hx)) (by
      simp only [List.map_cons, List.sum_cons] at hl
      have := List.length_filterMap_le (f d) (F d)
      show (acc ++ (F d).filterMap (f d)).length + _ ≤ sizeLine
      rw [List.length_append]
      omega) (by simpa [List.flatMap_cons, List.append_assoc] using q)))⟩
abbrev s_forms_in : Stmt := topS 31
abbrev N_forms_in : List Str := ["saying", "part", "found"]
theorem sc_forms_in : FnScope N_forms_in ["saying"] (defScope s_forms_in) := ⟨rfl, rfl, rfl, by decide +kernel, rfl, by decide +kernel, by decide +kernel⟩

def formsL : Nat → D → List D
  | 0, _ => []
  | n + 1, s => match s with
    | .tup (.str z :: xs) => s :: (innerL z xs).flatMap (formsL n)
    | _ => []
def Frm : Nat → D → Prop
  | 0, _ => False
  | n + 1, s => ∃ z xs, s = .tup (.str z :: xs) ∧ Shp z xs ∧ (isOf z gHas = true → isNm (xs.getD 0 .non) = true) ∧ ∀ p ∈ innerL z xs, Frm n p
theorem frm_of : ∀ {n : Nat} {s : D} {ns : List Str}, isSay n s ns = true → Frm n s
  | 0, _, _, h => by cases h
  | n + 1, s, ns, h => by
    have h : (isHd s ns && partsB (isSay n) s ns) = true := h
    rw [Bool.and_eq_true] at h
    obtain ⟨h1, h2⟩ := h
    obtain ⟨z, xs, rfl, hs, _⟩ := hd_shape h1
    have h3 : (decide ((ns.length : Int) + (boundL z xs).length ≤ 6) && (innerL z xs).all fun p => isSay n p (ns ++ strsOf (boundL z xs))) = true := h2
    rw [Bool.and_eq_true] at h3
    refine ⟨z, xs, rfl, hs, fun e => ?_, fun p hp => frm_of (List.all_eq_true.mp h3.2 p hp)⟩
    have h4 : (decide (lenN.lookup z = some ((xs.length : Int) + 1)) && isHdX z xs ns) = true := h1
    rw [Bool.and_eq_true] at h4
    have h5 := h4.2
    unfold isHdX at h5
    simp only [Bool.and_eq_true] at h5
    have h6 := h5.1
    rw [e] at h6
    exact h6
theorem forms_le : ∀ {n : Nat} {s : D}, Frm n s → (formsL n s).length + 1 ≤ 2 ^ n
  | 0, _, h => h.elim
  | n + 1, s, h => by
    obtain ⟨z, xs, rfl, hs, _, hp⟩ := h
    have hl := inner_len hs
    show (_ :: (innerL z xs).flatMap (formsL n)).length + 1 ≤ 2 ^ (n + 1)
    rw [List.length_cons, List.length_flatMap]
    have hq : ∀ p ∈ innerL z xs, (formsL n p).length + 1 ≤ 2 ^ n := fun p h => forms_le (hp p h)
    have h1 : 1 ≤ 2 ^ n := Nat.one_le_two_pow
    rw [Nat.pow_succ]
    match innerL z xs, hl, hq with
    | [], _, _ => simp; omega
    | [a], _, hq => have := hq a (by simp); simp; omega
    | [a, b], _, hq => have := hq a (by simp); have := hq b (by simp); simp; omega
def formS (n : Nat) : DSp := fun ds O Q _ => ∃ s, ds = [s] ∧ n ≤ 9 ∧ Frm n s ∧ Q (.lst (formsL n s)) O
abbrev s_agree : Stmt := topS 32
abbrev N_agree : List Str := ["saying", "looks", "form", "one", "other"]
theorem sc_agree : FnScope N_agree ["saying"] (defScope s_agree) := ⟨rfl, rfl, rfl, by decide +kernel, rfl, by decide +kernel, by decide +kernel⟩

def lkZ : D → Str
  | .tup (.str z :: _) => z
  | _ => Str.empty
def lkY : D → Str
  | .tup (_ :: .str y :: _) => y
  | _ => Str.empty
def looksL (l : List D) : List D := l.filter fun d => isOf (lkZ d) gHas
def agreeL (l : List D) : Bool := l.all fun a => l.all fun b => !decide (lkY a = lkY b) || decide (lkZ a = lkZ b)
def agreeS (n : Nat) : DSp := fun ds O Q _ => ∃ s, ds = [s] ∧ n ≤ 9 ∧ Frm n s ∧ (formsL n s).length ≤ 30 ∧ Q (.bl (agreeL (looksL (formsL n s)))) O
theorem forms_shape : ∀ {n : Nat} {s : D}, Frm n s → ∀ d ∈ formsL n s, ∃ z xs, d = .tup (.str z :: xs) ∧ (isOf z gHas = true → ∃ y r, xs = .str y :: r)
  | 0, _, h, _, _ => h.elim
  | n + 1, s, h, d, hd => by
    obtain ⟨z, xs, rfl, hs, hh, hp⟩ := h
    have hd : d ∈ (.tup (.str z :: xs) :: (innerL z xs).flatMap (formsL n) : List D) := hd
    rcases List.mem_cons.mp hd with rfl | hd
    · refine ⟨z, xs, rfl, fun e => ?_⟩
      have h1 : 0 < xs.length := by
        have hm := isOf_mem e
        simp only [gHas, List.mem_cons, List.not_mem_nil, or_false] at hm
        rcases hm with rfl | rfl
        · have := shp_of (n := 3) hs rfl; omega
        · have := shp_of (n := 4) hs rfl; omega
      obtain ⟨y, ey⟩ := nm_str (hh e)
      cases xs with
      | nil => simp at h1
      | cons x r =>
        have : x = .str y := ey
        exact ⟨y, r, by rw [this]⟩
    · obtain ⟨p, hpm, hd⟩ := List.mem_flatMap.mp hd
      exact forms_shape (hp p hpm) d hd
theorem fm_filter {p : D → Bool} : ∀ l : List D, (l.filterMap fun d => if p d = true then some d else none) = l.filter p
  | [] => rfl
  | d :: l => by
    rw [List.filterMap_cons, List.filter_cons, fm_filter l]
    cases p d <;> rfl
def agreeX (ks ls : List D) : List Bool := ks.flatMap fun a => ls.filterMap fun b => if lkY a = lkY b then some (decide (lkZ a = lkZ b)) else none
abbrev agreeV (ls : List D) : List Bool := agreeX ls ls
theorem agree_row (a : D) : ∀ ls : List D, (ls.filterMap fun b => if lkY a = lkY b then some (D.bl (decide (lkZ a = lkZ b))) else none) = (ls.filterMap fun b => if lkY a = lkY b then some (decide (lkZ a = lkZ b)) else none).map fun b => D.bl b
  | [] => rfl
  | b :: ls => by
    rw [List.filterMap_cons, List.filterMap_cons, agree_row a ls]
    by_cases e : lkY a = lkY b
    · simp [e]
    · simp [e]
theorem agreeV_map : ∀ ks ls : List D, (ks.flatMap fun a => ls.filterMap fun b => if lkY a = lkY b then some (D.bl (decide (lkZ a = lkZ b))) else none) = (agreeX ks ls).map fun b => D.bl b
  | [], _ => rfl
  | a :: ks, ls => by
    unfold agreeX
    rw [List.flatMap_cons, List.flatMap_cons, List.map_append, agreeV_map ks ls, agree_row]
    rfl
theorem agreeV_all (ls : List D) : (agreeV ls).all id = agreeL ls := by
  rw [Bool.eq_iff_iff, List.all_eq_true]
  unfold agreeL
  simp only [List.all_eq_true, agreeV, agreeX, List.mem_flatMap, List.mem_filterMap]
  constructor
  · intro h a ha b hb
    by_cases e : lkY a = lkY b
    · have := h _ ⟨a, ha, b, hb, if_pos e⟩
      rw [decide_eq_true e]
      exact this
    · rw [decide_eq_false e]; rfl
  · rintro h x ⟨a, ha, b, hb, e⟩
    have := h a ha b hb
    split at e
    · rename_i ey
      cases e
      rw [decide_eq_true ey] at this
      exact this
    · cases e
section
variable {P : Program} {w : World} {K : PySem.W.Frag} {mg : Str → Option Value} {base : Heap}
theorem ok_forms_in {f fI : Addr} {fd fdI : FuncData} (F : Fun K "forms_in" "forms_in" s_forms_in f fd) (T_forms_in : Gf K mg "forms_in" f fd ["saying"])
    (G_inner : FnOk P w K mg base CX0 1 fI fdI ["saying"] (spD K (headS innerL))) (T_inner : Gf K mg "inner" fI fdI ["saying"]) :
    ∀ n : Nat, FnOk P w K mg base CX0 (n + 2) f fd ["saying"] (spD K (formS n)) := by
  have step : ∀ (k n : Nat) (S : DSp), FnOk P w K mg base CX0 (k + 1) f fd ["saying"] (spD K S) → (∀ (m : Nat) s O Q E, n = m + 1 → m ≤ 9 → Frm m s → Q (.lst (formsL m s)) O → S [s] O Q E) → FnOk P w K mg base CX0 (k + 2) f fd ["saying"] (spD K (formS n)) := by
    intro k n S G_forms_in hS
    refine fn_pure F sc_forms_in (fun ds O Q E h => ?_) (fun cdv A outer s H E hr =>
      (d_sone (d_ret (d_op od_add (d_lst (d_cons (d_var (i := 0) rfl (.inl rfl) (by decide) (by decide)) d_nil rfl)) (d_lc2 rfl sc_forms_in.nd (d_iter (d_call G_inner (hr.mono (by omega)) rfl T_inner.m T_inner.k T_inner.b (fun _ => pass0A) (d_cons (d_var (i := 0) rfl (.inl rfl) (by decide) (by decide)) d_nil rfl) (by decide) rfl rfl)) (blkOk_by (own := [("part", 1), ("found", 2)]) (N := N_forms_in) (sc := defScope s_forms_in) (by decide +kernel)) (vs1 := [2]) (by decide) (fun _ _ _ _ _ => (dg_name (i := 1) sc_forms_in.nd rfl (.inl rfl) (.inr rfl))) (fun _ _ _ _ _ => d_ifs0) (fun _ _ _ _ _ => (d_iter (d_call G_forms_in (hr.mono (by omega)) rfl T_forms_in.m T_forms_in.k T_forms_in.b (fun _ => pass0A) (d_cons (d_var (i := 1) rfl (.inl rfl) (by decide) (by decide)) d_nil rfl) (by decide) rfl rfl))) (fun _ _ _ _ _ => (dg_name (i := 2) sc_forms_in.nd rfl (.inl rfl) (.inr rfl))) (fun _ _ _ _ _ => d_ifs0) (fun _ _ _ _ _ => (d_var (i := 2) rfl (.inl rfl) (by decide) (by decide))) (by decide +kernel) (by decide +kernel) (fun _ => rfl) (fun _ _ => rfl)))))) (fun ds O Q E h => ?_) (fun ds O Q E h => h)
    · obtain ⟨s, rfl, _⟩ := h; rfl
    · obtain ⟨s, rfl, hn, hf, q⟩ := h
      rw [show startD N_forms_in [s] = [.sh s, .un, .un] from rfl]
      cases n with
      | zero => exact hf.elim
      | succ m =>
        have hle := forms_le hf
        obtain ⟨z, xs, rfl, hs, _, hp⟩ := hf
        have hpw : 2 ^ (m + 1) ≤ 2 ^ 9 := Nat.pow_le_pow_right (by decide) hn
        have q1 : Q (.lst (.tup (.str z :: xs) :: (innerL z xs).flatMap (formsL m))) O := q
        have hl1 : (.tup (.str z :: xs) :: (innerL z xs).flatMap (formsL m) : List D).length + 1 ≤ 2 ^ (m + 1) := hle
        rw [List.length_cons] at hl1
        have hl2 : ((innerL z xs).map fun d => (formsL m d).length).sum = ((innerL z xs).flatMap (formsL m)).length := by rw [List.length_flatMap]
        refine val_retX (val_op (.lst [.tup (.str z :: xs)]) (.lst ((innerL z xs).flatMap (formsL m))) _ (fun Q E q => ⟨le_sz rfl, q⟩) (fun Q E q => ?_) (fun Q q => ⟨szk ?_, q⟩) _ _ q1)
        · refine val_call [.tup (.str z :: xs)] (.lst (innerL z xs)) (fun Q E q => q) (fun Q E q => ⟨z, xs, rfl, hs, q⟩) _ _ ?_
          refine lc2_fm (I := tt1) trivial (formsL m) (fun _ x => some x) (fun p hpm Kp hk => ?_) (fun p hpm x hx Qy Qs h1 h2 => ?_) ?_ ?_
          · exact val_call [p] (.lst (formsL m p)) (fun Q E q => q) (fun Q E q => hS m p O Q E rfl (by omega) (hp p hpm) q) _ _ hk
          · exact h1 x rfl
          · rw [hl2, List.length_nil]; exact szk (by omega)
          · simp only [List.nil_append, List.filterMap_some]
            exact q
        · show 1 + _ ≤ 1000
          omega
  intro n
  induction n with
  | zero =>
    refine step 0 0 (fun _ _ _ _ => False) ?_ (fun m s O Q E e => nomatch e)
    exact ⟨fun vs H Q E ⟨_, _, _, _, _, _, _, h, _⟩ => h.elim, fun A outer s H args us vs Q E _ _ _ _ ⟨_, _, _, _, _, _, _, h, _⟩ => h.elim⟩
  | succ n ih => exact step (n + 1) (n + 1) (formS n) ih (fun m s O Q E e h0 h1 q => by cases e; exact ⟨s, rfl, h0, h1, q⟩)
theorem ok_agree {f fF aP : Addr} {fd fdF : FuncData} (n : Nat) (F : Fun K "agree" "agree" s_agree f fd) (G_forms_in : FnOk P w K mg base CX0 8 fF fdF ["saying"] (spD K (formS n))) (T_forms_in : Gf K mg "forms_in" fF fdF ["saying"])
    (m_all : mg "all" = none) (M_PLACES : mg "PLACES" = some (.ref aP)) (T_PLACES : TabK K w aP placesT) :
    FnOk P w K mg base CX0 9 f fd ["saying"] (spD K (agreeS n)) := by
  refine fn_pure F sc_agree (fun ds O Q E h => ?_) (fun cdv A outer s H E hr =>
    (d_scons (d_set (i := 1) sc_agree.nd rfl (.inr rfl) (d_lc rfl sc_agree.nd (d_iter (d_call G_forms_in (hr.mono (by decide)) rfl T_forms_in.m T_forms_in.k T_forms_in.b (fun _ => pass0A) (d_cons (d_var (i := 0) rfl (.inl rfl) (by decide) (by decide)) d_nil rfl) (by decide) rfl rfl)) (blkOk_by (own := [("form", 2)]) (N := N_agree) (sc := defScope s_agree) (by decide +kernel)) (fun _ _ _ _ _ => (dg_name (i := 2) sc_agree.nd rfl (.inl rfl) (.inr rfl))) (fun _ _ _ _ _ => (d_ifs1 (d_tcmp (od_inK T_PLACES) (d_ix (d_var (i := 2) rfl (.inl rfl) (by decide) (by decide)) d_int (fun _ _ => rfl)) (d_gdict rfl M_PLACES (by decide)) rfl))) (fun _ _ _ _ _ => (d_var (i := 2) rfl (.inl rfl) (by decide) (by decide))) (by decide +kernel) (fun _ => rfl)) rfl (.inl rfl))
      (d_sone (d_ret (d_callB (cd_all rfl) rfl m_all boot_all (d_cons (d_lc2 rfl sc_agree.nd (d_iter (d_var (i := 1) rfl (.inr (.inl rfl)) (by decide) (by decide))) (blkOk_by (own := [("one", 3), ("other", 4)]) (N := N_agree) (sc := defScope s_agree) (by decide +kernel)) (vs1 := [4]) (by decide) (fun _ _ _ _ _ => (dg_name (i := 3) sc_agree.nd rfl (.inl rfl) (.inr rfl))) (fun _ _ _ _ _ => d_ifs0) (fun _ _ _ _ _ => (d_iter (d_var (i := 1) rfl (.inr (.inl rfl)) (by decide) (by decide)))) (fun _ _ _ _ _ => (dg_name (i := 4) sc_agree.nd rfl (.inl rfl) (.inr rfl))) (fun _ _ _ _ _ => (d_ifs1 (d_tcmp (od_eq hr.units) (d_ix (d_var (i := 3) rfl (.inl rfl) (by decide) (by decide)) d_int (fun _ _ => rfl)) (d_ix (d_var (i := 4) rfl (.inl rfl) (by decide) (by decide)) d_int (fun _ _ => rfl)) (nomark _)))) (fun _ _ _ _ _ => (d_cmp (od_eq hr.units) (d_ix (d_var (i := 3) rfl (.inl rfl) (by decide) (by decide)) d_int (fun _ _ => rfl)) (d_ix (d_var (i := 4) rfl (.inl rfl) (by decide) (by decide)) d_int (fun _ _ => rfl)) (nomark _))) (by decide +kernel) (by decide +kernel) (fun _ => rfl) (fun _ _ => rfl)) d_nil rfl) (by decide) (by decide) rfl rfl))))) (fun ds O Q E h => ?_) (fun ds O Q E h => h)
  · obtain ⟨s, rfl, _⟩ := h; rfl
  · obtain ⟨s, rfl, hn, hf, hle, q⟩ := h
    rw [show startD N_agree [s] = [.sh s, .un, .un, .un, .un] from rfl]
    have hsh := forms_shape hf
    generalize hfs : formsL n s = fs at q hsh hle
    refine st_set (.lst (looksL fs)) (fun Q E q => ?_) ?_
    · refine val_call [s] (.lst fs) (fun Q E q => q) (fun Q E q => ⟨s, rfl, hn, hf, by rw [hfs]; exact q⟩) _ _ ?_
      refine lcW_fm (I := tt1) trivial (fun d => if isOf (lkZ d) gHas = true then some d else none) (fun d hd Qy Qs h1 h2 => ?_) ?_ ?_
      · obtain ⟨z, xs, rfl, _⟩ := hsh d hd
        refine tg_one [.sh s, .un, .sh (.tup (.str z :: xs)), .un, .un] rfl ?_
        refine ix0 ⟨rfl, ?_⟩
        show bc (placesT.lookup z).isSome _ _
        rw [place_look]
        have ez : lkZ (.tup (.str z :: xs)) = z := rfl
        rw [ez] at h1 h2
        cases e : isOf z gHas with
        | true => exact h1 _ (if_pos e)
        | false => exact h2 (if_neg (by rw [e]; decide))
      · show 0 + fs.length ≤ sizeLine
        exact szk (by omega)
      · rw [List.nil_append, fm_filter]
        exact q
    intro vl el
    rw [el]
    clear el vl
    walk_at "n"
    have hlk : ∀ d ∈ looksL fs, ∃ z y r, d = .tup (.str z :: .str y :: r) := fun d hd => by
      obtain ⟨hd, hp⟩ := List.mem_filter.mp hd
      obtain ⟨z, xs, rfl, h⟩ := hsh d hd
      obtain ⟨y, r, rfl⟩ := h hp
      exact ⟨z, y, r, rfl⟩
    have hll : (looksL fs).length ≤ 30 := Nat.le_trans (List.length_filter_le _ _) hle
    generalize looksL fs = ls at q hlk hll ⊢
    refine val_retX ?_
    refine lc2_fm (I := tt1) trivial (fun _ => ls) (fun a b => if lkY a = lkY b then some (.bl (decide (lkZ a = lkZ b))) else none) (fun a ha Kp hk => hk) (fun a ha b hb Qy Qs h1 h2 => ?_) ?_ ?_
    · obtain ⟨z, y, r, rfl⟩ := hlk a ha
      obtain ⟨z', y', r', rfl⟩ := hlk b hb
      have e1 : lkY (.tup (.str z :: .str y :: r)) = y := rfl
      have e2 : lkY (.tup (.str z' :: .str y' :: r')) = y' := rfl
      have e3 : lkZ (.tup (.str z :: .str y :: r)) = z := rfl
      have e4 : lkZ (.tup (.str z' :: .str y' :: r')) = z' := rfl
      rw [e1, e2, e3, e4] at h1
      rw [e1, e2] at h2
      refine tg_one [.sh s, .sh (.lst ls), .un, .sh (.tup (.str z :: .str y :: r)), .sh (.tup (.str z' :: .str y' :: r'))] rfl ?_
      refine val_tstB _ (val_eqB y y' _ (val_ix (rs := .str z :: .str y :: r) (.inr rfl) ?_ ?_ ad1) (val_ix (rs := .str z' :: .str y' :: r') (.inr rfl) ?_ ?_ ad1) rfl) _ _ ?_
      · exact fun Q E q => q
      · exact fun Q E q => q
      · exact fun Q E q => q
      · exact fun Q E q => q
      by_cases e : y = y'
      · rw [decide_eq_true e]
        refine bcT ?_
        refine val_eqB z z' _ (val_ix (rs := .str z :: .str y :: r) (.inr rfl) ?_ ?_ ad0) (val_ix (rs := .str z' :: .str y' :: r') (.inr rfl) ?_ ?_ ad0) rfl _ _ (h1 _ (if_pos e))
        · exact fun Q E q => q
        · exact fun Q E q => q
        · exact fun Q E q => q
        · exact fun Q E q => q
      · rw [decide_eq_false e]
        exact bcF (h2 (if_neg e))
    · show 0 + (ls.map fun _ => ls.length).sum ≤ sizeLine
      have : (ls.map fun _ => ls.length).sum = ls.length * ls.length := by
        rw [List.map_const', List.sum_replicate_nat]
      rw [this]
      have := Nat.mul_le_mul hll hll
      exact szk (by omega)
    · rw [List.nil_append]
      have em : (ls.flatMap fun a => ls.filterMap fun b => if lkY a = lkY b then some (D.bl (decide (lkZ a = lkZ b))) else none) = (agreeV ls).map fun b => D.bl b := agreeV_map ls ls
      show allD [.lst (ls.flatMap fun a => ls.filterMap fun b => if lkY a = lkY b then some (D.bl (decide (lkZ a = lkZ b))) else none)] fun d => Q d O
      rw [em]
      refine allD_of (toBs_map (fun b => b) (agreeV ls)) ?_
      rw [List.map_id', agreeV_all]
      exact q
end
end LW
set_option Elab.async false
set_option linter.all false
set_option maxRecDepth 100000
set_option maxHeartbeats 4000000
/-! len(set(x)), x a list or a tuple of texts; a & b by an own method -/
namespace EV
open PySem PySem.Spec PyProof.Rows L2
section
variable {P : Program} {w : World} {A : Around} {R : Result → Shared → Prop}
variable {E : Value → Shared → Prop} {s : Shared}
theorem set_initT {l : Addr} {items : Array Value} {xs : List Str} {led : Bool} (hh : A.handled = none) (hl : s.heap.IsTuple l items) (hi : PyProof.Rows.StrsAre items.toList xs) (hb : xs.length + 1 < scanBound) :
    codeAny (model P w) A (.call (.builtin "set.__init__") ⟨[.ref s.heap.objs.size, .ref l], []⟩) (wants (SetEnd P w s xs) E) { s with heap := s.heap.push (setO led) } := by
  have gS : (s.heap.push (setO led)).get? s.heap.objs.size = some (setO led) := Heap.get?_push_size _ rfl
  refine codeAny_call_builtin PySem.F.called_set.init.plain PySem.F.entry_set_init (check_set_init_1 ⟨_, gS, rfl⟩ ?_)
  have il : (s.heap.push (setO led)).IsTuple l items := hl.push _
  obtain ⟨⟨oc, od, odt, osl⟩, go, ec, nl, ed⟩ := hl
  dsimp only at ec ed
  subst ec ed
  have gl : (s.heap.push (setO led)).get? l = some { cls := .type "tuple", dict := od, data := .seq items nl, slots := osl } := Heap.get?_push_of_some _ go
  have f1 := PySem.F.sub_tuple_set
  have f2 := PySem.F.sub_tuple_frozenset
  have f3 : (Value.type "tuple" == Value.type "dict") = false := by decide
  have ls : l < s.heap.objs.size := Heap.lt_size go
  have ez : xs.length = items.size := by rw [← StrsAre.len_eq hi, Array.length_toList]
  unfold Builtin.«set.__init__» noKeywords Builtin.Frozenset.updateFrom
  generalize eI : pyIter = PI
  wp_walk
  subst eI
  refine wpAny_pyIter_tuple il (wpAny_bind (wpAny_runValue ?_))
  have n1 : l ≠ (s.heap.push (setO led)).objs.size := by rw [Heap.size_push]; exact Nat.ne_of_lt (Nat.lt_succ_of_lt ls)
  have n2 : s.heap.objs.size ∉ [(s.heap.push (setO led)).objs.size, l] := by
    rw [Heap.size_push]
    simp only [List.mem_cons, List.not_mem_nil, or_false, not_or]
    exact ⟨Nat.ne_of_lt (Nat.lt_succ_self _), Nat.ne_of_gt ls⟩
  refine set_walk (xs := xs) ((Walks.tuple (show A.in1.in1.handled = none by simp [hh]) _ l n1 items).toS) n2 ez (by omega) (fun i v e => SS.strs_at hi i v (by rw [Array.getElem?_toList]; exact e)) items.size 0 _ (Nat.zero_add _) ?_ ?_ fun s3 mv hS => ?_
  · exact ⟨⟨_, Heap.get?_push_size _ rfl, rfl, rfl⟩, il.push _⟩
  · exact SetOf_congr ((setObjOf_fresh (knd := PySem.strKind P w) led).setOf (Heap.get?_push_of_some _ gS) (by unfold scanBound; omega)) (fun _ => rfl) rfl
  · obtain ⟨h3, g3, d3, t3, o3⟩ := s3
    obtain rfl : g3 = s.gens := mv.gens
    obtain rfl : d3 = s.drawn := mv.drawn
    obtain rfl : o3 = s.os := mv.os
    refine wpAny_pure (wpAny_pure ⟨rfl, h3, t3, rfl, hS, fun b o hb e => ?_⟩)
    refine mv.heap b o ?_ (Heap.get?_push_of_some _ (Heap.get?_push_of_some _ e))
    rw [Heap.size_push]
    simp only [List.mem_cons, List.not_mem_nil, or_false, not_or]
    exact ⟨Nat.ne_of_lt hb, Nat.ne_of_lt (Nat.lt_succ_of_lt hb)⟩
theorem set_textsT {l : Addr} {items : Array Value} {xs : List Str} {Q : Value → Shared → Prop} (hh : A.handled = none) (hl : s.heap.IsTuple l items) (hi : PyProof.Rows.StrsAre items.toList xs) (hb : xs.length + 1 < scanBound)
    (h : ∀ (h2 : Heap) (tk : Nat), SetM P w h2 s.heap.objs.size (met xs) → (∀ b o, b < s.heap.objs.size → s.heap.get? b = some o → h2.get? b = some o) → Q (.ref s.heap.objs.size) { s with heap := h2, toks := tk }) :
    wpAny (model P w) A (call (.type "set") [.ref l]) Q E s := by
  obtain ⟨c, tl, e0⟩ := PySem.F.called_set.mro
  have e1 := PySem.F.called_set.made
  have e2 := PySem.F.called_set.sub
  have e3 := PySem.F.called_set.notType
  have e4 := PySem.F.called_set.canCreate
  have e5 := PySem.F.typeCall_set_1 (.ref l)
  refine wpAny_call (codeAny_of_tree (wpAny_pure ⟨Code.quiet_builtin _ (by decide +kernel), codeAny_builtin PySem.F.entry_type_call ?_⟩))
  rw [Around.under_plain (weight_type_call_type "set" [.ref l] []) rfl]
  repeat (any_goals (first | assumption | wp_step))
  refine codeAny_mono (code_set_new_1 (.ref l) (E := E) (Q₁ := fun obj s1 => ∃ led : Bool, obj = .ref s.heap.objs.size ∧ s1 = { s with heap := s.heap.push (setO led) }) fun led => ⟨led, rfl, rfl⟩) fun r s1 hr => ?_
  cases r with
  | error e => exact hr
  | ok fl =>
    cases fl <;> first | exact hr.elim | skip
    obtain ⟨led, rfl, rfl⟩ := hr
    have tS : Shared.TypeIs { s with heap := s.heap.push (setO led) } (.ref s.heap.objs.size) "set" := ⟨_, Heap.get?_push_size _ rfl, rfl⟩
    have e6 := PySem.F.called_set.init.lookup
    have e7 := PySem.F.called_set.init.bind (.ref s.heap.objs.size)
    repeat (any_goals (first | assumption | wp_step))
    refine codeAny_mono (set_initT (E := E) (by simp [hh]) hl hi hb) fun r2 s2 hr2 => ?_
    cases r2 with
    | error e => exact hr2
    | ok fl2 =>
      cases fl2 <;> first | exact hr2.elim | skip
      obtain ⟨rfl, h2, tk, rfl, hS, hk⟩ := hr2
      repeat (any_goals (first | assumption | wp_step))
      exact h _ _ hS hk
end
/-! ### in the layer -/
def tSetS (K : PySem.W.Frag) (ta : TE) : TE := fun σ H Q => ta σ H fun x H1 => ∃ l, ∃ xs : List Str, x = .ref l ∧ (SqL K H1 l (xs.map V.str) ∨ SqT K H1 l (xs.map V.str)) ∧ xs.length ≤ 1000 ∧ Q (.int (met xs).length) H1
section
variable {X : Cx} {L : Pl}
theorem pe_setS {a : Expr} {ta : TE} {p p2 q pos : Pos} (hc : X.calm = true) (hg : Gl X "len") (hm : X.mg "len" = none) (hg2 : Gl X "set") (hm2 : X.mg "set" = none) (ha : PE X a ta) (na : starEach [a] X.env = (false, eval a X.env) :: starEach [] X.env) :
    PE X (.Call (.Name "len" p) [.Call (.Name "set" p2) [a] [] q] [] pos) (tSetS X.K ta) := by
  refine ⟨fun pins s σ H Q I h => Call_ (ld_blt I hg hm boot_len ?_)⟩
  refine PyProof.Rows.callWith_builtin1 (PyProof.Rows.args_cons (Call_ (ld_blt I hg2 hm2 boot_set ?_)) rfl) rfl rfl
  refine PyProof.Rows.callWith_type1 (PyProof.Rows.args_cons (thn (ha.run pins s σ H _ I h) fun v s1 ⟨x, H1, I1, r1, l, xs, ex, hq, h1, q1⟩ => PyProof.Rows.args_nil ?_) na) na rfl
  subst ex
  cases r1
  have fin : ∀ (h2 : Heap) (tk : Nat), SetM X.prog X.w h2 s1.heap.objs.size (met xs) → (∀ b o, b < s1.heap.objs.size → s1.heap.get? b = some o → h2.get? b = some o) → wpAny (model X.prog X.w) X.A (call (.builtin "len") [.ref s1.heap.objs.size]) (EP X pins σ Q) X.xe { s1 with heap := h2, toks := tk } := fun h2 tk hS hk => by
    obtain ⟨o, es, ep, t, ho, hex, hd, _, _, _, hf, hn⟩ := hS
    have hlen : (met xs).length ≤ 0 + xs.length := met_le xs []
    have I2 : Inv X pins σ H1 { s1 with heap := h2, toks := tk } := I1.kept fun b o e => hk b o (Heap.lt_size e) e
    exact call_len_set ho hex hd hf (by rw [hn]; omega) ⟨.int (met xs).length, H1, I2.tok _, ⟨_, by rw [hn]⟩, q1⟩
  rcases hq with hq | hq
  · obtain ⟨its, r, pl, hz⟩ := I1.list hq
    exact set_texts (I1.ok.hd hc) pl.isList (by simpa using strsAre_of r) (by unfold scanBound; omega) fun h2 tk hS hk => PyProof.Rows.args_nil (fin h2 tk hS hk)
  · obtain ⟨its, r, pl, hz⟩ := I1.tuple hq
    exact set_textsT (I1.ok.hd hc) pl (by simpa using strsAre_of r) (by unfold scanBound; omega) fun h2 tk hS hk => PyProof.Rows.args_nil (fin h2 tk hS hk)
def dSetS (m : DE) : DE := fun ρ O Q E => m ρ O (fun d O1 => ∃ xs : List Str, (d = .lst (xs.map D.str) ∨ d = .tup (xs.map D.str)) ∧ xs.length ≤ 1000 ∧ Q (.int (met xs).length) O1) E
theorem d_setS {a : Expr} {m : DE} {p p2 q pos : Pos} (hc : X.calm = true) (hg : Gl X "len") (hm : X.mg "len" = none) (hg2 : Gl X "set") (hm2 : X.mg "set" = none) (ha : DPE X L a m) (na : starEach [a] X.env = (false, eval a X.env) :: starEach [] X.env) :
    DPE X L (.Call (.Name "len" p) [.Call (.Name "set" p2) [a] [] q] [] pos) (dSetS m) := by
  refine ⟨fun ρ O Q Q' E E' h hx x => ha.mo ρ _ _ _ _ _ (fun _ _ ⟨xs, e, z, y⟩ => ⟨xs, e, z, h _ _ y⟩) hx x, pe_imp (pe_setS hc hg hm hg2 hm2 ha.run na) fun σ H Q ⟨G, O, ρ, g, rs, h⟩ => ?_⟩
  refine up_of ha.mo g rs h fun x v O1 G1 H1 q1 s1 r1 => ?_
  obtain ⟨xs, e | e, z, y⟩ := q1
  · subst e
    cases r1 with
    | lst h1 rl =>
      have e := rp_strs rl
      subst e
      exact ⟨_, xs, rfl, .inl (s1.good.sub.sqL (SqL.of h1)), z, y _ _ _ s1 (.int _)⟩
  · subst e
    cases r1 with
    | tup h1 rl =>
      have e := rp_strs rl
      subst e
      exact ⟨_, xs, rfl, .inr (s1.good.sub.sqT h1), z, y _ _ _ s1 (.int _)⟩
/-! ### a & b -/
def dBinI (C : Addr) (sp : DSp) (ma mb : DE) : DE := fun ρ O Q E => ma ρ O (fun x O1 => mb ρ O1 (fun y O2 => ∃ fs gs, x = .ins C fs ∧ y = .ins C gs ∧ spM sp [x, y] O2 (fun d O3 => (∃ C' hs, d = .ins C' hs) ∧ Q d O3) E) E) E
theorem op_own {CX : CXT} {k : Nat} {C f : Addr} {fd : FuncData} {ps : List Str} {sp : Sp} {E : XK} {op : Operator} (F : FnOk X.prog X.w X.K X.mg X.base CX k f fd ps sp) (hr : Room k X.A) (hb : Binds X.K fd ps []) (hx : Passes CX X E)
    (hc : PySem.W.selfFirst X.K C = true) (hs : PySem.W.findIn X.K (.ref C) (PySem.dunder op.info.2) = some (some (.ref f))) (hf : PySem.W.isFn X.K (.ref f) = true) :
    OpR X (binaryOp op) (fun x y H Q => ∃ a b dx fs dy gs, x = .ref a ∧ y = .ref b ∧ H a = some (.ins C dx fs) ∧ H b = some (.ins C dy gs) ∧ sp [x, y] H (fun v H' => (∃ r, v = .ref r) ∧ Q v H') E) := by
  intro pins s σ H x y v u Q I rx ry h
  obtain ⟨a, b, dx, fs, dy, gs, rfl, rfl, ha, hb', hsp⟩ := h
  cases rx
  cases ry
  obtain ⟨mA, J, _⟩ := ins_get I.hok ha
  obtain ⟨od, J, _⟩ := J.look
  obtain ⟨mB, J2, _⟩ := ins_get I.hok hb'
  obtain ⟨od2, J2, _⟩ := J2.look
  obtain ⟨m, hF⟩ := I.fr
  refine PySem.W.binop_K hF I.ok.mod.kin J J2.type hc hs hf ?_
  refine wpAny_mono (run_fn (us := [.ref a, .ref b]) (vs := [.ref a, .ref b]) F hr hb .nil hx I (.cons rfl (.cons rfl .nil)) (by rw [List.append_nil]; exact hsp)) (fun r s' h => ?_) fun _ _ z => z
  obtain ⟨z, H', I', rz, ⟨r0, rfl⟩, q⟩ := h
  cases rz
  exact ⟨.ref r0, H', I', rfl, q⟩
theorem d_binI {CX : CXT} {k : Nat} {C f : Addr} {fd : FuncData} {ps : List Str} {sp : DSp} {E : XK} {op : Operator} {a b : Expr} {ma mb : DE} {pos : Pos} (hE : ∀ σ, L.W σ = E) (F : FnOk X.prog X.w X.K X.mg X.base CX k f fd ps (spD X.K sp)) (hr : Room k X.A) (hb : Binds X.K fd ps []) (hx : Passes CX X E)
    (hc : PySem.W.selfFirst X.K C = true) (hs : PySem.W.findIn X.K (.ref C) (PySem.dunder op.info.2) = some (some (.ref f))) (hf : PySem.W.isFn X.K (.ref f) = true) (ha : DPE X L a ma) (hbb : DPE X L b mb) :
    DPE X L (.BinOp a op b pos) (dBinI C sp ma mb) := by
  refine ⟨fun ρ O Q Q' E E' q hx x => ha.mo ρ _ _ _ _ _ (fun _ _ z => hbb.mo ρ _ _ _ _ _ (fun _ _ ⟨fs, gs, e1, e2, y⟩ => ⟨fs, gs, e1, e2, spM_mo (fun d O3 w => ⟨w.1, q _ _ w.2⟩) hx y⟩) hx z) hx x, pe_imp (pe_op (op_own F hr hb hx hc hs hf) ha.run hbb.run) fun σ H Q ⟨G, O, ρ, g, rs, q⟩ => ?_⟩
  refine up_of ha.mo g rs q fun x v O1 G1 H1 q1 s1 r1 => ?_
  refine up_of hbb.mo s1.good (rs.step s1) (mo_step hbb.mo s1 q1) fun y u O2 G2 H2 q2 s2 r2 => ?_
  obtain ⟨fs, gs, rfl, rfl, q3⟩ := q2
  have s12 := s1.trans s2
  have r1' := r1.mono s2.grow
  cases r1' with
  | ins h1 rf1 =>
  cases r2 with
  | ins h2 rf2 =>
    refine ⟨_, _, _, _, _, _, rfl, rfl, s2.good.sub _ _ h1, s2.good.sub _ _ h2, G2, O2, [.ins C fs, .ins C gs], s2.good.none, .cons (.ins h1 rf1) (.cons (.ins h2 rf2) .nil), spM_mo (fun d O3 z => ?_) (fun x _ z => ?_) q3⟩
    · obtain ⟨⟨C', hs', rfl⟩, z⟩ := z
      intro v G' H' st rv
      refine ⟨?_, ((z.step s12).lift s2.good) v G' H' st rv⟩
      cases rv with
      | ins _ _ => exact ⟨_, rfl⟩
    · rw [hE] at z
      exact (z.step s12).lift s2.good
end
end EV
set_option Elab.async false
set_option linter.all false
set_option maxRecDepth 100000
set_option maxHeartbeats 4000000
set_option pp.maxSteps 400
/-! Question.__init__ -/
namespace LW
open PySem PySem.Spec PyProof.Rows L2 EV PySem.XO PySem.W LamX
local macro_rules | `(tactic| walk_at "n") => `(tactic| refine st_norm (by simp only [List.set_cons_succ, List.set_cons_zero]; rfl) ?_)
abbrev s_Question_init : Stmt := clsS 34 0
abbrev N_Question_init : List Str := ["self", "names", "saying", "name"]
theorem sc_Question_init : FnScope N_Question_init ["self", "names", "saying"] (defScope s_Question_init) := ⟨rfl, rfl, rfl, by decide +kernel, rfl, by decide +kernel, by decide +kernel⟩

def namesX (A : Str → Addr) (d : D) : Xc := (A "InvalidNames", errD "InvalidNames" ["given"] [d])
def sayX (A : Str → Addr) (d : D) : Xc := (A "InvalidSaying", errD "InvalidSaying" ["given"] [d])
def namesBad (xs : List D) : Bool := decide (3 < xs.length) || (!(xs.all isNm) || decide ((met (strsOf xs)).length < xs.length))
def sayBad (s : D) (ns : List Str) : Bool := !isSay 6 s ns || (decide (12 < (formsL 6 s).length) || !agreeL (looksL (formsL 6 s)))
def qnX (A : Str → Addr) (dn s : D) : Option Xc := match dn with
  | .lst xs => if namesBad xs then some (namesX A (.tup xs)) else if sayBad s (strsOf xs) then some (sayX A s) else none
  | .tup xs => if namesBad xs then some (namesX A (.tup xs)) else if sayBad s (strsOf xs) then some (sayX A s) else none
  | d => some (namesX A (.tup [d]))
def qnF (xs : List D) (s : D) : List (Str × D) := [("names", .tup xs), ("saying", s), ("forms", .int (formsL 6 s).length)]
/-- names that may be passed -/
def NmPre (dn : D) : Prop := (tyD dn).isSome = true ∧ ∀ xs, dn = .lst xs ∨ dn = .tup xs → xs.length ≤ 1000 ∧ ∀ x ∈ xs, Flat x
def iniQ (A : Str → Addr) (C : Addr) : DSp := fun ds O Q E => ∃ p dn s, ds = [.opq (.ref p), dn, s] ∧ O p = some (.ins C []) ∧ NmPre dn ∧ (tyD s).isSome = true ∧ Sy 6 s ∧
  (∀ xs, Seq dn xs → qnX A dn s = none → Q .non (oset O p (.ins C (qnF xs s)))) ∧ ∀ x, qnX A dn s = some x → E x O
theorem st_fld {C : Addr} {f : Str} {mo m : DE} {rest : DS} {A : DEnds} {ρ : Slots} {O : Ow} (p : Addr) (d : D) (fs : List (Str × D)) (h : ∀ Q E, Q d O → m ρ O Q E) (ho : ∀ Q E, Q (.opq (.ref p)) O → mo ρ O Q E) (e : O p = some (.ins C fs)) (hl : fs.length < 1000) (k : rest A ρ (oset O p (.ins C (putD f d fs)))) : dSeq (dSetF C f mo m) rest A ρ O := h _ _ (ho _ _ ⟨fs, e, hl, k⟩)
theorem st_fld1 {C : Addr} {f : Str} {mo m : DE} {A : DEnds} {ρ : Slots} {O : Ow} (p : Addr) (d : D) (fs : List (Str × D)) (h : ∀ Q E, Q d O → m ρ O Q E) (ho : ∀ Q E, Q (.opq (.ref p)) O → mo ρ O Q E) (e : O p = some (.ins C fs)) (hl : fs.length < 1000) (k : A.nx ρ (oset O p (.ins C (putD f d fs)))) : dSetF C f mo m A ρ O := h _ _ (ho _ _ ⟨fs, e, hl, k⟩)
theorem val_orT {t u : DT} {ρ : Slots} {O : Ow} (b c : Bool) (h : ∀ Q E, Q b O → t ρ O Q E) (k : b = false → ∀ Q E, Q c O → u ρ O Q E) : ∀ Q E, Q (b || c) O → dOr t u ρ O Q E := fun Q E q => h _ _ (by
  cases b with
  | true => exact q
  | false => exact k rfl _ _ q)
theorem val_seqI {m : DE} {ρ : Slots} {O : Ow} {d : D} {xs : List D} (hd : Seq d xs) (h : ∀ Q E, Q d O → m ρ O Q E) : ∀ Q E, Q (tt1, xs) O → dIter m ρ O Q E := fun Q E q => h _ _ (by
  rcases hd with rfl | rfl <;> exact q)
theorem isLst_seq {d : D} (h : isLst d = true) : ∃ xs, Seq d xs := by
  cases d <;> first | exact ⟨_, .inl rfl⟩ | exact ⟨_, .inr rfl⟩ | cases h
theorem qnX_seq {A : Str → Addr} {dn s : D} {xs : List D} (h : Seq dn xs) : qnX A dn s = if namesBad xs = true then some (namesX A (.tup xs)) else if sayBad s (strsOf xs) = true then some (sayX A s) else none := by
  rcases h with rfl | rfl <;> rfl
theorem strs_len {xs : List D} (h : xs.all isNm = true) : xs = (strsOf xs).map D.str ∧ (strsOf xs).length = xs.length := by
  have e := strsOf_map fun d hd => List.all_eq_true.mp h d hd
  refine ⟨e, ?_⟩
  have := congrArg List.length e
  rw [List.length_map] at this
  exact this.symm
section
variable {P : Program} {w : World} {K : PySem.W.Frag} {mg : Str → Option Value} {base : Heap}
theorem ok_Question_init {f fN fL fS fF fA C : Addr} {fd fdN fdL fdS fdF fdA : FuncData} {AA : Str → Addr} (F : Fun K "__init__" "Question.__init__" s_Question_init f fd)
    (G_is_name : FnOk P w K mg base CX0 1 fN fdN ["value"] (spD K nameS)) (T_is_name : Gf K mg "is_name" fN fdN ["value"])
    (G_is_listed : FnOk P w K mg base CX0 1 fL fdL ["value"] (spD K listedS)) (T_is_listed : Gf K mg "is_listed" fL fdL ["value"])
    (G_is_saying : FnOk P w K mg base CX0 10 fS fdS ["saying", "names", "deep"] (spD K (sayS 6))) (T_is_saying : Gf K mg "is_saying" fS fdS ["saying", "names", "deep"])
    (G_forms_in : FnOk P w K mg base CX0 8 fF fdF ["saying"] (spD K (formS 6))) (T_forms_in : Gf K mg "forms_in" fF fdF ["saying"])
    (G_agree : FnOk P w K mg base CX0 9 fA fdA ["saying"] (spD K (agreeS 6))) (T_agree : Gf K mg "agree" fA fdA ["saying"])
    (m_len : mg "len" = none) (m_all : mg "all" = none) (m_set : mg "set" = none) (m_tuple : mg "tuple" = none) (m_list : mg "list" = none)
    {t1 t2 t3 : Tok} (M_MOST_INPUTS : mg "MOST_INPUTS" = some (.int 3 t1)) (M_MOST_DEEP : mg "MOST_DEEP" = some (.int 6 t2)) (M_MOST_FORMS : mg "MOST_FORMS" = some (.int 12 t3))
    (E_InvalidNames : Err P w K mg base 2 (AA "InvalidNames") "InvalidNames" ["given"]) (M_InvalidNames : mg "InvalidNames" = some (.ref (AA "InvalidNames")))
    (E_InvalidSaying : Err P w K mg base 2 (AA "InvalidSaying") "InvalidSaying" ["given"]) (M_InvalidSaying : mg "InvalidSaying" = some (.ref (AA "InvalidSaying")))
    (CL_Question : Cls K C) (NA_Question_names : NoAttr K C "names") (NA_Question_saying : NoAttr K C "saying") (NA_Question_forms : NoAttr K C "forms") :
    FnOk P w K mg base (L2.CX P w) 11 f fd ["self", "names", "saying"] (spD K (iniQ AA C)) := by
  refine fn_excF F sc_Question_init (fun ds O Q E h => ?_) (fun cdv A outer s H E hr tk =>
    (d_scons (d_ifS (d_tnot (d_test (d_call G_is_listed (hr.mono (by decide)) rfl T_is_listed.m T_is_listed.k T_is_listed.b (fun _ => pass0A) (d_cons (d_var (i := 1) rfl (.inl rfl) (by decide) (by decide)) d_nil rfl) (by decide) rfl rfl) (by intro _; rfl))) (d_sone (d_raise rfl tk E_InvalidNames (hr.mono (by decide)) rfl M_InvalidNames (d_cons (d_tup (d_cons (d_var (i := 1) rfl (.inl rfl) (by decide) (by decide)) d_nil rfl)) d_nil rfl) (by decide) rfl rfl)) d_snil)
      (d_scons (d_ifS (DPW.pt (d_wor (d_tcmp od_gt (d_callB cd_len rfl m_len boot_len (d_cons (d_var (i := 1) rfl (.inl rfl) (by decide) (by decide)) d_nil rfl) (by decide) (by decide) rfl rfl) (d_globI rfl M_MOST_INPUTS (by decide)) (nomark _)) (d_wor (d_tnot (d_test (d_callB (cd_all rfl) rfl m_all boot_all (d_cons (d_lc rfl sc_Question_init.nd (d_iter (d_var (i := 1) rfl (.inl rfl) (by decide) (by decide))) (blkOk_by (own := [("name", 3)]) (N := N_Question_init) (sc := defScope s_Question_init) (by decide +kernel)) (fun _ _ _ _ _ => (dg_name (i := 3) sc_Question_init.nd rfl (.inl rfl) (.inr rfl))) (fun _ _ _ _ _ => d_ifs0) (fun _ _ _ _ _ => (d_call G_is_name (hr.mono (by decide)) rfl T_is_name.m T_is_name.k T_is_name.b (fun _ => pass0A) (d_cons (d_var (i := 3) rfl (.inl rfl) (by decide) (by decide)) d_nil rfl) (by decide) rfl rfl)) (by decide +kernel) (fun _ => rfl)) d_nil rfl) (by decide) (by decide) rfl rfl) (by intro _; rfl))) (d_or1 (d_tcmp od_lt (d_setS rfl rfl m_len rfl m_set (d_var (i := 1) rfl (.inl rfl) (by decide) (by decide)) rfl) (d_callB cd_len rfl m_len boot_len (d_cons (d_var (i := 1) rfl (.inl rfl) (by decide) (by decide)) d_nil rfl) (by decide) (by decide) rfl rfl) (nomark _)))))) (d_sone (d_raise rfl tk E_InvalidNames (hr.mono (by decide)) rfl M_InvalidNames (d_cons (d_callTy cd_tuple rfl m_tuple boot_tuple (d_cons (d_var (i := 1) rfl (.inl rfl) (by decide) (by decide)) d_nil rfl) (by decide) (by decide) rfl rfl) d_nil rfl) (by decide) rfl rfl)) d_snil)
      (d_scons (d_ifS (d_tnot (d_test (d_call G_is_saying (hr.mono (by decide)) rfl T_is_saying.m T_is_saying.k T_is_saying.b (fun _ => pass0A) (d_cons (d_var (i := 2) rfl (.inl rfl) (by decide) (by decide)) (d_cons (d_callTy cd_list rfl m_list boot_list (d_cons (d_var (i := 1) rfl (.inl rfl) (by decide) (by decide)) d_nil rfl) (by decide) (by decide) rfl rfl) (d_cons (d_globI rfl M_MOST_DEEP (by decide)) d_nil rfl) rfl) rfl) (by decide) rfl rfl) (by intro _; rfl))) (d_sone (d_raise rfl tk E_InvalidSaying (hr.mono (by decide)) rfl M_InvalidSaying (d_cons (d_var (i := 2) rfl (.inl rfl) (by decide) (by decide)) d_nil rfl) (by decide) rfl rfl)) d_snil)
      (d_scons (d_ifS (DPW.pt (d_wor (d_tcmp od_gt (d_callB cd_len rfl m_len boot_len (d_cons (d_call G_forms_in (hr.mono (by decide)) rfl T_forms_in.m T_forms_in.k T_forms_in.b (fun _ => pass0A) (d_cons (d_var (i := 2) rfl (.inl rfl) (by decide) (by decide)) d_nil rfl) (by decide) rfl rfl) d_nil rfl) (by decide) (by decide) rfl rfl) (d_globI rfl M_MOST_FORMS (by decide)) (nomark _)) (d_or1 (d_tnot (d_test (d_call G_agree (hr.mono (by decide)) rfl T_agree.m T_agree.k T_agree.b (fun _ => pass0A) (d_cons (d_var (i := 2) rfl (.inl rfl) (by decide) (by decide)) d_nil rfl) (by decide) rfl rfl) (by intro _; rfl)))))) (d_sone (d_raise rfl tk E_InvalidSaying (hr.mono (by decide)) rfl M_InvalidSaying (d_cons (d_var (i := 2) rfl (.inl rfl) (by decide) (by decide)) d_nil rfl) (by decide) rfl rfl)) d_snil)
      (d_scons (d_setF CL_Question NA_Question_names (d_var (i := 0) rfl (.inl rfl) (by decide) (by decide)) (d_callTy cd_tuple rfl m_tuple boot_tuple (d_cons (d_var (i := 1) rfl (.inl rfl) (by decide) (by decide)) d_nil rfl) (by decide) (by decide) rfl rfl) rfl)
      (d_scons (d_setF CL_Question NA_Question_saying (d_var (i := 0) rfl (.inl rfl) (by decide) (by decide)) (d_var (i := 2) rfl (.inl rfl) (by decide) (by decide)) rfl)
      (d_sone (d_setF CL_Question NA_Question_forms (d_var (i := 0) rfl (.inl rfl) (by decide) (by decide)) (d_callB cd_len rfl m_len boot_len (d_cons (d_call G_forms_in (hr.mono (by decide)) rfl T_forms_in.m T_forms_in.k T_forms_in.b (fun _ => pass0A) (d_cons (d_var (i := 2) rfl (.inl rfl) (by decide) (by decide)) d_nil rfl) (by decide) rfl rfl) d_nil rfl) (by decide) (by decide) rfl rfl) rfl))))))))) (fun ds O Q E h => ?_)
  · obtain ⟨p, dn, s, rfl, _⟩ := h; rfl
  · obtain ⟨p, dn, s, rfl, ho, hnm, ts, hsy, q, qx⟩ := h
    rw [show startD N_Question_init [.opq (.ref p), dn, s] = [.sh (.opq (.ref p)), .sh dn, .sh s, .un] from rfl]
    obtain ⟨tn, hfl⟩ := hnm
    refine st_if (!isLst dn) (val_not _ (val_tst _ (val_call [dn] _ (fun Q E q => q) fun Q E q => ⟨dn, rfl, tn, q⟩))) ?_
    cases hl : isLst dn with
    | false =>
      refine bcT (val_raise [.tup [dn]] rfl (val_cons _ _ (val_tup [dn] (fun Q E q => q) (le_sz rfl)) val_nil) ?_)
      refine frg.of (qx _ ?_)
      cases dn <;> first | rfl | cases hl
    | true =>
    refine bcN ?_
    dsimp only
    obtain ⟨xs, hseq⟩ := isLst_seq hl
    obtain ⟨hlen, hflx⟩ := hfl xs hseq
    have R0 := qnX_seq (A := AA) (s := s) hseq
    have hln : ∀ Q E, Q (.int xs.length) O → dCB lenO (dCons (dVar 1) dNil) [.sh (.opq (.ref p)), .sh dn, .sh s, .un] O Q E := val_len hseq (fun Q E q => q)
    refine st_if (namesBad xs) (val_orT (decide (3 < xs.length)) _ (val_tstB _ (val_op (.int xs.length) (.int 3) _ hln (fun Q E q => q) (fun Q q => ?_))) (fun h3 => val_orT (!xs.all isNm) _ (val_not _ (val_tst _ (val_all xs isNm hlen ?_ ?_))) (fun ha => val_tstB _ (val_op (.int (met (strsOf xs)).length) (.int xs.length) _ ?_ hln (fun Q q => ?_))))) ?_
    · show Q (.bl (decide ((3 : Int) < (xs.length : Nat))))
      rw [show decide ((3 : Int) < (xs.length : Nat)) = decide (3 < xs.length) from decide_eq_decide.mpr (by omega)]
      exact q
    · exact fun Q E q => val_seqI hseq (fun Q E q => q) _ _ q
    · intro d hd Qy hq
      refine tg_one [.sh (.opq (.ref p)), .sh dn, .sh s, .sh d] rfl ?_
      exact val_call [d] _ (fun Q E q => q) (fun Q E q => ⟨d, rfl, (hflx d hd).1, (hflx d hd).2, q⟩) _ _ hq
    · have ha : xs.all isNm = true := by simpa using ha
      obtain ⟨es, el⟩ := strs_len ha
      intro Q E q
      exact ⟨strsOf xs, by rw [← es]; exact hseq, by omega, q⟩
    · show Q (.bl (decide (((met (strsOf xs)).length : Int) < (xs.length : Nat))))
      rw [show decide (((met (strsOf xs)).length : Int) < (xs.length : Nat)) = decide ((met (strsOf xs)).length < xs.length) from decide_eq_decide.mpr (by omega)]
      exact q
    cases hb : namesBad xs with
    | true =>
      rw [if_pos hb] at R0
      exact bcT (val_raise [.tup xs] rfl (val_cons _ _ (val_tupO hseq (fun Q E q => q)) val_nil) (frg.of (qx _ R0)))
    | false =>
    rw [if_neg (by rw [hb]; decide)] at R0
    refine bcN ?_
    dsimp only
    have hb' := hb
    unfold namesBad at hb'
    simp only [Bool.or_eq_false_iff, Bool.not_eq_false'] at hb'
    obtain ⟨h3, ha, hm⟩ := hb'
    obtain ⟨es, el⟩ := strs_len ha
    have h3' : ¬ 3 < xs.length := of_decide_eq_false h3
    refine st_if (!isSay 6 s (strsOf xs)) (val_not _ (val_tst _ (val_call [s, nmL (strsOf xs), .int 6] _ (val_cons _ _ (fun Q E q => q) (val_cons _ _ (fun Q E qq => ?_) (fun Q E q => q))) fun Q E q => ⟨s, strsOf xs, rfl, hsy, by omega, q⟩))) ?_
    · have qq' : Q (.lst xs) O := by rw [es]; exact qq
      rcases hseq with rfl | rfl <;> exact qq'
    have hsb : sayBad s (strsOf xs) = (!isSay 6 s (strsOf xs) || (decide (12 < (formsL 6 s).length) || !agreeL (looksL (formsL 6 s)))) := rfl
    cases hsay : isSay 6 s (strsOf xs) with
    | false =>
      rw [if_pos (by rw [hsb, hsay]; rfl)] at R0
      exact bcT (val_raise [s] rfl (fun Q E q => q) (frg.of (qx _ R0)))
    | true =>
    rw [hsay, Bool.not_true, Bool.false_or] at hsb
    refine bcN ?_
    dsimp only
    have hfr := frm_of hsay
    have hfl6 := forms_le hfr
    have hform : ∀ (ρ : Slots) (O : Ow) (Q : QD) (E : QX), (∀ Q E, Q s O → dVar 2 ρ O Q E) → Q (.int (formsL 6 s).length) O → dCB lenO (dCons (dCall (formS 6) (dCons (dVar 2) dNil)) dNil) ρ O Q E := fun ρ O Q E hv q =>
      val_len (.inl rfl) (val_cons _ _ (val_call [s] _ (val_cons _ _ hv val_nil) fun Q E q => ⟨s, rfl, by decide, hfr, q⟩) val_nil) _ _ q
    refine st_if (sayBad s (strsOf xs)) ?_ ?_
    · rw [hsb]
      refine val_orT _ _ (val_tstB _ (val_op (.int (formsL 6 s).length) (.int 12) _ (fun Q E q => hform _ _ Q E (fun Q E q => q) q) (fun Q E q => q) (fun Q q => ?_))) (fun h12 => val_not _ (val_tst _ (val_call [s] _ (fun Q E q => q) fun Q E q => ⟨s, rfl, by decide, hfr, ?_, q⟩)))
      · show Q (.bl (decide ((12 : Int) < ((formsL 6 s).length : Nat))))
        rw [show decide ((12 : Int) < ((formsL 6 s).length : Nat)) = decide (12 < (formsL 6 s).length) from decide_eq_decide.mpr (by omega)]
        exact q
      · have := of_decide_eq_false h12
        omega
    cases hs2 : sayBad s (strsOf xs) with
    | true =>
      rw [if_pos hs2] at R0
      exact bcT (val_raise [s] rfl (fun Q E q => q) (frg.of (qx _ R0)))
    | false =>
    rw [if_neg (by rw [hs2]; decide)] at R0
    refine bcN ?_
    dsimp only
    refine st_fld p (.tup xs) [] (val_tupO hseq (fun Q E q => q)) (fun Q E q => q) ho (by decide) ?_
    refine st_fld p s [("names", .tup xs)] (fun Q E q => q) (fun Q E q => q) oset_same (Nat.lt_of_lt_of_le (show 1 < 2 by decide) (by decide)) ?_
    rw [oset_oset]
    refine st_fld1 p (.int (formsL 6 s).length) [("names", .tup xs), ("saying", s)] (fun Q E q => hform _ _ Q E (fun Q E q => q) q) (fun Q E q => q) oset_same (Nat.lt_of_lt_of_le (show 2 < 3 by decide) (by decide)) ?_
    rw [oset_oset]
    exact frg.of (q xs hseq R0)
end
end LW
set_option Elab.async false
set_option linter.all false
set_option maxRecDepth 100000
set_option maxHeartbeats 4000000
set_option pp.maxSteps 400
/-! _law_words -/
namespace LW
open PySem PySem.Spec PyProof.Rows L2 EV PySem.XO PySem.W LamX
abbrev s_words : Stmt := topS 44
abbrev N_words : List Str := ["_law_box_here", "_law_many", "_law_letters", "_law_stem", "_law_spot", "_law_first", "_law_k"]
theorem sc_words : FnScope N_words ["_law_box_here", "_law_many"] (defScope s_words) := ⟨rfl, rfl, rfl, by decide +kernel, rfl, by decide +kernel, by decide +kernel⟩

def wordsS : DSp := fun ds O Q _ => ∃ n : Nat, ds = [.int n] ∧ n ≤ 26 ∧ ∀ ws : List Str, ws.length = n → (∀ w ∈ ws, isNm (.str w) = true) → ws.Nodup → Q (.lst (ws.map D.str)) O
local macro_rules | `(tactic| walk_at "n") => `(tactic| refine st_norm (by simp only [List.set_cons_succ, List.set_cons_zero]; rfl) ?_)
def wordD (stem : Str) (spot first : Int) : D → D
  | .int k => .str (cutS stem none (some spot) ++ ⟨#[((co lettersT).getD ((first + 7 * k) % 26).toNat 0)]⟩ ++ cutS stem (some spot) none)
  | _ => .non
def lettN (i : Int) : Nat := (co lettersT).getD (i % 26).toNat 0
theorem lett_at (i : Int) : atI (co lettersT) (i % 26) = some (lettN i) := by
  have h0 : 0 ≤ i % 26 := Int.emod_nonneg _ (by decide)
  have h1 : i % 26 < 26 := Int.emod_lt_of_pos _ (by decide)
  have e : (((i % 26).toNat : Nat) : Int) = i % 26 := by omega
  have hk : (i % 26).toNat < (co lettersT).length := by
    have : (co lettersT).length = 26 := by decide +kernel
    omega
  rw [← e, atI_nat (List.getElem?_eq_getElem hk)]
  unfold lettN
  rw [getD_el hk]
theorem lett_val : ∀ k, k < 26 → (co lettersT).getD k 0 = 97 + k := by decide +kernel
theorem lettN_eq (i : Int) : lettN i = 97 + (i % 26).toNat := lett_val _ (by have := Int.emod_nonneg i (show (26 : Int) ≠ 0 by decide); have := Int.emod_lt_of_pos i (show (0 : Int) < 26 by decide); omega)
theorem lettN_mem (i : Int) : lettN i ∈ co lettersT := by
  have h0 : 0 ≤ i % 26 := Int.emod_nonneg _ (by decide)
  have h1 : i % 26 < 26 := Int.emod_lt_of_pos _ (by decide)
  have hk : (i % 26).toNat < (co lettersT).length := by
    have : (co lettersT).length = 26 := by decide +kernel
    omega
  unfold lettN
  rw [getD_el hk]
  exact List.getElem_mem hk
def wordT (stem : Str) (spot first : Int) (k : Int) : Str := cutS stem none (some spot) ++ ⟨#[lettN (first + 7 * k)]⟩ ++ cutS stem (some spot) none
theorem wordT_co {stem : Str} {spot first k : Int} (h0 : 0 ≤ spot) (h1 : spot ≤ stem.length) : co (wordT stem spot first k) = (co stem).take spot.toNat ++ [lettN (first + 7 * k)] ++ (co stem).drop spot.toNat := by
  unfold wordT
  rw [co_app, co_app, cut_to _ h0 h1, cut_from _ h0 h1]
  rfl
theorem wordT_nm {stem : Str} {spot first k : Int} (h0 : 0 ≤ spot) (h1 : spot ≤ stem.length) (hs : stem.length ≤ 5) (hc : ∀ c ∈ co stem, c ∈ co lettersT) : isNm (.str (wordT stem spot first k)) = true := by
  have e := wordT_co (first := first) (k := k) h0 h1
  have el : (wordT stem spot first k).length = stem.length + 1 := by
    rw [← co_len, e, ← co_len]
    simp only [List.length_append, List.length_take, List.length_drop, List.length_cons, List.length_nil]
    rw [co_len]; omega
  show (decide (1 ≤ (wordT stem spot first k).length) && decide ((wordT stem spot first k).length ≤ 6) && (co (wordT stem spot first k)).all fun c => decide (c ∈ co lettersT)) = true
  rw [el, e]
  simp only [Bool.and_eq_true, decide_eq_true_eq, List.all_eq_true]
  refine ⟨⟨by omega, by omega⟩, fun c h => ?_⟩
  simp only [List.mem_append, List.mem_cons, List.not_mem_nil, or_false] at h
  rcases h with (h | h) | h
  · exact hc c (List.mem_of_mem_take h)
  · rw [h]; exact lettN_mem _
  · exact hc c (List.mem_of_mem_drop h)
theorem wordT_inj {stem : Str} {spot first k k' : Int} (h0 : 0 ≤ spot) (h1 : spot ≤ stem.length) (a0 : 0 ≤ k) (a1 : k < 26) (b0 : 0 ≤ k') (b1 : k' < 26) (h : wordT stem spot first k = wordT stem spot first k') : k = k' := by
  have e := congrArg co h
  rw [wordT_co h0 h1, wordT_co h0 h1, List.append_assoc, List.append_assoc] at e
  have e2 := List.append_cancel_left e
  have e3 : lettN (first + 7 * k) = lettN (first + 7 * k') := by
    have := List.cons.inj e2
    exact this.1
  rw [lettN_eq, lettN_eq] at e3
  omega
theorem each_letters : ∀ {ds ys : List D}, Each (fun _ y => ∃ c ∈ co lettersT, y = .str ⟨#[c]⟩) ds ys → ∃ cs : List Nat, ys = cs.map (fun c => D.str ⟨#[c]⟩) ∧ ∀ c ∈ cs, c ∈ co lettersT
  | _, _, .nil => ⟨[], rfl, fun _ h => by cases h⟩
  | _, _, .cons ⟨c, mc, e⟩ r => by
    obtain ⟨cs, e1, h1⟩ := each_letters r
    refine ⟨c :: cs, by rw [e, e1]; rfl, fun x hx => ?_⟩
    rcases List.mem_cons.mp hx with q | q
    · rw [q]; exact mc
    · exact h1 x q
theorem sum_ones : ∀ cs : List Nat, (cs.map fun _ => 1).sum = cs.length
  | [] => rfl
  | _ :: cs => by simp only [List.map_cons, List.sum_cons, sum_ones cs, List.length_cons]; omega
theorem join_letters {cs : List Nat} (h : cs.length ≤ 1000) {Q : D → Prop} (q : ∀ y : Str, co y = cs → Q (.str y)) : joinD Str.empty (.lst (cs.map fun c => D.str ⟨#[c]⟩)) Q := by
  show joinOn _ _ _
  unfold joinOn
  rw [toSs_map]
  refine ⟨?_, q _ (join_sing cs)⟩
  have e1 : ((cs.map fun c => (⟨#[c]⟩ : Str)).map (·.length)).sum = cs.length := by
    rw [List.map_map]
    exact sum_ones cs
  rw [e1]
  have : (Str.empty).length = 0 := rfl
  rw [this]
  omega
section
variable {P : Program} {w : World} {K : PySem.W.Frag} {mg : Str → Option Value} {base : Heap}
theorem ok_words {f fP fO : Addr} {fd fdP fdO : FuncData} (F : Fun K "_law_words" "_law_words" s_words f fd) (G_pull : FnOk P w K mg base CX0 1 fP fdP ["_law_box_here", "_law_many"] (spB K pullS)) (T_pull : Gf K mg "_law_pull" fP fdP ["_law_box_here", "_law_many"])
    (G_of : FnOk P w K mg base CX0 2 fO fdO ["_law_box_here", "_law_some"] (spB K ofS)) (T_of : Gf K mg "_law_of" fO fdO ["_law_box_here", "_law_some"]) (m_len : mg "len" = none) (m_int : mg "int" = none) (m_range : mg "range" = none) :
    FnOk P w K mg base CX0 3 f fd ["_law_box_here", "_law_many"] (spB K wordsS) := by
  refine fn_box F sc_words (fun ds O Q E h => ?_) (fun cdv A outer s H E b l T hr =>
    (d_scons (d_set (i := 2) sc_words.nd rfl (.inr rfl) d_str rfl (.inl rfl))
      (d_scons (d_set (i := 3) sc_words.nd rfl (.inr rfl) (d_join d_str (d_lc rfl sc_words.nd (d_rng1 rfl m_range (d_cons (d_callX G_of rfl (hr.mono (by decide)) rfl T_of.m T_of.k T_of.b (fun _ => pass0A) (d_cons (d_var (i := 0) rfl (.inr (.inl rfl)) (by decide) (by decide)) (d_cons (d_lst (d_cons d_int (d_cons d_int (d_cons d_int (d_cons d_int (d_cons d_int d_nil rfl) rfl) rfl) rfl) rfl)) d_nil rfl) rfl) (by decide) rfl rfl) d_nil rfl) rfl) (blkOk_by (own := [("_law_k", 6)]) (N := N_words) (sc := defScope s_words) (by decide +kernel)) (fun _ _ _ _ _ => (dg_name (i := 6) sc_words.nd rfl (.inl rfl) (.inr rfl))) (fun _ _ _ _ _ => d_ifs0) (fun _ _ _ _ _ => (d_callX G_of rfl (hr.mono (by decide)) rfl T_of.m T_of.k T_of.b (fun _ => pass0A) (d_cons (d_var (i := 0) rfl (.inr (.inl rfl)) (by decide) (by decide)) (d_cons (d_var (i := 2) rfl (.inr (.inl rfl)) (by decide) (by decide)) d_nil rfl) rfl) (by decide) rfl rfl)) (by decide +kernel) (fun _ => rfl)) rfl rfl rfl) rfl (.inl rfl))
      (d_scons (d_asg (d_tup (d_cons (d_callX G_pull rfl (hr.mono (by decide)) rfl T_pull.m T_pull.k T_pull.b (fun _ => pass0A) (d_cons (d_var (i := 0) rfl (.inr (.inl rfl)) (by decide) (by decide)) (d_cons (d_op od_add (d_callB cd_len rfl m_len boot_len (d_cons (d_var (i := 3) rfl (.inr (.inl rfl)) (by decide) (by decide)) d_nil rfl) (by decide) (by decide) rfl rfl) d_int) d_nil rfl) rfl) (by decide) rfl rfl) (d_cons (d_callX G_pull rfl (hr.mono (by decide)) rfl T_pull.m T_pull.k T_pull.b (fun _ => pass0A) (d_cons (d_var (i := 0) rfl (.inr (.inl rfl)) (by decide) (by decide)) (d_cons d_int d_nil rfl) rfl) (by decide) rfl rfl) d_nil rfl) rfl)) (dg_tup (n := 2) rfl (dgs_cons (dg_name (i := 4) sc_words.nd rfl (.inr rfl) (.inl rfl)) (dgs_cons (dg_name (i := 5) sc_words.nd rfl (.inr rfl) (.inl rfl)) dgs_nil rfl) rfl) rfl rfl) rfl rfl rfl)
      (d_sone (d_ret (d_lc rfl sc_words.nd (d_rng1 rfl m_range (d_cons (d_var (i := 1) rfl (.inl rfl) (by decide) (by decide)) d_nil rfl) rfl) (blkOk_by (own := [("_law_k", 6)]) (N := N_words) (sc := defScope s_words) (by decide +kernel)) (fun _ _ _ _ _ => (dg_name (i := 6) sc_words.nd rfl (.inl rfl) (.inr rfl))) (fun _ _ _ _ _ => d_ifs0) (fun _ _ _ _ _ => (d_op od_add (d_op od_add (d_sl (d_var (i := 3) rfl (.inr (.inl rfl)) (by decide) (by decide)) d_nopart (d_part (d_var (i := 4) rfl (.inr (.inl rfl)) (by decide) (by decide)))) (d_ix (d_var (i := 2) rfl (.inr (.inl rfl)) (by decide) (by decide)) (d_op od_mod (d_callTy cd_int rfl m_int boot_int (d_cons (d_op od_add (d_var (i := 5) rfl (.inr (.inl rfl)) (by decide) (by decide)) (d_op od_mul d_int (d_var (i := 6) rfl (.inl rfl) (by decide) (by decide)))) d_nil rfl) (by decide) (by decide) rfl rfl) d_int) (fun _ _ => rfl))) (d_sl (d_var (i := 3) rfl (.inr (.inl rfl)) (by decide) (by decide)) (d_part (d_var (i := 4) rfl (.inr (.inl rfl)) (by decide) (by decide))) d_nopart))) (by decide +kernel) (fun _ => rfl)))))))) (fun b ds O Q E h => ?_) (fun ds O Q E h => h)
  · obtain ⟨n, rfl, _⟩ := h; rfl
  · obtain ⟨n, rfl, hn, q⟩ := h
    rw [show startD N_words [.opq (.ref b), .int n] = [.sh (.opq (.ref b)), .sh (.int n), .un, .un, .un, .un, .un] from rfl]
    refine st_set (.str lettersT) (fun Q E q => q) ?_
    rintro _ rfl
    walk_at "n"
    refine st_setN (fun d => ∃ y : Str, d = .str y ∧ y.length ≤ 5 ∧ ∀ c ∈ co y, c ∈ co lettersT) (fun Q E q => ?_) ?_
    · refine val_join ?_
      refine val_of (.lst [.int 0, .int 0, .int 1, .int 2, .int 5]) (fun Q E q => q) (fun Q E q => ⟨le_sz rfl, q⟩) (by decide) (by decide) _ _ fun y hy => ?_
      obtain ⟨k, rfl, hk⟩ : ∃ k : Nat, y = .int k ∧ k ≤ 5 := by
        simp only [itemsL, List.mem_cons, List.not_mem_nil, or_false] at hy
        rcases hy with rfl | rfl | rfl | rfl | rfl
        · exact ⟨0, rfl, by decide⟩
        · exact ⟨0, rfl, by decide⟩
        · exact ⟨1, rfl, by decide⟩
        · exact ⟨2, rfl, by decide⟩
        · exact ⟨5, rfl, by decide⟩
      refine ⟨by omega, by omega, ?_⟩
      refine lcW_each trivial (fun _ y => ∃ c ∈ co lettersT, y = .str ⟨#[c]⟩) (fun d hd Qy hq => ?_) (by simp [rngD]; have : 6 ≤ sizeLine := by decide
                                                                                                         omega) (fun ys hE => ?_)
      · refine val_of (.str lettersT) (fun Q E q => q) (fun Q E q => q) (by decide +kernel) (by decide +kernel) _ _ fun y hy => ?_
        obtain ⟨c, hc, rfl⟩ := List.mem_map.mp hy
        exact hq _ ⟨c, hc, rfl⟩
      · obtain ⟨cs, rfl, hcs⟩ := each_letters hE
        have hl := hE.length
        simp [rngD] at hl
        exact join_letters (by omega) fun y ey => q _ ⟨y, rfl, by rw [← co_len, ey]; omega, by rw [ey]; exact hcs⟩
    · rintro _ ⟨stem, rfl, hs5, hsc⟩
      walk_at "n"
      refine st_asg2 (fun u v => ∃ sp fi : Int, u = .int sp ∧ v = .int fi ∧ 0 ≤ sp ∧ sp ≤ stem.length) (fun Q E q => ?_) ?_
      · refine val_pull ((stem.length : Int) + 1) (fun Q E q => q) ?_ (by omega) (by omega) _ _ fun k k0 k1 => ?_
        · exact fun Q E q => ⟨szk (by omega), q⟩
        refine val_pull 26 (fun Q E q => q) (fun Q E q => q) (by decide) (by decide) _ _ fun k2 _ _ => q _ _ ⟨k, k2, rfl, rfl, k0, by omega⟩
      · rintro _ _ ⟨sp, fi, rfl, rfl, sp0, sp1⟩
        walk_at "n"
        have key : ∀ k : Nat, (cutS stem none (some sp)).length + 1 + (cutS stem (some sp) none).length ≤ 6 := fun _ => by
          rw [← co_len, ← co_len, cut_to _ sp0 sp1, cut_from _ sp0 sp1]
          simp only [List.length_take, List.length_drop, co_len]
          omega
        refine val_rng n (by omega) (fun Q E q => q) _ _ ?_
        refine lcW_map (I := tt1) trivial (wordD stem sp fi) (fun d hd Qy hq => ?_) ?_ ?_
        · obtain ⟨k, hk, rfl⟩ : ∃ k : Nat, k < n ∧ d = .int k := by
            obtain ⟨i, hi⟩ := List.getElem?_of_mem hd
            exact ⟨i, rng_at hi⟩
          refine tg_one _ rfl ?_
          refine val_op (.str (cutS stem none (some sp) ++ ⟨#[lettN (fi + 7 * k)]⟩)) (.str (cutS stem (some sp) none)) (.str (wordT stem sp fi k)) (val_op (.str (cutS stem none (some sp))) (.str ⟨#[lettN (fi + 7 * k)]⟩) _ ?_ ?_ ?_) ?_ ?_ _ _ hq
          · exact fun Q E q => ⟨szk (by omega), q⟩
          · intro Q E q
            refine ⟨.inl ⟨by decide, by decide⟩, (show (0 : Int) < 26 by decide), by decide +kernel, ?_⟩
            rw [show atI (lettersT.cps.toList) ((fi + 7 * k) % 26) = some (lettN (fi + 7 * k)) from lett_at _]
            exact q
          · exact fun Q q => ⟨szk (by have := key k; show _ + 1 ≤ 1000; omega), q⟩
          · exact fun Q E q => ⟨szk (by omega), q⟩
          · refine fun Q q => ⟨szk ?_, q⟩
            rw [← co_len, co_app, List.length_append, co_len, co_len]
            have := key k
            show _ + 1 + _ ≤ 1000
            omega
        · simp only [rngD, List.length_map, List.length_range, List.length_nil]; exact szk (by omega)
        · refine cast (congrArg (fun z => Q (.lst z) O) ?_) (q ((List.range n).map fun k : Nat => wordT stem sp fi k) (by simp) ?_ ?_)
          · simp only [rngD, List.nil_append, List.map_map]
            refine List.map_congr_left fun k _ => ?_
            simp only [Function.comp, Int.zero_add]; rfl
          · intro w hw
            obtain ⟨k, _, rfl⟩ := List.mem_map.mp hw
            exact wordT_nm sp0 sp1 hs5 hsc
          · rw [List.Nodup, List.pairwise_map]
            refine List.Pairwise.imp_of_mem ?_ List.nodup_range
            intro a b ha hb hne h
            refine hne ?_
            have := List.mem_range.mp ha
            have := List.mem_range.mp hb
            have := wordT_inj sp0 sp1 (Int.natCast_nonneg a) (by omega) (Int.natCast_nonneg b) (by omega) h
            omega
end
end LW
set_option Elab.async false
set_option linter.all false
set_option maxRecDepth 100000
set_option maxHeartbeats 4000000
set_option pp.maxSteps 400
/-! plain facts on questions -/
namespace LW
open PySem PySem.Spec PyProof.Rows L2 EV PySem.XO PySem.W LamX
abbrev psQ : List Str := ["self", "names", "saying"]
theorem GD_Question_ : ∀ (K : PySem.W.Frag) (G : Hp) (v : V) (vs zs : List V) (ds es : List D), RpL K G vs ds → RpL K G zs es → vs.length = 2 → zs.length = ([] : List Str).length → ∃ ws, (v :: vs) = v :: ws ∧ RpL K G ws ds := fun K G v vs zs ds es r1 r2 _ _ => ⟨vs, rfl, r1⟩
theorem met_eq : ∀ (xs l : List Str), (xs.foldl metI l).length = l.length + xs.length → (∀ x ∈ xs, x ∉ l) ∧ xs.Nodup
  | [], l, _ => ⟨(fun x h => by cases h), List.nodup_nil⟩
  | x :: xs, l, h => by
    rw [List.foldl_cons, List.length_cons] at h
    by_cases hx : (l.any (· == x)) = true
    · have e : metI l x = l := by unfold metI; rw [if_pos hx]
      rw [e] at h
      have := met_le xs l
      omega
    · have e : metI l x = l ++ [x] := by unfold metI; rw [if_neg hx]
      rw [e] at h
      obtain ⟨h1, h2⟩ := met_eq xs (l ++ [x]) (by rw [h, List.length_append, List.length_singleton]; omega)
      have hxl : x ∉ l := fun hm => hx (List.any_eq_true.mpr ⟨x, hm, by simp⟩)
      refine ⟨fun y hy => ?_, List.nodup_cons.mpr ⟨fun hm => h1 x hm (by simp), h2⟩⟩
      rcases List.mem_cons.mp hy with rfl | hy
      · exact hxl
      · exact fun hm => h1 y hy (List.mem_append_left _ hm)
theorem met_nodup : ∀ (xs l : List Str), (∀ x ∈ xs, x ∉ l) → xs.Nodup → (xs.foldl metI l).length = l.length + xs.length
  | [], l, _, _ => by simp
  | x :: xs, l, h, hn => by
    have hx : ¬ (l.any (· == x)) = true := fun q => by
      obtain ⟨y, hy, e⟩ := List.any_eq_true.mp q
      have : y = x := by simpa using e
      subst this
      exact h y (by simp) hy
    have e : metI l x = l ++ [x] := by unfold metI; rw [if_neg hx]
    obtain ⟨h1, h2⟩ := List.nodup_cons.mp hn
    rw [List.foldl_cons, e, met_nodup xs (l ++ [x]) (fun y hy hm => ?_) h2, List.length_append]
    · simp only [List.length_cons, List.length_nil]; omega
    · rcases List.mem_append.mp hm with hm | hm
      · exact h y (List.mem_cons_of_mem _ hy) hm
      · simp only [List.mem_cons, List.not_mem_nil, or_false] at hm
        subst hm
        exact h1 hy
theorem met_lt {xs : List Str} (h : ¬ xs.Nodup) : (met xs).length < xs.length := by
  have h1 : (met xs).length ≤ 0 + xs.length := met_le xs []
  by_cases e : (met xs).length = 0 + xs.length
  · exact absurd (met_eq xs [] e).2 h
  · omega
theorem met_all {xs : List Str} (h : xs.Nodup) : (met xs).length = xs.length := by
  have := met_nodup xs [] (fun _ _ h => by cases h) h
  rw [List.length_nil, Nat.zero_add] at this
  exact this
theorem strsOf_strs (ns : List Str) : strsOf (ns.map D.str) = ns := by
  induction ns with
  | nil => rfl
  | cons x ns ih =>
    show x :: strsOf (ns.map D.str) = x :: ns
    rw [ih]
/-- one that is no name -/
theorem bad_mem {xs : List D} {d : D} (h : d ∈ xs) (hd : isNm d = false) : namesBad xs = true ∧ xs.all isNm = false := by
  have : xs.all isNm = false := by
    rw [List.all_eq_false]
    exact ⟨d, h, by rw [hd]; decide⟩
  exact ⟨by unfold namesBad; rw [this]; simp, this⟩
theorem bad_long {xs : List D} (h : 3 < xs.length) : namesBad xs = true := by
  unfold namesBad; rw [decide_eq_true h]; rfl
theorem bad_twice {ns : List Str} (h : ¬ ns.Nodup) : namesBad (ns.map D.str) = true := by
  unfold namesBad
  rw [strsOf_strs, List.length_map, decide_eq_true (met_lt h)]
  simp
theorem names_good {ns : List Str} (h : ns.Nodup) (hl : ns.length ≤ 3) (hn : ∀ y ∈ ns, isNm (.str y) = true) : namesBad (ns.map D.str) = false := by
  unfold namesBad
  rw [strsOf_strs, List.length_map, decide_eq_false (by omega), decide_eq_false (by rw [met_all h]; omega), Bool.or_false, Bool.false_or]
  have : (ns.map D.str).all isNm = true := List.all_eq_true.mpr fun d hd => by
    obtain ⟨y, hy, rfl⟩ := List.mem_map.mp hd
    exact hn y hy
  rw [this]; rfl
/-! ### what is_saying may look at -/
theorem sy_atom {d : D} (h : (tyD d).isSome = true) (hn : ∀ xs, d ≠ .tup xs) : ∀ n, Sy n d
  | 0 => trivial
  | n + 1 => ⟨⟨h, fun xs e => absurd e (hn xs)⟩, fun xs e => absurd e (hn xs)⟩
theorem sy_tup {n : Nat} {xs : List D} (hl : xs.length ≤ 1000) (hf : ∀ x ∈ xs, Flat x) (ht : ∀ v, xs[2]? = some v → TestOk v) (hs : ∀ x ∈ xs, Sy n x) : Sy (n + 1) (.tup xs) :=
  ⟨⟨rfl, fun ys e => by cases e; exact ⟨hl, hf, ht⟩⟩, fun ys e => by cases e; exact hs⟩
theorem flat_str {y : Str} (h : y.length ≤ 1000) : Flat (.str y) := ⟨rfl, fun z e => by cases e; exact szk h⟩
theorem flat_tup {xs : List D} : Flat (.tup xs) := ⟨rfl, fun y e => by cases e⟩
theorem testOk_str {y : Str} : TestOk (.str y) := ⟨rfl, fun xs e => by cases e⟩
theorem nm_len {y : Str} (h : isNm (.str y) = true) : y.length ≤ 6 := by
  simp only [isNm, Bool.and_eq_true, decide_eq_true_eq] at h
  exact h.1.2
theorem noXs_of : ∀ {xs : List D}, (∀ x ∈ xs, noX x = true) → noXs xs = true
  | [], _ => by simp [noXs]
  | x :: xs, h => by simp [noXs, h x (by simp), noXs_of fun y hy => h y (List.mem_cons_of_mem _ hy)]
theorem plain_noX : ∀ {n : Nat} {d : D}, Plain n d → noX d = true
  | _, .non, _ => by simp [noX]
  | _, .bl _, _ => by simp [noX]
  | _, .int _, _ => by simp [noX]
  | _, .str _, _ => by simp [noX]
  | n + 1, .lst xs, h => by rw [noX]; exact noXs_of fun x hx => plain_noX (h.2 x hx)
  | n + 1, .tup xs, h => by rw [noX]; exact noXs_of fun x hx => plain_noX (h.2 x hx)
  | 0, .lst _, h => h.elim
  | 0, .tup _, h => h.elim
  | 0, .opq _, h => h.elim
  | _ + 1, .opq _, h => h.elim
  | 0, .dic _, h => h.elim
  | _ + 1, .dic _, h => h.elim
  | 0, .ins _ _, h => h.elim
  | _ + 1, .ins _ _, h => h.elim
  | 0, .exc _ _, h => h.elim
  | _ + 1, .exc _ _, h => h.elim
  | 0, .lam _, h => h.elim
  | _ + 1, .lam _, h => h.elim
theorem got_names {K : Frag} {Q : D → Prop} {d : D} {n : Nat} (hn : Plain n d) (q : Q (.tup [.str "InvalidNames", d])) : gotE K (namesX (He.ga K) d) Q := ⟨"InvalidNames", d, by decide +kernel, rfl, by rfl, by rfl, plain_noX hn, q⟩
theorem mkG_qn {AA : Str → Addr} {C : Addr} {O : Ow} {Q : QD} {E : QX} {dn s : D} (hn : NmPre dn) (ts : (tyD s).isSome = true) (hs : Sy 6 s) (q : ∀ xs, Seq dn xs → qnX AA dn s = none → Q (.ins C (qnF xs s)) O) (e : ∀ x, qnX AA dn s = some x → E x O) : mkG C (iniQ AA C) [dn, s] O Q E := fun p np =>
  spM.of ⟨p, dn, s, rfl, oset_same, hn, ts, hs, fun xs h1 h2 => ⟨rfl, _, _, oset_same, by rw [oset_oset, odel_oset np]; exact q xs h1 h2⟩, fun x h => ⟨O, OSub.new np, e x h⟩⟩
theorem ad4 {x y z u v : D} {xs : List D} : atI (x :: y :: z :: u :: v :: xs) 4 = some v := (show atI _ ((4 : Nat) : Int) = _ from atI_nat rfl)
theorem nmPre_l {xs : List D} (hl : xs.length ≤ 1000) (hf : ∀ x ∈ xs, Flat x) : NmPre (.lst xs) := ⟨rfl, fun ys h => by
  rcases h with h | h <;> cases h
  exact ⟨hl, hf⟩⟩
theorem nmPre_t {xs : List D} (hl : xs.length ≤ 1000) (hf : ∀ x ∈ xs, Flat x) : NmPre (.tup xs) := ⟨rfl, fun ys h => by
  rcases h with h | h <;> cases h
  exact ⟨hl, hf⟩⟩
theorem got_saying {K : Frag} {Q : D → Prop} {d : D} {n : Nat} (hn : Plain n d) (q : Q (.tup [.str "InvalidSaying", d])) : gotE K (sayX (He.ga K) d) Q := ⟨"InvalidSaying", d, by decide +kernel, rfl, by rfl, by rfl, plain_noX hn, q⟩
end LW
set_option Elab.async false
set_option linter.all false
set_option maxRecDepth 100000
set_option maxHeartbeats 4000000
set_option pp.maxSteps 400
/-! Question.denied, &, | -/
namespace LW
open PySem PySem.Spec PyProof.Rows L2 EV PySem.XO PySem.W LamX
local macro_rules | `(tactic| walk_at "n") => `(tactic| refine st_norm (by simp only [List.set_cons_succ, List.set_cons_zero]; rfl) ?_)
theorem nm_ok {y : Str} (h : isNm (.str y) = true) : PyData.strOk y = true := by
  simp only [isNm, Bool.and_eq_true, decide_eq_true_eq, List.all_eq_true] at h
  have hc : ∀ c ∈ co lettersT, c < 128 := by decide +kernel
  unfold PyData.strOk
  rw [← Array.all_toList, List.all_eq_true]
  intro c hm
  have := hc c (h.2 c hm)
  simp only [decide_eq_true_eq]
  omega
theorem toPs_strs : ∀ ns : List Str, toPs (ns.map D.str) = some (ns.map PyData.str)
  | [] => rfl
  | x :: ns => by
    rw [List.map_cons, toPs, toPs_strs ns]
    rfl
theorem eqvAll_strs : ∀ ns ms : List Str, PyData.eqvAll (ns.map PyData.str) (ms.map PyData.str) = decide (ns = ms)
  | [], [] => by simp [PyData.eqvAll]
  | [], _ :: _ => by simp [PyData.eqvAll]
  | _ :: _, [] => by simp [PyData.eqvAll]
  | x :: ns, y :: ms => by
    rw [List.map_cons, List.map_cons, PyData.eqvAll, eqvAll_strs ns ms]
    by_cases h : x = y
    · subst h; simp [PyData.eqv]
    · simp [PyData.eqv, h]
theorem shp_str : ∀ {ns : List Str}, (∀ y ∈ ns, isNm (.str y) = true) → PyData.canLayAll0 (ns.map PyData.str) = true ∧ PyData.depthAll (ns.map PyData.str) ≤ 1
  | [], _ => by simp [PyData.canLayAll0, PyData.depthAll]
  | x :: ns, h => by
    have ih := shp_str (ns := ns) fun y hy => h y (List.mem_cons_of_mem _ hy)
    simp [PyData.canLayAll0, PyData.depthAll, PyData.canLay0, PyData.depth, nm_ok (h x (by simp)), ih]
theorem shp_tup {ns : List Str} (h : ∀ y ∈ ns, isNm (.str y) = true) : SeqAt.shaped (.tuple (ns.map PyData.str)) = true := by
  have := shp_str h
  simp [SeqAt.shaped, PyData.canLay0, PyData.depth, this.1]
  omega
theorem eq_nms {f : Bool → Bool} {ns ms : List Str} {Q : D → Prop} (h1 : ∀ y ∈ ns, isNm (.str y) = true) (h2 : ∀ y ∈ ms, isNm (.str y) = true) (q : Q (.bl (f (decide (ns = ms))))) : eqD f (.tup (ns.map D.str)) (.tup (ms.map D.str)) Q := by
  unfold eqD
  simp only [toP, toPs_strs, Option.map_some]
  refine ⟨shp_tup h1, shp_tup h2, ?_⟩
  rw [PyData.eqv, eqvAll_strs]
  exact q
def notD (z : Str) (r : List D) : D := if z = "not" then r.getD 0 .non else .tup [.str "not", .tup (.str z :: r)]
def denS (A : Str → Addr) (C : Addr) : DSp := fun ds O Q E => ∃ xs z r fs, ds = [.ins C fs] ∧ fs.lookup ("names" : Str) = some (.tup xs) ∧ fs.lookup ("saying" : Str) = some (.tup (.str z :: r)) ∧ (z = "not" → r ≠ []) ∧ mkG C (iniQ A C) [.tup xs, notD z r] O Q E
def joinS (A : Str → Addr) (C : Addr) (h : Str) : DSp := fun ds O Q E => ∃ (ns ms : List Str) (s t : D) (fs gs : List (Str × D)), ds = [.ins C fs, .ins C gs] ∧ fs.lookup ("names" : Str) = some (.tup (ns.map D.str)) ∧ fs.lookup ("saying" : Str) = some s ∧ gs.lookup ("names" : Str) = some (.tup (ms.map D.str)) ∧ gs.lookup ("saying" : Str) = some t ∧
  (∀ y ∈ ns, isNm (.str y) = true) ∧ (∀ y ∈ ms, isNm (.str y) = true) ∧ (ns = ms → mkG C (iniQ A C) [.tup (ns.map D.str), .tup [.str h, s, t]] O Q E) ∧ (ns ≠ ms → E (namesX A (.tup (ms.map D.str))) O)
abbrev s_Question_denied : Stmt := clsS 34 2
abbrev N_Question_denied : List Str := ["self"]
theorem sc_Question_denied : FnScope N_Question_denied ["self"] (defScope s_Question_denied) := ⟨rfl, rfl, rfl, by decide +kernel, rfl, by decide +kernel, by decide +kernel⟩

abbrev s_Question_and : Stmt := clsS 34 3
abbrev N_Question_and : List Str := ["self", "other"]
theorem sc_Question_and : FnScope N_Question_and ["self", "other"] (defScope s_Question_and) := ⟨rfl, rfl, rfl, by decide +kernel, rfl, by decide +kernel, by decide +kernel⟩

abbrev s_Question_or : Stmt := clsS 34 4
abbrev N_Question_or : List Str := ["self", "other"]
theorem sc_Question_or : FnScope N_Question_or ["self", "other"] (defScope s_Question_or) := ⟨rfl, rfl, rfl, by decide +kernel, rfl, by decide +kernel, by decide +kernel⟩

section
variable {P : Program} {w : World} {K : PySem.W.Frag} {mg : Str → Option Value} {base : Heap}
theorem ok_Question_denied {f fR C : Addr} {fd fdR : FuncData} {AA : Str → Addr} (F : Fun K "denied" "Question.denied" s_Question_denied f fd)
    (MK_Question : Mk K C fR) (G_Question_init : FnOk P w K mg base (L2.CX P w) 11 fR fdR psQ (spD K (iniQ AA C))) (M_Question : mg "Question" = some (.ref C))
    {gA : List Value → List Value → List Value} (KB_Question_ : KBn K fdR psQ 3 [] gA (fun vs _ => vs))
    (CL_Question : Cls K C) (NA_Question_names : NoAttr K C "names") (NA_Question_saying : NoAttr K C "saying") :
    FnOk P w K mg base (L2.CX P w) 13 f fd ["self"] (spD K (denS AA C)) := by
  refine fn_exc F sc_Question_denied (fun ds O Q E h => ?_) (fun cdv A outer s H E hr tk =>
    (d_sone (d_ret (d_makeG (fun _ => rfl) MK_Question G_Question_init (hr.mono (by decide)) rfl M_Question KB_Question_ GD_Question_ (fun pins σ H' s1 e s' I c => tk_pass tk σ pins H' s1 e s' I c) (d_cons (d_fld CL_Question NA_Question_names (d_var (i := 0) rfl (.inl rfl) (by decide) (by decide)) rfl) (d_cons (d_if (d_tcmp (od_eq hr.units) (d_ix (d_fld CL_Question NA_Question_saying (d_var (i := 0) rfl (.inl rfl) (by decide) (by decide)) rfl) d_int (fun _ _ => rfl)) d_str (nomark _)) (d_ix (d_fld CL_Question NA_Question_saying (d_var (i := 0) rfl (.inl rfl) (by decide) (by decide)) rfl) d_int (fun _ _ => rfl)) (d_tup (d_cons d_str (d_cons (d_fld CL_Question NA_Question_saying (d_var (i := 0) rfl (.inl rfl) (by decide) (by decide)) rfl) d_nil rfl) rfl))) d_nil rfl) rfl) d_knil rfl rfl (by decide) rfl rfl)))) (fun ds O Q E h => ?_)
  · obtain ⟨xs, z, r, fs, rfl, _⟩ := h; rfl
  · obtain ⟨xs, z, r, fs, rfl, h1, h2, h3, q⟩ := h
    rw [show startD N_Question_denied [.ins C fs] = [.sh (.ins C fs)] from rfl]
    refine val_retX ?_
    have hs : ∀ Q E, Q (.tup (.str z :: r)) O → dFld C "saying" (dVar 0) [.sh (.ins C fs)] O Q E := val_fld (fun Q E q => q) h2
    refine val_mkK [.tup xs, notD z r] (val_cons _ _ (val_fld (fun Q E q => q) h1) (val_cons _ _ (fun Q E q => ?_) val_nil)) ⟨rfl, rfl, q⟩
    refine val_if (decide (z = "not")) (val_tstB _ (val_eqB z "not" _ (val_ix (.inr rfl) hs (fun Q E q => q) ad0) (fun Q E q => q) rfl)) ?_
    unfold notD at q
    by_cases e : z = "not"
    · rw [if_pos e] at q
      rw [decide_eq_true e]
      refine bcT ?_
      cases r with
      | nil => exact absurd rfl (h3 e)
      | cons a r => exact val_ix (.inr rfl) hs (fun Q E q => q) ad1 _ _ q
    · rw [if_neg e] at q
      rw [decide_eq_false e]
      exact bcF (val_tup _ (val_cons _ _ (fun Q E q => q) (val_cons _ _ hs val_nil)) (le_sz rfl) _ _ q)
theorem ok_Question_and {f fR C : Addr} {fd fdR : FuncData} {AA : Str → Addr} (F : Fun K "__and__" "Question.__and__" s_Question_and f fd)
    (MK_Question : Mk K C fR) (G_Question_init : FnOk P w K mg base (L2.CX P w) 11 fR fdR psQ (spD K (iniQ AA C))) (M_Question : mg "Question" = some (.ref C))
    {gA : List Value → List Value → List Value} (KB_Question_ : KBn K fdR psQ 3 [] gA (fun vs _ => vs))
    (E_InvalidNames : Err P w K mg base 2 (AA "InvalidNames") "InvalidNames" ["given"]) (M_InvalidNames : mg "InvalidNames" = some (.ref (AA "InvalidNames")))
    (CL_Question : Cls K C) (NA_Question_names : NoAttr K C "names") (NA_Question_saying : NoAttr K C "saying") :
    FnOk P w K mg base (L2.CX P w) 13 f fd ["self", "other"] (spD K (joinS AA C "and")) := by
  refine fn_exc F sc_Question_and (fun ds O Q E h => ?_) (fun cdv A outer s H E hr tk =>
    (d_scons (d_ifS (d_tcmp (od_ne hr.units) (d_fld CL_Question NA_Question_names (d_var (i := 0) rfl (.inl rfl) (by decide) (by decide)) rfl) (d_fld CL_Question NA_Question_names (d_var (i := 1) rfl (.inl rfl) (by decide) (by decide)) rfl) (nomark _)) (d_sone (d_raise rfl tk E_InvalidNames (hr.mono (by decide)) rfl M_InvalidNames (d_cons (d_fld CL_Question NA_Question_names (d_var (i := 1) rfl (.inl rfl) (by decide) (by decide)) rfl) d_nil rfl) (by decide) rfl rfl)) d_snil)
      (d_sone (d_ret (d_makeG (fun _ => rfl) MK_Question G_Question_init (hr.mono (by decide)) rfl M_Question KB_Question_ GD_Question_ (fun pins σ H' s1 e s' I c => tk_pass tk σ pins H' s1 e s' I c) (d_cons (d_fld CL_Question NA_Question_names (d_var (i := 0) rfl (.inl rfl) (by decide) (by decide)) rfl) (d_cons (d_tup (d_cons d_str (d_cons (d_fld CL_Question NA_Question_saying (d_var (i := 0) rfl (.inl rfl) (by decide) (by decide)) rfl) (d_cons (d_fld CL_Question NA_Question_saying (d_var (i := 1) rfl (.inl rfl) (by decide) (by decide)) rfl) d_nil rfl) rfl) rfl)) d_nil rfl) rfl) d_knil rfl rfl (by decide) rfl rfl))))) (fun ds O Q E h => ?_)
  · obtain ⟨ns, ms, s, t, fs, gs, rfl, _⟩ := h; rfl
  · obtain ⟨ns, ms, s, t, fs, gs, rfl, h1, h2, h3, h4, n1, n2, q, x⟩ := h
    rw [show startD N_Question_and [.ins C fs, .ins C gs] = [.sh (.ins C fs), .sh (.ins C gs)] from rfl]
    refine st_if (!decide (ns = ms)) (val_tstB _ (val_op (.tup (ns.map D.str)) (.tup (ms.map D.str)) _ (val_fld (fun Q E q => q) h1) (val_fld (fun Q E q => q) h3) (fun Q q => eq_nms n1 n2 q))) ?_
    by_cases e : ns = ms
    · rw [decide_eq_true e]
      refine bcN ?_
      dsimp only
      refine val_retX ?_
      exact val_mkK [.tup (ns.map D.str), .tup [.str "and", s, t]] (val_cons _ _ (val_fld (fun Q E q => q) h1) (val_cons _ _ (val_tup _ (val_cons _ _ (fun Q E q => q) (val_cons _ _ (val_fld (fun Q E q => q) h2) (val_cons _ _ (val_fld (fun Q E q => q) h4) val_nil))) (le_sz rfl)) val_nil)) ⟨rfl, rfl, q e⟩
    · rw [decide_eq_false e]
      exact bcT (val_raise [.tup (ms.map D.str)] rfl (val_cons _ _ (val_fld (fun Q E q => q) h3) val_nil) (x e))
theorem ok_Question_or {f fR C : Addr} {fd fdR : FuncData} {AA : Str → Addr} (F : Fun K "__or__" "Question.__or__" s_Question_or f fd)
    (MK_Question : Mk K C fR) (G_Question_init : FnOk P w K mg base (L2.CX P w) 11 fR fdR psQ (spD K (iniQ AA C))) (M_Question : mg "Question" = some (.ref C))
    {gA : List Value → List Value → List Value} (KB_Question_ : KBn K fdR psQ 3 [] gA (fun vs _ => vs))
    (E_InvalidNames : Err P w K mg base 2 (AA "InvalidNames") "InvalidNames" ["given"]) (M_InvalidNames : mg "InvalidNames" = some (.ref (AA "InvalidNames")))
    (CL_Question : Cls K C) (NA_Question_names : NoAttr K C "names") (NA_Question_saying : NoAttr K C "saying") :
    FnOk P w K mg base (L2.CX P w) 13 f fd ["self", "other"] (spD K (joinS AA C "or")) := by
  refine fn_exc F sc_Question_or (fun ds O Q E h => ?_) (fun cdv A outer s H E hr tk =>
    (d_scons (d_ifS (d_tcmp (od_ne hr.units) (d_fld CL_Question NA_Question_names (d_var (i := 0) rfl (.inl rfl) (by decide) (by decide)) rfl) (d_fld CL_Question NA_Question_names (d_var (i := 1) rfl (.inl rfl) (by decide) (by decide)) rfl) (nomark _)) (d_sone (d_raise rfl tk E_InvalidNames (hr.mono (by decide)) rfl M_InvalidNames (d_cons (d_fld CL_Question NA_Question_names (d_var (i := 1) rfl (.inl rfl) (by decide) (by decide)) rfl) d_nil rfl) (by decide) rfl rfl)) d_snil)
      (d_sone (d_ret (d_makeG (fun _ => rfl) MK_Question G_Question_init (hr.mono (by decide)) rfl M_Question KB_Question_ GD_Question_ (fun pins σ H' s1 e s' I c => tk_pass tk σ pins H' s1 e s' I c) (d_cons (d_fld CL_Question NA_Question_names (d_var (i := 0) rfl (.inl rfl) (by decide) (by decide)) rfl) (d_cons (d_tup (d_cons d_str (d_cons (d_fld CL_Question NA_Question_saying (d_var (i := 0) rfl (.inl rfl) (by decide) (by decide)) rfl) (d_cons (d_fld CL_Question NA_Question_saying (d_var (i := 1) rfl (.inl rfl) (by decide) (by decide)) rfl) d_nil rfl) rfl) rfl)) d_nil rfl) rfl) d_knil rfl rfl (by decide) rfl rfl))))) (fun ds O Q E h => ?_)
  · obtain ⟨ns, ms, s, t, fs, gs, rfl, _⟩ := h; rfl
  · obtain ⟨ns, ms, s, t, fs, gs, rfl, h1, h2, h3, h4, n1, n2, q, x⟩ := h
    rw [show startD N_Question_or [.ins C fs, .ins C gs] = [.sh (.ins C fs), .sh (.ins C gs)] from rfl]
    refine st_if (!decide (ns = ms)) (val_tstB _ (val_op (.tup (ns.map D.str)) (.tup (ms.map D.str)) _ (val_fld (fun Q E q => q) h1) (val_fld (fun Q E q => q) h3) (fun Q q => eq_nms n1 n2 q))) ?_
    by_cases e : ns = ms
    · rw [decide_eq_true e]
      refine bcN ?_
      dsimp only
      refine val_retX ?_
      exact val_mkK [.tup (ns.map D.str), .tup [.str "or", s, t]] (val_cons _ _ (val_fld (fun Q E q => q) h1) (val_cons _ _ (val_tup _ (val_cons _ _ (fun Q E q => q) (val_cons _ _ (val_fld (fun Q E q => q) h2) (val_cons _ _ (val_fld (fun Q E q => q) h4) val_nil))) (le_sz rfl)) val_nil)) ⟨rfl, rfl, q e⟩
    · rw [decide_eq_false e]
      exact bcT (val_raise [.tup (ms.map D.str)] rfl (val_cons _ _ (val_fld (fun Q E q => q) h3) val_nil) (x e))
end
end LW
set_option Elab.async false
set_option linter.all false
set_option maxRecDepth 100000
set_option maxHeartbeats 4000000
set_option pp.maxSteps 400
/-! sayings as a type -/
namespace LW
open PySem PySem.Spec PyProof.Rows L2 EV PySem.XO PySem.W LamX
inductive Tst where
  | least (k : Nat) | most (k : Nat) | rest (m r : Nat)
  deriving DecidableEq
inductive Say (α : Type) where
  | has (t a : α) | link (t a b : α) | same (a b : α) | less (a b : α)
  | not (s : Say α) | and (s t : Say α) | or (s t : Say α)
  | some (x : α) (s : Say α) | all (x : α) (s : Say α) | count (x : α) (k : Tst) (s : Say α)
  | way (x y : α) (s : Say α) (a b : α) | within (m : Nat) (x y : α) (s : Say α) (a b : α)
  deriving DecidableEq
def Tst.d : Tst → D
  | .least k => .tup [.str "least", .int k]
  | .most k => .tup [.str "most", .int k]
  | .rest m r => .tup [.str "rest", .int m, .int r]
def Tst.ok : Tst → Bool
  | .least k => decide (k ≤ 8)
  | .most k => decide (k ≤ 8)
  | .rest m r => decide (2 ≤ m) && (decide (m ≤ 8) && decide (r < m))
def Say.d : Say Str → D
  | .has t a => .tup [.str "has", .str t, .str a]
  | .link t a b => .tup [.str "link", .str t, .str a, .str b]
  | .same a b => .tup [.str "same", .str a, .str b]
  | .less a b => .tup [.str "less", .str a, .str b]
  | .not s => .tup [.str "not", s.d]
  | .and s t => .tup [.str "and", s.d, t.d]
  | .or s t => .tup [.str "or", s.d, t.d]
  | .some x s => .tup [.str "some", .str x, s.d]
  | .all x s => .tup [.str "all", .str x, s.d]
  | .count x k s => .tup [.str "count", .str x, k.d, s.d]
  | .way x y s a b => .tup [.str "way", .str x, .str y, s.d, .str a, .str b]
  | .within m x y s a b => .tup [.str "within", .int m, .str x, .str y, s.d, .str a, .str b]
namespace Say
variable {α β : Type}
def map (f : α → β) : Say α → Say β
  | .has t a => .has (f t) (f a)
  | .link t a b => .link (f t) (f a) (f b)
  | .same a b => .same (f a) (f b)
  | .less a b => .less (f a) (f b)
  | .not s => .not (s.map f)
  | .and s t => .and (s.map f) (t.map f)
  | .or s t => .or (s.map f) (t.map f)
  | .some x s => .some (f x) (s.map f)
  | .all x s => .all (f x) (s.map f)
  | .count x k s => .count (f x) k (s.map f)
  | .way x y s a b => .way (f x) (f y) (s.map f) (f a) (f b)
  | .within m x y s a b => .within m (f x) (f y) (s.map f) (f a) (f b)
/-- the names that occur -/
def nms : Say α → List α
  | .has t a => [t, a]
  | .link t a b => [t, a, b]
  | .same a b => [a, b]
  | .less a b => [a, b]
  | .not s => s.nms
  | .and s t => s.nms ++ t.nms
  | .or s t => s.nms ++ t.nms
  | .some x s => x :: s.nms
  | .all x s => x :: s.nms
  | .count x _ s => x :: s.nms
  | .way x y s a b => x :: y :: a :: b :: s.nms
  | .within _ x y s a b => x :: y :: a :: b :: s.nms
def kids : Say α → List (Say α)
  | .not s => [s]
  | .and s t => [s, t]
  | .or s t => [s, t]
  | .some _ s => [s]
  | .all _ s => [s]
  | .count _ _ s => [s]
  | .way _ _ s _ _ => [s]
  | .within _ _ _ s _ _ => [s]
  | _ => []
def deep : Say α → Nat
  | .not s => s.deep + 1
  | .and s t => Nat.max s.deep t.deep + 1
  | .or s t => Nat.max s.deep t.deep + 1
  | .some _ s => s.deep + 1
  | .all _ s => s.deep + 1
  | .count _ _ s => s.deep + 1
  | .way _ _ s _ _ => s.deep + 1
  | .within _ _ _ s _ _ => s.deep + 1
  | _ => 1
def forms : Say α → List (Say α)
  | .not s => .not s :: s.forms
  | .and s t => .and s t :: (s.forms ++ t.forms)
  | .or s t => .or s t :: (s.forms ++ t.forms)
  | .some x s => .some x s :: s.forms
  | .all x s => .all x s :: s.forms
  | .count x k s => .count x k s :: s.forms
  | .way x y s a b => .way x y s a b :: s.forms
  | .within m x y s a b => .within m x y s a b :: s.forms
  | s => [s]
/-- the tables with their places -/
def tabs : Say α → List (α × Nat)
  | .has t _ => [(t, 1)]
  | .link t _ _ => [(t, 2)]
  | .not s => s.tabs
  | .and s t => s.tabs ++ t.tabs
  | .or s t => s.tabs ++ t.tabs
  | .some _ s => s.tabs
  | .all _ s => s.tabs
  | .count _ _ s => s.tabs
  | .way _ _ s _ _ => s.tabs
  | .within _ _ _ s _ _ => s.tabs
  | _ => []
def agreeB [DecidableEq α] (l : List (α × Nat)) : Bool := l.all fun a => l.all fun b => !decide (a.1 = b.1) || decide (a.2 = b.2)
/-- a saying with names in scope -/
def ok [DecidableEq α] : List α → Say α → Bool
  | ns, .has _ a => decide (ns.length ≤ 6) && decide (a ∈ ns)
  | ns, .link _ a b => decide (ns.length ≤ 6) && (decide (a ∈ ns) && decide (b ∈ ns))
  | ns, .same a b => decide (ns.length ≤ 6) && (decide (a ∈ ns) && decide (b ∈ ns))
  | ns, .less a b => decide (ns.length ≤ 6) && (decide (a ∈ ns) && decide (b ∈ ns))
  | ns, .not s => decide (ns.length ≤ 6) && s.ok ns
  | ns, .and s t => decide (ns.length ≤ 6) && (s.ok ns && t.ok ns)
  | ns, .or s t => decide (ns.length ≤ 6) && (s.ok ns && t.ok ns)
  | ns, .some x s => (!decide (x ∈ ns)) && (decide (ns.length + 1 ≤ 6) && s.ok (ns ++ [x]))
  | ns, .all x s => (!decide (x ∈ ns)) && (decide (ns.length + 1 ≤ 6) && s.ok (ns ++ [x]))
  | ns, .count x k s => (k.ok && !decide (x ∈ ns)) && (decide (ns.length + 1 ≤ 6) && s.ok (ns ++ [x]))
  | ns, .way x y s a b => ((decide (a ∈ ns) && decide (b ∈ ns)) && ((!decide (x ∈ ns) && !decide (y ∈ ns)) && !decide (x = y))) && (decide (ns.length + 2 ≤ 6) && s.ok (ns ++ [x, y]))
  | ns, .within m x y s a b => (decide (m ≤ 8) && ((decide (a ∈ ns) && decide (b ∈ ns)) && ((!decide (x ∈ ns) && !decide (y ∈ ns)) && !decide (x = y)))) && (decide (ns.length + 2 ≤ 6) && s.ok (ns ++ [x, y]))
/-- a saying of a question with these names -/
def good [DecidableEq α] (ns : List α) (s : Say α) : Bool := (decide (s.deep ≤ 6) && s.ok ns) && (decide (s.forms.length ≤ 12) && agreeB s.tabs)
theorem deep_pos : ∀ s : Say α, 1 ≤ s.deep := fun s => by cases s <;> simp [deep]
theorem map_deep (f : α → β) : ∀ s : Say α, (s.map f).deep = s.deep
  | .has t a => rfl
  | .link t a b => rfl
  | .same a b => rfl
  | .less a b => rfl
  | .not s => by simp [map, deep, map_deep f s]
  | .and s t => by simp [map, deep, map_deep f s, map_deep f t]
  | .or s t => by simp [map, deep, map_deep f s, map_deep f t]
  | .some x s => by simp [map, deep, map_deep f s]
  | .all x s => by simp [map, deep, map_deep f s]
  | .count x k s => by simp [map, deep, map_deep f s]
  | .way x y s a b => by simp [map, deep, map_deep f s]
  | .within m x y s a b => by simp [map, deep, map_deep f s]
theorem map_forms (f : α → β) : ∀ s : Say α, (s.map f).forms = s.forms.map (map f)
  | .has t a => rfl
  | .link t a b => rfl
  | .same a b => rfl
  | .less a b => rfl
  | .not s => by simp [map, forms, map_forms f s]
  | .and s t => by simp [map, forms, map_forms f s, map_forms f t]
  | .or s t => by simp [map, forms, map_forms f s, map_forms f t]
  | .some x s => by simp [map, forms, map_forms f s]
  | .all x s => by simp [map, forms, map_forms f s]
  | .count x k s => by simp [map, forms, map_forms f s]
  | .way x y s a b => by simp [map, forms, map_forms f s]
  | .within m x y s a b => by simp [map, forms, map_forms f s]
theorem map_tabs (f : α → β) : ∀ s : Say α, (s.map f).tabs = s.tabs.map fun p => (f p.1, p.2)
  | .has t a => rfl
  | .link t a b => rfl
  | .same a b => rfl
  | .less a b => rfl
  | .not s => by simp [map, tabs, map_tabs f s]
  | .and s t => by simp [map, tabs, map_tabs f s, map_tabs f t]
  | .or s t => by simp [map, tabs, map_tabs f s, map_tabs f t]
  | .some x s => by simp [map, tabs, map_tabs f s]
  | .all x s => by simp [map, tabs, map_tabs f s]
  | .count x k s => by simp [map, tabs, map_tabs f s]
  | .way x y s a b => by simp [map, tabs, map_tabs f s]
  | .within m x y s a b => by simp [map, tabs, map_tabs f s]
theorem map_nms (f : α → β) : ∀ s : Say α, (s.map f).nms = s.nms.map f
  | .has t a => rfl
  | .link t a b => rfl
  | .same a b => rfl
  | .less a b => rfl
  | .not s => by simp [map, nms, map_nms f s]
  | .and s t => by simp [map, nms, map_nms f s, map_nms f t]
  | .or s t => by simp [map, nms, map_nms f s, map_nms f t]
  | .some x s => by simp [map, nms, map_nms f s]
  | .all x s => by simp [map, nms, map_nms f s]
  | .count x k s => by simp [map, nms, map_nms f s]
  | .way x y s a b => by simp [map, nms, map_nms f s]
  | .within m x y s a b => by simp [map, nms, map_nms f s]
section
variable [DecidableEq α] [DecidableEq β]
theorem mem_inj {f : α → β} (hf : ∀ x y, f x = f y → x = y) (x : α) (l : List α) : decide (f x ∈ l.map f) = decide (x ∈ l) := decide_eq_decide.mpr ⟨fun h => by
  obtain ⟨y, hy, e⟩ := List.mem_map.mp h
  rw [← hf _ _ e]; exact hy, fun h => List.mem_map_of_mem h⟩
theorem eq_inj {f : α → β} (hf : ∀ x y, f x = f y → x = y) (x y : α) : decide (f x = f y) = decide (x = y) := decide_eq_decide.mpr ⟨hf x y, fun h => by rw [h]⟩
theorem map_ok {f : α → β} (hf : ∀ x y, f x = f y → x = y) : ∀ (s : Say α) (ns : List α), (s.map f).ok (ns.map f) = s.ok ns
  | .has t a, ns => by simp only [map, ok, mem_inj hf, List.length_map]
  | .link t a b, ns => by simp only [map, ok, mem_inj hf, List.length_map]
  | .same a b, ns => by simp only [map, ok, mem_inj hf, List.length_map]
  | .less a b, ns => by simp only [map, ok, mem_inj hf, List.length_map]
  | .not s, ns => by simp only [map, ok, map_ok hf s, List.length_map]
  | .and s t, ns => by simp only [map, ok, map_ok hf s, map_ok hf t, List.length_map]
  | .or s t, ns => by simp only [map, ok, map_ok hf s, map_ok hf t, List.length_map]
  | .some x s, ns => by
    have e : ns.map f ++ [f x] = (ns ++ [x]).map f := by simp
    simp only [map, ok, mem_inj hf, List.length_map, e, map_ok hf s]
  | .all x s, ns => by
    have e : ns.map f ++ [f x] = (ns ++ [x]).map f := by simp
    simp only [map, ok, mem_inj hf, List.length_map, e, map_ok hf s]
  | .count x k s, ns => by
    have e : ns.map f ++ [f x] = (ns ++ [x]).map f := by simp
    simp only [map, ok, mem_inj hf, List.length_map, e, map_ok hf s]
  | .way x y s a b, ns => by
    have e : ns.map f ++ [f x, f y] = (ns ++ [x, y]).map f := by simp
    simp only [map, ok, mem_inj hf, eq_inj hf, List.length_map, e, map_ok hf s]
  | .within m x y s a b, ns => by
    have e : ns.map f ++ [f x, f y] = (ns ++ [x, y]).map f := by simp
    simp only [map, ok, mem_inj hf, eq_inj hf, List.length_map, e, map_ok hf s]
theorem map_good {f : α → β} (hf : ∀ x y, f x = f y → x = y) (s : Say α) (ns : List α) : (s.map f).good (ns.map f) = s.good ns := by
  unfold good
  rw [map_deep, map_ok hf, map_forms, map_tabs, List.length_map]
  congr 2
  unfold agreeB
  simp only [List.all_map, Function.comp_def, eq_inj hf]
end
end Say
end LW
set_option Elab.async false
set_option linter.all false
set_option maxRecDepth 100000
set_option maxHeartbeats 4000000
set_option pp.maxSteps 400
/-! sayings: what the program's functions tell of them -/
namespace LW
open PySem PySem.Spec PyProof.Rows L2 EV PySem.XO PySem.W LamX
abbrev Nmd (ns : List Str) : Prop := ∀ y ∈ ns, isNm (.str y) = true
def headOf : Say Str → Str × List D
  | .has t a => ("has", [.str t, .str a])
  | .link t a b => ("link", [.str t, .str a, .str b])
  | .same a b => ("same", [.str a, .str b])
  | .less a b => ("less", [.str a, .str b])
  | .not s => ("not", [s.d])
  | .and s t => ("and", [s.d, t.d])
  | .or s t => ("or", [s.d, t.d])
  | .some x s => ("some", [.str x, s.d])
  | .all x s => ("all", [.str x, s.d])
  | .count x k s => ("count", [.str x, k.d, s.d])
  | .way x y s a b => ("way", [.str x, .str y, s.d, .str a, .str b])
  | .within m x y s a b => ("within", [.int m, .str x, .str y, s.d, .str a, .str b])
theorem d_head (s : Say Str) : s.d = .tup (.str (headOf s).1 :: (headOf s).2) := by cases s <;> rfl
theorem d_len (s : Say Str) : (headOf s).2.length ≤ 6 := by cases s <;> simp [headOf]
theorem inN_str {ns : List Str} {y : Str} : inN ns (.str y) = decide (y ∈ ns) := by
  show isOf y ns = _
  unfold isOf
  rw [Bool.eq_iff_iff, List.any_eq_true, decide_eq_true_eq]
  constructor
  · rintro ⟨z, hz, e⟩
    have := of_decide_eq_true e
    rw [this]; exact hz
  · exact fun h => ⟨y, h, decide_eq_true rfl⟩
theorem tst_ok (k : Tst) : isTest k.d = k.ok := by
  cases k with
  | least k =>
    show (decide ((0 : Nat) = 0) && (decide ((0 : Int) ≤ (k : Nat)) && decide (((k : Nat) : Int) ≤ 8))) = decide (k ≤ 8)
    rw [decide_eq_true (show (0 : Nat) = 0 from rfl), decide_eq_true (show (0 : Int) ≤ (k : Nat) by omega), Bool.true_and, Bool.true_and]
    exact decide_eq_decide.mpr (by omega)
  | most k =>
    show (decide ((0 : Nat) = 0) && (decide ((0 : Int) ≤ (k : Nat)) && decide (((k : Nat) : Int) ≤ 8))) = decide (k ≤ 8)
    rw [decide_eq_true (show (0 : Nat) = 0 from rfl), decide_eq_true (show (0 : Int) ≤ (k : Nat) by omega), Bool.true_and, Bool.true_and]
    exact decide_eq_decide.mpr (by omega)
  | rest m r =>
    show ((decide ((2 : Int) ≤ (m : Nat)) && decide (((m : Nat) : Int) ≤ 8)) && (decide ((0 : Int) ≤ (r : Nat)) && decide (((r : Nat) : Int) ≤ (m : Nat) - 1))) = (decide (2 ≤ m) && (decide (m ≤ 8) && decide (r < m)))
    rw [decide_eq_true (show (0 : Int) ≤ (r : Nat) by omega), Bool.true_and, Bool.and_assoc]
    congr 1
    · exact decide_eq_decide.mpr (by omega)
    · congr 1
      · exact decide_eq_decide.mpr (by omega)
      · exact decide_eq_decide.mpr (by omega)
theorem num08 (m : Nat) : isNum (.int m) 0 8 = decide (m ≤ 8) := by
  show (decide ((0 : Int) ≤ (m : Nat)) && decide (((m : Nat) : Int) ≤ 8)) = _
  rw [decide_eq_true (show (0 : Int) ≤ (m : Nat) by omega), Bool.true_and]
  exact decide_eq_decide.mpr (by omega)
theorem n6 (n : Nat) : decide ((n : Int) + (0 : Nat) ≤ 6) = decide (n ≤ 6) := decide_eq_decide.mpr (by omega)
theorem n61 (n : Nat) : decide ((n : Int) + (1 : Nat) ≤ 6) = decide (n + 1 ≤ 6) := decide_eq_decide.mpr (by omega)
theorem n62 (n : Nat) : decide ((n : Int) + (1 + 1 : Nat) ≤ 6) = decide (n + 2 ≤ 6) := decide_eq_decide.mpr (by omega)
theorem dle0 {s : Nat} (h : 1 ≤ s) : decide (s ≤ 0) = false := decide_eq_false (by omega)
theorem dle1 (s n : Nat) : decide (s + 1 ≤ n + 1) = decide (s ≤ n) := decide_eq_decide.mpr (by omega)
theorem dmx (s t n : Nat) : decide (Nat.max s t + 1 ≤ n + 1) = (decide (s ≤ n) && decide (t ≤ n)) := by
  rw [Bool.eq_iff_iff, Bool.and_eq_true, decide_eq_true_eq, decide_eq_true_eq, decide_eq_true_eq]
  show Max.max s t + 1 ≤ n + 1 ↔ _
  omega
/-- one step of is_saying, by the head -/
def le6 (n : Nat) : Bool := decide (n ≤ 6)
theorem le6_eq (n : Nat) : decide (n ≤ 6) = le6 n := rfl
theorem say_step (n : Nat) (z : Str) (xs : List D) (ns : List Str) : isSay (n + 1) (.tup (.str z :: xs)) ns = ((decide (lenN.lookup z = some ((xs.length : Int) + 1)) && isHdX z xs ns) && (le6 (ns.length + (boundL z xs).length) && (innerL z xs).all fun p => isSay n p (ns ++ strsOf (boundL z xs)))) := by
  show (_ && (decide ((ns.length : Int) + (boundL z xs).length ≤ 6) && _)) = _
  rw [show decide ((ns.length : Int) + (boundL z xs).length ≤ 6) = le6 (ns.length + (boundL z xs).length) from decide_eq_decide.mpr (by omega)]
  rfl
theorem so0 : strsOf [] = [] := rfl
theorem so1 (x : Str) : strsOf [.str x] = [x] := rfl
theorem so2 (x y : Str) : strsOf [.str x, .str y] = [x, y] := rfl
theorem m6 (n : Nat) : decide ((n : Int) ≤ 6) = decide (n ≤ 6) := decide_eq_decide.mpr (by omega)
theorem m61 (n : Nat) : decide ((n : Int) + 1 ≤ 6) = decide (n + 1 ≤ 6) := decide_eq_decide.mpr (by omega)
theorem m62 (n : Nat) : decide ((n : Int) + 2 ≤ 6) = decide (n + 2 ≤ 6) := decide_eq_decide.mpr (by omega)
theorem d1 (n : Nat) : decide (1 ≤ n + 1) = true := decide_eq_true (by omega)
theorem fu_has (t : Str) (a : Str) : usedL "has" [.str t, .str a] = [.str a] := rfl
theorem fb_has (t : Str) (a : Str) : boundL "has" [.str t, .str a] = [] := rfl
theorem fi_has (t : Str) (a : Str) : innerL "has" [.str t, .str a] = [] := rfl
theorem fl_has : lenN.lookup ("has" : Str) = some 3 := rfl
theorem fh_has : isOf "has" gHas = true := rfl
theorem fc_has : decide (("has" : Str) = "count") = false := rfl
theorem fw_has : decide (("has" : Str) = "within") = false := rfl
theorem fu_link (t : Str) (a : Str) (b : Str) : usedL "link" [.str t, .str a, .str b] = [.str a, .str b] := rfl
theorem fb_link (t : Str) (a : Str) (b : Str) : boundL "link" [.str t, .str a, .str b] = [] := rfl
theorem fi_link (t : Str) (a : Str) (b : Str) : innerL "link" [.str t, .str a, .str b] = [] := rfl
theorem fl_link : lenN.lookup ("link" : Str) = some 4 := rfl
theorem fh_link : isOf "link" gHas = true := rfl
theorem fc_link : decide (("link" : Str) = "count") = false := rfl
theorem fw_link : decide (("link" : Str) = "within") = false := rfl
theorem fu_same (a : Str) (b : Str) : usedL "same" [.str a, .str b] = [.str a, .str b] := rfl
theorem fb_same (a : Str) (b : Str) : boundL "same" [.str a, .str b] = [] := rfl
theorem fi_same (a : Str) (b : Str) : innerL "same" [.str a, .str b] = [] := rfl
theorem fl_same : lenN.lookup ("same" : Str) = some 3 := rfl
theorem fh_same : isOf "same" gHas = false := rfl
theorem fc_same : decide (("same" : Str) = "count") = false := rfl
theorem fw_same : decide (("same" : Str) = "within") = false := rfl
theorem fu_less (a : Str) (b : Str) : usedL "less" [.str a, .str b] = [.str a, .str b] := rfl
theorem fb_less (a : Str) (b : Str) : boundL "less" [.str a, .str b] = [] := rfl
theorem fi_less (a : Str) (b : Str) : innerL "less" [.str a, .str b] = [] := rfl
theorem fl_less : lenN.lookup ("less" : Str) = some 3 := rfl
theorem fh_less : isOf "less" gHas = false := rfl
theorem fc_less : decide (("less" : Str) = "count") = false := rfl
theorem fw_less : decide (("less" : Str) = "within") = false := rfl
theorem fu_not (s : D) : usedL "not" [s] = [] := rfl
theorem fb_not (s : D) : boundL "not" [s] = [] := rfl
theorem fi_not (s : D) : innerL "not" [s] = [s] := rfl
theorem fl_not : lenN.lookup ("not" : Str) = some 2 := rfl
theorem fh_not : isOf "not" gHas = false := rfl
theorem fc_not : decide (("not" : Str) = "count") = false := rfl
theorem fw_not : decide (("not" : Str) = "within") = false := rfl
theorem fu_and (s : D) (t : D) : usedL "and" [s, t] = [] := rfl
theorem fb_and (s : D) (t : D) : boundL "and" [s, t] = [] := rfl
theorem fi_and (s : D) (t : D) : innerL "and" [s, t] = [s, t] := rfl
theorem fl_and : lenN.lookup ("and" : Str) = some 3 := rfl
theorem fh_and : isOf "and" gHas = false := rfl
theorem fc_and : decide (("and" : Str) = "count") = false := rfl
theorem fw_and : decide (("and" : Str) = "within") = false := rfl
theorem fu_or (s : D) (t : D) : usedL "or" [s, t] = [] := rfl
theorem fb_or (s : D) (t : D) : boundL "or" [s, t] = [] := rfl
theorem fi_or (s : D) (t : D) : innerL "or" [s, t] = [s, t] := rfl
theorem fl_or : lenN.lookup ("or" : Str) = some 3 := rfl
theorem fh_or : isOf "or" gHas = false := rfl
theorem fc_or : decide (("or" : Str) = "count") = false := rfl
theorem fw_or : decide (("or" : Str) = "within") = false := rfl
theorem fu_some (x : Str) (s : D) : usedL "some" [.str x, s] = [] := rfl
theorem fb_some (x : Str) (s : D) : boundL "some" [.str x, s] = [.str x] := rfl
theorem fi_some (x : Str) (s : D) : innerL "some" [.str x, s] = [s] := rfl
theorem fl_some : lenN.lookup ("some" : Str) = some 3 := rfl
theorem fh_some : isOf "some" gHas = false := rfl
theorem fc_some : decide (("some" : Str) = "count") = false := rfl
theorem fw_some : decide (("some" : Str) = "within") = false := rfl
theorem fu_all (x : Str) (s : D) : usedL "all" [.str x, s] = [] := rfl
theorem fb_all (x : Str) (s : D) : boundL "all" [.str x, s] = [.str x] := rfl
theorem fi_all (x : Str) (s : D) : innerL "all" [.str x, s] = [s] := rfl
theorem fl_all : lenN.lookup ("all" : Str) = some 3 := rfl
theorem fh_all : isOf "all" gHas = false := rfl
theorem fc_all : decide (("all" : Str) = "count") = false := rfl
theorem fw_all : decide (("all" : Str) = "within") = false := rfl
theorem fu_count (x : Str) (k : D) (s : D) : usedL "count" [.str x, k, s] = [] := rfl
theorem fb_count (x : Str) (k : D) (s : D) : boundL "count" [.str x, k, s] = [.str x] := rfl
theorem fi_count (x : Str) (k : D) (s : D) : innerL "count" [.str x, k, s] = [s] := rfl
theorem fl_count : lenN.lookup ("count" : Str) = some 4 := rfl
theorem fh_count : isOf "count" gHas = false := rfl
theorem fc_count : decide (("count" : Str) = "count") = true := rfl
theorem fw_count : decide (("count" : Str) = "within") = false := rfl
theorem fu_way (x : Str) (y : Str) (s : D) (a : Str) (b : Str) : usedL "way" [.str x, .str y, s, .str a, .str b] = [.str a, .str b] := rfl
theorem fb_way (x : Str) (y : Str) (s : D) (a : Str) (b : Str) : boundL "way" [.str x, .str y, s, .str a, .str b] = [.str x, .str y] := rfl
theorem fi_way (x : Str) (y : Str) (s : D) (a : Str) (b : Str) : innerL "way" [.str x, .str y, s, .str a, .str b] = [s] := rfl
theorem fl_way : lenN.lookup ("way" : Str) = some 6 := rfl
theorem fh_way : isOf "way" gHas = false := rfl
theorem fc_way : decide (("way" : Str) = "count") = false := rfl
theorem fw_way : decide (("way" : Str) = "within") = false := rfl
theorem fu_within (m : Int) (x : Str) (y : Str) (s : D) (a : Str) (b : Str) : usedL "within" [.int m, .str x, .str y, s, .str a, .str b] = [.str a, .str b] := rfl
theorem fb_within (m : Int) (x : Str) (y : Str) (s : D) (a : Str) (b : Str) : boundL "within" [.int m, .str x, .str y, s, .str a, .str b] = [.str x, .str y] := rfl
theorem fi_within (m : Int) (x : Str) (y : Str) (s : D) (a : Str) (b : Str) : innerL "within" [.int m, .str x, .str y, s, .str a, .str b] = [s] := rfl
theorem fl_within : lenN.lookup ("within" : Str) = some 7 := rfl
theorem fh_within : isOf "within" gHas = false := rfl
theorem fc_within : decide (("within" : Str) = "count") = false := rfl
theorem fw_within : decide (("within" : Str) = "within") = true := rfl
theorem say_ok : ∀ (s : Say Str) (n : Nat) (ns : List Str), Nmd s.nms → isSay n s.d ns = (decide (s.deep ≤ n) && s.ok ns) := by
  intro s
  induction s with
  | has t a =>
    intro n ns hn
    rw [d_head]
    cases n with
    | zero => rfl
    | succ n =>
      rw [say_step]
      simp only [headOf]
      have ht : isNm (.str t) = true := hn t (by simp [Say.nms])
      have ha : isNm (.str a) = true := hn a (by simp [Say.nms])
      simp only [isHdX, fu_has, fb_has, fi_has, fl_has, fh_has, fc_has, fw_has, fu_link, fb_link, fi_link, fl_link, fh_link, fc_link, fw_link, fu_same, fb_same, fi_same, fl_same, fh_same, fc_same, fw_same, fu_less, fb_less, fi_less, fl_less, fh_less, fc_less, fw_less, fu_not, fb_not, fi_not, fl_not, fh_not, fc_not, fw_not, fu_and, fb_and, fi_and, fl_and, fh_and, fc_and, fw_and, fu_or, fb_or, fi_or, fl_or, fh_or, fc_or, fw_or, fu_some, fb_some, fi_some, fl_some, fh_some, fc_some, fw_some, fu_all, fb_all, fi_all, fl_all, fh_all, fc_all, fw_all, fu_count, fb_count, fi_count, fl_count, fh_count, fc_count, fw_count, fu_way, fb_way, fi_way, fl_way, fh_way, fc_way, fw_way, fu_within, fb_within, fi_within, fl_within, fh_within, fc_within, fw_within, List.all_cons, List.all_nil, Bool.and_true, Bool.true_and, Bool.not_true, Bool.not_false, Bool.false_or, Bool.true_or, Bool.or_true, List.getD_cons_zero, List.getD_cons_succ, apart, List.length_cons, List.length_nil, Nat.zero_add, decide_true, ht, ha, inN_str]
      rw [show decide ((some 3 : Option Int) = some (((1 + 1 : Nat) : Int) + 1)) = true from rfl]
      have hd : decide ((Say.has t a).deep ≤ n + 1) = true := d1 n
      simp only [hd, Say.ok, le6_eq, so0, so1, so2, List.append_nil, Nat.add_zero, tst_ok, num08, Bool.true_and]
      first | done | rfl | ac_rfl
  | link t a b =>
    intro n ns hn
    rw [d_head]
    cases n with
    | zero => rfl
    | succ n =>
      rw [say_step]
      simp only [headOf]
      have ht : isNm (.str t) = true := hn t (by simp [Say.nms])
      have ha : isNm (.str a) = true := hn a (by simp [Say.nms])
      have hb : isNm (.str b) = true := hn b (by simp [Say.nms])
      simp only [isHdX, fu_has, fb_has, fi_has, fl_has, fh_has, fc_has, fw_has, fu_link, fb_link, fi_link, fl_link, fh_link, fc_link, fw_link, fu_same, fb_same, fi_same, fl_same, fh_same, fc_same, fw_same, fu_less, fb_less, fi_less, fl_less, fh_less, fc_less, fw_less, fu_not, fb_not, fi_not, fl_not, fh_not, fc_not, fw_not, fu_and, fb_and, fi_and, fl_and, fh_and, fc_and, fw_and, fu_or, fb_or, fi_or, fl_or, fh_or, fc_or, fw_or, fu_some, fb_some, fi_some, fl_some, fh_some, fc_some, fw_some, fu_all, fb_all, fi_all, fl_all, fh_all, fc_all, fw_all, fu_count, fb_count, fi_count, fl_count, fh_count, fc_count, fw_count, fu_way, fb_way, fi_way, fl_way, fh_way, fc_way, fw_way, fu_within, fb_within, fi_within, fl_within, fh_within, fc_within, fw_within, List.all_cons, List.all_nil, Bool.and_true, Bool.true_and, Bool.not_true, Bool.not_false, Bool.false_or, Bool.true_or, Bool.or_true, List.getD_cons_zero, List.getD_cons_succ, apart, List.length_cons, List.length_nil, Nat.zero_add, decide_true, ht, ha, hb, inN_str]
      rw [show decide ((some 4 : Option Int) = some (((1 + 1 + 1 : Nat) : Int) + 1)) = true from rfl]
      have hd : decide ((Say.link t a b).deep ≤ n + 1) = true := d1 n
      simp only [hd, Say.ok, le6_eq, so0, so1, so2, List.append_nil, Nat.add_zero, tst_ok, num08, Bool.true_and]
      first | done | rfl | ac_rfl
  | same a b =>
    intro n ns hn
    rw [d_head]
    cases n with
    | zero => rfl
    | succ n =>
      rw [say_step]
      simp only [headOf]
      have ha : isNm (.str a) = true := hn a (by simp [Say.nms])
      have hb : isNm (.str b) = true := hn b (by simp [Say.nms])
      simp only [isHdX, fu_has, fb_has, fi_has, fl_has, fh_has, fc_has, fw_has, fu_link, fb_link, fi_link, fl_link, fh_link, fc_link, fw_link, fu_same, fb_same, fi_same, fl_same, fh_same, fc_same, fw_same, fu_less, fb_less, fi_less, fl_less, fh_less, fc_less, fw_less, fu_not, fb_not, fi_not, fl_not, fh_not, fc_not, fw_not, fu_and, fb_and, fi_and, fl_and, fh_and, fc_and, fw_and, fu_or, fb_or, fi_or, fl_or, fh_or, fc_or, fw_or, fu_some, fb_some, fi_some, fl_some, fh_some, fc_some, fw_some, fu_all, fb_all, fi_all, fl_all, fh_all, fc_all, fw_all, fu_count, fb_count, fi_count, fl_count, fh_count, fc_count, fw_count, fu_way, fb_way, fi_way, fl_way, fh_way, fc_way, fw_way, fu_within, fb_within, fi_within, fl_within, fh_within, fc_within, fw_within, List.all_cons, List.all_nil, Bool.and_true, Bool.true_and, Bool.not_true, Bool.not_false, Bool.false_or, Bool.true_or, Bool.or_true, List.getD_cons_zero, List.getD_cons_succ, apart, List.length_cons, List.length_nil, Nat.zero_add, decide_true, ha, hb, inN_str]
      rw [show decide ((some 3 : Option Int) = some (((1 + 1 : Nat) : Int) + 1)) = true from rfl]
      have hd : decide ((Say.same a b).deep ≤ n + 1) = true := d1 n
      simp only [hd, Say.ok, le6_eq, so0, so1, so2, List.append_nil, Nat.add_zero, tst_ok, num08, Bool.true_and]
      first | done | rfl | ac_rfl
  | less a b =>
    intro n ns hn
    rw [d_head]
    cases n with
    | zero => rfl
    | succ n =>
      rw [say_step]
      simp only [headOf]
      have ha : isNm (.str a) = true := hn a (by simp [Say.nms])
      have hb : isNm (.str b) = true := hn b (by simp [Say.nms])
      simp only [isHdX, fu_has, fb_has, fi_has, fl_has, fh_has, fc_has, fw_has, fu_link, fb_link, fi_link, fl_link, fh_link, fc_link, fw_link, fu_same, fb_same, fi_same, fl_same, fh_same, fc_same, fw_same, fu_less, fb_less, fi_less, fl_less, fh_less, fc_less, fw_less, fu_not, fb_not, fi_not, fl_not, fh_not, fc_not, fw_not, fu_and, fb_and, fi_and, fl_and, fh_and, fc_and, fw_and, fu_or, fb_or, fi_or, fl_or, fh_or, fc_or, fw_or, fu_some, fb_some, fi_some, fl_some, fh_some, fc_some, fw_some, fu_all, fb_all, fi_all, fl_all, fh_all, fc_all, fw_all, fu_count, fb_count, fi_count, fl_count, fh_count, fc_count, fw_count, fu_way, fb_way, fi_way, fl_way, fh_way, fc_way, fw_way, fu_within, fb_within, fi_within, fl_within, fh_within, fc_within, fw_within, List.all_cons, List.all_nil, Bool.and_true, Bool.true_and, Bool.not_true, Bool.not_false, Bool.false_or, Bool.true_or, Bool.or_true, List.getD_cons_zero, List.getD_cons_succ, apart, List.length_cons, List.length_nil, Nat.zero_add, decide_true, ha, hb, inN_str]
      rw [show decide ((some 3 : Option Int) = some (((1 + 1 : Nat) : Int) + 1)) = true from rfl]
      have hd : decide ((Say.less a b).deep ≤ n + 1) = true := d1 n
      simp only [hd, Say.ok, le6_eq, so0, so1, so2, List.append_nil, Nat.add_zero, tst_ok, num08, Bool.true_and]
      first | done | rfl | ac_rfl
  | not s ihs =>
    intro n ns hn
    rw [d_head]
    cases n with
    | zero => rfl
    | succ n =>
      rw [say_step]
      simp only [headOf]
      simp only [isHdX, fu_has, fb_has, fi_has, fl_has, fh_has, fc_has, fw_has, fu_link, fb_link, fi_link, fl_link, fh_link, fc_link, fw_link, fu_same, fb_same, fi_same, fl_same, fh_same, fc_same, fw_same, fu_less, fb_less, fi_less, fl_less, fh_less, fc_less, fw_less, fu_not, fb_not, fi_not, fl_not, fh_not, fc_not, fw_not, fu_and, fb_and, fi_and, fl_and, fh_and, fc_and, fw_and, fu_or, fb_or, fi_or, fl_or, fh_or, fc_or, fw_or, fu_some, fb_some, fi_some, fl_some, fh_some, fc_some, fw_some, fu_all, fb_all, fi_all, fl_all, fh_all, fc_all, fw_all, fu_count, fb_count, fi_count, fl_count, fh_count, fc_count, fw_count, fu_way, fb_way, fi_way, fl_way, fh_way, fc_way, fw_way, fu_within, fb_within, fi_within, fl_within, fh_within, fc_within, fw_within, List.all_cons, List.all_nil, Bool.and_true, Bool.true_and, Bool.not_true, Bool.not_false, Bool.false_or, Bool.true_or, Bool.or_true, List.getD_cons_zero, List.getD_cons_succ, apart, List.length_cons, List.length_nil, Nat.zero_add, decide_true, inN_str]
      rw [show decide ((some 2 : Option Int) = some (((1 : Nat) : Int) + 1)) = true from rfl]
      have es : ∀ ns', isSay n s.d ns' = (decide (s.deep ≤ n) && s.ok ns') := fun ns' => ihs n ns' fun y hy => hn y (by simp [Say.nms, hy])
      have hd : decide ((Say.not s).deep ≤ n + 1) = decide (s.deep ≤ n) := dle1 _ _
      simp only [hd, Say.ok, le6_eq, so0, so1, so2, List.append_nil, Nat.add_zero, tst_ok, num08, Bool.true_and, es]
      first | done | rfl | ac_rfl
  | and s t ihs iht =>
    intro n ns hn
    rw [d_head]
    cases n with
    | zero => rfl
    | succ n =>
      rw [say_step]
      simp only [headOf]
      simp only [isHdX, fu_has, fb_has, fi_has, fl_has, fh_has, fc_has, fw_has, fu_link, fb_link, fi_link, fl_link, fh_link, fc_link, fw_link, fu_same, fb_same, fi_same, fl_same, fh_same, fc_same, fw_same, fu_less, fb_less, fi_less, fl_less, fh_less, fc_less, fw_less, fu_not, fb_not, fi_not, fl_not, fh_not, fc_not, fw_not, fu_and, fb_and, fi_and, fl_and, fh_and, fc_and, fw_and, fu_or, fb_or, fi_or, fl_or, fh_or, fc_or, fw_or, fu_some, fb_some, fi_some, fl_some, fh_some, fc_some, fw_some, fu_all, fb_all, fi_all, fl_all, fh_all, fc_all, fw_all, fu_count, fb_count, fi_count, fl_count, fh_count, fc_count, fw_count, fu_way, fb_way, fi_way, fl_way, fh_way, fc_way, fw_way, fu_within, fb_within, fi_within, fl_within, fh_within, fc_within, fw_within, List.all_cons, List.all_nil, Bool.and_true, Bool.true_and, Bool.not_true, Bool.not_false, Bool.false_or, Bool.true_or, Bool.or_true, List.getD_cons_zero, List.getD_cons_succ, apart, List.length_cons, List.length_nil, Nat.zero_add, decide_true, inN_str]
      rw [show decide ((some 3 : Option Int) = some (((1 + 1 : Nat) : Int) + 1)) = true from rfl]
      have es : ∀ ns', isSay n s.d ns' = (decide (s.deep ≤ n) && s.ok ns') := fun ns' => ihs n ns' fun y hy => hn y (by simp [Say.nms, hy])
      have et : ∀ ns', isSay n t.d ns' = (decide (t.deep ≤ n) && t.ok ns') := fun ns' => iht n ns' fun y hy => hn y (by simp [Say.nms, hy])
      have hd : decide ((Say.and s t).deep ≤ n + 1) = (decide (s.deep ≤ n) && decide (t.deep ≤ n)) := dmx _ _ _
      simp only [hd, Say.ok, le6_eq, so0, so1, so2, List.append_nil, Nat.add_zero, tst_ok, num08, Bool.true_and, es, et]
      first | done | rfl | ac_rfl
  | or s t ihs iht =>
    intro n ns hn
    rw [d_head]
    cases n with
    | zero => rfl
    | succ n =>
      rw [say_step]
      simp only [headOf]
      simp only [isHdX, fu_has, fb_has, fi_has, fl_has, fh_has, fc_has, fw_has, fu_link, fb_link, fi_link, fl_link, fh_link, fc_link, fw_link, fu_same, fb_same, fi_same, fl_same, fh_same, fc_same, fw_same, fu_less, fb_less, fi_less, fl_less, fh_less, fc_less, fw_less, fu_not, fb_not, fi_not, fl_not, fh_not, fc_not, fw_not, fu_and, fb_and, fi_and, fl_and, fh_and, fc_and, fw_and, fu_or, fb_or, fi_or, fl_or, fh_or, fc_or, fw_or, fu_some, fb_some, fi_some, fl_some, fh_some, fc_some, fw_some, fu_all, fb_all, fi_all, fl_all, fh_all, fc_all, fw_all, fu_count, fb_count, fi_count, fl_count, fh_count, fc_count, fw_count, fu_way, fb_way, fi_way, fl_way, fh_way, fc_way, fw_way, fu_within, fb_within, fi_within, fl_within, fh_within, fc_within, fw_within, List.all_cons, List.all_nil, Bool.and_true, Bool.true_and, Bool.not_true, Bool.not_false, Bool.false_or, Bool.true_or, Bool.or_true, List.getD_cons_zero, List.getD_cons_succ, apart, List.length_cons, List.length_nil, Nat.zero_add, decide_true, inN_str]
      rw [show decide ((some 3 : Option Int) = some (((1 + 1 : Nat) : Int) + 1)) = true from rfl]
      have es : ∀ ns', isSay n s.d ns' = (decide (s.deep ≤ n) && s.ok ns') := fun ns' => ihs n ns' fun y hy => hn y (by simp [Say.nms, hy])
      have et : ∀ ns', isSay n t.d ns' = (decide (t.deep ≤ n) && t.ok ns') := fun ns' => iht n ns' fun y hy => hn y (by simp [Say.nms, hy])
      have hd : decide ((Say.or s t).deep ≤ n + 1) = (decide (s.deep ≤ n) && decide (t.deep ≤ n)) := dmx _ _ _
      simp only [hd, Say.ok, le6_eq, so0, so1, so2, List.append_nil, Nat.add_zero, tst_ok, num08, Bool.true_and, es, et]
      first | done | rfl | ac_rfl
  | some x s ihs =>
    intro n ns hn
    rw [d_head]
    cases n with
    | zero => rfl
    | succ n =>
      rw [say_step]
      simp only [headOf]
      have hx : isNm (.str x) = true := hn x (by simp [Say.nms])
      simp only [isHdX, fu_has, fb_has, fi_has, fl_has, fh_has, fc_has, fw_has, fu_link, fb_link, fi_link, fl_link, fh_link, fc_link, fw_link, fu_same, fb_same, fi_same, fl_same, fh_same, fc_same, fw_same, fu_less, fb_less, fi_less, fl_less, fh_less, fc_less, fw_less, fu_not, fb_not, fi_not, fl_not, fh_not, fc_not, fw_not, fu_and, fb_and, fi_and, fl_and, fh_and, fc_and, fw_and, fu_or, fb_or, fi_or, fl_or, fh_or, fc_or, fw_or, fu_some, fb_some, fi_some, fl_some, fh_some, fc_some, fw_some, fu_all, fb_all, fi_all, fl_all, fh_all, fc_all, fw_all, fu_count, fb_count, fi_count, fl_count, fh_count, fc_count, fw_count, fu_way, fb_way, fi_way, fl_way, fh_way, fc_way, fw_way, fu_within, fb_within, fi_within, fl_within, fh_within, fc_within, fw_within, List.all_cons, List.all_nil, Bool.and_true, Bool.true_and, Bool.not_true, Bool.not_false, Bool.false_or, Bool.true_or, Bool.or_true, List.getD_cons_zero, List.getD_cons_succ, apart, List.length_cons, List.length_nil, Nat.zero_add, decide_true, hx, inN_str]
      rw [show decide ((some 3 : Option Int) = some (((1 + 1 : Nat) : Int) + 1)) = true from rfl]
      have es : ∀ ns', isSay n s.d ns' = (decide (s.deep ≤ n) && s.ok ns') := fun ns' => ihs n ns' fun y hy => hn y (by simp [Say.nms, hy])
      have hd : decide ((Say.some x s).deep ≤ n + 1) = decide (s.deep ≤ n) := dle1 _ _
      simp only [hd, Say.ok, le6_eq, so0, so1, so2, List.append_nil, Nat.add_zero, tst_ok, num08, Bool.true_and, es]
      first | done | rfl | ac_rfl
  | all x s ihs =>
    intro n ns hn
    rw [d_head]
    cases n with
    | zero => rfl
    | succ n =>
      rw [say_step]
      simp only [headOf]
      have hx : isNm (.str x) = true := hn x (by simp [Say.nms])
      simp only [isHdX, fu_has, fb_has, fi_has, fl_has, fh_has, fc_has, fw_has, fu_link, fb_link, fi_link, fl_link, fh_link, fc_link, fw_link, fu_same, fb_same, fi_same, fl_same, fh_same, fc_same, fw_same, fu_less, fb_less, fi_less, fl_less, fh_less, fc_less, fw_less, fu_not, fb_not, fi_not, fl_not, fh_not, fc_not, fw_not, fu_and, fb_and, fi_and, fl_and, fh_and, fc_and, fw_and, fu_or, fb_or, fi_or, fl_or, fh_or, fc_or, fw_or, fu_some, fb_some, fi_some, fl_some, fh_some, fc_some, fw_some, fu_all, fb_all, fi_all, fl_all, fh_all, fc_all, fw_all, fu_count, fb_count, fi_count, fl_count, fh_count, fc_count, fw_count, fu_way, fb_way, fi_way, fl_way, fh_way, fc_way, fw_way, fu_within, fb_within, fi_within, fl_within, fh_within, fc_within, fw_within, List.all_cons, List.all_nil, Bool.and_true, Bool.true_and, Bool.not_true, Bool.not_false, Bool.false_or, Bool.true_or, Bool.or_true, List.getD_cons_zero, List.getD_cons_succ, apart, List.length_cons, List.length_nil, Nat.zero_add, decide_true, hx, inN_str]
      rw [show decide ((some 3 : Option Int) = some (((1 + 1 : Nat) : Int) + 1)) = true from rfl]
      have es : ∀ ns', isSay n s.d ns' = (decide (s.deep ≤ n) && s.ok ns') := fun ns' => ihs n ns' fun y hy => hn y (by simp [Say.nms, hy])
      have hd : decide ((Say.all x s).deep ≤ n + 1) = decide (s.deep ≤ n) := dle1 _ _
      simp only [hd, Say.ok, le6_eq, so0, so1, so2, List.append_nil, Nat.add_zero, tst_ok, num08, Bool.true_and, es]
      first | done | rfl | ac_rfl
  | count x k s ihs =>
    intro n ns hn
    rw [d_head]
    cases n with
    | zero => rfl
    | succ n =>
      rw [say_step]
      simp only [headOf]
      have hx : isNm (.str x) = true := hn x (by simp [Say.nms])
      simp only [isHdX, fu_has, fb_has, fi_has, fl_has, fh_has, fc_has, fw_has, fu_link, fb_link, fi_link, fl_link, fh_link, fc_link, fw_link, fu_same, fb_same, fi_same, fl_same, fh_same, fc_same, fw_same, fu_less, fb_less, fi_less, fl_less, fh_less, fc_less, fw_less, fu_not, fb_not, fi_not, fl_not, fh_not, fc_not, fw_not, fu_and, fb_and, fi_and, fl_and, fh_and, fc_and, fw_and, fu_or, fb_or, fi_or, fl_or, fh_or, fc_or, fw_or, fu_some, fb_some, fi_some, fl_some, fh_some, fc_some, fw_some, fu_all, fb_all, fi_all, fl_all, fh_all, fc_all, fw_all, fu_count, fb_count, fi_count, fl_count, fh_count, fc_count, fw_count, fu_way, fb_way, fi_way, fl_way, fh_way, fc_way, fw_way, fu_within, fb_within, fi_within, fl_within, fh_within, fc_within, fw_within, List.all_cons, List.all_nil, Bool.and_true, Bool.true_and, Bool.not_true, Bool.not_false, Bool.false_or, Bool.true_or, Bool.or_true, List.getD_cons_zero, List.getD_cons_succ, apart, List.length_cons, List.length_nil, Nat.zero_add, decide_true, hx, inN_str]
      rw [show decide ((some 4 : Option Int) = some (((1 + 1 + 1 : Nat) : Int) + 1)) = true from rfl]
      have es : ∀ ns', isSay n s.d ns' = (decide (s.deep ≤ n) && s.ok ns') := fun ns' => ihs n ns' fun y hy => hn y (by simp [Say.nms, hy])
      have hd : decide ((Say.count x k s).deep ≤ n + 1) = decide (s.deep ≤ n) := dle1 _ _
      simp only [hd, Say.ok, le6_eq, so0, so1, so2, List.append_nil, Nat.add_zero, tst_ok, num08, Bool.true_and, es]
      first | done | rfl | ac_rfl
  | way x y s a b ihs =>
    intro n ns hn
    rw [d_head]
    cases n with
    | zero => rfl
    | succ n =>
      rw [say_step]
      simp only [headOf]
      have hx : isNm (.str x) = true := hn x (by simp [Say.nms])
      have hy : isNm (.str y) = true := hn y (by simp [Say.nms])
      have ha : isNm (.str a) = true := hn a (by simp [Say.nms])
      have hb : isNm (.str b) = true := hn b (by simp [Say.nms])
      simp only [isHdX, fu_has, fb_has, fi_has, fl_has, fh_has, fc_has, fw_has, fu_link, fb_link, fi_link, fl_link, fh_link, fc_link, fw_link, fu_same, fb_same, fi_same, fl_same, fh_same, fc_same, fw_same, fu_less, fb_less, fi_less, fl_less, fh_less, fc_less, fw_less, fu_not, fb_not, fi_not, fl_not, fh_not, fc_not, fw_not, fu_and, fb_and, fi_and, fl_and, fh_and, fc_and, fw_and, fu_or, fb_or, fi_or, fl_or, fh_or, fc_or, fw_or, fu_some, fb_some, fi_some, fl_some, fh_some, fc_some, fw_some, fu_all, fb_all, fi_all, fl_all, fh_all, fc_all, fw_all, fu_count, fb_count, fi_count, fl_count, fh_count, fc_count, fw_count, fu_way, fb_way, fi_way, fl_way, fh_way, fc_way, fw_way, fu_within, fb_within, fi_within, fl_within, fh_within, fc_within, fw_within, List.all_cons, List.all_nil, Bool.and_true, Bool.true_and, Bool.not_true, Bool.not_false, Bool.false_or, Bool.true_or, Bool.or_true, List.getD_cons_zero, List.getD_cons_succ, apart, List.length_cons, List.length_nil, Nat.zero_add, decide_true, hx, hy, ha, hb, inN_str]
      rw [show decide ((some 6 : Option Int) = some (((1 + 1 + 1 + 1 + 1 : Nat) : Int) + 1)) = true from rfl]
      have es : ∀ ns', isSay n s.d ns' = (decide (s.deep ≤ n) && s.ok ns') := fun ns' => ihs n ns' fun y hy => hn y (by simp [Say.nms, hy])
      have hd : decide ((Say.way x y s a b).deep ≤ n + 1) = decide (s.deep ≤ n) := dle1 _ _
      simp only [hd, Say.ok, le6_eq, so0, so1, so2, List.append_nil, Nat.add_zero, tst_ok, num08, Bool.true_and, es]
      first | done | rfl | ac_rfl
  | within m x y s a b ihs =>
    intro n ns hn
    rw [d_head]
    cases n with
    | zero => rfl
    | succ n =>
      rw [say_step]
      simp only [headOf]
      have hx : isNm (.str x) = true := hn x (by simp [Say.nms])
      have hy : isNm (.str y) = true := hn y (by simp [Say.nms])
      have ha : isNm (.str a) = true := hn a (by simp [Say.nms])
      have hb : isNm (.str b) = true := hn b (by simp [Say.nms])
      simp only [isHdX, fu_has, fb_has, fi_has, fl_has, fh_has, fc_has, fw_has, fu_link, fb_link, fi_link, fl_link, fh_link, fc_link, fw_link, fu_same, fb_same, fi_same, fl_same, fh_same, fc_same, fw_same, fu_less, fb_less, fi_less, fl_less, fh_less, fc_less, fw_less, fu_not, fb_not, fi_not, fl_not, fh_not, fc_not, fw_not, fu_and, fb_and, fi_and, fl_and, fh_and, fc_and, fw_and, fu_or, fb_or, fi_or, fl_or, fh_or, fc_or, fw_or, fu_some, fb_some, fi_some, fl_some, fh_some, fc_some, fw_some, fu_all, fb_all, fi_all, fl_all, fh_all, fc_all, fw_all, fu_count, fb_count, fi_count, fl_count, fh_count, fc_count, fw_count, fu_way, fb_way, fi_way, fl_way, fh_way, fc_way, fw_way, fu_within, fb_within, fi_within, fl_within, fh_within, fc_within, fw_within, List.all_cons, List.all_nil, Bool.and_true, Bool.true_and, Bool.not_true, Bool.not_false, Bool.false_or, Bool.true_or, Bool.or_true, List.getD_cons_zero, List.getD_cons_succ, apart, List.length_cons, List.length_nil, Nat.zero_add, decide_true, hx, hy, ha, hb, inN_str]
      rw [show decide ((some 7 : Option Int) = some (((1 + 1 + 1 + 1 + 1 + 1 : Nat) : Int) + 1)) = true from rfl]
      have es : ∀ ns', isSay n s.d ns' = (decide (s.deep ≤ n) && s.ok ns') := fun ns' => ihs n ns' fun y hy => hn y (by simp [Say.nms, hy])
      have hd : decide ((Say.within m x y s a b).deep ≤ n + 1) = decide (s.deep ≤ n) := dle1 _ _
      simp only [hd, Say.ok, le6_eq, so0, so1, so2, List.append_nil, Nat.add_zero, tst_ok, num08, Bool.true_and, es]
      first | done | rfl | ac_rfl
end LW
set_option Elab.async false
set_option linter.all false
set_option maxRecDepth 100000
set_option maxHeartbeats 4000000
set_option pp.maxSteps 400
/-! sayings: forms, agree, what may be looked at, what is plain; each accepted value is a saying -/
namespace LW
open PySem PySem.Spec PyProof.Rows L2 EV PySem.XO PySem.W LamX
theorem inner_kids (s : Say Str) : innerL (headOf s).1 (headOf s).2 = s.kids.map Say.d := by cases s <;> rfl
theorem kids_deep {s p : Say Str} {n : Nat} (h : s.deep ≤ n + 1) (hp : p ∈ s.kids) : p.deep ≤ n := by
  have two : ∀ a b : Say Str, Nat.max a.deep b.deep + 1 ≤ n + 1 → p = a ∨ p = b → p.deep ≤ n := fun a b h e => by
    have h1 := Nat.le_max_left a.deep b.deep
    have h2 := Nat.le_max_right a.deep b.deep
    have e2 : Nat.max a.deep b.deep = max a.deep b.deep := rfl
    rcases e with rfl | rfl <;> omega
  cases s <;> simp only [Say.kids, List.mem_cons, List.not_mem_nil, or_false] at hp <;> simp only [Say.deep] at h <;> first
    | (subst hp; omega)
    | exact two _ _ h hp
    | cases hp
theorem kids_nms {s p : Say Str} (hp : p ∈ s.kids) : ∀ y ∈ p.nms, y ∈ s.nms := by
  intro y hy
  cases s <;> simp only [Say.kids, List.mem_cons, List.not_mem_nil, or_false] at hp <;> first
    | (subst hp; simp [Say.nms, hy])
    | (rcases hp with rfl | rfl <;> simp [Say.nms, hy])
    | cases hp
theorem forms_kids {α : Type} (s : Say α) : s.forms = s :: s.kids.flatMap Say.forms := by cases s <;> simp [Say.forms, Say.kids]
theorem forms_ok : ∀ (n : Nat) (s : Say Str), s.deep ≤ n → formsL n s.d = s.forms.map Say.d
  | 0, s, h => by have := s.deep_pos; omega
  | n + 1, s, h => by
    rw [forms_kids, List.map_cons, d_head]
    show _ :: (innerL (headOf s).1 (headOf s).2).flatMap (formsL n) = _
    rw [inner_kids, List.flatMap_map, List.map_flatMap]
    congr 1
    have : ∀ l : List (Say Str), (∀ p ∈ l, p.deep ≤ n) → l.flatMap (fun p => formsL n p.d) = l.flatMap fun p => p.forms.map Say.d := by
      intro l
      induction l with
      | nil => intro _; rfl
      | cons p l ih =>
        intro hl
        rw [List.flatMap_cons, List.flatMap_cons, ih fun q hq => hl q (List.mem_cons_of_mem _ hq), forms_ok n p (hl p (by simp))]
    exact this s.kids fun p hp => kids_deep h hp
/-! ### agree -/
def tabOf : Say Str → Option (Str × Nat)
  | .has t _ => some (t, 1)
  | .link t _ _ => some (t, 2)
  | _ => none
theorem tabs_forms : ∀ s : Say Str, s.tabs = s.forms.filterMap tabOf
  | .has t a => rfl
  | .link t a b => rfl
  | .same a b => rfl
  | .less a b => rfl
  | .not s => by simp [Say.tabs, Say.forms, tabOf, List.filterMap_cons, List.filterMap_append, tabs_forms s]
  | .and s t => by simp [Say.tabs, Say.forms, tabOf, List.filterMap_cons, List.filterMap_append, tabs_forms s, tabs_forms t]
  | .or s t => by simp [Say.tabs, Say.forms, tabOf, List.filterMap_cons, List.filterMap_append, tabs_forms s, tabs_forms t]
  | .some x s => by simp [Say.tabs, Say.forms, tabOf, List.filterMap_cons, List.filterMap_append, tabs_forms s]
  | .all x s => by simp [Say.tabs, Say.forms, tabOf, List.filterMap_cons, List.filterMap_append, tabs_forms s]
  | .count x k s => by simp [Say.tabs, Say.forms, tabOf, List.filterMap_cons, List.filterMap_append, tabs_forms s]
  | .way x y s a b => by simp [Say.tabs, Say.forms, tabOf, List.filterMap_cons, List.filterMap_append, tabs_forms s]
  | .within m x y s a b => by simp [Say.tabs, Say.forms, tabOf, List.filterMap_cons, List.filterMap_append, tabs_forms s]
def lkD (p : Str × Nat) : Str × Str := (p.1, if p.2 = 1 then "has" else "link")
theorem looks_tabs (l : List (Say Str)) : (looksL (l.map Say.d)).map (fun d => (lkY d, lkZ d)) = (l.filterMap tabOf).map lkD := by
  unfold looksL
  induction l with
  | nil => rfl
  | cons s l ih =>
    cases s <;> (rw [List.map_cons, List.filter_cons, List.filterMap_cons]; first | exact ih | exact congrArg (_ :: ·) ih)
theorem tabs_places (s : Say Str) : ∀ p ∈ s.tabs, p.2 = 1 ∨ p.2 = 2 := by
  rw [tabs_forms]
  intro p hp
  obtain ⟨f, _, hf⟩ := List.mem_filterMap.mp hp
  cases f <;> simp [tabOf] at hf <;> subst hf <;> simp
theorem agreeL_map (l : List D) : agreeL l = (l.map fun d => (lkY d, lkZ d)).all fun a => (l.map fun d => (lkY d, lkZ d)).all fun b => !decide (a.1 = b.1) || decide (a.2 = b.2) := by
  unfold agreeL
  simp only [List.all_map, Function.comp_def]
theorem agree_ok (s : Say Str) : agreeL (looksL (s.forms.map Say.d)) = Say.agreeB s.tabs := by
  rw [agreeL_map, looks_tabs, ← tabs_forms]
  unfold Say.agreeB
  simp only [List.all_map, Function.comp_def]
  have h := tabs_places s
  have hc : ∀ a ∈ s.tabs, ∀ b ∈ s.tabs, (!decide ((lkD a).1 = (lkD b).1) || decide ((lkD a).2 = (lkD b).2)) = (!decide (a.1 = b.1) || decide (a.2 = b.2)) := fun a ha b hb => by
    have ne1 : ("has" : Str) ≠ "link" := by decide +kernel
    obtain ⟨a1, a2⟩ := a
    obtain ⟨b1, b2⟩ := b
    rcases h _ ha with e | e <;> rcases h _ hb with e' | e' <;> dsimp only at e e' <;> subst e e' <;> simp [lkD, ne1, Ne.symm ne1]
  rw [Bool.eq_iff_iff, List.all_eq_true, List.all_eq_true]
  refine forall_congr' fun a => forall_congr' fun ha => ?_
  rw [List.all_eq_true, List.all_eq_true]
  exact forall_congr' fun b => forall_congr' fun hb => by rw [hc a ha b hb]
theorem say_bad {s : Say Str} {ns : List Str} (h : Nmd s.nms) : sayBad s.d ns = !s.good ns := by
  unfold sayBad Say.good
  rw [say_ok s 6 ns h]
  by_cases hd : s.deep ≤ 6
  · rw [decide_eq_true hd, Bool.true_and, forms_ok 6 s hd, List.length_map, agree_ok]
    have e : decide (12 < s.forms.length) = !decide (s.forms.length ≤ 12) := by
      by_cases h : s.forms.length ≤ 12
      · rw [decide_eq_true h, decide_eq_false (by omega)]; rfl
      · rw [decide_eq_false h, decide_eq_true (by omega)]; rfl
    rw [e]
    simp only [Bool.not_and]
  · rw [decide_eq_false hd]; rfl
/-! ### what may be looked at, what is plain -/
theorem nm_flat {y : Str} (h : isNm (.str y) = true) : Flat (.str y) := flat_str (by have := nm_len h; omega)
theorem tst_test (k : Tst) : TestOk k.d := by
  cases k <;> exact ⟨rfl, fun xs e => by
    cases e
    refine ⟨fun x hx => ?_, fun _ => ⟨_, _, rfl⟩⟩
    simp only [List.mem_cons, List.not_mem_nil, or_false] at hx
    rcases hx with rfl | rfl | rfl <;> rfl⟩
/-- an item of a saying -/
def Itm (s : Say Str) (x : D) : Prop := (∃ y, x = .str y ∧ y ∈ s.nms) ∨ (∃ m : Nat, x = .int m) ∨ (∃ k : Tst, x = k.d ∧ 2 ≤ s.deep) ∨ ∃ p ∈ s.kids, x = p.d
theorem itm_of (s : Say Str) : ∀ x ∈ (headOf s).2, Itm s x := by
  intro x hx
  have two : ∀ p : Say Str, 2 ≤ p.deep + 1 := fun p => by have := p.deep_pos; omega
  cases s <;> simp only [headOf, List.mem_cons, List.not_mem_nil, or_false] at hx <;> rcases hx with rfl | rfl | rfl | rfl | rfl | rfl <;> first
    | exact .inl ⟨_, rfl, by simp [Say.nms]⟩
    | exact .inr (.inr (.inr ⟨_, by simp [Say.kids], rfl⟩))
    | exact .inr (.inl ⟨_, rfl⟩)
    | exact .inr (.inr (.inl ⟨_, rfl, two _⟩))
theorem ty_say (s : Say Str) : (tyD s.d).isSome = true := by rw [d_head]; rfl
theorem ty_tst (k : Tst) : (tyD k.d).isSome = true := by cases k <;> rfl
theorem itm_ty {s : Say Str} {x : D} (h : Itm s x) : (tyD x).isSome = true := by
  rcases h with ⟨y, rfl, _⟩ | ⟨m, rfl⟩ | ⟨k, rfl, _⟩ | ⟨p, _, rfl⟩
  · rfl
  · rfl
  · exact ty_tst k
  · exact ty_say p
theorem say_test (s : Say Str) : TestOk s.d := by
  rw [d_head]
  refine ⟨rfl, fun xs e => ?_⟩
  cases e
  refine ⟨fun x hx => ?_, fun _ => ⟨_, _, rfl⟩⟩
  rcases List.mem_cons.mp hx with rfl | hx
  · rfl
  · exact itm_ty (itm_of s x hx)
theorem tst_tup (k : Tst) : ∃ z t, k.d = .tup (.str z :: t) ∧ z.length ≤ 1000 ∧ t.length ≤ 2 ∧ ∀ x ∈ t, ∃ m : Nat, x = .int m := by
  cases k with
  | least k => exact ⟨_, _, rfl, by decide +kernel, by simp, fun x hx => by simp only [List.mem_cons, List.not_mem_nil, or_false] at hx; rcases hx with rfl | rfl <;> exact ⟨_, rfl⟩⟩
  | most k => exact ⟨_, _, rfl, by decide +kernel, by simp, fun x hx => by simp only [List.mem_cons, List.not_mem_nil, or_false] at hx; rcases hx with rfl | rfl <;> exact ⟨_, rfl⟩⟩
  | rest m r => exact ⟨_, _, rfl, by decide +kernel, by simp, fun x hx => by simp only [List.mem_cons, List.not_mem_nil, or_false] at hx; rcases hx with rfl | rfl <;> exact ⟨_, rfl⟩⟩
theorem head_len (s : Say Str) : (headOf s).1.length ≤ 1000 := by cases s <;> (simp only [headOf]; decide +kernel)
theorem tst_sy (k : Tst) : ∀ n, Sy n k.d
  | 0 => trivial
  | n + 1 => by
    obtain ⟨z, t, e, hz, ht, hx⟩ := tst_tup k
    rw [e]
    refine sy_tup (by simp only [List.length_cons]; omega) (fun x h => ?_) (fun v h => ?_) (fun x h => ?_)
    · rcases List.mem_cons.mp h with rfl | h
      · exact flat_str hz
      · obtain ⟨m, rfl⟩ := hx x h; exact ⟨rfl, fun y e => by cases e⟩
    · have : v ∈ (.str z :: t : List D) := List.mem_of_getElem? h
      rcases List.mem_cons.mp this with rfl | h
      · exact testOk_str
      · obtain ⟨m, rfl⟩ := hx v h; exact ⟨rfl, fun y e => by cases e⟩
    · rcases List.mem_cons.mp h with rfl | h
      · exact sy_atom rfl (fun xs e => by cases e) n
      · obtain ⟨m, rfl⟩ := hx x h; exact sy_atom rfl (fun xs e => by cases e) n
theorem say_sy : ∀ (n : Nat) (s : Say Str), Nmd s.nms → Sy n s.d
  | 0, _, _ => trivial
  | n + 1, s, hn => by
    have hl := d_len s
    have hi := itm_of s
    rw [d_head]
    refine sy_tup (by simp only [List.length_cons]; omega) (fun x h => ?_) (fun v h => ?_) (fun x h => ?_)
    · rcases List.mem_cons.mp h with rfl | h
      · exact flat_str (head_len s)
      · rcases hi x h with ⟨y, rfl, hy⟩ | ⟨m, rfl⟩ | ⟨k, rfl, _⟩ | ⟨p, _, rfl⟩
        · exact nm_flat (hn y hy)
        · exact ⟨rfl, fun y e => by cases e⟩
        · cases k <;> exact flat_tup
        · rw [d_head]; exact flat_tup
    · have : v ∈ (.str (headOf s).1 :: (headOf s).2 : List D) := List.mem_of_getElem? h
      rcases List.mem_cons.mp this with rfl | h
      · exact testOk_str
      · rcases hi v h with ⟨y, rfl, hy⟩ | ⟨m, rfl⟩ | ⟨k, rfl, _⟩ | ⟨p, _, rfl⟩
        · exact testOk_str
        · exact ⟨rfl, fun y e => by cases e⟩
        · exact tst_test k
        · exact say_test p
    · rcases List.mem_cons.mp h with rfl | h
      · exact sy_atom rfl (fun xs e => by cases e) n
      · rcases hi x h with ⟨y, rfl, hy⟩ | ⟨m, rfl⟩ | ⟨k, rfl, _⟩ | ⟨p, hp, rfl⟩
        · exact sy_atom rfl (fun xs e => by cases e) n
        · exact sy_atom rfl (fun xs e => by cases e) n
        · exact tst_sy k n
        · exact say_sy n p fun y hy => hn y (kids_nms hp y hy)
theorem plain_tup {n : Nat} {xs : List D} (h : xs.length ≤ 1000) (k : ∀ x ∈ xs, Plain n x) : Plain (n + 1) (.tup xs) := ⟨szk h, k⟩
theorem plain_str {n : Nat} {y : Str} : Plain n (.str y) := by cases n <;> trivial
theorem plain_int {n : Nat} {i : Int} : Plain n (.int i) := by cases n <;> trivial
theorem tst_plain (k : Tst) (n : Nat) : Plain (n + 1) k.d := by
  obtain ⟨z, t, e, hz, ht, hx⟩ := tst_tup k
  rw [e]
  refine plain_tup (by simp only [List.length_cons]; omega) fun x h => ?_
  rcases List.mem_cons.mp h with rfl | h
  · exact plain_str
  · obtain ⟨m, rfl⟩ := hx x h; exact plain_int
theorem say_plain : ∀ (n : Nat) (s : Say Str), s.deep ≤ n → Plain n s.d
  | 0, s, h => by have := s.deep_pos; omega
  | n + 1, s, hd => by
    have hl := d_len s
    have hi := itm_of s
    rw [d_head]
    refine plain_tup (by simp only [List.length_cons]; omega) fun x h => ?_
    rcases List.mem_cons.mp h with rfl | h
    · exact plain_str
    · rcases hi x h with ⟨y, rfl, hy⟩ | ⟨m, rfl⟩ | ⟨k, rfl, h2⟩ | ⟨p, hp, rfl⟩
      · exact plain_str
      · exact plain_int
      · cases n with
        | zero => omega
        | succ n => exact tst_plain k n
      · exact say_plain n p (kids_deep hd hp)
end LW
set_option Elab.async false
set_option linter.all false
set_option maxRecDepth 100000
set_option maxHeartbeats 4000000
set_option pp.maxSteps 400
/-! _law_forms -/
namespace LW
open PySem PySem.Spec PyProof.Rows L2 EV PySem.XO PySem.W LamX
local macro_rules | `(tactic| walk_at "n") => `(tactic| refine st_norm (by simp only [List.set_cons_succ, List.set_cons_zero]; rfl) ?_)
abbrev s_forms : Stmt := topS 49
abbrev N_forms : List Str := ["_law_saying", "_law_found", "_law_item"]
theorem sc_forms : FnScope N_forms ["_law_saying"] (defScope s_forms) := ⟨rfl, rfl, rfl, by decide +kernel, rfl, by decide +kernel, by decide +kernel⟩

def gTest : List Str := ["least", "most", "rest"]
def isSub : D → Bool
  | .tup (.str z :: _) => !isOf z gTest
  | _ => false
def itF (n : Nat) (x : D) : List D := if isSub x = true then formsL n x else []
def lfS (n : Nat) : DSp := fun ds O Q _ => ∃ s : Say Str, ds = [s.d] ∧ s.deep ≤ n ∧ s.forms.length ≤ 100 ∧ Q (.lst (s.forms.map Say.d)) O
theorem say_isT (s : Say Str) : isSub s.d = true := by cases s <;> rfl
theorem tst_isT (k : Tst) : isSub k.d = false := by cases k <;> rfl
theorem itF_say {n : Nat} (s : Say Str) : itF n s.d = formsL n s.d := if_pos (say_isT s)
theorem itF_tst {n : Nat} (k : Tst) : itF n k.d = [] := if_neg (by rw [tst_isT]; decide)
theorem itF_str {n : Nat} (y : Str) : itF n (.str y) = [] := rfl
theorem itF_int {n : Nat} (y : Int) : itF n (.int y) = [] := rfl
theorem items_forms {n : Nat} {s : Say Str} (h : s.deep ≤ n + 1) : (headOf s).2.flatMap (itF n) = s.kids.flatMap fun p => p.forms.map Say.d := by
  have hk : ∀ p ∈ s.kids, formsL n p.d = p.forms.map Say.d := fun p hp => forms_ok n p (kids_deep h hp)
  cases s <;> first
    | (simp [headOf, Say.kids, itF_say, itF_tst, itF_str, itF_int]; done)
    | (simp only [Say.kids, List.mem_cons, List.not_mem_nil, or_false, forall_eq_or_imp, forall_eq] at hk; simp [headOf, Say.kids, itF_say, itF_tst, itF_str, itF_int, hk])
theorem take_len (f : D → List D) (l : List D) (i : Nat) : ((l.take i).flatMap f).length ≤ (l.flatMap f).length := by
  have := List.take_append_drop i l
  have e : l.flatMap f = (l.take i).flatMap f ++ (l.drop i).flatMap f := by rw [← List.flatMap_append, this]
  rw [e, List.length_append]; omega
theorem take_succ_fm (f : D → List D) {l : List D} {i : Nat} {x : D} (h : l[i]? = some x) : (l.take (i + 1)).flatMap f = (l.take i).flatMap f ++ f x := by
  rw [List.take_succ, h, List.flatMap_append]
  simp
section
variable {P : Program} {w : World} {K : PySem.W.Frag} {mg : Str → Option Value} {base : Heap}
theorem ok_forms {f : Addr} {fd : FuncData} (F : Fun K "_law_forms" "_law_forms" s_forms f fd) (T_forms : Gf K mg "_law_forms" f fd ["_law_saying"])
    (m_isinstance : mg "isinstance" = none) (m_tuple : mg "tuple" = none) :
    ∀ n : Nat, FnOk P w K mg base CX0 (n + 2) f fd ["_law_saying"] (spD K (lfS n)) := by
  have step : ∀ (k n : Nat) (S : DSp), FnOk P w K mg base CX0 (k + 1) f fd ["_law_saying"] (spD K S) → (∀ (m : Nat) s O Q E, n = m + 1 → lfS m [s] O Q E → S [s] O Q E) → FnOk P w K mg base CX0 (k + 2) f fd ["_law_saying"] (spD K (lfS n)) := by
    intro k n S G_forms hS
    refine fn_pure F sc_forms (fun ds O Q E h => ?_) (fun cdv A outer s H E hr =>
      (d_scons (d_set (i := 1) sc_forms.nd rfl (.inl rfl) (d_lst (d_cons (d_var (i := 0) rfl (.inl rfl) (by decide) (by decide)) d_nil rfl)) rfl (.inl rfl))
      (d_scons (d_for PassesOwn.never rfl (d_iter (d_var (i := 0) rfl (.inl rfl) (by decide) (by decide))) (dg_name (i := 2) sc_forms.nd rfl (.inl rfl) (.inl rfl)) (d_sone (d_ifS (DPW.pt (d_wand (d_test (d_callB cd_isi rfl m_isinstance boot_isinstance (d_cons (d_var (i := 2) rfl (.inl rfl) (by decide) (by decide)) (d_cons (d_ty rfl m_tuple boot_tuple (by decide) (by decide)) d_nil rfl) rfl) (by decide) (by decide) rfl rfl) (by intro _; rfl)) (d_and1 (d_tcmp od_notinS (d_ix (d_var (i := 2) rfl (.inl rfl) (by decide) (by decide)) d_int (fun _ _ => rfl)) (d_tup (d_cons d_str (d_cons d_str (d_cons d_str d_nil rfl) rfl) rfl)) rfl)))) (d_sone (d_set (i := 1) sc_forms.nd rfl (.inl rfl) (d_op od_add (d_var (i := 1) rfl (.inl rfl) (by decide) (by decide)) (d_call G_forms (hr.mono (by omega)) rfl T_forms.m T_forms.k T_forms.b (fun _ => pass0A) (d_cons (d_var (i := 2) rfl (.inl rfl) (by decide) (by decide)) d_nil rfl) (by decide) rfl rfl)) rfl (.inl rfl))) d_snil)) (fun _ => rfl))
      (d_sone (d_ret (d_var (i := 1) rfl (.inl rfl) (by decide) (by decide))))))) (fun ds O Q E h => ?_) (fun ds O Q E h => h)
    · obtain ⟨s, rfl, _⟩ := h; rfl
    · obtain ⟨s, rfl, hd, hl, q⟩ := h
      rw [show startD N_forms [s.d] = [.sh s.d, .un, .un] from rfl]
      cases n with
      | zero => have := s.deep_pos; omega
      | succ m =>
        have hall := items_forms hd
        have hfk := forms_kids s
        have hlen : ((headOf s).2.flatMap (itF m)).length + 1 = s.forms.length := by
          rw [hall, hfk, List.length_cons, ← List.map_flatMap, List.length_map]
        refine st_set (.lst [s.d]) (val_lst _ (fun Q E q => q) (le_sz rfl)) ?_
        intro v e; rw [e]; clear e v
        walk_at "n"
        refine st_forJ (.str (headOf s).1 :: (headOf s).2) (fun i ρ => ∃ s2 : Sl, ρ = [.sh s.d, .sh (.lst (s.d :: ((headOf s).2.take (i - 1)).flatMap (itF m))), s2]) ?_ ⟨_, rfl⟩ ?_ ?_
        · refine val_seqI (.inr (d_head s)) fun Q E q => q
        · rintro i x hx ρ ⟨s2, rfl⟩ N hN
          refine tg_one [.sh s.d, .sh (.lst (s.d :: ((headOf s).2.take (i - 1)).flatMap (itF m))), .sh x] rfl ?_
          cases i with
          | zero =>
            rw [List.getElem?_cons_zero] at hx
            cases hx
            refine st_if1 false (val_and1 (val_tst _ fun Q E q => ⟨rfl, rfl, q⟩)) ?_
            exact bcF (hN _ ⟨_, rfl⟩)
          | succ i =>
            rw [List.getElem?_cons_succ] at hx
            have hts := take_succ_fm (itF m) hx
            have hle := take_len (itF m) (headOf s).2 (i + 1)
            rw [hts, List.length_append] at hle
            have skip : itF m x = [] → N [Sl.sh s.d, .sh (.lst (s.d :: ((headOf s).2.take i).flatMap (itF m))), .sh x] O := fun e => hN _ ⟨.sh x, by
              show _ = [_, Sl.sh (.lst (s.d :: ((headOf s).2.take (i + 1)).flatMap (itF m))), _]
              rw [hts, e, List.append_nil]⟩
            show dIfS _ _ _ _ [.sh s.d, .sh (.lst (s.d :: ((headOf s).2.take i).flatMap (itF m))), .sh x] O
            rcases itm_of s x (List.mem_of_getElem? hx) with ⟨y, rfl, hy⟩ | ⟨j, rfl⟩ | ⟨t, rfl, _⟩ | ⟨p, hp, rfl⟩
            · exact st_if1 false (val_and1 (val_tst _ fun Q E q => ⟨rfl, rfl, q⟩)) (bcF (skip rfl))
            · exact st_if1 false (val_and1 (val_tst _ fun Q E q => ⟨rfl, rfl, q⟩)) (bcF (skip rfl))
            · have hs := skip (itF_tst t)
              obtain ⟨z, r, e, _⟩ := tst_tup t
              have hz := tst_isT t
              rw [e] at hz hs ⊢
              refine st_if1 false (val_and2 (val_tst _ fun Q E q => ⟨rfl, rfl, q⟩) (val_tstB _ (val_inF not z gTest _ (val_ix (.inr rfl) (fun Q E q => q) (fun Q E q => q) ad0) (val_tup _ (fun Q E q => q) (le_sz rfl)) hz))) (bcF hs)
            · have hz := say_isT p
              have hpd := kids_deep hd hp
              have hpe := itF_say (n := m) p
              have hpf := forms_ok m p hpd
              rw [hpe, hpf, List.length_map] at hle
              have hgo : N [Sl.sh s.d, .sh (.lst ((s.d :: ((headOf s).2.take i).flatMap (itF m)) ++ p.forms.map Say.d)), .sh p.d] O := hN _ ⟨.sh p.d, by
                show _ = [_, Sl.sh (.lst (s.d :: ((headOf s).2.take (i + 1)).flatMap (itF m))), _]
                rw [hts, hpe, hpf]; rfl⟩
              have hcall : ∀ (A : DEnds), A.nx [.sh s.d, .sh (.lst ((s.d :: ((headOf s).2.take i).flatMap (itF m)) ++ p.forms.map Say.d)), .sh p.d] O → dAsg (dOp (pu addD) (dVar 1) (dCall S (dCons (dVar 2) dNil))) (dgName 1) A [.sh s.d, .sh (.lst (s.d :: ((headOf s).2.take i).flatMap (itF m))), .sh p.d] O := fun A h => by
                refine val_op (.lst (s.d :: ((headOf s).2.take i).flatMap (itF m))) (.lst (p.forms.map Say.d)) _ (fun Q E q => q) (val_call [p.d] _ (fun Q E q => q) fun Q E q => hS m p.d O Q E rfl ⟨p, rfl, hpd, by omega, q⟩) (fun Q q => ⟨szk ?_, q⟩) _ _ h
                rw [List.length_cons, List.length_map]
                omega
              have e := d_head p
              refine st_if1 true (val_and2 (val_tst _ fun Q E q => ⟨rfl, ty_say p, by rw [e]; exact q⟩) (val_tstB _ (val_inF not (headOf p).1 gTest _ (val_ix (.inr e) (fun Q E q => q) (fun Q E q => q) ad0) (val_tup _ (fun Q E q => q) (le_sz rfl)) (by rw [e] at hz; exact hz)))) (bcT (hcall _ hgo))
        · rintro r ⟨s2, rfl⟩
          refine val_ret _ (fun Q E q => q) ?_
          have : (headOf s).2.take ((.str (headOf s).1 :: (headOf s).2 : List D).length - 1) = (headOf s).2 := by
            rw [List.length_cons, Nat.add_sub_cancel, List.take_length]
          rw [this, hall]
          rw [hfk, List.map_cons, List.map_flatMap] at q
          exact q
  intro n
  induction n with
  | zero =>
    refine step 0 0 (fun _ _ _ _ => False) ?_ (fun m s O Q E e => nomatch e)
    exact ⟨fun vs H Q E ⟨_, _, _, _, _, _, _, h, _⟩ => h.elim, fun A outer s H args us vs Q E _ _ _ _ ⟨_, _, _, _, _, _, _, h, _⟩ => h.elim⟩
  | succ n ih => exact step (n + 1) (n + 1) (lfS n) ih (fun m s O Q E e h => by cases e; exact h)
end
end LW
set_option Elab.async false
set_option linter.all false
set_option maxRecDepth 100000
set_option maxHeartbeats 4000000
set_option pp.maxSteps 400
/-! questions made of sayings -/
namespace LW
open PySem PySem.Spec PyProof.Rows L2 EV PySem.XO PySem.W LamX
def qsF (ns : List Str) (s : Say Str) : List (Str × D) := [("names", .tup (ns.map D.str)), ("saying", s.d), ("forms", .int s.forms.length)]
abbrev qsD (C : Addr) (ns : List Str) (s : Say Str) : D := .ins C (qsF ns s)
theorem good_deep {α : Type} [DecidableEq α] {s : Say α} {ns : List α} (h : s.good ns = true) : s.deep ≤ 6 ∧ s.forms.length ≤ 12 := by
  unfold Say.good at h
  simp only [Bool.and_eq_true, decide_eq_true_eq] at h
  exact ⟨h.1.1, h.2.1⟩
theorem qs_qn {ns : List Str} {s : Say Str} (h : s.deep ≤ 6) : qnF (ns.map D.str) s.d = qsF ns s := by
  unfold qnF qsF
  rw [forms_ok 6 s h, List.length_map]
theorem nms_flat {ns : List Str} (h : Nmd ns) : ∀ x ∈ ns.map D.str, Flat x := fun x hx => by
  obtain ⟨y, hy, rfl⟩ := List.mem_map.mp hx
  exact nm_flat (h y hy)
theorem nms_pre {dn : D} {ns : List Str} (hd : Seq dn (ns.map D.str)) (h : Nmd ns) (hl : ns.length ≤ 1000) : NmPre dn := by
  rcases hd with rfl | rfl
  · exact nmPre_l (by rw [List.length_map]; exact hl) (nms_flat h)
  · exact nmPre_t (by rw [List.length_map]; exact hl) (nms_flat h)
theorem st_asg3N {mA : DA} {i1 i2 i3 : Nat} {rest : DS} {A : DEnds} {ρ : Slots} {O : Ow} (v1 v2 v3 : D) (h : ∀ Q E, Q [v1, v2, v3] O → mA ρ O Q E) (k : rest A (((ρ.set i1 (.sh v1)).set i2 (.sh v2)).set i3 (.sh v3)) O) : dSeq (dAsg (dTup mA) (dgTup 3 (dgCons (dgName i1) (dgCons (dgName i2) (dgCons (dgName i3) dgNil))))) rest A ρ O := h _ _ ⟨le_sz rfl, rfl, k⟩
theorem st_par2 {mA : DA} {i j : Nat} {rest : DS} {A : DEnds} {ρ : Slots} {O : Ow} (u v : D) (h : ∀ Q E, Q [u, v] O → mA ρ O Q E) (k : rest A ((ρ.set i (.sh u)).set j (.sh v)) O) : dSeq (dPar i j mA) rest A ρ O := h _ _ k
theorem st_setD {m : DE} {i : Nat} {rest : DS} {A : DEnds} {ρ : Slots} {O : Ow} (d : D) (h : ∀ Q E, Q d O → m ρ O Q E) (k : rest A (ρ.set i (.sh d)) O) : dSeq (dAsg m (dgName i)) rest A ρ O := h _ _ k
theorem st_setL {m : DE} {i : Nat} {A : DEnds} {ρ : Slots} {O : Ow} (d : D) (h : ∀ Q E, Q d O → m ρ O Q E) (k : A.nx (ρ.set i (.sh d)) O) : dAsg m (dgName i) A ρ O := h _ _ k
theorem st_setNL {m : DE} {i : Nat} {A : DEnds} {ρ : Slots} {O : Ow} (P : D → Prop) (h : ∀ Q E, (∀ d, P d → Q d O) → m ρ O Q E) (k : ∀ d, P d → A.nx (ρ.set i (.sh d)) O) : dAsg m (dgName i) A ρ O := h _ _ k
theorem ax0 {d0 : D} {xs : List D} : atI (d0 :: xs) 0 = some d0 := (show atI _ ((0 : Nat) : Int) = _ from atI_nat rfl)
theorem ax1 {d0 d1 : D} {xs : List D} : atI (d0 :: d1 :: xs) 1 = some d1 := (show atI _ ((1 : Nat) : Int) = _ from atI_nat rfl)
theorem ax2 {d0 d1 d2 : D} {xs : List D} : atI (d0 :: d1 :: d2 :: xs) 2 = some d2 := (show atI _ ((2 : Nat) : Int) = _ from atI_nat rfl)
theorem ax3 {d0 d1 d2 d3 : D} {xs : List D} : atI (d0 :: d1 :: d2 :: d3 :: xs) 3 = some d3 := (show atI _ ((3 : Nat) : Int) = _ from atI_nat rfl)
theorem ax4 {d0 d1 d2 d3 d4 : D} {xs : List D} : atI (d0 :: d1 :: d2 :: d3 :: d4 :: xs) 4 = some d4 := (show atI _ ((4 : Nat) : Int) = _ from atI_nat rfl)
theorem ax5 {d0 d1 d2 d3 d4 d5 : D} {xs : List D} : atI (d0 :: d1 :: d2 :: d3 :: d4 :: d5 :: xs) 5 = some d5 := (show atI _ ((5 : Nat) : Int) = _ from atI_nat rfl)
theorem ax6 {d0 d1 d2 d3 d4 d5 d6 : D} {xs : List D} : atI (d0 :: d1 :: d2 :: d3 :: d4 :: d5 :: d6 :: xs) 6 = some d6 := (show atI _ ((6 : Nat) : Int) = _ from atI_nat rfl)
theorem ax7 {d0 d1 d2 d3 d4 d5 d6 d7 : D} {xs : List D} : atI (d0 :: d1 :: d2 :: d3 :: d4 :: d5 :: d6 :: d7 :: xs) 7 = some d7 := (show atI _ ((7 : Nat) : Int) = _ from atI_nat rfl)
theorem ax8 {d0 d1 d2 d3 d4 d5 d6 d7 d8 : D} {xs : List D} : atI (d0 :: d1 :: d2 :: d3 :: d4 :: d5 :: d6 :: d7 :: d8 :: xs) 8 = some d8 := (show atI _ ((8 : Nat) : Int) = _ from atI_nat rfl)
theorem ax9 {d0 d1 d2 d3 d4 d5 d6 d7 d8 d9 : D} {xs : List D} : atI (d0 :: d1 :: d2 :: d3 :: d4 :: d5 :: d6 :: d7 :: d8 :: d9 :: xs) 9 = some d9 := (show atI _ ((9 : Nat) : Int) = _ from atI_nat rfl)
theorem nodup_map {α β : Type} {f : α → β} (hf : ∀ x y, f x = f y → x = y) {l : List α} (h : l.Nodup) : (l.map f).Nodup := List.pairwise_map.mpr (h.imp fun ne e => ne (hf _ _ e))
theorem val_meth {C : Addr} {f : Str} {sp : DSp} {mo : DE} {mA : DA} {ρ : Slots} {O : Ow} {Q : QD} {E : QX} {fs : List (Str × D)} (ho : ∀ Q E, Q (.ins C fs) O → mo ρ O Q E) (e : fs.lookup f = none) (h : mA ρ O (fun ds O2 => spM sp (.ins C fs :: ds) O2 Q E) E) : dMeth C f sp mo mA ρ O Q E := ho _ _ ⟨⟨rfl, e⟩, h⟩
theorem val_bin {C : Addr} {sp : DSp} {ma mb : DE} {ρ : Slots} {O : Ow} {Q : QD} {E : QX} {fs gs : List (Str × D)} (ha : ∀ Q E, Q (.ins C fs) O → ma ρ O Q E) (hb : ∀ Q E, Q (.ins C gs) O → mb ρ O Q E) (h : sp [.ins C fs, .ins C gs] O (fun d O3 => (∃ C' hs, d = .ins C' hs) ∧ Q d O3) E) : dBinI C sp ma mb ρ O Q E := ha _ _ (hb _ _ ⟨fs, gs, rfl, rfl, spM.of h⟩)
section
variable {A : Str → Addr} {C : Addr} {O : Ow} {Q : QD} {E : QX} {dn : D} {ns : List Str} {s : Say Str}
theorem qnX_say (hd : Seq dn (ns.map D.str)) (h : Nmd ns) (hn : ns.Nodup) (hl : ns.length ≤ 3) (hs : Nmd s.nms) : qnX A dn s.d = if s.good ns = true then none else some (sayX A s.d) := by
  rw [qnX_seq hd, names_good hn hl h, strsOf_strs, say_bad hs]
  cases s.good ns <;> rfl
theorem mk_good (hd : Seq dn (ns.map D.str)) (h : Nmd ns) (hn : ns.Nodup) (hl : ns.length ≤ 3) (hs : Nmd s.nms) (hg : s.good ns = true) (q : Q (qsD C ns s) O) : mkG C (iniQ A C) [dn, s.d] O Q E := by
  have e := qnX_say (A := A) hd h hn hl hs
  rw [if_pos hg] at e
  refine mkG_qn (nms_pre hd h (by omega)) (ty_say s) (say_sy 6 s hs) (fun xs hx _ => ?_) fun x hx => by rw [e] at hx; cases hx
  have : xs = ns.map D.str := by rcases hd with rfl | rfl <;> rcases hx with hx | hx <;> cases hx <;> rfl
  rw [this, qs_qn (good_deep hg).1]
  exact q
theorem mk_bad (hd : Seq dn (ns.map D.str)) (h : Nmd ns) (hn : ns.Nodup) (hl : ns.length ≤ 3) (hs : Nmd s.nms) (hg : s.good ns = false) (q : E (sayX A s.d) O) : mkG C (iniQ A C) [dn, s.d] O Q E := by
  have e := qnX_say (A := A) hd h hn hl hs
  rw [if_neg (by rw [hg]; decide)] at e
  exact mkG_qn (nms_pre hd h (by omega)) (ty_say s) (say_sy 6 s hs) (fun xs hx hx2 => by rw [e] at hx2; cases hx2) fun x hx => by rw [e] at hx; cases hx; exact q
end
end LW
set_option Elab.async false
set_option linter.all false
set_option maxRecDepth 100000
set_option maxHeartbeats 4000000
set_option pp.maxSteps 400
/-! k11: the sayings of the law -/
namespace LW
open PySem PySem.Spec PyProof.Rows L2 EV PySem.XO PySem.W LamX
abbrev SF := Say (Fin 10)
def fw (ws : List Str) (i : Fin 10) : Str := ws.getD i.val Str.empty
theorem fw_inj {ws : List Str} (hl : ws.length = 10) (hn : ws.Nodup) : ∀ x y, fw ws x = fw ws y → x = y := by
  intro x y h
  unfold fw at h
  have hx : x.val < ws.length := by omega
  have hy : y.val < ws.length := by omega
  rw [getD_el hx, getD_el hy] at h
  rcases Nat.lt_trichotomy x.val y.val with l | l | l
  · exact absurd h (List.pairwise_iff_getElem.mp hn x.val y.val hx hy l)
  · exact Fin.ext l
  · exact absurd h.symm (List.pairwise_iff_getElem.mp hn y.val x.val hy hx l)
theorem fw_nm {ws : List Str} (hl : ws.length = 10) (hn : Nmd ws) (i : Fin 10) : isNm (.str (fw ws i)) = true := by
  unfold fw
  rw [getD_el (show i.val < ws.length by omega)]
  exact hn _ (List.getElem_mem _)
abbrev dF (f : Fin 10 → Str) (s : SF) : D := (s.map f).d
theorem dF_nmd {f : Fin 10 → Str} (hf : ∀ i, isNm (.str (f i)) = true) (s : SF) : Nmd (s.map f).nms := by
  rw [Say.map_nms]
  intro y hy
  obtain ⟨i, _, rfl⟩ := List.mem_map.mp hy
  exact hf i
def atm : List SF := [.same 0 0, .has 9 0, .link 9 0 0, .less 0 0]
def wraps (a : SF) (k : Nat) (d : SF) : List SF := match k with
  | 0 => [.not d, .and d a, .or a d, .way 1 5 d 0 0, .within 8 1 5 d 0 0]
  | 1 => [.not d, .and d a, .or a d, .way 2 6 d 0 0, .within 8 2 6 d 0 0]
  | _ => [.not d, .and d a, .or a d]
def deeps (a : SF) : Nat → List SF
  | 0 => [a]
  | k + 1 => (deeps a k).flatMap (wraps a k)
def wideS (a : SF) : SF := .and (.and a a) (.or a a)
def twelveS (a : SF) : SF := .and (.not (.or a a)) (wideS a)
def elevenS (a : SF) : SF := .or (.and a a) (wideS a)
def scB : Nat → Fin 10
  | 0 => 5
  | 1 => 4
  | _ => 3
def scopes : Nat → List SF
  | 0 => [.same 1 5]
  | k + 1 => (scopes k).flatMap fun s => [.all (scB k) s, .some (scB k) s]
def moB : Nat → Fin 10
  | 0 => 6
  | 1 => 5
  | 2 => 4
  | _ => 3
def moreS : Nat → SF
  | 0 => .same 1 6
  | k + 1 => .all (moB k) (moreS k)
def linkS : SF := .link 9 1 2
def waysS : SF := .way 3 4 (.within 2 1 2 linkS 3 4) 0 0
def badWay : SF := .way 1 2 (.has 9 2) 0 0
abbrev n3 : List (Fin 10) := [0, 1, 2]
def goodL (a d s : SF) : List (List (Fin 10) × SF) := [([0], .not d), ([0], twelveS a), (n3, s), ([0], waysS), ([0], .and waysS waysS), ([0], elevenS a)]
def badL (a d : SF) : List (List (Fin 10) × SF) := [([0], .not (.not d)), ([0], .not (twelveS a)), (n3, moreS 4), ([0], .or (.has 9 0) (.link 9 0 0)), ([0], .and badWay waysS)]
def small (s : SF) : Bool := decide (s.deep ≤ 7) && decide (s.forms.length ≤ 40)
def chk1 : Bool := atm.all fun a => (deeps a 4).all fun d => Say.good [0] (.not d) && (!Say.good [0] (.not (.not d)) && (!Say.good [0] (.and (.not d) (.not d)) && (small (.not (.not d)) && small (.and (.not d) (.not d)))))
def chk2 : Bool := atm.all fun a => (Say.good [0] (twelveS a) && (Say.good [0] (elevenS a) && (Say.good [0] (wideS a) && (Say.good [0] (.not a) && (Say.good [0] (.not (elevenS a)) && (Say.good [0] (.and (wideS a) (.not a)) && (!Say.good [0] (.not (twelveS a)) && (!Say.good [0] (.or (twelveS a) (wideS a)) && (decide ((Say.not (elevenS a)).forms.length = 12) && (decide ((Say.and (wideS a) (.not a)).forms.length = 10) && (small (.not (twelveS a)) && small (.or (twelveS a) (wideS a)))))))))))))
def chk3 : Bool := ((scopes 3).all fun s => Say.good n3 s) && (Say.good [0] waysS && (Say.good [0] (.and waysS waysS) && (!Say.good n3 (moreS 4) && (!Say.good [0] (.or (.has 9 0) (.link 9 0 0)) && (!Say.good [0] (.and badWay waysS) && (small (moreS 4) && (small (.or (.has 9 0) (.link 9 0 0)) && small (.and badWay waysS))))))))
theorem chk1_ok : chk1 = true := by decide +kernel
theorem chk2_ok : chk2 = true := by decide +kernel
theorem chk3_ok : chk3 = true := by decide +kernel
theorem good_small {s : SF} {ns : List (Fin 10)} (h : Say.good ns s = true) : s.deep ≤ 6 ∧ s.forms.length ≤ 12 := by
  unfold Say.good at h
  simp only [Bool.and_eq_true, decide_eq_true_eq] at h
  exact ⟨h.1.1, h.2.1⟩
def prs (f : Fin 10 → Str) (l : List (List (Fin 10) × SF)) : List D := l.map fun p => .tup [.lst ((p.1.map f).map D.str), dF f p.2]
theorem all_good {a d s : SF} (ha : a ∈ atm) (hd : d ∈ deeps a 4) (hs : s ∈ scopes 3) : ∀ p ∈ goodL a d s, (p.1 = [0] ∨ p.1 = n3) ∧ Say.good p.1 p.2 = true := by
  have h1 := List.all_eq_true.mp (List.all_eq_true.mp chk1_ok a ha) d hd
  have h2 := List.all_eq_true.mp chk2_ok a ha
  have h3 := chk3_ok
  unfold chk3 at h3
  simp only [Bool.and_eq_true, Bool.not_eq_true', decide_eq_true_eq] at h1 h2 h3
  intro p hp
  simp only [goodL, List.mem_cons, List.not_mem_nil, or_false] at hp
  rcases hp with rfl | rfl | rfl | rfl | rfl | rfl
  · exact ⟨.inl rfl, h1.1⟩
  · exact ⟨.inl rfl, h2.1⟩
  · exact ⟨.inr rfl, List.all_eq_true.mp h3.1 s hs⟩
  · exact ⟨.inl rfl, h3.2.1⟩
  · exact ⟨.inl rfl, h3.2.2.1⟩
  · exact ⟨.inl rfl, h2.2.1⟩
theorem small_of {s : SF} (h : small s = true) : s.deep ≤ 7 ∧ s.forms.length ≤ 40 := by
  unfold small at h
  simpa only [Bool.and_eq_true, decide_eq_true_eq] using h
theorem all_bad {a d : SF} (ha : a ∈ atm) (hd : d ∈ deeps a 4) : ∀ p ∈ badL a d, (p.1 = [0] ∨ p.1 = n3) ∧ Say.good p.1 p.2 = false ∧ p.2.deep ≤ 7 := by
  have h1 := List.all_eq_true.mp (List.all_eq_true.mp chk1_ok a ha) d hd
  have h2 := List.all_eq_true.mp chk2_ok a ha
  have h3 := chk3_ok
  unfold chk3 at h3
  simp only [Bool.and_eq_true, Bool.not_eq_true', decide_eq_true_eq] at h1 h2 h3
  intro p hp
  simp only [badL, List.mem_cons, List.not_mem_nil, or_false] at hp
  rcases hp with rfl | rfl | rfl | rfl | rfl
  · exact ⟨.inl rfl, h1.2.1, (small_of h1.2.2.2.1).1⟩
  · exact ⟨.inl rfl, h2.2.2.2.2.2.2.1, (small_of h2.2.2.2.2.2.2.2.2.2.2.1).1⟩
  · exact ⟨.inr rfl, h3.2.2.2.1, (small_of h3.2.2.2.2.2.2.1).1⟩
  · exact ⟨.inl rfl, h3.2.2.2.2.1, (small_of h3.2.2.2.2.2.2.2.1).1⟩
  · exact ⟨.inl rfl, h3.2.2.2.2.2.1, (small_of h3.2.2.2.2.2.2.2.2).1⟩
/-- the others: made, and what is raised of them -/
theorem others {a d : SF} (ha : a ∈ atm) (hd : d ∈ deeps a 4) : (Say.good [0] (.not d) = true ∧ Say.good [0] (twelveS a) = true ∧ Say.good [0] (wideS a) = true ∧ Say.good [0] (elevenS a) = true ∧ Say.good [0] (.not a) = true ∧ Say.good [0] (.not (elevenS a)) = true ∧ Say.good [0] (.and (wideS a) (.not a)) = true) ∧
    (Say.good [0] (.and (.not d) (.not d)) = false ∧ Say.good [0] (.or (twelveS a) (wideS a)) = false ∧ Say.good [0] (.not (twelveS a)) = false) ∧
    ((Say.not (elevenS a)).forms.length = 12 ∧ (Say.and (wideS a) (.not a)).forms.length = 10) ∧ (Say.and (.not d) (.not d) : SF).deep ≤ 7 ∧ (Say.or (twelveS a) (wideS a)).deep ≤ 7 ∧ (Say.not (twelveS a)).deep ≤ 7 := by
  have h1 := List.all_eq_true.mp (List.all_eq_true.mp chk1_ok a ha) d hd
  have h2 := List.all_eq_true.mp chk2_ok a ha
  simp only [Bool.and_eq_true, Bool.not_eq_true', decide_eq_true_eq] at h1 h2
  exact ⟨⟨h1.1, h2.1, h2.2.2.1, h2.2.1, h2.2.2.2.1, h2.2.2.2.2.1, h2.2.2.2.2.2.1⟩, ⟨h1.2.2.1, h2.2.2.2.2.2.2.2.1, h2.2.2.2.2.2.2.1⟩, ⟨h2.2.2.2.2.2.2.2.2.1, h2.2.2.2.2.2.2.2.2.2.1⟩, (small_of h1.2.2.2.2).1, (small_of h2.2.2.2.2.2.2.2.2.2.2.2).1, (small_of h2.2.2.2.2.2.2.2.2.2.2.1).1⟩
end LW
set_option Elab.async false
set_option linter.all false
set_option maxRecDepth 100000
set_option maxHeartbeats 4000000
set_option pp.maxSteps 400
namespace LW
open PySem PySem.Spec PyProof.Rows L2 EV PySem.XO PySem.W LamX
abbrev s_law : Stmt := topS 50
abbrev N_law : List Str := ["_law_script", "_law_box_here", "_law_turn", "_law_words_here", "_law_a", "_law_t", "_law_atom", "_law_deep", "_law_k", "_law_six", "_law_wide", "_law_twelve", "_law_eleven", "_law_scope", "_law_more", "_law_link", "_law_ways", "_law_good", "_law_names", "_law_saying", "_law_bad", "_law_one", "_law_two", "_law_side", "_law_asks", "_law_due", "_law_wraps", "_law_told"]
theorem sc_law : FnScope N_law ["_law_script"] (defScope s_law) := ⟨rfl, rfl, rfl, by decide +kernel, rfl, by decide +kernel, by decide +kernel⟩

local macro_rules | `(tactic| walk_at "n") => `(tactic| refine st_norm (by simp only [List.set_cons_succ, List.set_cons_zero]; rfl) ?_)
abbrev noE : Expr := .Constant .none 0 ⟨0, 0, 0, 0⟩
abbrev noS : Stmt := .Pass ⟨0, 0, 0, 0⟩
abbrev asksE : Expr := match (defBody s_law).getD 1 noS with
  | .For _ _ b _ _ => (match b.getD 19 noS with
    | .Assign _ e _ => e
    | _ => noE)
  | _ => noE
section
variable {w : World} {K : PySem.W.Frag} {mg : Str → Option Value} {base : Heap}
theorem ok_law {fB fO fS fG fA fW fF fR fD fN fP C PT : Addr} {fd fdB fdO fdS fdG fdA fdW fdF fdR fdD fdN fdP : FuncData} (F : Fun K "law" "law" s_law (He.fAd K ("law", none)) fd)
    (G_box : FnOk Pr w K mg base CX0 1 fB fdB ["_law_script"] (spBox K)) (T_box : Gf K mg "_law_box" fB fdB ["_law_script"])
    (G_of : FnOk Pr w K mg base CX0 2 fO fdO ["_law_box_here", "_law_some"] (spB K ofS)) (T_of : Gf K mg "_law_of" fO fdO ["_law_box_here", "_law_some"])
    (G_words : FnOk Pr w K mg base CX0 3 fW fdW ["_law_box_here", "_law_many"] (spB K wordsS)) (T_words : Gf K mg "_law_words" fW fdW ["_law_box_here", "_law_many"])
    (G_forms : FnOk Pr w K mg base CX0 9 fF fdF ["_law_saying"] (spD K (lfS 7))) (T_forms : Gf K mg "_law_forms" fF fdF ["_law_saying"])
    (G_same : FnOk Pr w K mg base CX0 12 fS fdS ["_law_found", "_law_due"] (spD K (sameS 10))) (T_same : Gf K mg "_law_same" fS fdS ["_law_found", "_law_due"])
    (G_got : FnL Pr w K mg base 14 16 fG fdG ["_law_ask"] (gotS K)) (T_got : Gf K mg "_law_got" fG fdG ["_law_ask"])
    (G_all_got : FnL Pr w K mg base 14 17 fA fdA ["_law_asks"] (allS K)) (T_all_got : Gf K mg "_law_all_got" fA fdA ["_law_asks"])
    (TB : TabB base mg (He.codeOf K ("law", none)) PT)
    (MK_Question : Mk K C fR) (G_Question_init : FnOk Pr w K mg base (L2.CX Pr w) 11 fR fdR psQ (spD K (iniQ (He.ga K) C))) (M_Question : mg "Question" = some (.ref C))
    {gA : List Value → List Value → List Value} (KB_Question_ : KBn K fdR psQ 3 [] gA (fun vs _ => vs))
    (G_Question_denied : FnOk Pr w K mg base (L2.CX Pr w) 13 fD fdD ["self"] (spD K (denS (He.ga K) C))) (ME_Question_denied : Meth K C "denied" fD) (B_Question_denied : Binds K fdD ["self"] [])
    (G_Question_and : FnOk Pr w K mg base (L2.CX Pr w) 13 fN fdN ["self", "other"] (spD K (joinS (He.ga K) C "and"))) (ME_Question_and : Meth K C "__and__" fN) (B_Question_and : Binds K fdN ["self", "other"] [])
    (G_Question_or : FnOk Pr w K mg base (L2.CX Pr w) 13 fP fdP ["self", "other"] (spD K (joinS (He.ga K) C "or"))) (ME_Question_or : Meth K C "__or__" fP) (B_Question_or : Binds K fdP ["self", "other"] [])
    (SF_Question : PySem.W.selfFirst K C = true)
    (CL_Question : Cls K C) (NA_Question_names : NoAttr K C "names") (NA_Question_saying : NoAttr K C "saying") (NA_Question_forms : NoAttr K C "forms")
    (m_range : mg "range" = none) (m_len : mg "len" = none) (m_tuple : mg "tuple" = none) :
    FnOk Pr w K mg base CX0 19 (He.fAd K ("law", none)) fd ["_law_script"] (spLaw K [(PT, lamQ "law")]) := by
  refine Fun.okC F sc_law (fun vs H Q E h => ?_) (fun A outer s H vs Q E hr h => ?_)
  · obtain ⟨a, ns, rfl, _⟩ := h; rfl
  · obtain ⟨a, ns, rfl, hS, hT, q⟩ := h
    have D1 : ∀ (b l : Addr), DPSs (cxOf CX0 Pr w K mg base N_law "law" (defScope s_law) (He.fAd K ("law", none)) (.ref (He.codeOf K ("law", none))) A outer s H E).nox ⟨boB b l [(PT, lamQ "law")], fun _ _ _ _ => False⟩ (defBody s_law).tail _ := fun b l => by
      have LA := lam_at (P := Pr) (w := w) (K := K) (mg := mg) (base := base) (N := N_law) (sc := defScope s_law) (q := "law") (f := He.fAd K ("law", none)) (A := A) (outer := outer) (s := s) (H := H) (E := E) (b := b) (l := l) (W := fun _ _ _ _ => False) TB
      exact (d_scons (d_for PassesOwn.never rfl (d_rng1 rfl m_range (d_cons d_int d_nil rfl) rfl) (dg_name (i := 2) sc_law.nd rfl (.inl rfl) (.inl rfl)) (d_scons (d_set (i := 3) sc_law.nd rfl (.inl rfl) (d_callX G_words rfl (hr.mono (by decide)) rfl T_words.m T_words.k T_words.b (fun _ => pass0A) (d_cons (d_var (i := 1) rfl (.inl rfl) (by decide) (by decide)) (d_cons d_int d_nil rfl) rfl) (by decide) rfl rfl) rfl (.inl rfl))
      (d_scons (d_par (i := 4) (j := 5) rfl sc_law.nd rfl rfl (by decide) rfl rfl (d_cons (d_ix (d_var (i := 3) rfl (.inl rfl) (by decide) (by decide)) d_int (fun _ _ => rfl)) (d_cons (d_ix (d_var (i := 3) rfl (.inl rfl) (by decide) (by decide)) d_int (fun _ _ => rfl)) d_nil rfl) rfl) rfl rfl)
      (d_scons (d_set (i := 6) sc_law.nd rfl (.inl rfl) (d_callX G_of rfl (hr.mono (by decide)) rfl T_of.m T_of.k T_of.b (fun _ => pass0A) (d_cons (d_var (i := 1) rfl (.inl rfl) (by decide) (by decide)) (d_cons (d_lst (d_cons (d_tup (d_cons d_str (d_cons (d_var (i := 4) rfl (.inl rfl) (by decide) (by decide)) (d_cons (d_var (i := 4) rfl (.inl rfl) (by decide) (by decide)) d_nil rfl) rfl) rfl)) (d_cons (d_tup (d_cons d_str (d_cons (d_var (i := 5) rfl (.inl rfl) (by decide) (by decide)) (d_cons (d_var (i := 4) rfl (.inl rfl) (by decide) (by decide)) d_nil rfl) rfl) rfl)) (d_cons (d_tup (d_cons d_str (d_cons (d_var (i := 5) rfl (.inl rfl) (by decide) (by decide)) (d_cons (d_var (i := 4) rfl (.inl rfl) (by decide) (by decide)) (d_cons (d_var (i := 4) rfl (.inl rfl) (by decide) (by decide)) d_nil rfl) rfl) rfl) rfl)) (d_cons (d_tup (d_cons d_str (d_cons (d_var (i := 4) rfl (.inl rfl) (by decide) (by decide)) (d_cons (d_var (i := 4) rfl (.inl rfl) (by decide) (by decide)) d_nil rfl) rfl) rfl)) d_nil rfl) rfl) rfl) rfl)) d_nil rfl) rfl) (by decide) rfl rfl) rfl (.inl rfl))
      (d_scons (d_set (i := 7) sc_law.nd rfl (.inl rfl) (d_var (i := 6) rfl (.inl rfl) (by decide) (by decide)) rfl (.inl rfl))
      (d_scons (d_for PassesOwn.never rfl (d_rng1 rfl m_range (d_cons d_int d_nil rfl) rfl) (dg_name (i := 8) sc_law.nd rfl (.inl rfl) (.inl rfl)) (d_scons (d_set (i := 26) sc_law.nd rfl (.inl rfl) (d_lst (d_cons (d_tup (d_cons d_str (d_cons (d_var (i := 7) rfl (.inl rfl) (by decide) (by decide)) d_nil rfl) rfl)) (d_cons (d_tup (d_cons d_str (d_cons (d_var (i := 7) rfl (.inl rfl) (by decide) (by decide)) (d_cons (d_var (i := 6) rfl (.inl rfl) (by decide) (by decide)) d_nil rfl) rfl) rfl)) (d_cons (d_tup (d_cons d_str (d_cons (d_var (i := 6) rfl (.inl rfl) (by decide) (by decide)) (d_cons (d_var (i := 7) rfl (.inl rfl) (by decide) (by decide)) d_nil rfl) rfl) rfl)) d_nil rfl) rfl) rfl)) rfl (.inl rfl))
      (d_scons (d_ifS (d_tcmp od_lt (d_var (i := 8) rfl (.inl rfl) (by decide) (by decide)) d_int (nomark _)) (d_sone (d_set (i := 26) sc_law.nd rfl (.inl rfl) (d_op od_add (d_var (i := 26) rfl (.inl rfl) (by decide) (by decide)) (d_lst (d_cons (d_tup (d_cons d_str (d_cons (d_ix (d_var (i := 3) rfl (.inl rfl) (by decide) (by decide)) (d_op od_add (d_var (i := 8) rfl (.inl rfl) (by decide) (by decide)) d_int) (fun _ _ => rfl)) (d_cons (d_ix (d_var (i := 3) rfl (.inl rfl) (by decide) (by decide)) (d_op od_add (d_var (i := 8) rfl (.inl rfl) (by decide) (by decide)) d_int) (fun _ _ => rfl)) (d_cons (d_var (i := 7) rfl (.inl rfl) (by decide) (by decide)) (d_cons (d_var (i := 4) rfl (.inl rfl) (by decide) (by decide)) (d_cons (d_var (i := 4) rfl (.inl rfl) (by decide) (by decide)) d_nil rfl) rfl) rfl) rfl) rfl) rfl)) (d_cons (d_tup (d_cons d_str (d_cons d_int (d_cons (d_ix (d_var (i := 3) rfl (.inl rfl) (by decide) (by decide)) (d_op od_add (d_var (i := 8) rfl (.inl rfl) (by decide) (by decide)) d_int) (fun _ _ => rfl)) (d_cons (d_ix (d_var (i := 3) rfl (.inl rfl) (by decide) (by decide)) (d_op od_add (d_var (i := 8) rfl (.inl rfl) (by decide) (by decide)) d_int) (fun _ _ => rfl)) (d_cons (d_var (i := 7) rfl (.inl rfl) (by decide) (by decide)) (d_cons (d_var (i := 4) rfl (.inl rfl) (by decide) (by decide)) (d_cons (d_var (i := 4) rfl (.inl rfl) (by decide) (by decide)) d_nil rfl) rfl) rfl) rfl) rfl) rfl) rfl)) d_nil rfl) rfl))) rfl (.inl rfl))) d_snil)
      (d_sone (d_set (i := 7) sc_law.nd rfl (.inl rfl) (d_callX G_of rfl (hr.mono (by decide)) rfl T_of.m T_of.k T_of.b (fun _ => pass0A) (d_cons (d_var (i := 1) rfl (.inl rfl) (by decide) (by decide)) (d_cons (d_var (i := 26) rfl (.inl rfl) (by decide) (by decide)) d_nil rfl) rfl) (by decide) rfl rfl) rfl (.inl rfl))))) (fun _ => rfl))
      (d_scons (d_set (i := 9) sc_law.nd rfl (.inl rfl) (d_tup (d_cons d_str (d_cons (d_var (i := 7) rfl (.inl rfl) (by decide) (by decide)) d_nil rfl) rfl)) rfl (.inl rfl))
      (d_scons (d_set (i := 10) sc_law.nd rfl (.inl rfl) (d_tup (d_cons d_str (d_cons (d_tup (d_cons d_str (d_cons (d_var (i := 6) rfl (.inl rfl) (by decide) (by decide)) (d_cons (d_var (i := 6) rfl (.inl rfl) (by decide) (by decide)) d_nil rfl) rfl) rfl)) (d_cons (d_tup (d_cons d_str (d_cons (d_var (i := 6) rfl (.inl rfl) (by decide) (by decide)) (d_cons (d_var (i := 6) rfl (.inl rfl) (by decide) (by decide)) d_nil rfl) rfl) rfl)) d_nil rfl) rfl) rfl)) rfl (.inl rfl))
      (d_scons (d_set (i := 11) sc_law.nd rfl (.inl rfl) (d_tup (d_cons d_str (d_cons (d_tup (d_cons d_str (d_cons (d_tup (d_cons d_str (d_cons (d_var (i := 6) rfl (.inl rfl) (by decide) (by decide)) (d_cons (d_var (i := 6) rfl (.inl rfl) (by decide) (by decide)) d_nil rfl) rfl) rfl)) d_nil rfl) rfl)) (d_cons (d_var (i := 10) rfl (.inl rfl) (by decide) (by decide)) d_nil rfl) rfl) rfl)) rfl (.inl rfl))
      (d_scons (d_set (i := 12) sc_law.nd rfl (.inl rfl) (d_tup (d_cons d_str (d_cons (d_tup (d_cons d_str (d_cons (d_var (i := 6) rfl (.inl rfl) (by decide) (by decide)) (d_cons (d_var (i := 6) rfl (.inl rfl) (by decide) (by decide)) d_nil rfl) rfl) rfl)) (d_cons (d_var (i := 10) rfl (.inl rfl) (by decide) (by decide)) d_nil rfl) rfl) rfl)) rfl (.inl rfl))
      (d_scons (d_par (i := 13) (j := 14) rfl sc_law.nd rfl rfl (by decide) rfl rfl (d_cons (d_tup (d_cons d_str (d_cons (d_ix (d_var (i := 3) rfl (.inl rfl) (by decide) (by decide)) d_int (fun _ _ => rfl)) (d_cons (d_ix (d_var (i := 3) rfl (.inl rfl) (by decide) (by decide)) d_int (fun _ _ => rfl)) d_nil rfl) rfl) rfl)) (d_cons (d_tup (d_cons d_str (d_cons (d_ix (d_var (i := 3) rfl (.inl rfl) (by decide) (by decide)) d_int (fun _ _ => rfl)) (d_cons (d_ix (d_var (i := 3) rfl (.inl rfl) (by decide) (by decide)) d_int (fun _ _ => rfl)) d_nil rfl) rfl) rfl)) d_nil rfl) rfl) rfl rfl)
      (d_scons (d_for PassesOwn.never rfl (d_rng1 rfl m_range (d_cons d_int d_nil rfl) rfl) (dg_name (i := 8) sc_law.nd rfl (.inl rfl) (.inl rfl)) (d_sone (d_set (i := 13) sc_law.nd rfl (.inl rfl) (d_tup (d_cons (d_callX G_of rfl (hr.mono (by decide)) rfl T_of.m T_of.k T_of.b (fun _ => pass0A) (d_cons (d_var (i := 1) rfl (.inl rfl) (by decide) (by decide)) (d_cons (d_lst (d_cons d_str (d_cons d_str d_nil rfl) rfl)) d_nil rfl) rfl) (by decide) rfl rfl) (d_cons (d_ix (d_var (i := 3) rfl (.inl rfl) (by decide) (by decide)) (d_op od_sub d_int (d_var (i := 8) rfl (.inl rfl) (by decide) (by decide))) (fun _ _ => rfl)) (d_cons (d_var (i := 13) rfl (.inl rfl) (by decide) (by decide)) d_nil rfl) rfl) rfl)) rfl (.inl rfl))) (fun _ => rfl))
      (d_scons (d_for PassesOwn.never rfl (d_rng1 rfl m_range (d_cons d_int d_nil rfl) rfl) (dg_name (i := 8) sc_law.nd rfl (.inl rfl) (.inl rfl)) (d_sone (d_set (i := 14) sc_law.nd rfl (.inl rfl) (d_tup (d_cons d_str (d_cons (d_ix (d_var (i := 3) rfl (.inl rfl) (by decide) (by decide)) (d_op od_sub d_int (d_var (i := 8) rfl (.inl rfl) (by decide) (by decide))) (fun _ _ => rfl)) (d_cons (d_var (i := 14) rfl (.inl rfl) (by decide) (by decide)) d_nil rfl) rfl) rfl)) rfl (.inl rfl))) (fun _ => rfl))
      (d_scons (d_set (i := 15) sc_law.nd rfl (.inl rfl) (d_tup (d_cons d_str (d_cons (d_var (i := 5) rfl (.inl rfl) (by decide) (by decide)) (d_cons (d_ix (d_var (i := 3) rfl (.inl rfl) (by decide) (by decide)) d_int (fun _ _ => rfl)) (d_cons (d_ix (d_var (i := 3) rfl (.inl rfl) (by decide) (by decide)) d_int (fun _ _ => rfl)) d_nil rfl) rfl) rfl) rfl)) rfl (.inl rfl))
      (d_scons (d_set (i := 16) sc_law.nd rfl (.inl rfl) (d_tup (d_cons d_str (d_cons (d_ix (d_var (i := 3) rfl (.inl rfl) (by decide) (by decide)) d_int (fun _ _ => rfl)) (d_cons (d_ix (d_var (i := 3) rfl (.inl rfl) (by decide) (by decide)) d_int (fun _ _ => rfl)) (d_cons (d_tup (d_cons d_str (d_cons d_int (d_cons (d_ix (d_var (i := 3) rfl (.inl rfl) (by decide) (by decide)) d_int (fun _ _ => rfl)) (d_cons (d_ix (d_var (i := 3) rfl (.inl rfl) (by decide) (by decide)) d_int (fun _ _ => rfl)) (d_cons (d_var (i := 15) rfl (.inl rfl) (by decide) (by decide)) (d_cons (d_ix (d_var (i := 3) rfl (.inl rfl) (by decide) (by decide)) d_int (fun _ _ => rfl)) (d_cons (d_ix (d_var (i := 3) rfl (.inl rfl) (by decide) (by decide)) d_int (fun _ _ => rfl)) d_nil rfl) rfl) rfl) rfl) rfl) rfl) rfl)) (d_cons (d_var (i := 4) rfl (.inl rfl) (by decide) (by decide)) (d_cons (d_var (i := 4) rfl (.inl rfl) (by decide) (by decide)) d_nil rfl) rfl) rfl) rfl) rfl) rfl)) rfl (.inl rfl))
      (d_scons (d_set (i := 17) sc_law.nd rfl (.inl rfl) (d_lst (d_cons (d_tup (d_cons (d_lst (d_cons (d_var (i := 4) rfl (.inl rfl) (by decide) (by decide)) d_nil rfl)) (d_cons (d_var (i := 9) rfl (.inl rfl) (by decide) (by decide)) d_nil rfl) rfl)) (d_cons (d_tup (d_cons (d_lst (d_cons (d_var (i := 4) rfl (.inl rfl) (by decide) (by decide)) d_nil rfl)) (d_cons (d_var (i := 11) rfl (.inl rfl) (by decide) (by decide)) d_nil rfl) rfl)) (d_cons (d_tup (d_cons (d_sl (d_var (i := 3) rfl (.inl rfl) (by decide) (by decide)) d_nopart (d_part d_int)) (d_cons (d_var (i := 13) rfl (.inl rfl) (by decide) (by decide)) d_nil rfl) rfl)) (d_cons (d_tup (d_cons (d_lst (d_cons (d_var (i := 4) rfl (.inl rfl) (by decide) (by decide)) d_nil rfl)) (d_cons (d_var (i := 16) rfl (.inl rfl) (by decide) (by decide)) d_nil rfl) rfl)) (d_cons (d_tup (d_cons (d_lst (d_cons (d_var (i := 4) rfl (.inl rfl) (by decide) (by decide)) d_nil rfl)) (d_cons (d_tup (d_cons d_str (d_cons (d_var (i := 16) rfl (.inl rfl) (by decide) (by decide)) (d_cons (d_var (i := 16) rfl (.inl rfl) (by decide) (by decide)) d_nil rfl) rfl) rfl)) d_nil rfl) rfl)) (d_cons (d_tup (d_cons (d_lst (d_cons (d_var (i := 4) rfl (.inl rfl) (by decide) (by decide)) d_nil rfl)) (d_cons (d_var (i := 12) rfl (.inl rfl) (by decide) (by decide)) d_nil rfl) rfl)) d_nil rfl) rfl) rfl) rfl) rfl) rfl)) rfl (.inl rfl))
      (d_scons (d_for PassesOwn.never rfl (d_iter (d_var (i := 17) rfl (.inl rfl) (by decide) (by decide))) (dg_tup (n := 2) rfl (dgs_cons (dg_name (i := 18) sc_law.nd rfl (.inr rfl) (.inl rfl)) (dgs_cons (dg_name (i := 19) sc_law.nd rfl (.inr rfl) (.inl rfl)) dgs_nil rfl) rfl) rfl rfl) (d_scons (d_set (i := 27) sc_law.nd rfl (.inl rfl) (d_makeG (fun _ => rfl) MK_Question G_Question_init (hr.mono (by decide)) rfl M_Question KB_Question_ GD_Question_ passF (d_cons (d_var (i := 18) rfl (.inr (.inl rfl)) (by decide) (by decide)) (d_cons (d_var (i := 19) rfl (.inr (.inl rfl)) (by decide) (by decide)) d_nil rfl) rfl) d_knil rfl rfl (by decide) rfl rfl) rfl (.inl rfl))
      (d_sone (d_ifS (d_tnot (d_test (d_call G_same (hr.mono (by decide)) rfl T_same.m T_same.k T_same.b (fun _ => pass0A) (d_cons (d_lst (d_cons (d_fld CL_Question NA_Question_names (d_var (i := 27) rfl (.inl rfl) (by decide) (by decide)) rfl) (d_cons (d_fld CL_Question NA_Question_saying (d_var (i := 27) rfl (.inl rfl) (by decide) (by decide)) rfl) (d_cons (d_fld CL_Question NA_Question_forms (d_var (i := 27) rfl (.inl rfl) (by decide) (by decide)) rfl) d_nil rfl) rfl) rfl)) (d_cons (d_lst (d_cons (d_callTy cd_tuple rfl m_tuple boot_tuple (d_cons (d_var (i := 18) rfl (.inr (.inl rfl)) (by decide) (by decide)) d_nil rfl) (by decide) (by decide) rfl rfl) (d_cons (d_var (i := 19) rfl (.inr (.inl rfl)) (by decide) (by decide)) (d_cons (d_callB cd_len rfl m_len boot_len (d_cons (d_call G_forms (hr.mono (by decide)) rfl T_forms.m T_forms.k T_forms.b (fun _ => pass0A) (d_cons (d_var (i := 19) rfl (.inr (.inl rfl)) (by decide) (by decide)) d_nil rfl) (by decide) rfl rfl) d_nil rfl) (by decide) (by decide) rfl rfl) d_nil rfl) rfl) rfl)) d_nil rfl) rfl) (by decide) rfl rfl) (by intro _; rfl))) (d_sone (d_ret d_bl)) d_snil))) (fun _ => rfl))
      (d_scons (d_set (i := 20) sc_law.nd rfl (.inl rfl) (d_lst (d_cons (d_tup (d_cons (d_lst (d_cons (d_var (i := 4) rfl (.inl rfl) (by decide) (by decide)) d_nil rfl)) (d_cons (d_tup (d_cons d_str (d_cons (d_var (i := 9) rfl (.inl rfl) (by decide) (by decide)) d_nil rfl) rfl)) d_nil rfl) rfl)) (d_cons (d_tup (d_cons (d_lst (d_cons (d_var (i := 4) rfl (.inl rfl) (by decide) (by decide)) d_nil rfl)) (d_cons (d_tup (d_cons d_str (d_cons (d_var (i := 11) rfl (.inl rfl) (by decide) (by decide)) d_nil rfl) rfl)) d_nil rfl) rfl)) (d_cons (d_tup (d_cons (d_sl (d_var (i := 3) rfl (.inl rfl) (by decide) (by decide)) d_nopart (d_part d_int)) (d_cons (d_var (i := 14) rfl (.inl rfl) (by decide) (by decide)) d_nil rfl) rfl)) (d_cons (d_tup (d_cons (d_lst (d_cons (d_var (i := 4) rfl (.inl rfl) (by decide) (by decide)) d_nil rfl)) (d_cons (d_tup (d_cons d_str (d_cons (d_tup (d_cons d_str (d_cons (d_var (i := 5) rfl (.inl rfl) (by decide) (by decide)) (d_cons (d_var (i := 4) rfl (.inl rfl) (by decide) (by decide)) d_nil rfl) rfl) rfl)) (d_cons (d_tup (d_cons d_str (d_cons (d_var (i := 5) rfl (.inl rfl) (by decide) (by decide)) (d_cons (d_var (i := 4) rfl (.inl rfl) (by decide) (by decide)) (d_cons (d_var (i := 4) rfl (.inl rfl) (by decide) (by decide)) d_nil rfl) rfl) rfl) rfl)) d_nil rfl) rfl) rfl)) d_nil rfl) rfl)) (d_cons (d_tup (d_cons (d_lst (d_cons (d_var (i := 4) rfl (.inl rfl) (by decide) (by decide)) d_nil rfl)) (d_cons (d_tup (d_cons d_str (d_cons (d_tup (d_cons d_str (d_cons (d_ix (d_var (i := 3) rfl (.inl rfl) (by decide) (by decide)) d_int (fun _ _ => rfl)) (d_cons (d_ix (d_var (i := 3) rfl (.inl rfl) (by decide) (by decide)) d_int (fun _ _ => rfl)) (d_cons (d_tup (d_cons d_str (d_cons (d_var (i := 5) rfl (.inl rfl) (by decide) (by decide)) (d_cons (d_ix (d_var (i := 3) rfl (.inl rfl) (by decide) (by decide)) d_int (fun _ _ => rfl)) d_nil rfl) rfl) rfl)) (d_cons (d_var (i := 4) rfl (.inl rfl) (by decide) (by decide)) (d_cons (d_var (i := 4) rfl (.inl rfl) (by decide) (by decide)) d_nil rfl) rfl) rfl) rfl) rfl) rfl)) (d_cons (d_var (i := 16) rfl (.inl rfl) (by decide) (by decide)) d_nil rfl) rfl) rfl)) d_nil rfl) rfl)) d_nil rfl) rfl) rfl) rfl) rfl)) rfl (.inl rfl))
      (d_scons (d_for PassesOwn.never rfl (d_iter (d_var (i := 20) rfl (.inl rfl) (by decide) (by decide))) (dg_tup (n := 2) rfl (dgs_cons (dg_name (i := 18) sc_law.nd rfl (.inr rfl) (.inl rfl)) (dgs_cons (dg_name (i := 19) sc_law.nd rfl (.inr rfl) (.inl rfl)) dgs_nil rfl) rfl) rfl rfl) (d_sone (d_ifS (d_tnot (d_test (d_call G_same (hr.mono (by decide)) rfl T_same.m T_same.k T_same.b (fun _ => pass0A) (d_cons (d_callL1 G_got (hr.mono (by decide)) (fun _ => rfl) (hr.mono (by decide)) rfl T_got.m T_got.k T_got.b LA (lamW_by (N := N_law) (sc := defScope s_law) (by decide +kernel)) rfl (fun _ _ _ _ _ _ => rfl) (fun A outer s H E f c' hr => (d_makeG (fun _ => rfl) MK_Question G_Question_init (hr.mono (by decide)) rfl M_Question KB_Question_ GD_Question_ lam_pass (d_cons (d_var (i := 18) rfl (.inr (.inr rfl)) (by decide) (by decide)) (d_cons (d_var (i := 19) rfl (.inr (.inr rfl)) (by decide) (by decide)) d_nil rfl) rfl) d_knil rfl rfl (by decide) rfl rfl)) (by decide) rfl rfl) (d_cons (d_tup (d_cons d_str (d_cons (d_var (i := 19) rfl (.inr (.inl rfl)) (by decide) (by decide)) d_nil rfl) rfl)) d_nil rfl) rfl) (by decide) rfl rfl) (by intro _; rfl))) (d_sone (d_ret d_bl)) d_snil)) (fun _ => rfl))
      (d_scons (d_asg (d_tup (d_cons (d_makeG (fun _ => rfl) MK_Question G_Question_init (hr.mono (by decide)) rfl M_Question KB_Question_ GD_Question_ passF (d_cons (d_lst (d_cons (d_var (i := 4) rfl (.inl rfl) (by decide) (by decide)) d_nil rfl)) (d_cons (d_var (i := 9) rfl (.inl rfl) (by decide) (by decide)) d_nil rfl) rfl) d_knil rfl rfl (by decide) rfl rfl) (d_cons (d_makeG (fun _ => rfl) MK_Question G_Question_init (hr.mono (by decide)) rfl M_Question KB_Question_ GD_Question_ passF (d_cons (d_lst (d_cons (d_var (i := 4) rfl (.inl rfl) (by decide) (by decide)) d_nil rfl)) (d_cons (d_var (i := 11) rfl (.inl rfl) (by decide) (by decide)) d_nil rfl) rfl) d_knil rfl rfl (by decide) rfl rfl) (d_cons (d_makeG (fun _ => rfl) MK_Question G_Question_init (hr.mono (by decide)) rfl M_Question KB_Question_ GD_Question_ passF (d_cons (d_lst (d_cons (d_var (i := 4) rfl (.inl rfl) (by decide) (by decide)) d_nil rfl)) (d_cons (d_var (i := 10) rfl (.inl rfl) (by decide) (by decide)) d_nil rfl) rfl) d_knil rfl rfl (by decide) rfl rfl) d_nil rfl) rfl) rfl)) (dg_tup (n := 3) rfl (dgs_cons (dg_name (i := 21) sc_law.nd rfl (.inr rfl) (.inl rfl)) (dgs_cons (dg_name (i := 22) sc_law.nd rfl (.inr rfl) (.inl rfl)) (dgs_cons (dg_name (i := 23) sc_law.nd rfl (.inr rfl) (.inl rfl)) dgs_nil rfl) rfl) rfl) rfl rfl) rfl rfl rfl)
      (d_scons (d_set (i := 24) sc_law.nd rfl (.inl rfl) (d_lst (d_cons (d_lam LA (lamW_by (N := N_law) (sc := defScope s_law) (by decide +kernel)) rfl (fun _ _ _ _ _ _ => rfl)) (d_cons (d_lam1 (u := "_law_u2") LA (lamW_by (N := N_law) (sc := defScope s_law) (by decide +kernel)) rfl rfl rfl (fun _ _ _ _ _ _ _ => ⟨_, rfl, fun _ => rfl⟩)) (d_cons (d_lam1 (u := "_law_u3") LA (lamW_by (N := N_law) (sc := defScope s_law) (by decide +kernel)) rfl rfl rfl (fun _ _ _ _ _ _ _ => ⟨_, rfl, fun _ => rfl⟩)) d_nil rfl) rfl) rfl)) rfl (.inl rfl))
      (d_scons (d_set (i := 25) sc_law.nd rfl (.inl rfl) (d_lst (d_cons (d_tup (d_cons d_str (d_cons (d_tup (d_cons d_str (d_cons (d_var (i := 9) rfl (.inl rfl) (by decide) (by decide)) (d_cons (d_var (i := 9) rfl (.inl rfl) (by decide) (by decide)) d_nil rfl) rfl) rfl)) d_nil rfl) rfl)) (d_cons (d_tup (d_cons d_str (d_cons (d_tup (d_cons d_str (d_cons (d_var (i := 11) rfl (.inl rfl) (by decide) (by decide)) (d_cons (d_var (i := 10) rfl (.inl rfl) (by decide) (by decide)) d_nil rfl) rfl) rfl)) d_nil rfl) rfl)) (d_cons (d_tup (d_cons d_str (d_cons (d_tup (d_cons d_str (d_cons (d_var (i := 11) rfl (.inl rfl) (by decide) (by decide)) d_nil rfl) rfl)) d_nil rfl) rfl)) d_nil rfl) rfl) rfl)) rfl (.inl rfl))
      (d_scons (d_ifS (d_tnot (d_test (d_call G_same (hr.mono (by decide)) rfl T_same.m T_same.k T_same.b (fun _ => pass0A) (d_cons (d_callL G_all_got (lams_or (lams_one (params := (lamE asksE 0).1) (body := (lamE asksE 0).2.1) (scope := (lamE asksE 0).2.2) (hr.mono (by decide)) (lamW_by (N := N_law) (sc := defScope s_law) (by decide +kernel)) (fun A outer s H E f c' hr => (d_binI (fun _ => rfl) G_Question_and (hr.mono (by decide)) B_Question_and lam_pass SF_Question ME_Question_and.at_ ME_Question_and.fn (d_var (i := 21) rfl (.inr (.inr rfl)) (by decide) (by decide)) (d_var (i := 21) rfl (.inr (.inr rfl)) (by decide) (by decide))))) (lams_or (lams_one (params := (lamE asksE 1).1) (body := (lamE asksE 1).2.1) (scope := (lamE asksE 1).2.2) (hr.mono (by decide)) (lamW_by (N := N_law) (sc := defScope s_law) (by decide +kernel)) (fun A outer s H E f c' hr => (d_binI (fun _ => rfl) G_Question_or (hr.mono (by decide)) B_Question_or lam_pass SF_Question ME_Question_or.at_ ME_Question_or.fn (d_var (i := 22) rfl (.inr (.inr rfl)) (by decide) (by decide)) (d_var (i := 23) rfl (.inr (.inr rfl)) (by decide) (by decide))))) (lams_one (params := (lamE asksE 2).1) (body := (lamE asksE 2).2.1) (scope := (lamE asksE 2).2.2) (hr.mono (by decide)) (lamW_by (N := N_law) (sc := defScope s_law) (by decide +kernel)) (fun A outer s H E f c' hr => (d_meth0 (fun _ => rfl) CL_Question ME_Question_denied G_Question_denied (hr.mono (by decide)) B_Question_denied lam_pass (d_var (i := 22) rfl (.inr (.inr rfl)) (by decide) (by decide)) rfl))))) (fun _ => rfl) (hr.mono (by decide)) rfl T_all_got.m T_all_got.k T_all_got.b (d_cons (d_var (i := 24) rfl (.inl rfl) (by decide) (by decide)) d_nil rfl) (by decide) rfl rfl) (d_cons (d_var (i := 25) rfl (.inl rfl) (by decide) (by decide)) d_nil rfl) rfl) (by decide) rfl rfl) (by intro _; rfl))) (d_sone (d_ret d_bl)) d_snil)
      (d_sone (d_ifS (d_tnot (d_test (d_call G_same (hr.mono (by decide)) rfl T_same.m T_same.k T_same.b (fun _ => pass0A) (d_cons (d_lst (d_cons (d_fld CL_Question NA_Question_forms (d_meth0 (fun _ => rfl) CL_Question ME_Question_denied G_Question_denied (hr.mono (by decide)) B_Question_denied passF (d_makeG (fun _ => rfl) MK_Question G_Question_init (hr.mono (by decide)) rfl M_Question KB_Question_ GD_Question_ passF (d_cons (d_lst (d_cons (d_var (i := 4) rfl (.inl rfl) (by decide) (by decide)) d_nil rfl)) (d_cons (d_var (i := 12) rfl (.inl rfl) (by decide) (by decide)) d_nil rfl) rfl) d_knil rfl rfl (by decide) rfl rfl) rfl) rfl) (d_cons (d_fld CL_Question NA_Question_forms (d_binI (fun _ => rfl) G_Question_and (hr.mono (by decide)) B_Question_and passF SF_Question ME_Question_and.at_ ME_Question_and.fn (d_var (i := 23) rfl (.inr (.inl rfl)) (by decide) (by decide)) (d_makeG (fun _ => rfl) MK_Question G_Question_init (hr.mono (by decide)) rfl M_Question KB_Question_ GD_Question_ passF (d_cons (d_lst (d_cons (d_var (i := 4) rfl (.inl rfl) (by decide) (by decide)) d_nil rfl)) (d_cons (d_tup (d_cons d_str (d_cons (d_var (i := 6) rfl (.inl rfl) (by decide) (by decide)) d_nil rfl) rfl)) d_nil rfl) rfl) d_knil rfl rfl (by decide) rfl rfl)) rfl) d_nil rfl) rfl)) (d_cons (d_lst (d_cons d_int (d_cons d_int d_nil rfl) rfl)) d_nil rfl) rfl) (by decide) rfl rfl) (by intro _; rfl))) (d_sone (d_ret d_bl)) d_snil)))))))))))))))))))))))) (fun _ => rfl))
      (d_sone (d_ret d_bl)))
    refine ⟨_, pss_cons (ps_set (i := 1) sc_law.nd rfl (.inl rfl) (pe_call G_box (hr.mono (by decide)) rfl T_box.m T_box.k T_box.b .nil pass0 (pa_cons (pv 0) pa_nil))) (pss_box D1), ?_⟩
    refine ⟨.ref a, rfl, a, ns, rfl, hS, fun b l mm ms H1 sm nb hb hl ne m0 m1 => ⟨b, l, law_read (n := N_law.length - 2) (D1 b l).mo hb hl ne (fun p hp => ?_) m0 m1 q ?_⟩⟩
    · exact sm _ _ (hT p hp)
    rw [show boxed b (N_law.length - 2) = [.un, .sh (.opq (.ref b)), .un, .un, .un, .un, .un, .un, .un, .un, .un, .un, .un, .un, .un, .un, .un, .un, .un, .un, .un, .un, .un, .un, .un, .un, .un, .un] from rfl]
    clear D1 TB
    refine st_forJ (rngD 0 4) (fun _ ρ => ∃ s2 s3 s4 s5 s6 s7 s8 s9 s10 s11 s12 s13 s14 s15 s16 s17 s18 s19 s20 s21 s22 s23 s24 s25 s26 s27 : Sl, ρ = [.un, .sh (.opq (.ref b)), s2, s3, s4, s5, s6, s7, s8, s9, s10, s11, s12, s13, s14, s15, s16, s17, s18, s19, s20, s21, s22, s23, s24, s25, s26, s27]) ?_ ⟨_, _, _, _, _, _, _, _, _, _, _, _, _, _, _, _, _, _, _, _, _, _, _, _, _, _, rfl⟩ ?_ ?_
    · exact fun Q E q => ⟨by decide, by decide, q⟩
    · rintro i0 dt hd ρ ⟨s2, s3, s4, s5, s6, s7, s8, s9, s10, s11, s12, s13, s14, s15, s16, s17, s18, s19, s20, s21, s22, s23, s24, s25, s26, s27, rfl⟩ N hN
      refine tg_one [.un, .sh (.opq (.ref b)), .sh dt, s3, s4, s5, s6, s7, s8, s9, s10, s11, s12, s13, s14, s15, s16, s17, s18, s19, s20, s21, s22, s23, s24, s25, s26, s27] rfl ?_
      refine st_setN (fun d => ∃ f : Fin 10 → Str, (∀ x y, f x = f y → x = y) ∧ (∀ i, isNm (.str (f i)) = true) ∧ d = .lst [.str (f 0), .str (f 1), .str (f 2), .str (f 3), .str (f 4), .str (f 5), .str (f 6), .str (f 7), .str (f 8), .str (f 9)]) (fun Q E q => ?_) ?_
      · refine ⟨rfl, spM.of ⟨10, rfl, by decide, fun ws hl hn hd => ?_⟩⟩
        have h1 := fw_inj hl hd
        have h2 := fw_nm hl hn
        match ws, hl, h1, h2 with
        | [w0, w1, w2, w3, w4, w5, w6, w7, w8, w9], _, h1, h2 => exact q _ ⟨fw [w0, w1, w2, w3, w4, w5, w6, w7, w8, w9], h1, h2, rfl⟩
      rintro _ ⟨f, hfi, hfn, rfl⟩
      walk_at "n"
      refine st_par2 (.str (f 0)) (.str (f 9)) (val_cons _ _ (val_ix (.inl rfl) (fun Q E q => q) (fun Q E q => q) ax0) (val_cons _ _ (val_ix (.inl rfl) (fun Q E q => q) (fun Q E q => q) ax9) val_nil)) ?_
      walk_at "n"
      refine st_setN (fun d => ∃ a ∈ atm, d = dF f a) (fun Q E q => ?_) ?_
      · refine val_of (.lst (atm.map (dF f))) (fun Q E q => q) (fun Q E q => ⟨le_sz rfl, le_sz rfl, le_sz rfl, le_sz rfl, le_sz rfl, q⟩) (show 0 < 4 by decide) (show 4 < 1000000 by decide) _ _ fun y hy => ?_
        obtain ⟨a, ha, rfl⟩ := List.mem_map.mp hy
        exact q _ ⟨a, ha, rfl⟩
      rintro _ ⟨a, ha, rfl⟩
      walk_at "n"
      refine st_setD (dF f a) (fun Q E q => q) ?_
      walk_at "n"
      refine st_forJ (rngD 0 4) (fun i ρ => ∃ s ∈ deeps a i, ∃ s8 s26 : Sl, ρ = [.un, .sh (.opq (.ref b)), .sh dt, .sh (.lst [.str (f 0), .str (f 1), .str (f 2), .str (f 3), .str (f 4), .str (f 5), .str (f 6), .str (f 7), .str (f 8), .str (f 9)]), .sh (.str (f 0)), .sh (.str (f 9)), .sh (dF f a), .sh (dF f s), s8, s9, s10, s11, s12, s13, s14, s15, s16, s17, s18, s19, s20, s21, s22, s23, s24, s25, s26, s27]) ?_ ⟨a, by simp [deeps], _, _, rfl⟩ ?_ ?_
      · exact fun Q E q => ⟨by decide, by decide, q⟩
      · rintro i dk hk ρ ⟨s, hs, s8, s26, rfl⟩ N hN
        obtain ⟨hi, rfl⟩ := rng_at hk
        refine tg_one [.un, .sh (.opq (.ref b)), .sh dt, .sh (.lst [.str (f 0), .str (f 1), .str (f 2), .str (f 3), .str (f 4), .str (f 5), .str (f 6), .str (f 7), .str (f 8), .str (f 9)]), .sh (.str (f 0)), .sh (.str (f 9)), .sh (dF f a), .sh (dF f s), .sh (.int i), s9, s10, s11, s12, s13, s14, s15, s16, s17, s18, s19, s20, s21, s22, s23, s24, s25, s26, s27] rfl ?_
        refine st_setD (.lst [dF f (.not s), dF f (.and s a), dF f (.or a s)]) (fun Q E q => ⟨le_sz rfl, le_sz rfl, le_sz rfl, le_sz rfl, q⟩) ?_
        walk_at "n"
        have fin : ∀ (A : DEnds) (L : List SF), L = wraps a i s → 0 < L.length → L.length < 10 → (∀ r O, N r O → A.nx r O) → dAsg (dCallX b ofS (dCons (dVar 1) (dCons (dVar 26) dNil))) (dgName 7) A [.un, .sh (.opq (.ref b)), .sh dt, .sh (.lst [.str (f 0), .str (f 1), .str (f 2), .str (f 3), .str (f 4), .str (f 5), .str (f 6), .str (f 7), .str (f 8), .str (f 9)]), .sh (.str (f 0)), .sh (.str (f 9)), .sh (dF f a), .sh (dF f s), .sh (.int i), s9, s10, s11, s12, s13, s14, s15, s16, s17, s18, s19, s20, s21, s22, s23, s24, s25, .sh (.lst (L.map (dF f))), s27] noO := fun A L hL h0 h1 hA => by
          refine st_setNL (fun d => ∃ s ∈ deeps a (i + 1), d = dF f s) (fun Q E q => ?_) ?_
          · refine val_of (.lst (L.map (dF f))) (fun Q E q => q) (fun Q E q => q) (by show 0 < (L.map (dF f)).length; rw [List.length_map]; exact h0) (by show (L.map (dF f)).length < 1000000; rw [List.length_map]; omega) _ _ fun y hy => ?_
            obtain ⟨t, ht, rfl⟩ := List.mem_map.mp hy
            rw [hL] at ht
            exact q _ ⟨t, List.mem_flatMap.mpr ⟨s, hs, ht⟩, rfl⟩
          rintro _ ⟨t, ht, rfl⟩
          exact hA _ _ (hN _ ⟨t, ht, _, _, rfl⟩)
        match i, hi with
        | 0, _ =>
          refine st_if true (val_tstB _ (val_op (.int 0) (.int 2) (.bl true) (fun Q E q => q) (fun Q E q => q) fun Q q => q)) (bcT ?_)
          refine st_setL (.lst ((wraps a 0 s).map (dF f))) (val_op (.lst [dF f (.not s), dF f (.and s a), dF f (.or a s)]) (.lst [dF f (.way 1 5 s 0 0), dF f (.within 8 1 5 s 0 0)]) _ (fun Q E q => q) (val_lst _ (val_cons _ _ (val_tup _ (val_cons _ _ (fun Q E q => q) (val_cons _ _ (val_ix (.inl rfl) (fun Q E q => q) (fun Q E q => q) ax1) (val_cons _ _ (val_ix (.inl rfl) (fun Q E q => q) (fun Q E q => q) ax5) (val_cons _ _ (fun Q E q => q) (val_cons _ _ (fun Q E q => q) (val_cons _ _ (fun Q E q => q) val_nil)))))) (le_sz rfl)) (val_cons _ _ (val_tup _ (val_cons _ _ (fun Q E q => q) (val_cons _ _ (fun Q E q => q) (val_cons _ _ (val_ix (.inl rfl) (fun Q E q => q) (fun Q E q => q) ax1) (val_cons _ _ (val_ix (.inl rfl) (fun Q E q => q) (fun Q E q => q) ax5) (val_cons _ _ (fun Q E q => q) (val_cons _ _ (fun Q E q => q) (val_cons _ _ (fun Q E q => q) val_nil))))))) (le_sz rfl)) val_nil)) (le_sz rfl)) fun Q q => ⟨le_sz rfl, q⟩) ?_
          exact fin _ _ rfl (show 0 < 5 by decide) (show 5 < 10 by decide) fun _ _ z => z
        | 1, _ =>
          refine st_if true (val_tstB _ (val_op (.int 1) (.int 2) (.bl true) (fun Q E q => q) (fun Q E q => q) fun Q q => q)) (bcT ?_)
          refine st_setL (.lst ((wraps a 1 s).map (dF f))) (val_op (.lst [dF f (.not s), dF f (.and s a), dF f (.or a s)]) (.lst [dF f (.way 2 6 s 0 0), dF f (.within 8 2 6 s 0 0)]) _ (fun Q E q => q) (val_lst _ (val_cons _ _ (val_tup _ (val_cons _ _ (fun Q E q => q) (val_cons _ _ (val_ix (.inl rfl) (fun Q E q => q) (fun Q E q => q) ax2) (val_cons _ _ (val_ix (.inl rfl) (fun Q E q => q) (fun Q E q => q) ax6) (val_cons _ _ (fun Q E q => q) (val_cons _ _ (fun Q E q => q) (val_cons _ _ (fun Q E q => q) val_nil)))))) (le_sz rfl)) (val_cons _ _ (val_tup _ (val_cons _ _ (fun Q E q => q) (val_cons _ _ (fun Q E q => q) (val_cons _ _ (val_ix (.inl rfl) (fun Q E q => q) (fun Q E q => q) ax2) (val_cons _ _ (val_ix (.inl rfl) (fun Q E q => q) (fun Q E q => q) ax6) (val_cons _ _ (fun Q E q => q) (val_cons _ _ (fun Q E q => q) (val_cons _ _ (fun Q E q => q) val_nil))))))) (le_sz rfl)) val_nil)) (le_sz rfl)) fun Q q => ⟨le_sz rfl, q⟩) ?_
          exact fin _ _ rfl (show 0 < 5 by decide) (show 5 < 10 by decide) fun _ _ z => z
        | 2, _ =>
          refine st_if false (val_tstB _ (val_op (.int 2) (.int 2) (.bl false) (fun Q E q => q) (fun Q E q => q) fun Q q => q)) (bcN ?_)
          exact fin _ _ rfl (show 0 < 3 by decide) (show 3 < 10 by decide) fun _ _ z => z
        | 3, _ =>
          refine st_if false (val_tstB _ (val_op (.int 3) (.int 2) (.bl false) (fun Q E q => q) (fun Q E q => q) fun Q q => q)) (bcN ?_)
          exact fin _ _ rfl (show 0 < 3 by decide) (show 3 < 10 by decide) fun _ _ z => z
      rintro ρ ⟨s, hs, s8, s26, rfl⟩
      have hs : s ∈ deeps a 4 := hs
      refine st_setD (dF f (.not s)) (fun Q E q => ⟨le_sz rfl, q⟩) ?_
      walk_at "n"
      refine st_setD (dF f (wideS a)) (fun Q E q => ⟨le_sz rfl, le_sz rfl, le_sz rfl, q⟩) ?_
      walk_at "n"
      refine st_setD (dF f (twelveS a)) (fun Q E q => ⟨le_sz rfl, le_sz rfl, le_sz rfl, q⟩) ?_
      walk_at "n"
      refine st_setD (dF f (elevenS a)) (fun Q E q => ⟨le_sz rfl, le_sz rfl, q⟩) ?_
      walk_at "n"
      refine st_par2 (dF f (.same 1 5)) (dF f (.same 1 6)) (val_cons _ _ (val_tup _ (val_cons _ _ (fun Q E q => q) (val_cons _ _ (val_ix (.inl rfl) (fun Q E q => q) (fun Q E q => q) ax1) (val_cons _ _ (val_ix (.inl rfl) (fun Q E q => q) (fun Q E q => q) ax5) val_nil))) (le_sz rfl)) (val_cons _ _ (val_tup _ (val_cons _ _ (fun Q E q => q) (val_cons _ _ (val_ix (.inl rfl) (fun Q E q => q) (fun Q E q => q) ax1) (val_cons _ _ (val_ix (.inl rfl) (fun Q E q => q) (fun Q E q => q) ax6) val_nil))) (le_sz rfl)) val_nil)) ?_
      walk_at "n"
      refine st_forJ (rngD 0 3) (fun i ρ => ∃ t ∈ scopes i, ∃ s8 : Sl, ρ = [.un, .sh (.opq (.ref b)), .sh dt, .sh (.lst [.str (f 0), .str (f 1), .str (f 2), .str (f 3), .str (f 4), .str (f 5), .str (f 6), .str (f 7), .str (f 8), .str (f 9)]), .sh (.str (f 0)), .sh (.str (f 9)), .sh (dF f a), .sh (dF f s), s8, .sh (dF f (.not s)), .sh (dF f (wideS a)), .sh (dF f (twelveS a)), .sh (dF f (elevenS a)), .sh (dF f t), .sh (dF f (moreS 0)), s15, s16, s17, s18, s19, s20, s21, s22, s23, s24, s25, s26, s27]) ?_ ⟨.same 1 5, by simp [scopes], _, rfl⟩ ?_ ?_
      · exact fun Q E q => ⟨by decide, by decide, q⟩
      · rintro i dk hk ρ ⟨t, ht, s8, rfl⟩ N hN
        obtain ⟨hi, rfl⟩ := rng_at hk
        refine tg_one [.un, .sh (.opq (.ref b)), .sh dt, .sh (.lst [.str (f 0), .str (f 1), .str (f 2), .str (f 3), .str (f 4), .str (f 5), .str (f 6), .str (f 7), .str (f 8), .str (f 9)]), .sh (.str (f 0)), .sh (.str (f 9)), .sh (dF f a), .sh (dF f s), .sh (.int i), .sh (dF f (.not s)), .sh (dF f (wideS a)), .sh (dF f (twelveS a)), .sh (dF f (elevenS a)), .sh (dF f t), .sh (dF f (moreS 0)), s15, s16, s17, s18, s19, s20, s21, s22, s23, s24, s25, s26, s27] rfl ?_
        have fin : ∀ h : Str, h = "all" ∨ h = "some" → N [.un, .sh (.opq (.ref b)), .sh dt, .sh (.lst [.str (f 0), .str (f 1), .str (f 2), .str (f 3), .str (f 4), .str (f 5), .str (f 6), .str (f 7), .str (f 8), .str (f 9)]), .sh (.str (f 0)), .sh (.str (f 9)), .sh (dF f a), .sh (dF f s), .sh (.int i), .sh (dF f (.not s)), .sh (dF f (wideS a)), .sh (dF f (twelveS a)), .sh (dF f (elevenS a)), .sh (.tup [.str h, .str (f (scB i)), dF f t]), .sh (dF f (moreS 0)), s15, s16, s17, s18, s19, s20, s21, s22, s23, s24, s25, s26, s27] noO := fun h hh => by
          rcases hh with rfl | rfl
          · exact hN _ ⟨.all (scB i) t, List.mem_flatMap.mpr ⟨t, ht, by simp⟩, _, rfl⟩
          · exact hN _ ⟨.some (scB i) t, List.mem_flatMap.mpr ⟨t, ht, by simp⟩, _, rfl⟩
        have kk : ∀ (A : DEnds), A.nx = N → (∀ Q E, Q (.str (f (scB i))) noO → dOp ixD (dVar 3) (dOp (pu subD) (dC (.int 5)) (dVar 8)) [.un, .sh (.opq (.ref b)), .sh dt, .sh (.lst [.str (f 0), .str (f 1), .str (f 2), .str (f 3), .str (f 4), .str (f 5), .str (f 6), .str (f 7), .str (f 8), .str (f 9)]), .sh (.str (f 0)), .sh (.str (f 9)), .sh (dF f a), .sh (dF f s), .sh (.int i), .sh (dF f (.not s)), .sh (dF f (wideS a)), .sh (dF f (twelveS a)), .sh (dF f (elevenS a)), .sh (dF f t), .sh (dF f (moreS 0)), s15, s16, s17, s18, s19, s20, s21, s22, s23, s24, s25, s26, s27] noO Q E) → dAsg (dTup (dCons (dCallX b ofS (dCons (dVar 1) (dCons (dLst (dCons (dC (.str "all")) (dCons (dC (.str "some")) dNil))) dNil))) (dCons (dOp ixD (dVar 3) (dOp (pu subD) (dC (.int 5)) (dVar 8))) (dCons (dVar 13) dNil)))) (dgName 13) A [.un, .sh (.opq (.ref b)), .sh dt, .sh (.lst [.str (f 0), .str (f 1), .str (f 2), .str (f 3), .str (f 4), .str (f 5), .str (f 6), .str (f 7), .str (f 8), .str (f 9)]), .sh (.str (f 0)), .sh (.str (f 9)), .sh (dF f a), .sh (dF f s), .sh (.int i), .sh (dF f (.not s)), .sh (dF f (wideS a)), .sh (dF f (twelveS a)), .sh (dF f (elevenS a)), .sh (dF f t), .sh (dF f (moreS 0)), s15, s16, s17, s18, s19, s20, s21, s22, s23, s24, s25, s26, s27] noO := fun A hA hx => by
          refine st_setNL (fun d => ∃ h : Str, (h = "all" ∨ h = "some") ∧ d = .tup [.str h, .str (f (scB i)), dF f t]) (fun Q E q => ?_) ?_
          · refine val_of (.lst [.str "all", .str "some"]) (fun Q E q => q) (fun Q E q => ⟨le_sz rfl, q⟩) (show 0 < 2 by decide) (show 2 < 1000000 by decide) _ _ fun y hy => ?_
            simp only [itemsL, List.mem_cons, List.not_mem_nil, or_false] at hy
            rcases hy with rfl | rfl
            · exact hx _ _ ⟨le_sz rfl, q _ ⟨_, .inl rfl, rfl⟩⟩
            · exact hx _ _ ⟨le_sz rfl, q _ ⟨_, .inr rfl, rfl⟩⟩
          rintro _ ⟨h, hh, rfl⟩
          rw [hA]
          exact fin h hh
        have hc : i = 0 ∨ i = 1 ∨ i = 2 := by omega
        rcases hc with rfl | rfl | rfl
        · exact kk _ rfl (val_ix (.inl rfl) (fun Q E q => q) (val_op (.int 5) (.int 0) (.int 5) (fun Q E q => q) (fun Q E q => q) fun Q q => ⟨trivial, q⟩) ax5)
        · exact kk _ rfl (val_ix (.inl rfl) (fun Q E q => q) (val_op (.int 5) (.int 1) (.int 4) (fun Q E q => q) (fun Q E q => q) fun Q q => ⟨trivial, q⟩) ax4)
        · exact kk _ rfl (val_ix (.inl rfl) (fun Q E q => q) (val_op (.int 5) (.int 2) (.int 3) (fun Q E q => q) (fun Q E q => q) fun Q q => ⟨trivial, q⟩) ax3)
      rintro ρ ⟨t, ht, s8, rfl⟩
      have ht : t ∈ scopes 3 := ht
      refine st_forJ (rngD 0 4) (fun i ρ => ∃ s8 : Sl, ρ = [.un, .sh (.opq (.ref b)), .sh dt, .sh (.lst [.str (f 0), .str (f 1), .str (f 2), .str (f 3), .str (f 4), .str (f 5), .str (f 6), .str (f 7), .str (f 8), .str (f 9)]), .sh (.str (f 0)), .sh (.str (f 9)), .sh (dF f a), .sh (dF f s), s8, .sh (dF f (.not s)), .sh (dF f (wideS a)), .sh (dF f (twelveS a)), .sh (dF f (elevenS a)), .sh (dF f t), .sh (dF f (moreS i)), s15, s16, s17, s18, s19, s20, s21, s22, s23, s24, s25, s26, s27]) ?_ ⟨_, rfl⟩ ?_ ?_
      · exact fun Q E q => ⟨by decide, by decide, q⟩
      · rintro i dk hk ρ ⟨s8, rfl⟩ N hN
        obtain ⟨hi, rfl⟩ := rng_at hk
        refine tg_one [.un, .sh (.opq (.ref b)), .sh dt, .sh (.lst [.str (f 0), .str (f 1), .str (f 2), .str (f 3), .str (f 4), .str (f 5), .str (f 6), .str (f 7), .str (f 8), .str (f 9)]), .sh (.str (f 0)), .sh (.str (f 9)), .sh (dF f a), .sh (dF f s), .sh (.int i), .sh (dF f (.not s)), .sh (dF f (wideS a)), .sh (dF f (twelveS a)), .sh (dF f (elevenS a)), .sh (dF f t), .sh (dF f (moreS i)), s15, s16, s17, s18, s19, s20, s21, s22, s23, s24, s25, s26, s27] rfl ?_
        have hc : i = 0 ∨ i = 1 ∨ i = 2 ∨ i = 3 := by omega
        rcases hc with rfl | rfl | rfl | rfl
        · refine st_setL (dF f (moreS 1)) (val_tup _ (val_cons _ _ (fun Q E q => q) (val_cons _ _ (val_ix (.inl rfl) (fun Q E q => q) (val_op (.int 6) (.int 0) (.int 6) (fun Q E q => q) (fun Q E q => q) fun Q q => ⟨trivial, q⟩) ax6) (val_cons _ _ (fun Q E q => q) val_nil))) (le_sz rfl)) ?_
          exact hN _ ⟨_, rfl⟩
        · refine st_setL (dF f (moreS 2)) (val_tup _ (val_cons _ _ (fun Q E q => q) (val_cons _ _ (val_ix (.inl rfl) (fun Q E q => q) (val_op (.int 6) (.int 1) (.int 5) (fun Q E q => q) (fun Q E q => q) fun Q q => ⟨trivial, q⟩) ax5) (val_cons _ _ (fun Q E q => q) val_nil))) (le_sz rfl)) ?_
          exact hN _ ⟨_, rfl⟩
        · refine st_setL (dF f (moreS 3)) (val_tup _ (val_cons _ _ (fun Q E q => q) (val_cons _ _ (val_ix (.inl rfl) (fun Q E q => q) (val_op (.int 6) (.int 2) (.int 4) (fun Q E q => q) (fun Q E q => q) fun Q q => ⟨trivial, q⟩) ax4) (val_cons _ _ (fun Q E q => q) val_nil))) (le_sz rfl)) ?_
          exact hN _ ⟨_, rfl⟩
        · refine st_setL (dF f (moreS 4)) (val_tup _ (val_cons _ _ (fun Q E q => q) (val_cons _ _ (val_ix (.inl rfl) (fun Q E q => q) (val_op (.int 6) (.int 3) (.int 3) (fun Q E q => q) (fun Q E q => q) fun Q q => ⟨trivial, q⟩) ax3) (val_cons _ _ (fun Q E q => q) val_nil))) (le_sz rfl)) ?_
          exact hN _ ⟨_, rfl⟩
      rintro ρ ⟨s8, rfl⟩
      show dSeq _ _ _ [.un, .sh (.opq (.ref b)), .sh dt, .sh (.lst [.str (f 0), .str (f 1), .str (f 2), .str (f 3), .str (f 4), .str (f 5), .str (f 6), .str (f 7), .str (f 8), .str (f 9)]), .sh (.str (f 0)), .sh (.str (f 9)), .sh (dF f a), .sh (dF f s), s8, .sh (dF f (.not s)), .sh (dF f (wideS a)), .sh (dF f (twelveS a)), .sh (dF f (elevenS a)), .sh (dF f t), .sh (dF f (moreS 4)), s15, s16, s17, s18, s19, s20, s21, s22, s23, s24, s25, s26, s27] _
      refine st_setD (dF f linkS) (val_tup _ (val_cons _ _ (fun Q E q => q) (val_cons _ _ (fun Q E q => q) (val_cons _ _ (val_ix (.inl rfl) (fun Q E q => q) (fun Q E q => q) ax1) (val_cons _ _ (val_ix (.inl rfl) (fun Q E q => q) (fun Q E q => q) ax2) val_nil)))) (le_sz rfl)) ?_
      walk_at "n"
      refine st_setD (dF f waysS) (val_tup _ (val_cons _ _ (fun Q E q => q) (val_cons _ _ (val_ix (.inl rfl) (fun Q E q => q) (fun Q E q => q) ax3) (val_cons _ _ (val_ix (.inl rfl) (fun Q E q => q) (fun Q E q => q) ax4) (val_cons _ _ (val_tup _ (val_cons _ _ (fun Q E q => q) (val_cons _ _ (fun Q E q => q) (val_cons _ _ (val_ix (.inl rfl) (fun Q E q => q) (fun Q E q => q) ax1) (val_cons _ _ (val_ix (.inl rfl) (fun Q E q => q) (fun Q E q => q) ax2) (val_cons _ _ (fun Q E q => q) (val_cons _ _ (val_ix (.inl rfl) (fun Q E q => q) (fun Q E q => q) ax3) (val_cons _ _ (val_ix (.inl rfl) (fun Q E q => q) (fun Q E q => q) ax4) val_nil))))))) (le_sz rfl)) (val_cons _ _ (fun Q E q => q) (val_cons _ _ (fun Q E q => q) val_nil)))))) (le_sz rfl)) ?_
      walk_at "n"
      refine st_setD (.lst (prs f (goodL a s t))) (val_lst _ (val_cons _ _ (val_tup _ (val_cons _ _ (fun Q E q => ⟨le_sz rfl, q⟩) (val_cons _ _ (fun Q E q => q) val_nil)) (le_sz rfl)) (val_cons _ _ (val_tup _ (val_cons _ _ (fun Q E q => ⟨le_sz rfl, q⟩) (val_cons _ _ (fun Q E q => q) val_nil)) (le_sz rfl)) (val_cons _ _ (val_tup _ (val_cons _ _ (val_toL [.str (f 0), .str (f 1), .str (f 2), .str (f 3), .str (f 4), .str (f 5), .str (f 6), .str (f 7), .str (f 8), .str (f 9)] 3 (show 3 ≤ 10 by decide) (fun Q E q => q) (fun Q E q => q)) (val_cons _ _ (fun Q E q => q) val_nil)) (le_sz rfl)) (val_cons _ _ (val_tup _ (val_cons _ _ (fun Q E q => ⟨le_sz rfl, q⟩) (val_cons _ _ (fun Q E q => q) val_nil)) (le_sz rfl)) (val_cons _ _ (val_tup _ (val_cons _ _ (fun Q E q => ⟨le_sz rfl, q⟩) (val_cons _ _ (fun Q E q => ⟨le_sz rfl, q⟩) val_nil)) (le_sz rfl)) (val_cons _ _ (val_tup _ (val_cons _ _ (fun Q E q => ⟨le_sz rfl, q⟩) (val_cons _ _ (fun Q E q => q) val_nil)) (le_sz rfl)) val_nil)))))) (le_sz rfl)) ?_
      walk_at "n"
      obtain ⟨⟨g1, g2, g3, g4, g5, g6, g7⟩, ⟨b1, b2, b3⟩, ⟨l1, l2⟩, d1, d2, d3⟩ := others ha hs
      have hnd : ∀ ns : List (Fin 10), ns = [0] ∨ ns = n3 → (ns.map f).Nodup ∧ (ns.map f).length ≤ 3 ∧ Nmd (ns.map f) := fun ns h => ⟨nodup_map hfi (by rcases h with rfl | rfl <;> decide), by rcases h with rfl | rfl <;> simp, fun y hy => by
        obtain ⟨i, _, rfl⟩ := List.mem_map.mp hy
        exact hfn i⟩
      have mkG_ : ∀ {C : Addr} {Q : QD} {E : QX} (ns : List (Fin 10)) (u : SF), (ns = [0] ∨ ns = n3) → Say.good ns u = true → Q (qsD C (ns.map f) (u.map f)) noO → mkG C (iniQ (He.ga K) C) [.lst ((ns.map f).map D.str), dF f u] noO Q E := fun ns u hns hu q => mk_good (.inl rfl) (hnd ns hns).2.2 (hnd ns hns).1 (hnd ns hns).2.1 (dF_nmd hfn u) (by rw [Say.map_good hfi]; exact hu) q
      have mkT_ : ∀ {C : Addr} {Q : QD} {E : QX} (ns : List (Fin 10)) (u : SF), (ns = [0] ∨ ns = n3) → Say.good ns u = true → Q (qsD C (ns.map f) (u.map f)) noO → mkG C (iniQ (He.ga K) C) [.tup ((ns.map f).map D.str), dF f u] noO Q E := fun ns u hns hu q => mk_good (.inr rfl) (hnd ns hns).2.2 (hnd ns hns).1 (hnd ns hns).2.1 (dF_nmd hfn u) (by rw [Say.map_good hfi]; exact hu) q
      have mkB_ : ∀ {C : Addr} {Q : QD} {E : QX} (dn : D) (ns : List (Fin 10)) (u : SF), Seq dn ((ns.map f).map D.str) → (ns = [0] ∨ ns = n3) → Say.good ns u = false → E (sayX (He.ga K) (dF f u)) noO → mkG C (iniQ (He.ga K) C) [dn, dF f u] noO Q E := fun dn ns u hdn hns hu q => mk_bad hdn (hnd ns hns).2.2 (hnd ns hns).1 (hnd ns hns).2.1 (dF_nmd hfn u) (by rw [Say.map_good hfi]; exact hu) q
      refine st_forJ (prs f (goodL a s t)) (fun _ ρ => ∃ s18 s19 s27 : Sl, ρ = [.un, .sh (.opq (.ref b)), .sh dt, .sh (.lst [.str (f 0), .str (f 1), .str (f 2), .str (f 3), .str (f 4), .str (f 5), .str (f 6), .str (f 7), .str (f 8), .str (f 9)]), .sh (.str (f 0)), .sh (.str (f 9)), .sh (dF f a), .sh (dF f s), s8, .sh (dF f (.not s)), .sh (dF f (wideS a)), .sh (dF f (twelveS a)), .sh (dF f (elevenS a)), .sh (dF f t), .sh (dF f (moreS 4)), .sh (dF f linkS), .sh (dF f waysS), .sh (.lst (prs f (goodL a s t))), s18, s19, s20, s21, s22, s23, s24, s25, s26, s27]) (fun Q E q => q) ⟨_, _, _, rfl⟩ ?_ ?_
      · rintro i x hx ρ ⟨s18, s19, s27, rfl⟩ N hN
        obtain ⟨p, hp, rfl⟩ := List.mem_map.mp (List.mem_of_getElem? hx)
        obtain ⟨hns, hg⟩ := all_good ha hs ht p hp
        have hsm := good_deep hg
        have hdm : (p.2.map f).deep ≤ 6 := by rw [Say.map_deep]; exact hsm.1
        refine tg_tup rfl (tg_pair [.un, .sh (.opq (.ref b)), .sh dt, .sh (.lst [.str (f 0), .str (f 1), .str (f 2), .str (f 3), .str (f 4), .str (f 5), .str (f 6), .str (f 7), .str (f 8), .str (f 9)]), .sh (.str (f 0)), .sh (.str (f 9)), .sh (dF f a), .sh (dF f s), s8, .sh (dF f (.not s)), .sh (dF f (wideS a)), .sh (dF f (twelveS a)), .sh (dF f (elevenS a)), .sh (dF f t), .sh (dF f (moreS 4)), .sh (dF f linkS), .sh (dF f waysS), .sh (.lst (prs f (goodL a s t))), .sh (.lst ((p.1.map f).map D.str)), .sh (dF f p.2), s20, s21, s22, s23, s24, s25, s26, s27] rfl ?_)
        refine st_setD (qsD C (p.1.map f) (p.2.map f)) (fun Q E q => val_mkK [.lst ((p.1.map f).map D.str), dF f p.2] (val_cons _ _ (fun Q E q => q) (val_cons _ _ (fun Q E q => q) val_nil)) ⟨rfl, rfl, mkG_ p.1 p.2 hns hg q⟩) ?_
        walk_at "n"
        refine st_ifL (not_same (n := 10) (.lst [.tup ((p.1.map f).map D.str), dF f p.2, .int (p.2.map f).forms.length]) (fun Q E q => ?_) ?_) (hN _ ⟨_, _, _, rfl⟩)
        · refine val_cons _ _ (val_lst _ (val_cons _ _ (val_fld (fs := qsF (p.1.map f) (p.2.map f)) (fun Q E q => q) rfl) (val_cons _ _ (val_fld (fs := qsF (p.1.map f) (p.2.map f)) (fun Q E q => q) rfl) (val_cons _ _ (val_fld (fs := qsF (p.1.map f) (p.2.map f)) (fun Q E q => q) rfl) val_nil))) (le_sz rfl)) (val_cons _ _ (val_lst _ (val_cons _ _ (val_tupO (.inl rfl) (fun Q E q => q)) (val_cons _ _ (fun Q E q => q) (val_cons _ _ (fun Q E q => ?_) val_nil))) (le_sz rfl)) val_nil) _ _ q
          refine val_len (rs := (p.2.map f).forms.map Say.d) (.inl rfl) (val_cons _ _ (val_call [dF f p.2] _ (fun Q E q => q) fun Q E q => ⟨p.2.map f, rfl, by omega, by rw [Say.map_forms, List.length_map]; omega, q⟩) val_nil) _ _ ?_
          rw [List.length_map]
          exact q
        · refine plain_l rfl fun x hx => ?_
          simp only [List.mem_cons, List.not_mem_nil, or_false] at hx
          rcases hx with rfl | rfl | rfl
          · refine plain_tup (by rw [List.length_map, List.length_map]; have := (hnd _ hns).2.1; rw [List.length_map] at this; omega) fun x hx => ?_
            obtain ⟨y, _, rfl⟩ := List.mem_map.mp hx
            exact plain_str
          · exact say_plain 9 _ (by omega)
          · exact plain_int
      rintro ρ ⟨s18, s19, s27, rfl⟩
      refine st_setD (.lst (prs f (badL a s))) (val_lst _ (val_cons _ _ (val_tup _ (val_cons _ _ (fun Q E q => ⟨le_sz rfl, q⟩) (val_cons _ _ (val_tup _ (val_cons _ _ (fun Q E q => q) (val_cons _ _ (fun Q E q => q) val_nil)) (le_sz rfl)) val_nil)) (le_sz rfl)) (val_cons _ _ (val_tup _ (val_cons _ _ (fun Q E q => ⟨le_sz rfl, q⟩) (val_cons _ _ (val_tup _ (val_cons _ _ (fun Q E q => q) (val_cons _ _ (fun Q E q => q) val_nil)) (le_sz rfl)) val_nil)) (le_sz rfl)) (val_cons _ _ (val_tup _ (val_cons _ _ (val_toL [.str (f 0), .str (f 1), .str (f 2), .str (f 3), .str (f 4), .str (f 5), .str (f 6), .str (f 7), .str (f 8), .str (f 9)] 3 (show 3 ≤ 10 by decide) (fun Q E q => q) (fun Q E q => q)) (val_cons _ _ (fun Q E q => q) val_nil)) (le_sz rfl)) (val_cons _ _ (val_tup _ (val_cons _ _ (fun Q E q => ⟨le_sz rfl, q⟩) (val_cons _ _ (val_tup _ (val_cons _ _ (fun Q E q => q) (val_cons _ _ (val_tup _ (val_cons _ _ (fun Q E q => q) (val_cons _ _ (fun Q E q => q) (val_cons _ _ (fun Q E q => q) val_nil))) (le_sz rfl)) (val_cons _ _ (val_tup _ (val_cons _ _ (fun Q E q => q) (val_cons _ _ (fun Q E q => q) (val_cons _ _ (fun Q E q => q) (val_cons _ _ (fun Q E q => q) val_nil)))) (le_sz rfl)) val_nil))) (le_sz rfl)) val_nil)) (le_sz rfl)) (val_cons _ _ (val_tup _ (val_cons _ _ (fun Q E q => ⟨le_sz rfl, q⟩) (val_cons _ _ (val_tup _ (val_cons _ _ (fun Q E q => q) (val_cons _ _ (val_tup _ (val_cons _ _ (fun Q E q => q) (val_cons _ _ (val_ix (.inl rfl) (fun Q E q => q) (fun Q E q => q) ax1) (val_cons _ _ (val_ix (.inl rfl) (fun Q E q => q) (fun Q E q => q) ax2) (val_cons _ _ (val_tup _ (val_cons _ _ (fun Q E q => q) (val_cons _ _ (fun Q E q => q) (val_cons _ _ (val_ix (.inl rfl) (fun Q E q => q) (fun Q E q => q) ax2) val_nil))) (le_sz rfl)) (val_cons _ _ (fun Q E q => q) (val_cons _ _ (fun Q E q => q) val_nil)))))) (le_sz rfl)) (val_cons _ _ (fun Q E q => q) val_nil))) (le_sz rfl)) val_nil)) (le_sz rfl)) val_nil))))) (le_sz rfl)) ?_
      walk_at "n"
      refine st_forJ (prs f (badL a s)) (fun _ ρ => ∃ s18 s19 : Sl, ρ = [.un, .sh (.opq (.ref b)), .sh dt, .sh (.lst [.str (f 0), .str (f 1), .str (f 2), .str (f 3), .str (f 4), .str (f 5), .str (f 6), .str (f 7), .str (f 8), .str (f 9)]), .sh (.str (f 0)), .sh (.str (f 9)), .sh (dF f a), .sh (dF f s), s8, .sh (dF f (.not s)), .sh (dF f (wideS a)), .sh (dF f (twelveS a)), .sh (dF f (elevenS a)), .sh (dF f t), .sh (dF f (moreS 4)), .sh (dF f linkS), .sh (dF f waysS), .sh (.lst (prs f (goodL a s t))), s18, s19, .sh (.lst (prs f (badL a s))), s21, s22, s23, s24, s25, s26, s27]) (fun Q E q => q) ⟨_, _, rfl⟩ ?_ ?_
      · rintro i x hx ρ ⟨s18, s19, rfl⟩ N hN
        obtain ⟨p, hp, rfl⟩ := List.mem_map.mp (List.mem_of_getElem? hx)
        obtain ⟨hns, hg, hdp⟩ := all_bad ha hs p hp
        have hdm : (p.2.map f).deep ≤ 7 := by rw [Say.map_deep]; exact hdp
        refine tg_tup rfl (tg_pair [.un, .sh (.opq (.ref b)), .sh dt, .sh (.lst [.str (f 0), .str (f 1), .str (f 2), .str (f 3), .str (f 4), .str (f 5), .str (f 6), .str (f 7), .str (f 8), .str (f 9)]), .sh (.str (f 0)), .sh (.str (f 9)), .sh (dF f a), .sh (dF f s), s8, .sh (dF f (.not s)), .sh (dF f (wideS a)), .sh (dF f (twelveS a)), .sh (dF f (elevenS a)), .sh (dF f t), .sh (dF f (moreS 4)), .sh (dF f linkS), .sh (dF f waysS), .sh (.lst (prs f (goodL a s t))), .sh (.lst ((p.1.map f).map D.str)), .sh (dF f p.2), .sh (.lst (prs f (badL a s))), s21, s22, s23, s24, s25, s26, s27] rfl ?_)
        refine st_ifL (not_same (n := 10) (.tup [.str "InvalidSaying", dF f p.2]) (fun Q E q => ?_) (plain_pair (say_plain 9 _ (by omega)))) (hN _ ⟨_, _, rfl⟩)
        refine val_cons _ _ (fun Q E q => val_got ?_) (val_cons _ _ (val_tup _ (fun Q E q => q) (le_sz rfl)) val_nil) _ _ q
        exact val_mkK [.lst ((p.1.map f).map D.str), dF f p.2] (val_cons _ _ (fun Q E q => q) (val_cons _ _ (fun Q E q => q) val_nil)) ⟨rfl, rfl, mkB_ _ p.1 p.2 (.inl rfl) hns hg (got_saying (say_plain 9 _ (by omega)) q)⟩
      rintro ρ ⟨s18, s19, rfl⟩
      refine st_asg3N (qsD C ([0].map f) (Say.map f (.not s))) (qsD C ([0].map f) (Say.map f (twelveS a))) (qsD C ([0].map f) (Say.map f (wideS a))) (val_cons _ _ (fun Q E q => ?_) (val_cons _ _ (fun Q E q => ?_) (val_cons _ _ (fun Q E q => ?_) val_nil))) ?_
      · exact val_mkK [.lst (([0].map f).map D.str), dF f (.not s)] (val_cons _ _ (val_lst _ (fun Q E q => q) (le_sz rfl)) (val_cons _ _ (fun Q E q => q) val_nil)) ⟨rfl, rfl, mkG_ [0] _ (.inl rfl) g1 q⟩
      · exact val_mkK [.lst (([0].map f).map D.str), dF f (twelveS a)] (val_cons _ _ (val_lst _ (fun Q E q => q) (le_sz rfl)) (val_cons _ _ (fun Q E q => q) val_nil)) ⟨rfl, rfl, mkG_ [0] _ (.inl rfl) g2 q⟩
      · exact val_mkK [.lst (([0].map f).map D.str), dF f (wideS a)] (val_cons _ _ (val_lst _ (fun Q E q => q) (le_sz rfl)) (val_cons _ _ (fun Q E q => q) val_nil)) ⟨rfl, rfl, mkG_ [0] _ (.inl rfl) g3 q⟩
      walk_at "n"
      refine st_set _ (val_lst _ (fun Q E q => q) (le_sz rfl)) ?_
      intro v24 e24
      walk_at "n"
      refine st_setD (.lst [.tup [.str "InvalidSaying", dF f (.and (.not s) (.not s))], .tup [.str "InvalidSaying", dF f (.or (twelveS a) (wideS a))], .tup [.str "InvalidSaying", dF f (.not (twelveS a))]]) (val_lst _ (val_cons _ _ (val_tup _ (val_cons _ _ (fun Q E q => q) (val_cons _ _ (val_tup _ (val_cons _ _ (fun Q E q => q) (val_cons _ _ (fun Q E q => q) (val_cons _ _ (fun Q E q => q) val_nil))) (le_sz rfl)) val_nil)) (le_sz rfl)) (val_cons _ _ (val_tup _ (val_cons _ _ (fun Q E q => q) (val_cons _ _ (val_tup _ (val_cons _ _ (fun Q E q => q) (val_cons _ _ (fun Q E q => q) (val_cons _ _ (fun Q E q => q) val_nil))) (le_sz rfl)) val_nil)) (le_sz rfl)) (val_cons _ _ (val_tup _ (val_cons _ _ (fun Q E q => q) (val_cons _ _ (val_tup _ (val_cons _ _ (fun Q E q => q) (val_cons _ _ (fun Q E q => q) val_nil)) (le_sz rfl)) val_nil)) (le_sz rfl)) val_nil))) (le_sz rfl)) ?_
      walk_at "n"
      have pl : ∀ u : SF, u.deep ≤ 7 → Plain 9 (.tup [.str "InvalidSaying", dF f u]) := fun u h => plain_pair (say_plain 8 _ (by rw [Say.map_deep]; omega))
      refine st_ifF (not_same (n := 10) (.lst [.tup [.str "InvalidSaying", dF f (.and (.not s) (.not s))], .tup [.str "InvalidSaying", dF f (.or (twelveS a) (wideS a))], .tup [.str "InvalidSaying", dF f (.not (twelveS a))]]) (fun Q E q => ?_) ?_) ?_
      · refine val_cons _ _ (fun Q E q => ?_) (val_cons _ _ (fun Q E q => q) val_nil) _ _ q
        refine spM.of ⟨_, congrArg (fun d => [d]) e24, ?_⟩
        refine ⟨_, _, rfl, ⟨_, .inl ⟨rfl, rfl⟩, rfl⟩, by decide, ?_⟩
        refine val_bin (fs := qsF ([0].map f) (Say.map f (.not s))) (gs := qsF ([0].map f) (Say.map f (.not s))) (fun Q E q => q) (fun Q E q => q) ⟨[0].map f, [0].map f, _, _, _, _, rfl, rfl, rfl, rfl, rfl, (hnd [0] (.inl rfl)).2.2, (hnd [0] (.inl rfl)).2.2, fun _ => ?_, fun h => absurd rfl h⟩
        refine mkB_ (.tup (([0].map f).map D.str)) [0] (.and (.not s) (.not s)) (.inr rfl) (.inl rfl) b1 (got_saying (n := 7) (say_plain 7 _ (by rw [Say.map_deep]; exact d1)) ?_)
        refine ⟨_, _, rfl, ⟨_, .inr (.inl ⟨rfl, rfl⟩), rfl⟩, le_sz rfl, ?_⟩
        refine val_bin (fs := qsF ([0].map f) (Say.map f (twelveS a))) (gs := qsF ([0].map f) (Say.map f (wideS a))) (fun Q E q => q) (fun Q E q => q) ⟨[0].map f, [0].map f, _, _, _, _, rfl, rfl, rfl, rfl, rfl, (hnd [0] (.inl rfl)).2.2, (hnd [0] (.inl rfl)).2.2, fun _ => ?_, fun h => absurd rfl h⟩
        refine mkB_ (.tup (([0].map f).map D.str)) [0] (.or (twelveS a) (wideS a)) (.inr rfl) (.inl rfl) b2 (got_saying (n := 7) (say_plain 7 _ (by rw [Say.map_deep]; exact d2)) ?_)
        refine ⟨_, _, rfl, ⟨_, .inr (.inr ⟨rfl, rfl⟩), rfl⟩, le_sz rfl, ?_⟩
        refine val_meth (fs := qsF ([0].map f) (Say.map f (twelveS a))) (fun Q E q => q) rfl ?_
        refine spM.of ⟨_, _, _, _, rfl, rfl, rfl, fun h => absurd h (by decide +kernel), ?_⟩
        exact mkB_ (.tup (([0].map f).map D.str)) [0] (.not (twelveS a)) (.inr rfl) (.inl rfl) b3 (got_saying (n := 7) (say_plain 7 _ (by rw [Say.map_deep]; exact d3)) q)
      · refine plain_l rfl fun x hx => ?_
        simp only [List.mem_cons, List.not_mem_nil, or_false] at hx
        rcases hx with rfl | rfl | rfl
        · exact pl _ d1
        · exact pl _ d2
        · exact pl _ d3
      refine st_ifL (not_same (n := 10) (.lst [.int 12, .int 10]) (fun Q E q => ?_) ?_) (hN _ ⟨_, _, _, _, _, _, _, _, _, _, _, _, _, _, _, _, _, _, _, _, _, _, _, _, _, _, rfl⟩)
      · refine val_cons _ _ (val_lst _ (val_cons _ _ (fun Q E q => ?_) (val_cons _ _ (fun Q E q => ?_) val_nil)) (le_sz rfl)) (val_cons _ _ (val_lst _ (fun Q E q => q) (le_sz rfl)) val_nil) _ _ q
        · refine val_fld (C := C) (fs := qsF ([0].map f) (Say.map f (.not (elevenS a)))) (fun Q E q => ?_) (by rw [show List.lookup _ (qsF ([0].map f) (Say.map f (.not (elevenS a)))) = some (D.int ((Say.map f (.not (elevenS a))).forms.length : Nat)) from rfl, Say.map_forms, List.length_map, l1]; rfl) _ _ q
          refine val_meth (fs := qsF ([0].map f) (Say.map f (elevenS a))) (fun Q E q => ?_) rfl ?_
          · exact val_mkK [.lst (([0].map f).map D.str), dF f (elevenS a)] (val_cons _ _ (val_lst _ (fun Q E q => q) (le_sz rfl)) (val_cons _ _ (fun Q E q => q) val_nil)) ⟨rfl, rfl, mkG_ [0] _ (.inl rfl) g4 q⟩
          refine spM.of ⟨_, _, _, _, rfl, rfl, rfl, fun h => absurd h (by decide +kernel), ?_⟩
          exact mkT_ [0] (.not (elevenS a)) (.inl rfl) g6 q
        · refine val_fld (C := C) (fs := qsF ([0].map f) (Say.map f (.and (wideS a) (.not a)))) (fun Q E q => ?_) (by rw [show List.lookup _ (qsF ([0].map f) (Say.map f (.and (wideS a) (.not a)))) = some (D.int ((Say.map f (.and (wideS a) (.not a))).forms.length : Nat)) from rfl, Say.map_forms, List.length_map, l2]; rfl) _ _ q
          refine val_bin (fs := qsF ([0].map f) (Say.map f (wideS a))) (gs := qsF ([0].map f) (Say.map f (.not a))) (fun Q E q => q) (fun Q E q => ?_) ⟨[0].map f, [0].map f, _, _, _, _, rfl, rfl, rfl, rfl, rfl, (hnd [0] (.inl rfl)).2.2, (hnd [0] (.inl rfl)).2.2, fun _ => ?_, fun h => absurd rfl h⟩
          · exact val_mkK [.lst (([0].map f).map D.str), dF f (.not a)] (val_cons _ _ (val_lst _ (fun Q E q => q) (le_sz rfl)) (val_cons _ _ (val_tup _ (fun Q E q => q) (le_sz rfl)) val_nil)) ⟨rfl, rfl, mkG_ [0] _ (.inl rfl) g5 q⟩
          exact mkT_ [0] (.and (wideS a) (.not a)) (.inl rfl) g7 ⟨⟨_, _, rfl⟩, q⟩
      · refine plain_l rfl fun x hx => ?_
        simp only [List.mem_cons, List.not_mem_nil, or_false] at hx
        rcases hx with rfl | rfl <;> exact plain_int
    · rintro ρ ⟨s2, s3, s4, s5, s6, s7, s8, s9, s10, s11, s12, s13, s14, s15, s16, s17, s18, s19, s20, s21, s22, s23, s24, s25, s26, s27, rfl⟩
      rfl
end
end LW
set_option Elab.async false
set_option linter.all false
set_option maxRecDepth 100000
set_option maxHeartbeats 0
namespace LW
open PySem PySem.Spec PyProof.Rows L2 EV PySem.XO PySem.W
abbrev FnP (K : PySem.W.Frag) (x : Str) (st : Stmt) (f : Addr) (fd : FuncData) : Prop := FunD K x x (defArgs st) (defBody st) (defScope st) [] [] f fd
theorem fun_of {K : PySem.W.Frag} {x q : Str} {st : Stmt} {kws : List (Str × V)} {f : Addr} {fd : FuncData} (F : FunD K x q (defArgs st) (defBody st) (defScope st) [] kws f fd) : Fun K x q st f fd := by
  obtain ⟨oc, od, dV, kV, doc, pm, an, cdv, ct, osl, e, lk, hcd, hD, hK⟩ := F.ex
  rcases hD with ⟨_, rfl⟩ | ⟨e, _⟩
  · exact ⟨⟨oc, od, kV, doc, pm, an, cdv, ct, osl, e, lk, hcd⟩, F.kp⟩
  · exact absurd rfl e
theorem gf_of {K : PySem.W.Frag} {mg : Str → Option Value} {x : Str} {st : Stmt} {f : Addr} {fd : FuncData} {ps : List Str} (F : FnP K x st f fd) (m : mg x = some (.ref f)) (b : Binds K fd ps []) : Gf K mg x f fd ps := ⟨m, F.kp, b⟩
def dd (x : Str) (st : Stmt) : He.DefD := ⟨(x, none), x, x, defArgs st, defBody st, defScope st, [], []⟩
def dm (c x : Str) (q : Str) (st : Stmt) : He.DefD := ⟨(c, some x), x, q, defArgs st, defBody st, defScope st, [], []⟩
def dmk (c x : Str) (q : Str) (st : Stmt) (kws : List (Str × He.Dv)) : He.DefD := ⟨(c, some x), x, q, defArgs st, defBody st, defScope st, [], kws⟩
def ts : List He.Tab := [(fun K => He.ga K "LENGTHS", lenT.map (·.1)), (fun K => He.ga K "PLACES", placesT.map (·.1))]
def tf : List He.Defn := [("law", none)]
def exT (K : Frag) : Bool := exK K && (tabB K (He.ga K "LENGTHS") lenT && (tabB K (He.ga K "PLACES") placesT && (PySem.W.selfFirst K (He.ga K "Question"))))
def fn : List He.DefD := [dd "_law_box" s_box, dd "_law_pull" s_pull, dd "_law_of" s_of, dd "_law_words" s_words, dd "_law_same" s_same, dd "_law_field" s_field, dd "_law_got" s_got, dd "_law_all_got" s_all_got, dd "_law_forms" s_forms, dd "law" s_law, dd "is_name" s_is_name, dd "is_number" s_is_number, dd "is_listed" s_is_listed, dd "inner" s_inner, dd "bound" s_bound, dd "used" s_used, dd "is_test" s_is_test, dd "is_headed" s_is_headed, dd "is_saying" s_is_saying, dd "forms_in" s_forms_in, dd "agree" s_agree, dm "Question" "__init__" "Question.__init__" s_Question_init, dm "Question" "denied" "Question.denied" s_Question_denied, dm "Question" "__and__" "Question.__and__" s_Question_and, dm "Question" "__or__" "Question.__or__" s_Question_or]
def fa : List He.Fa := ([.glo "_law_box", .glo "_law_pull", .glo "_law_of", .glo "_law_words", .glo "_law_same", .glo "_law_field", .glo "_law_got", .glo "_law_all_got", .glo "_law_forms", .glo "law", .glo "is_name", .glo "is_number"] : List He.Fa) ++ ([.glo "is_listed", .glo "inner", .glo "bound", .glo "used", .glo "is_test", .glo "is_headed", .glo "is_saying", .glo "forms_in", .glo "agree", .glo "OnceError", .glo "Missing", .glo "NothingLeft"] : List He.Fa) ++ ([.glo "InvalidNames", .glo "InvalidSaying", .glo "InvalidText", .glo "Question", .glo "LENGTHS", .glo "PLACES", .free "isinstance", .free "str", .free "len", .free "all", .free "int", .free "bool"] : List He.Fa) ++ ([.free "list", .free "tuple", .free "zip", .free "abs", .free "super", .free "range", .free "enumerate", .free "set", .int "LONGEST_NAME" 6, .int "MOST_FORMS" 12, .int "MOST_DEEP" 6, .int "MOST_NAMES" 6] : List He.Fa) ++ ([.int "MOST_INPUTS" 3, .str "LETTERS" "abcdefghijklmnopqrstuvwxyz", .cls "Question", .mkr "Question", .noat "Question" "names", .noat "Question" "saying", .noat "Question" "forms", .meth "Question" "denied", .meth "Question" "__and__", .meth "Question" "__or__"] : List He.Fa)
abbrev Rw : PySem.W.OpenRow := PySem.W.OpenLaw.row PySem.Challenge.rw_oncethrough_k11_limits_of_sayings
abbrev hk : PySem.W.Hook := hookJ 6 fa fn ts inL tf exT
def ob (s : PySem.W.SharedT) : AlJ := obsJ 6 fa fn ts inL tf exT (HandSHeadRun.getT s)
theorem ob_eq (s : PySem.W.SharedT) : ob s = hk.obs s.abs := obsJ_eq (HandSHeadRun.getT_eq s)
def loose : List PySem.Str := (["_wall", "OnceError", "Missing", "NothingLeft", "InvalidNames", "InvalidSaying", "InvalidText", "LETTERS", "DIGITS", "LONGEST_NAME", "MOST_DIGITS", "is_name"] : List PySem.Str) ++ (["is_number", "is_listed", "number_in", "joined", "MOST_FORMS", "MOST_DEEP", "MOST_NAMES", "LENGTHS", "PLACES", "MOST_INPUTS", "inner", "bound"] : List PySem.Str) ++ (["used", "is_test", "is_headed", "is_saying", "forms_in", "agree", "words_of", "Question", "small_number", "read_test", "read_parts", "read_head"] : List PySem.Str) ++ (["read_saying", "_law_box", "_law_pull", "_law_of", "_law_words", "_law_same", "_law_field", "_law_got", "_law_all_got", "_law_forms"] : List PySem.Str)
theorem runF (w : World) : HandSHeadRun.RunEq Rw (PySem.W.view Rw.prog [50]) hk ob 20000 loose (w.withFollow "special-get-raises" false) := by
  intro os
  kernel_rfl
theorem runT (w : World) : HandSHeadRun.RunEq Rw (PySem.W.view Rw.prog [50]) hk ob 20000 loose (w.withFollow "special-get-raises" true) := by
  intro os
  kernel_rfl
theorem runB (b : Bool) (w : World) : HandSHeadRun.RunEq Rw (PySem.W.view Rw.prog [50]) hk ob 20000 loose (w.withFollow "special-get-raises" b) := by
  cases b
  · exact runF w
  · exact runT w
theorem run (w : World) : HandSHeadRun.RunEq Rw (PySem.W.view Rw.prog [50]) hk ob 20000 loose w := by
  have h := runB (w.params.followText "special-get-raises") w
  rwa [World.withFollow_self] at h
end LW
set_option Elab.async false
set_option linter.all false
set_option maxRecDepth 100000
set_option maxHeartbeats 0
namespace LW
open PySem PySem.Spec PyProof.Rows L2 EV PySem.XO PySem.W LamX
theorem def_of {K : PySem.W.Frag} (c : He.SaysD fa fn K) (i : Nat) (x : Str) (st : Stmt) (h : fn[i]? = some (dd x st)) : ∃ fd, FnP K x st (He.ga K x) fd := c.def_ i h
theorem dmk_of {K : PySem.W.Frag} (c : He.SaysD fa fn K) (i : Nat) (cl x q : Str) (st : Stmt) (kws : List (Str × He.Dv)) (kv : List (Str × V)) (h : fn[i]? = some (dmk cl x q st kws)) (e : (kws.map fun q => (q.1, q.2.v K)) = kv) : ∃ fd, FunD K x q (defArgs st) (defBody st) (defScope st) [] kv (He.ma K (He.ga K cl) x) fd := by subst e; exact c.def_ i h
theorem dm_of {K : PySem.W.Frag} (c : He.SaysD fa fn K) (i : Nat) (cl x q : Str) (st : Stmt) (h : fn[i]? = some (dm cl x q st)) : ∃ fd, FunD K x q (defArgs st) (defBody st) (defScope st) [] [] (He.ma K (He.ga K cl) x) fd := c.def_ i h
theorem facts {w : World} {K : PySem.W.Frag} {h : Heap} {mg : Str → Option Value} {f : Addr} (X : K.In h) (G : h.Ns mainGlobals mg) (hfa : mg ("law" : Str) = some (.ref f)) (c0 : SaysJ fa fn ts inL tf exT w h K) :
    LawAtS PySem.Challenge.rw_oncethrough_k11_limits_of_sayings w K CX0 19 63 "_law_script" mg f h := by
  have c := c0.i.t.d
  have hin := c0.i.ini
  have hexT := c0.i.more
  simp only [exT, Bool.and_eq_true] at hexT
  obtain ⟨hex, ex_LENGTHS, ex_PLACES, ex_sf⟩ := hexT
  obtain ⟨es_LENGTHS, n_LENGTHS, kd_LENGTHS⟩ := c0.i.t.tab 0 rfl
  have TK_LENGTHS : TabK K w (He.ga K "LENGTHS") lenT := tabK_of kd_LENGTHS ex_LENGTHS
  obtain ⟨es_PLACES, n_PLACES, kd_PLACES⟩ := c0.i.t.tab 1 rfl
  have TK_PLACES : TabK K w (He.ga K "PLACES") placesT := tabK_of kd_PLACES ex_PLACES
  obtain ⟨fd0, F0⟩ := def_of c 0 "_law_box" s_box rfl
  obtain ⟨fd1, F1⟩ := def_of c 1 "_law_pull" s_pull rfl
  obtain ⟨fd2, F2⟩ := def_of c 2 "_law_of" s_of rfl
  obtain ⟨fd3, F3⟩ := def_of c 3 "_law_words" s_words rfl
  obtain ⟨fd4, F4⟩ := def_of c 4 "_law_same" s_same rfl
  obtain ⟨fd5, F5⟩ := def_of c 5 "_law_field" s_field rfl
  obtain ⟨fd6, F6⟩ := def_of c 6 "_law_got" s_got rfl
  obtain ⟨fd7, F7⟩ := def_of c 7 "_law_all_got" s_all_got rfl
  obtain ⟨fd8, F8⟩ := def_of c 8 "_law_forms" s_forms rfl
  obtain ⟨fd9, F9⟩ := def_of c 9 "law" s_law rfl
  obtain ⟨fd10, F10⟩ := def_of c 10 "is_name" s_is_name rfl
  obtain ⟨fd11, F11⟩ := def_of c 11 "is_number" s_is_number rfl
  obtain ⟨fd12, F12⟩ := def_of c 12 "is_listed" s_is_listed rfl
  obtain ⟨fd13, F13⟩ := def_of c 13 "inner" s_inner rfl
  obtain ⟨fd14, F14⟩ := def_of c 14 "bound" s_bound rfl
  obtain ⟨fd15, F15⟩ := def_of c 15 "used" s_used rfl
  obtain ⟨fd16, F16⟩ := def_of c 16 "is_test" s_is_test rfl
  obtain ⟨fd17, F17⟩ := def_of c 17 "is_headed" s_is_headed rfl
  obtain ⟨fd18, F18⟩ := def_of c 18 "is_saying" s_is_saying rfl
  obtain ⟨fd19, F19⟩ := def_of c 19 "forms_in" s_forms_in rfl
  obtain ⟨fd20, F20⟩ := def_of c 20 "agree" s_agree rfl
  obtain ⟨fd21, F21⟩ := dm_of c 21 "Question" "__init__" "Question.__init__" s_Question_init rfl
  obtain ⟨fd22, F22⟩ := dm_of c 22 "Question" "denied" "Question.denied" s_Question_denied rfl
  obtain ⟨fd23, F23⟩ := dm_of c 23 "Question" "__and__" "Question.__and__" s_Question_and rfl
  obtain ⟨fd24, F24⟩ := dm_of c 24 "Question" "__or__" "Question.__or__" s_Question_or rfl
  have e := hfa.symm.trans (He.glo_ok X G (c.fact 9 (f := .glo "law") rfl))
  cases e
  have b9 := FunD.bindsA (ps := ["_law_script"]) F9 fun _ _ _ _ _ _ us hl => match us, hl with | [_], _ => rfl
  have T0 := gf_of F0 (He.glo_ok X G (c.fact 0 (f := .glo "_law_box") rfl)) (FunD.bindsN (ps := ["_law_script"]) F0 fun _ _ _ _ _ _ us hl => match us, hl with | [_], _ => rfl)
  have T1 := gf_of F1 (He.glo_ok X G (c.fact 1 (f := .glo "_law_pull") rfl)) (FunD.bindsN (ps := ["_law_box_here", "_law_many"]) F1 fun _ _ _ _ _ _ us hl => match us, hl with | [_, _], _ => rfl)
  have T2 := gf_of F2 (He.glo_ok X G (c.fact 2 (f := .glo "_law_of") rfl)) (FunD.bindsN (ps := ["_law_box_here", "_law_some"]) F2 fun _ _ _ _ _ _ us hl => match us, hl with | [_, _], _ => rfl)
  have T3 := gf_of F3 (He.glo_ok X G (c.fact 3 (f := .glo "_law_words") rfl)) (FunD.bindsN (ps := ["_law_box_here", "_law_many"]) F3 fun _ _ _ _ _ _ us hl => match us, hl with | [_, _], _ => rfl)
  have T4 := gf_of F4 (He.glo_ok X G (c.fact 4 (f := .glo "_law_same") rfl)) (FunD.bindsN (ps := ["_law_found", "_law_due"]) F4 fun _ _ _ _ _ _ us hl => match us, hl with | [_, _], _ => rfl)
  have T5 := gf_of F5 (He.glo_ok X G (c.fact 5 (f := .glo "_law_field") rfl)) (FunD.bindsN (ps := ["_law_e"]) F5 fun _ _ _ _ _ _ us hl => match us, hl with | [_], _ => rfl)
  have T6 := gf_of F6 (He.glo_ok X G (c.fact 6 (f := .glo "_law_got") rfl)) (FunD.bindsN (ps := ["_law_ask"]) F6 fun _ _ _ _ _ _ us hl => match us, hl with | [_], _ => rfl)
  have T7 := gf_of F7 (He.glo_ok X G (c.fact 7 (f := .glo "_law_all_got") rfl)) (FunD.bindsN (ps := ["_law_asks"]) F7 fun _ _ _ _ _ _ us hl => match us, hl with | [_], _ => rfl)
  have T8 := gf_of F8 (He.glo_ok X G (c.fact 8 (f := .glo "_law_forms") rfl)) (FunD.bindsN (ps := ["_law_saying"]) F8 fun _ _ _ _ _ _ us hl => match us, hl with | [_], _ => rfl)
  have T10 := gf_of F10 (He.glo_ok X G (c.fact 10 (f := .glo "is_name") rfl)) (FunD.bindsN (ps := ["value"]) F10 fun _ _ _ _ _ _ us hl => match us, hl with | [_], _ => rfl)
  have T11 := gf_of F11 (He.glo_ok X G (c.fact 11 (f := .glo "is_number") rfl)) (FunD.bindsN (ps := ["value", "least", "most"]) F11 fun _ _ _ _ _ _ us hl => match us, hl with | [_, _, _], _ => rfl)
  have T12 := gf_of F12 (He.glo_ok X G (c.fact 12 (f := .glo "is_listed") rfl)) (FunD.bindsN (ps := ["value"]) F12 fun _ _ _ _ _ _ us hl => match us, hl with | [_], _ => rfl)
  have T13 := gf_of F13 (He.glo_ok X G (c.fact 13 (f := .glo "inner") rfl)) (FunD.bindsN (ps := ["saying"]) F13 fun _ _ _ _ _ _ us hl => match us, hl with | [_], _ => rfl)
  have T14 := gf_of F14 (He.glo_ok X G (c.fact 14 (f := .glo "bound") rfl)) (FunD.bindsN (ps := ["saying"]) F14 fun _ _ _ _ _ _ us hl => match us, hl with | [_], _ => rfl)
  have T15 := gf_of F15 (He.glo_ok X G (c.fact 15 (f := .glo "used") rfl)) (FunD.bindsN (ps := ["saying"]) F15 fun _ _ _ _ _ _ us hl => match us, hl with | [_], _ => rfl)
  have T16 := gf_of F16 (He.glo_ok X G (c.fact 16 (f := .glo "is_test") rfl)) (FunD.bindsN (ps := ["value"]) F16 fun _ _ _ _ _ _ us hl => match us, hl with | [_], _ => rfl)
  have T17 := gf_of F17 (He.glo_ok X G (c.fact 17 (f := .glo "is_headed") rfl)) (FunD.bindsN (ps := ["saying", "names"]) F17 fun _ _ _ _ _ _ us hl => match us, hl with | [_, _], _ => rfl)
  have T18 := gf_of F18 (He.glo_ok X G (c.fact 18 (f := .glo "is_saying") rfl)) (FunD.bindsN (ps := ["saying", "names", "deep"]) F18 fun _ _ _ _ _ _ us hl => match us, hl with | [_, _, _], _ => rfl)
  have T19 := gf_of F19 (He.glo_ok X G (c.fact 19 (f := .glo "forms_in") rfl)) (FunD.bindsN (ps := ["saying"]) F19 fun _ _ _ _ _ _ us hl => match us, hl with | [_], _ => rfl)
  have T20 := gf_of F20 (He.glo_ok X G (c.fact 20 (f := .glo "agree") rfl)) (FunD.bindsN (ps := ["saying"]) F20 fun _ _ _ _ _ _ us hl => match us, hl with | [_], _ => rfl)
  have m_isinstance := He.free_ok X G (c.fact 30 (f := .free "isinstance") rfl)
  have m_str := He.free_ok X G (c.fact 31 (f := .free "str") rfl)
  have m_len := He.free_ok X G (c.fact 32 (f := .free "len") rfl)
  have m_all := He.free_ok X G (c.fact 33 (f := .free "all") rfl)
  have m_int := He.free_ok X G (c.fact 34 (f := .free "int") rfl)
  have m_bool := He.free_ok X G (c.fact 35 (f := .free "bool") rfl)
  have m_list := He.free_ok X G (c.fact 36 (f := .free "list") rfl)
  have m_tuple := He.free_ok X G (c.fact 37 (f := .free "tuple") rfl)
  have m_zip := He.free_ok X G (c.fact 38 (f := .free "zip") rfl)
  have m_abs := He.free_ok X G (c.fact 39 (f := .free "abs") rfl)
  have m_super := He.free_ok X G (c.fact 40 (f := .free "super") rfl)
  have m_range := He.free_ok X G (c.fact 41 (f := .free "range") rfl)
  have m_enumerate := He.free_ok X G (c.fact 42 (f := .free "enumerate") rfl)
  have m_set := He.free_ok X G (c.fact 43 (f := .free "set") rfl)
  obtain ⟨t_LONGEST_NAME, M_LONGEST_NAME⟩ := He.int_ok X G (c.fact 44 (f := .int "LONGEST_NAME" 6) rfl)
  obtain ⟨t_MOST_FORMS, M_MOST_FORMS⟩ := He.int_ok X G (c.fact 45 (f := .int "MOST_FORMS" 12) rfl)
  obtain ⟨t_MOST_DEEP, M_MOST_DEEP⟩ := He.int_ok X G (c.fact 46 (f := .int "MOST_DEEP" 6) rfl)
  obtain ⟨t_MOST_NAMES, M_MOST_NAMES⟩ := He.int_ok X G (c.fact 47 (f := .int "MOST_NAMES" 6) rfl)
  obtain ⟨t_MOST_INPUTS, M_MOST_INPUTS⟩ := He.int_ok X G (c.fact 48 (f := .int "MOST_INPUTS" 3) rfl)
  obtain ⟨t_LETTERS, M_LETTERS⟩ := He.str_ok X G (c.fact 49 (f := .str "LETTERS" "abcdefghijklmnopqrstuvwxyz") rfl)
  have M_OnceError := He.glo_ok X G (c.fact 21 (f := .glo "OnceError") rfl)
  have M_Missing := He.glo_ok X G (c.fact 22 (f := .glo "Missing") rfl)
  have M_NothingLeft := He.glo_ok X G (c.fact 23 (f := .glo "NothingLeft") rfl)
  have M_InvalidNames := He.glo_ok X G (c.fact 24 (f := .glo "InvalidNames") rfl)
  have M_InvalidSaying := He.glo_ok X G (c.fact 25 (f := .glo "InvalidSaying") rfl)
  have M_InvalidText := He.glo_ok X G (c.fact 26 (f := .glo "InvalidText") rfl)
  have M_Question := He.glo_ok X G (c.fact 27 (f := .glo "Question") rfl)
  have M_LENGTHS := He.glo_ok X G (c.fact 28 (f := .glo "LENGTHS") rfl)
  have M_PLACES := He.glo_ok X G (c.fact 29 (f := .glo "PLACES") rfl)
  have CL_Question := He.cls_ok (c.fact 50 (f := .cls "Question") rfl)
  have MK_Question := He.mkr_ok (c.fact 51 (f := .mkr "Question") rfl)
  have NA_Question_names := He.noat_ok (c.fact 52 (f := .noat "Question" "names") rfl)
  have NA_Question_saying := He.noat_ok (c.fact 53 (f := .noat "Question" "saying") rfl)
  have NA_Question_forms := He.noat_ok (c.fact 54 (f := .noat "Question" "forms") rfl)
  have ME_Question_denied := He.meth_ok (c.fact 55 (f := .meth "Question" "denied") rfl)
  have ME_Question___and__ := He.meth_ok (c.fact 56 (f := .meth "Question" "__and__") rfl)
  have ME_Question___or__ := He.meth_ok (c.fact 57 (f := .meth "Question" "__or__") rfl)
  have TO : TopO Pr mg := ⟨m_super, by decide +kernel⟩
  refine ⟨fd9, tf.map (He.cT K), spLaw K [((He.cT K ("law", none)).2, lamQ "law")], fun p hp => ?_, fun p hp => ?_, fun p hp => ?_, fun s v => b9 s [v] rfl, fun H a ns hl _ hT hS => ⟨a, ns, rfl, hS, fun p hp => ?_, fun _ => rfl⟩, fun base KB GB TBs => ?_⟩
  · obtain ⟨z, hz, rfl⟩ := List.mem_map.mp hp
    exact c0.empty z hz
  · obtain ⟨z, hz, rfl⟩ := List.mem_map.mp hp
    exact c0.out z hz
  · obtain ⟨z, hz, rfl⟩ := List.mem_map.mp hp
    exact PySem.W.codeHd_of_K X (c0.hd z hz)
  · simp only [List.mem_cons, List.not_mem_nil, or_false] at hp
    subst hp; exact hT _ (by simp [tf])
  have TB_law := TBs (He.cT K ("law", none)) (by simp [tf])
  have G_box := ok_box (P := Pr) (w := w) (base := base) (fun_of F0) m_int m_list
  have G_pull := ok_pull (P := Pr) (w := w) (base := base) (fun_of F1) m_int m_len m_abs
  have G_of := ok_of (fun_of F2) G_pull T1 m_len
  have G_words := ok_words (P := Pr) (w := w) (base := base) (fun_of F3) G_pull T1 G_of T2 m_len m_int m_range
  have G_same := ok_same (P := Pr) (w := w) (base := base) (fun_of F4) T4 m_isinstance m_list m_tuple m_bool m_int m_str m_len m_all m_zip 10
  have G_field := ok_field (w := w) (mg := mg) (base := base) (P := Pr) (fun_of F5) hex hin
  have G_got := ok_got (j := 14) (fun_of F6) hex hin G_field T5 M_OnceError M_Missing M_NothingLeft
  have G_all_got := ok_all_got (fun_of F7) G_got T6
  have G_is_name := ok_is_name (P := Pr) (w := w) (base := base) (fun_of F10) m_isinstance m_str m_len m_all M_LETTERS M_LONGEST_NAME
  have G_is_number := ok_is_number (P := Pr) (w := w) (base := base) (fun_of F11) m_isinstance m_bool m_int
  have G_is_listed := ok_is_listed (P := Pr) (w := w) (base := base) (fun_of F12) m_isinstance m_list m_tuple
  have G_inner := ok_inner (P := Pr) (w := w) (base := base) (fun_of F13) m_list
  have G_bound := ok_bound (P := Pr) (w := w) (mg := mg) (base := base) (fun_of F14)
  have G_used := ok_used (P := Pr) (w := w) (base := base) (fun_of F15) m_list
  have G_is_test := ok_is_test (fun_of F16) G_is_number T11 m_isinstance m_tuple m_len
  have G_is_headed := ok_is_headed (fun_of F17) G_is_name T10 G_is_number T11 G_is_test T16 G_used T15 G_bound T14 m_isinstance m_tuple m_str m_len m_all M_LENGTHS TK_LENGTHS M_PLACES TK_PLACES
  have G_is_saying := ok_is_saying (fun_of F18) T18 G_is_headed T17 G_bound T14 G_inner T13 m_len m_all M_MOST_NAMES 6
  have G_forms_in := ok_forms_in (fun_of F19) T19 G_inner T13 6
  have G_agree := ok_agree 6 (fun_of F20) G_forms_in T19 m_all M_PLACES TK_PLACES
  have G_init := ok_Question_init (AA := He.ga K) (fun_of F21) G_is_name T10 G_is_listed T12 G_is_saying T18 G_forms_in T19 G_agree T20 m_len m_all m_set m_tuple m_list M_MOST_INPUTS M_MOST_DEEP M_MOST_FORMS (er_InvalidNames TO hex hin) M_InvalidNames (er_InvalidSaying TO hex hin) M_InvalidSaying CL_Question NA_Question_names NA_Question_saying NA_Question_forms
  have B_q := FunD.bindsN (ps := psQ) F21 fun _ _ _ _ _ _ us hl => match us, hl with | [_, _, _], _ => rfl
  have KB_q : KBn K fd21 psQ 3 [] (fun us _ => us) (fun vs _ => vs) := ⟨(fun s us ws X h1 h2 => by
    cases ws with
    | nil =>
      have := B_q s us X (by simpa using h1)
      simpa using this
    | cons _ _ => cases h2), fun r _ => r⟩
  have G_denied := ok_Question_denied (AA := He.ga K) (fun_of F22) MK_Question G_init M_Question KB_q CL_Question NA_Question_names NA_Question_saying
  have G_and := ok_Question_and (AA := He.ga K) (fun_of F23) MK_Question G_init M_Question KB_q (er_InvalidNames TO hex hin) M_InvalidNames CL_Question NA_Question_names NA_Question_saying
  have G_or := ok_Question_or (AA := He.ga K) (fun_of F24) MK_Question G_init M_Question KB_q (er_InvalidNames TO hex hin) M_InvalidNames CL_Question NA_Question_names NA_Question_saying
  have B_denied := FunD.bindsN (ps := ["self"]) F22 fun _ _ _ _ _ _ us hl => match us, hl with | [_], _ => rfl
  have B_and := FunD.bindsN (ps := ["self", "other"]) F23 fun _ _ _ _ _ _ us hl => match us, hl with | [_, _], _ => rfl
  have B_or := FunD.bindsN (ps := ["self", "other"]) F24 fun _ _ _ _ _ _ us hl => match us, hl with | [_, _], _ => rfl
  have G_forms := ok_forms (P := Pr) (w := w) (base := base) (fun_of F8) T8 m_isinstance m_tuple 7
  exact ok_law (fun_of F9) G_box T0 G_of T2 G_words T3 G_forms T8 G_same T4 G_got T6 G_all_got T7 TB_law MK_Question G_init M_Question KB_q
    G_denied ME_Question_denied B_denied G_and ME_Question___and__ B_and G_or ME_Question___or__ B_or ex_sf CL_Question NA_Question_names NA_Question_saying NA_Question_forms m_range m_len m_tuple
end LW
open PySem PySem.W PySem.Calls PyProof.Rows
theorem PySem.Challenge.cw_oncethrough_k11_limits_of_sayings_holds : PySem.Challenge.rw_oncethrough_k11_limits_of_sayings.Holds := by
  w_on; o_law
  refine HandSHeadRun.head_any (r := LW.Rw) (q := view LW.Rw.prog [50]) (H := LW.hk) (ob := LW.ob) (M := 20000) (loose := LW.loose) (d := HandSHeadRun.topDef LW.Rw.prog 50) (kwd := []) LW.ob_eq
    (by kernel_rfl) (fun s => by kernel_rfl) LW.run (by kernel_rfl) (by kernel_rfl) (by kernel_rfl) (by rfl) (by first | assumption | decide +kernel) (by decide +kernel) ⟨rfl, rfl, rfl, rfl, rfl, by decide +kernel⟩ ?hw ?hc
  case hw => w_witness2
  case hc =>
    refine LamX.walk_ofTsE (l := PySem.Challenge.rw_oncethrough_k11_limits_of_sayings) (n := 63) (k := 19) (x := "_law_script") (CX := fun _ => L2.CX0) rfl (by decide) (by kernel_rfl) ⟨rfl, by decide, by decide⟩ ?F (fun _ _ _ _ _ z => z)
    intro w mg fa h Y G hmg0
    obtain ⟨K, KX, c⟩ := Y
    have hmg : mg ("law" : PySem.Str) = some (.ref fa) := by
      have e : (HandSHeadRun.topDef LW.Rw.prog 50).name = ("law" : PySem.Str) := by kernel_rfl
      rw [← e]
      exact hmg0
    exact ⟨K, KX, LW.facts (w := w) KX G hmg c⟩
#print axioms PySem.Challenge.cw_oncethrough_k11_limits_of_sayings_holds
