import PyProof.Rows.All
import Wide.All
import OpenK.AllK
import Wide.FinOn
import HandS.ForMost
import HandS.IsInst
import HandS.Flow
import HandS.ExcOwn
import HandS.CallSlots
import HandS.Deep
import PyProof.StrBlock2
import KE.GoesMore
import KE.GoesZip
import KE.GoesEnum
import PySem.Challenge.RW_oncethrough_k01_names_and_numbers
import HandS.Codes
import KE.KStateDown
import Lean
import HandS.Ends
import HandS.More
import HandS.Words
import HandS.WordsExc
import HandS.Defaults
import HandS.Head0
import HandS.Head1
import HandS.Head2
import HandS.HeadEnd
import HandS.HeadHook1
import HandS.HeadHook2
set_option Elab.async false
set_option linter.all false
set_option maxRecDepth 100000
set_option maxHeartbeats 4000000
/-! By-value layer: data trees D, what represents them (Rp), readings without the heap. -/
namespace DV
open PySem PySem.Spec PyProof.Rows L2

/-- data as a tree -/
inductive D where
  | non | bl (b : Bool) | int (i : Int) | str (x : Str) | opq (v : V)
  | lst (xs : List D) | tup (xs : List D) | dic (kvs : List (Key × D)) | ins (C : Addr) (fs : List (Str × D))

mutual
/-- the value v stands for the datum d in the visible heap G -/
inductive Rp (K : PySem.W.Frag) (G : Hp) : V → D → Prop
  | non : Rp K G .non .non
  | bl (b : Bool) : Rp K G (.bl b) (.bl b)
  | int (i : Int) : Rp K G (.int i) (.int i)
  | str (x : Str) : Rp K G (.str x) (.str x)
  | opq (v : V) : Rp K G v (.opq v)
  | lst {a : Addr} {vs : List V} {ds : List D} : G a = some (.lst vs) → RpL K G vs ds → Rp K G (.ref a) (.lst ds)
  | tup {a : Addr} {vs : List V} {ds : List D} : SqT K G a vs → RpL K G vs ds → Rp K G (.ref a) (.tup ds)
  | dic {a : Addr} {kvs : List (Key × V)} {kds : List (Key × D)} : G a = some (.dK kvs) → RpK K G kvs kds → Rp K G (.ref a) (.dic kds)
  | ins {a C dx : Addr} {fs : List (Str × V)} {ds : List (Str × D)} : G a = some (.ins C dx fs) → RpF K G fs ds → Rp K G (.ref a) (.ins C ds)
inductive RpL (K : PySem.W.Frag) (G : Hp) : List V → List D → Prop
  | nil : RpL K G [] []
  | cons {v : V} {vs : List V} {d : D} {ds : List D} : Rp K G v d → RpL K G vs ds → RpL K G (v :: vs) (d :: ds)
inductive RpK (K : PySem.W.Frag) (G : Hp) : List (Key × V) → List (Key × D) → Prop
  | nil : RpK K G [] []
  | cons {k : Key} {v : V} {vs : List (Key × V)} {d : D} {ds : List (Key × D)} : Rp K G v d → RpK K G vs ds → RpK K G ((k, v) :: vs) ((k, d) :: ds)
inductive RpF (K : PySem.W.Frag) (G : Hp) : List (Str × V) → List (Str × D) → Prop
  | nil : RpF K G [] []
  | cons {k : Str} {v : V} {vs : List (Str × V)} {d : D} {ds : List (Str × D)} : Rp K G v d → RpF K G vs ds → RpF K G ((k, v) :: vs) ((k, d) :: ds)
end

def Sub (G H : Hp) : Prop := ∀ a o, G a = some o → H a = some o
theorem Sub.refl (G : Hp) : Sub G G := fun _ _ h => h
theorem Sub.trans {G H I : Hp} (a : Sub G H) (b : Sub H I) : Sub G I := fun x o h => b x o (a x o h)
theorem Sub.rd {G H : Hp} (e : Sub G H) {a : Addr} {u : HO} (h : Rd G a u) : Rd H a u := by
  rcases h with h | ⟨o, h⟩
  · exact .inl (e _ _ h)
  · exact .inr ⟨o, e _ _ h⟩
theorem Sub.sqL {K : PySem.W.Frag} {G H : Hp} (e : Sub G H) {a : Addr} {xs : List V} (h : SqL K G a xs) : SqL K H a xs := by
  rcases h with h | h
  · exact .inl (e.rd h)
  · exact .inr h
theorem Sub.lstL {K : PySem.W.Frag} {G H : Hp} (e : Sub G H) {a : Addr} {xs : List V} (h : G a = some (.lst xs)) : SqL K H a xs := .inl (.inl (e _ _ h))
theorem Sub.sqT {K : PySem.W.Frag} {G H : Hp} (e : Sub G H) {a : Addr} {xs : List V} (h : SqT K G a xs) : SqT K H a xs := by
  rcases h with h | h
  · exact .inl (e.rd h)
  · exact .inr h

section
variable {K : PySem.W.Frag} {G G' : Hp}
mutual
theorem Rp.mono (e : Sub G G') : ∀ {d : D} {v : V}, Rp K G v d → Rp K G' v d
  | .non, _, .non => .non
  | .bl _, _, .bl b => .bl b
  | .int _, _, .int i => .int i
  | .str _, _, .str x => .str x
  | .opq _, _, .opq v => .opq v
  | .lst _, _, .lst h r => .lst (e _ _ h) (RpL.mono e r)
  | .tup _, _, .tup h r => .tup (e.sqT h) (RpL.mono e r)
  | .dic _, _, .dic h r => .dic (e _ _ h) (RpK.mono e r)
  | .ins _ _, _, .ins h r => .ins (e _ _ h) (RpF.mono e r)
theorem RpL.mono (e : Sub G G') : ∀ {ds : List D} {vs : List V}, RpL K G vs ds → RpL K G' vs ds
  | [], _, .nil => .nil
  | _ :: _, _, .cons h r => .cons (Rp.mono e h) (RpL.mono e r)
theorem RpK.mono (e : Sub G G') : ∀ {ds : List (Key × D)} {vs : List (Key × V)}, RpK K G vs ds → RpK K G' vs ds
  | [], _, .nil => .nil
  | _ :: _, _, .cons h r => .cons (Rp.mono e h) (RpK.mono e r)
theorem RpF.mono (e : Sub G G') : ∀ {ds : List (Str × D)} {vs : List (Str × V)}, RpF K G vs ds → RpF K G' vs ds
  | [], _, .nil => .nil
  | _ :: _, _, .cons h r => .cons (Rp.mono e h) (RpF.mono e r)
end
theorem RpL.length : ∀ {vs : List V} {ds : List D}, RpL K G vs ds → vs.length = ds.length
  | _, _, .nil => rfl
  | _, _, .cons _ r => congrArg (· + 1) (RpL.length r)
theorem RpL.get : ∀ {vs : List V} {ds : List D} {i : Nat} {d : D}, RpL K G vs ds → ds[i]? = some d → ∃ v, vs[i]? = some v ∧ Rp K G v d
  | _, _, _, _, .nil, e => by simp at e
  | _, _, 0, _, .cons r _, e => by simp at e; subst e; exact ⟨_, rfl, r⟩
  | _, _, i + 1, d, .cons _ t, e => by
    obtain ⟨u, h1, h2⟩ := RpL.get (i := i) (d := d) t (by simpa using e)
    exact ⟨u, by simpa using h1, h2⟩
theorem RpL.getV : ∀ {vs : List V} {ds : List D} {i : Nat} {v : V}, RpL K G vs ds → vs[i]? = some v → ∃ d, ds[i]? = some d ∧ Rp K G v d
  | _, _, _, _, .nil, e => by simp at e
  | _, _, 0, _, .cons r _, e => by simp at e; subst e; exact ⟨_, rfl, r⟩
  | _, _, i + 1, d, .cons _ t, e => by
    obtain ⟨u, h1, h2⟩ := RpL.getV (i := i) (v := d) t (by simpa using e)
    exact ⟨u, by simpa using h1, h2⟩
theorem RpL.append : ∀ {xs ys : List V} {us ws : List D}, RpL K G xs us → RpL K G ys ws → RpL K G (xs ++ ys) (us ++ ws)
  | _, _, _, _, .nil, s => s
  | _, _, _, _, .cons r t, s => .cons r (RpL.append t s)
theorem RpL.take : ∀ {xs : List V} {us : List D} (n : Nat), RpL K G xs us → RpL K G (xs.take n) (us.take n)
  | _, _, 0, _ => .nil
  | _, _, _ + 1, .nil => .nil
  | _, _, n + 1, .cons r t => .cons r (RpL.take n t)
theorem RpL.drop : ∀ {xs : List V} {us : List D} (n : Nat), RpL K G xs us → RpL K G (xs.drop n) (us.drop n)
  | _, _, 0, r => r
  | _, _, _ + 1, .nil => .nil
  | _, _, n + 1, .cons _ t => RpL.drop n t
theorem RpL.set {x : V} {u : D} (r : Rp K G x u) : ∀ {xs : List V} {us : List D} (i : Nat), RpL K G xs us → RpL K G (xs.set i x) (us.set i u)
  | _, _, _, .nil => .nil
  | _, _, 0, .cons _ t => .cons r t
  | _, _, i + 1, .cons q t => .cons q (RpL.set r i t)
theorem RpL.ints : ∀ {vs : List V} {ns : List Int}, RpL K G vs (ns.map D.int) → vs = ns.map V.int
  | _, [], h => by cases h; rfl
  | _, n :: ns, h => by cases h with | cons a b => cases a; rw [RpL.ints b]; rfl
theorem RpL.of_ints : ∀ {ns : List Int}, RpL K G (ns.map V.int) (ns.map D.int)
  | [] => .nil
  | n :: ns => .cons (.int n) RpL.of_ints
end

/-! ### the state: G visible, H whole; B: the box and its list -/
abbrev Bo := Option (Addr × Addr)
structure Bx (K : PySem.W.Frag) (G H : Hp) (b l : Addr) : Prop where
  hid : G b = none
  has : ∃ (ns : List Int) (i r m c : Int), H b = some (.lst [.ref l, .int i, .int r, .int m, .int c]) ∧ SqL K G l (ns.map V.int) ∧ 0 ≤ i ∧ 0 ≤ r ∧ 0 ≤ m ∧ m < 2147483587 ∧ 0 ≤ c
structure Good (K : PySem.W.Frag) (B : Bo) (G H : Hp) : Prop where
  sub : Sub G H
  box : ∀ b l, B = some (b, l) → Bx K G H b l
structure Step (K : PySem.W.Frag) (B : Bo) (G H G' H' : Hp) : Prop where
  grow : Sub G G'
  good : Good K B G' H'
  keep : ∀ a o, H a = some o → (∀ b l, B = some (b, l) → a ≠ b) → H' a = some o
  hid : ∀ a o, H a = some o → G a = none → G' a = none
section
variable {K : PySem.W.Frag} {B : Bo} {G H G' H' G'' H'' : Hp}
theorem Step.refl (g : Good K B G H) : Step K B G H G H := ⟨Sub.refl G, g, fun _ _ h _ => h, fun _ _ _ h => h⟩
theorem Step.trans (s : Step K B G H G' H') (t : Step K B G' H' G'' H'') : Step K B G H G'' H'' := by
  refine ⟨s.grow.trans t.grow, t.good, fun a o h n => t.keep a o (s.keep a o h n) n, fun a o h g => ?_⟩
  by_cases hb : ∃ b l, B = some (b, l) ∧ a = b
  · obtain ⟨b, l, e, rfl⟩ := hb
    exact (t.good.box a l e).hid
  · exact t.hid a o (s.keep a o h fun b l e z => hb ⟨b, l, e, z⟩) (s.hid a o h g)
/-- a new visible object -/
theorem Step.new (g : Good K B G H) {p : Addr} {o : HO} (n : H p = none) : Step K B G H (upd G p o) (upd H p o) := by
  have n0 : ∀ q u, H q = some u → q ≠ p := fun q u h e => by rw [e, n] at h; cases h
  have n1 : ∀ q u, G q = some u → q ≠ p := fun q u h => n0 q u (g.sub q u h)
  refine ⟨fun a u h => ?_, ⟨fun a u h => ?_, fun b l e => ?_⟩, fun a u h _ => ?_, fun a u h z => ?_⟩
  · rw [upd_ne (n1 a u h)]; exact h
  · by_cases e : a = p
    · subst e; rw [upd_same] at h ⊢; exact h
    · rw [upd_ne e] at h ⊢; exact g.sub a u h
  · obtain ⟨h1, ns, i, r, m, c, h2, h3, h4⟩ := g.box b l e
    have nb : b ≠ p := n0 b _ h2
    refine ⟨by rw [upd_ne nb]; exact h1, ns, i, r, m, c, by rw [upd_ne nb]; exact h2, ?_, h4⟩
    exact Sub.sqL (fun a u h => by rw [upd_ne (n1 a u h)]; exact h) h3
  · rw [upd_ne (n0 a u h)]; exact h
  · rw [upd_ne (n0 a u h)]; exact z
end
end DV
set_option Elab.async false
set_option linter.all false
set_option maxRecDepth 100000
set_option maxHeartbeats 4000000
namespace DV
open PySem PySem.Spec PyProof.Rows L2
/-! ### slots -/
inductive Sl where
  | un | sh (d : D) | ow (d : D)
abbrev Slots := List Sl
/-- an object of one's own: its items are visible, itself is not -/
def RpO (K : PySem.W.Frag) (G H : Hp) (p : Addr) : D → Prop
  | .lst ds => ∃ vs, H p = some (.lst vs) ∧ RpL K G vs ds
  | .dic ds => ∃ vs, H p = some (.dK vs) ∧ RpK K G vs ds
  | .ins C ds => ∃ dx fs, H p = some (.ins C dx fs) ∧ RpF K G fs ds
  | _ => False
structure RpS (K : PySem.W.Frag) (B : Bo) (F : Addr → Prop) (G H : Hp) (σ : L2.St) (ρ : Slots) : Prop where
  len : σ.length = ρ.length
  sh : ∀ (i : Nat) (d : D), ρ[i]? = some (.sh d) → ∃ v, σ[i]? = some (some v) ∧ Rp K G v d
  ow : ∀ (i : Nat) (d : D), ρ[i]? = some (.ow d) → ∃ p, σ[i]? = some (some (.ref p)) ∧ G p = none ∧ (∀ b l, B = some (b, l) → p ≠ b) ∧ F p ∧ RpO K G H p d
  sep : ∀ (i j : Nat) (d e : D) (p : Addr), ρ[i]? = some (.ow d) → ρ[j]? = some (.ow e) → σ[i]? = some (some (.ref p)) → σ[j]? = some (some (.ref p)) → i = j
/-- an exception: its class, its attributes -/
abbrev Xc := Addr × List (Str × D)
abbrev DE := Slots → (D → Prop) → (Xc → Prop) → Prop
abbrev DT := Slots → (Bool → Prop) → (Xc → Prop) → Prop
abbrev DA := Slots → (List D → Prop) → (Xc → Prop) → Prop
def kv (K : PySem.W.Frag) (B : Bo) (G H : Hp) (Q : VK) : D → Prop := fun d => ∀ v G' H', Step K B G H G' H' → Rp K G' v d → Q v H'
def kb (K : PySem.W.Frag) (B : Bo) (G H : Hp) (Q : Bool → Hp → Prop) : Bool → Prop := fun b => ∀ G' H', Step K B G H G' H' → Q b H'
def ka (K : PySem.W.Frag) (B : Bo) (G H : Hp) (Q : List V → Hp → Prop) : List D → Prop := fun ds => ∀ vs G' H', Step K B G H G' H' → RpL K G' vs ds → Q vs H'
def kx (K : PySem.W.Frag) (B : Bo) (G H : Hp) (E : XK) : Xc → Prop := fun x => ∀ d fs G' H', Step K B G H G' H' → G' d = some (.xd fs) → RpF K G' fs x.2 → E (.ref x.1) (some d) H'
section
variable {K : PySem.W.Frag} {B : Bo} {G H G' H' : Hp}
theorem kv.step {Q : VK} {d : D} (s : Step K B G H G' H') (h : kv K B G H Q d) : kv K B G' H' Q d := fun v G2 H2 t r => h v G2 H2 (s.trans t) r
theorem kb.step {Q : Bool → Hp → Prop} {d : Bool} (s : Step K B G H G' H') (h : kb K B G H Q d) : kb K B G' H' Q d := fun G2 H2 t => h G2 H2 (s.trans t)
theorem ka.step {Q : List V → Hp → Prop} {d : List D} (s : Step K B G H G' H') (h : ka K B G H Q d) : ka K B G' H' Q d := fun v G2 H2 t r => h v G2 H2 (s.trans t) r
theorem kx.step {E : XK} {x : Xc} (s : Step K B G H G' H') (h : kx K B G H E x) : kx K B G' H' E x := fun d fs G2 H2 t a r => h d fs G2 H2 (s.trans t) a r
theorem RpO.step {p : Addr} (s : Step K B G H G' H') (nb : ∀ b l, B = some (b, l) → p ≠ b) : ∀ {d : D}, RpO K G H p d → RpO K G' H' p d
  | .lst _, ⟨vs, h, r⟩ => ⟨vs, s.keep _ _ h nb, r.mono s.grow⟩
  | .dic _, ⟨vs, h, r⟩ => ⟨vs, s.keep _ _ h nb, r.mono s.grow⟩
  | .ins _ _, ⟨dx, fs, h, r⟩ => ⟨dx, fs, s.keep _ _ h nb, r.mono s.grow⟩
theorem RpO.some_of {p : Addr} : ∀ {d : D}, RpO K G H p d → ∃ o, H p = some o
  | .lst _, ⟨_, h, _⟩ => ⟨_, h⟩
  | .dic _, ⟨_, h, _⟩ => ⟨_, h⟩
  | .ins _ _, ⟨_, _, h, _⟩ => ⟨_, h⟩
theorem RpS.step {F : Addr → Prop} {σ : L2.St} {ρ : Slots} (s : Step K B G H G' H') (r : RpS K B F G H σ ρ) : RpS K B F G' H' σ ρ := by
  refine ⟨r.len, fun i d h => ?_, fun i d h => ?_, r.sep⟩
  · obtain ⟨v, e, q⟩ := r.sh i d h
    exact ⟨v, e, q.mono s.grow⟩
  · obtain ⟨p, e, gp, nb, f, q⟩ := r.ow i d h
    obtain ⟨o, ho⟩ := q.some_of
    exact ⟨p, e, s.hid p o ho gp, nb, f, q.step s nb⟩
end
def up (K : PySem.W.Frag) (B : Bo) (F : Addr → Prop) (W : L2.St → XK) (m : DE) : TE := fun σ H Q => ∃ G ρ, Good K B G H ∧ RpS K B F G H σ ρ ∧ m ρ (kv K B G H Q) (kx K B G H (W σ))
def upT (K : PySem.W.Frag) (B : Bo) (F : Addr → Prop) (W : L2.St → XK) (m : DT) : TT := fun σ H Q => ∃ G ρ, Good K B G H ∧ RpS K B F G H σ ρ ∧ m ρ (kb K B G H Q) (kx K B G H (W σ))
def upA (K : PySem.W.Frag) (B : Bo) (F : Addr → Prop) (W : L2.St → XK) (m : DA) : TA := fun σ H Q => ∃ G ρ, Good K B G H ∧ RpS K B F G H σ ρ ∧ m ρ (ka K B G H Q) (kx K B G H (W σ))
def Mo {α : Type} (m : Slots → (α → Prop) → (Xc → Prop) → Prop) : Prop := ∀ ρ Q Q' E E', (∀ d, Q d → Q' d) → (∀ x, E x → E' x) → m ρ Q E → m ρ Q' E'
/-- where one stands: the box, what may be owned, the wish of exceptions -/
structure Pl where
  B : Bo
  W : L2.St → XK
  H0 : Hp
def Pl.F (L : Pl) : Addr → Prop := fun p => L.H0 p = none
structure DPE (X : Cx) (L : Pl) (e : Expr) (m : DE) : Prop where
  mo : Mo m
  run : PE X e (up X.K L.B L.F L.W m)
structure DPT (X : Cx) (L : Pl) (e : Expr) (m : DT) : Prop where
  mo : Mo m
  run : PT X e (upT X.K L.B L.F L.W m)
structure DPW (X : Cx) (L : Pl) (e : Expr) (m : DT) : Prop where
  mo : Mo m
  run : PW X e (upT X.K L.B L.F L.W m)
structure DPA (X : Cx) (L : Pl) (es : List Expr) (m : DA) : Prop where
  mo : Mo m
  run : PA X es (upA X.K L.B L.F L.W m)
section
variable {X : Cx} {L : Pl} {e a b c : Expr} {es : List Expr} {m ma mb mc : DE} {mt mu : DT} {mA : DA} {pos p : Pos}
theorem pe_imp {t t' : TE} (h : PE X e t) (i : ∀ σ H Q, t' σ H Q → t σ H Q) : PE X e t' := ⟨fun pins s σ H Q I q => h.run pins s σ H Q I (i _ _ _ q)⟩
theorem pt_imp {t t' : TT} (h : PT X e t) (i : ∀ σ H Q, t' σ H Q → t σ H Q) : PT X e t' := ⟨fun pins s σ H Q I q => h.run pins s σ H Q I (i _ _ _ q)⟩
theorem pw_imp {t t' : TT} (h : PW X e t) (i : ∀ σ H Q, t' σ H Q → t σ H Q) : PW X e t' := ⟨fun wh pins s σ H Q I q => h.run wh pins s σ H Q I (i _ _ _ q)⟩
theorem pa_imp {t t' : TA} (h : PA X es t) (i : ∀ σ H Q, t' σ H Q → t σ H Q) : PA X es t' := ⟨fun pos pins s σ H Q I q => h.run pos pins s σ H Q I (i _ _ _ q)⟩
variable {K : PySem.W.Frag} {B : Bo} {F : Addr → Prop} {W : L2.St → XK} {G H : Hp} {σ : L2.St} {ρ : Slots}
theorem up_of {R : VK} {P : D → Prop} (mo : Mo m) (g : Good K B G H) (r : RpS K B F G H σ ρ) (h : m ρ P (kx K B G H (W σ)))
    (k : ∀ d v G' H', P d → Step K B G H G' H' → Rp K G' v d → R v H') : up K B F W m σ H R :=
  ⟨G, ρ, g, r, mo ρ _ _ _ _ (fun d p v G' H' s q => k d v G' H' p s q) (fun _ x => x) h⟩
theorem upT_of {R : Bool → Hp → Prop} {P : Bool → Prop} (mo : Mo mt) (g : Good K B G H) (r : RpS K B F G H σ ρ) (h : mt ρ P (kx K B G H (W σ)))
    (k : ∀ b G' H', P b → Step K B G H G' H' → R b H') : upT K B F W mt σ H R :=
  ⟨G, ρ, g, r, mo ρ _ _ _ _ (fun d p G' H' s => k d G' H' p s) (fun _ x => x) h⟩
theorem upA_of {R : List V → Hp → Prop} {P : List D → Prop} (mo : Mo mA) (g : Good K B G H) (r : RpS K B F G H σ ρ) (h : mA ρ P (kx K B G H (W σ)))
    (k : ∀ d v G' H', P d → Step K B G H G' H' → RpL K G' v d → R v H') : upA K B F W mA σ H R :=
  ⟨G, ρ, g, r, mo ρ _ _ _ _ (fun d p v G' H' s q => k d v G' H' p s q) (fun _ x => x) h⟩
/-- the wish of exceptions carried on -/
theorem mo_step {α : Type} {n : Slots → (α → Prop) → (Xc → Prop) → Prop} {P : α → Prop} {G' H' : Hp} {E : XK} (mo : Mo n) (s : Step K B G H G' H') (h : n ρ P (kx K B G H E)) : n ρ P (kx K B G' H' E) :=
  mo ρ _ _ _ _ (fun _ x => x) (fun _ x => x.step s) h

/-! ### names, constants -/
def dVar (i : Nat) : DE := fun ρ Q _ => match ρ[i]? with
  | some (.sh d) => Q d
  | _ => False
theorem mo_var (i : Nat) : Mo (dVar i) := fun ρ Q Q' E E' h _ x => by
  unfold dVar at x ⊢
  split <;> simp_all
theorem d_var {i : Nat} {x : Str} (hN : X.N[i]? = some x) (hv : Vis X.env.scope x) (hd : (x == ("__debug__" : Str)) = false) (hcd : (x == ("__classdict__" : Str)) = false) : DPE X L (.Name x pos) (dVar i) := by
  refine ⟨mo_var i, pe_imp (pe_var hN hv hd hcd) fun σ H Q ⟨G, ρ, g, r, h⟩ => ?_⟩
  unfold dVar at h
  split at h
  · rename_i d e
    obtain ⟨v, ev, q⟩ := r.sh i d e
    exact ⟨v, ev, h v G H (Step.refl g) q⟩
  · exact h.elim
def dC (d : D) : DE := fun _ Q _ => Q d
theorem mo_c (d : D) : Mo (dC d) := fun _ _ _ _ _ h _ x => h _ x
theorem d_c {v : V} {d : D} (h : PE X e (tC v)) (r : ∀ G, Rp X.K G v d) : DPE X L e (dC d) :=
  ⟨mo_c d, pe_imp h fun σ H Q ⟨G, ρ, g, _, q⟩ => q v G H (Step.refl g) (r G)⟩
theorem d_int {i j} : DPE X L (.Constant (.int i) j pos) (dC (.int i)) := d_c pe_int fun _ => .int i
theorem d_bl {i j} : DPE X L (.Constant (.bool i) j pos) (dC (.bl i)) := d_c pe_bl fun _ => .bl i
theorem d_str {i j} : DPE X L (.Constant (.str i) j pos) (dC (.str i)) := d_c pe_str fun _ => .str i
theorem d_non {j} : DPE X L (.Constant .none j pos) (dC .non) := d_c pe_non fun _ => .non

/-! ### operators -/
abbrev D2 := D → D → (D → Prop) → Prop
structure OpD (X : Cx) (B : Bo) (f : Value → Value → Sem Value) (o : D2) : Prop where
  mo : ∀ x y Q Q', (∀ d, Q d → Q' d) → o x y Q → o x y Q'
  run : ∃ r, OpR X f r ∧ ∀ G H x y a b Q, Good X.K B G H → Rp X.K G x a → Rp X.K G y b → o a b (kv X.K B G H Q) → r x y H Q
def dOp (o : D2) (ma mb : DE) : DE := fun ρ Q E => ma ρ (fun x => mb ρ (fun y => o x y Q) E) E
theorem mo_op {o : D2} (ho : ∀ x y Q Q', (∀ d, Q d → Q' d) → o x y Q → o x y Q') (ha : Mo ma) (hb : Mo mb) : Mo (dOp o ma mb) := fun ρ Q Q' E E' h hx x =>
  ha ρ _ _ _ _ (fun _ q => hb ρ _ _ _ _ (fun _ z => ho _ _ _ _ h z) hx q) hx x
theorem run_op {r : R2} {o : D2} {B : Bo} {Q : VK} (hr : ∀ G H x y a b Q, Good K B G H → Rp K G x a → Rp K G y b → o a b (kv K B G H Q) → r x y H Q) (mo : ∀ x y Q Q', (∀ d, Q d → Q' d) → o x y Q → o x y Q') (ha : Mo ma) (hb : Mo mb)
    (h : up K B F W (dOp o ma mb) σ H Q) : tOp r (up K B F W ma) (up K B F W mb) σ H Q := by
  obtain ⟨G, ρ, g, rs, q⟩ := h
  refine up_of ha g rs q fun x vx G1 H1 q1 s1 r1 => ?_
  refine up_of hb s1.good (rs.step s1) (mo_step hb s1 q1) fun y vy G2 H2 q2 s2 r2 => ?_
  exact hr G2 H2 vx vy x y Q s2.good (r1.mono s2.grow) r2 (mo _ _ _ _ (fun _ z => z.step (s1.trans s2)) q2)
theorem d_op {op : Operator} {o : D2} (ho : OpD X L.B (binaryOp op) o) (ha : DPE X L a ma) (hb : DPE X L b mb) : DPE X L (.BinOp a op b pos) (dOp o ma mb) := by
  obtain ⟨mo, r, hr, h⟩ := ho
  exact ⟨mo_op mo ha.mo hb.mo, pe_imp (pe_op hr ha.run hb.run) fun σ H Q q => run_op h mo ha.mo hb.mo q⟩
theorem d_cmp {op : CmpOp} {o : D2} (ho : OpD X L.B (compareOp op) o) (ha : DPE X L a ma) (hb : DPE X L b mb) (hm : behindInMarks op b = false) : DPE X L (.Compare a [op] [b] pos) (dOp o ma mb) := by
  obtain ⟨mo, r, hr, h⟩ := ho
  exact ⟨mo_op mo ha.mo hb.mo, pe_imp (pe_cmpR hr ha.run hb.run hm) fun σ H Q q => run_op h mo ha.mo hb.mo q⟩
/-- by a bool -/
def bc (c : Bool) (A B : Prop) : Prop := match c with
  | true => A
  | false => B
/-- a bool -/
def bD : D → (Bool → Prop) → Prop
  | .bl b, Q => Q b
  | _, _ => False
theorem bD_mo {d : D} {Q Q' : Bool → Prop} (h : ∀ b, Q b → Q' b) (z : bD d Q) : bD d Q' := by
  cases d <;> first | exact h _ z | exact z
theorem bD_run {d : D} {v : V} {Q : Bool → Prop} (r : Rp K G v d) (z : bD d Q) : ∃ k, v = .bl k ∧ Q k := by
  cases r <;> first | exact ⟨_, rfl, z⟩ | exact z.elim
/-- a op b op' c -/
def dChain (o o' : D2) (ma mb mc : DE) : DE := fun ρ Q E => ma ρ (fun x => mb ρ (fun y => o x y fun z => bD z fun k => bc k (mc ρ (fun w => o' y w Q) E) (Q (.bl false))) E) E
theorem mo_chain {o o' : D2} (ho : ∀ x y Q Q', (∀ d, Q d → Q' d) → o x y Q → o x y Q') (ho' : ∀ x y Q Q', (∀ d, Q d → Q' d) → o' x y Q → o' x y Q') (ha : Mo ma) (hb : Mo mb) (hc : Mo mc) : Mo (dChain o o' ma mb mc) := fun ρ Q Q' E E' h hx x =>
  ha ρ _ _ _ _ (fun _ q => hb ρ _ _ _ _ (fun _ z => ho _ _ _ _ (fun d y => bD_mo (fun k y => by
    cases k with
    | true => exact hc ρ _ _ _ _ (fun _ w => ho' _ _ _ _ h w) hx y
    | false => exact h _ y) y) z) hx q) hx x
theorem d_chain {op op' : CmpOp} {o o' : D2} (ho : OpD X L.B (compareOp op) o) (ho' : OpD X L.B (compareOp op') o') (ha : DPE X L a ma) (hb : DPE X L b mb) (hc : DPE X L c mc) (hm : lastMarks [op, op'] [b, c] = false) :
    DPE X L (.Compare a [op, op'] [b, c] pos) (dChain o o' ma mb mc) := by
  obtain ⟨mo, r, hr, h⟩ := ho
  obtain ⟨mo', r', hr', h'⟩ := ho'
  refine ⟨mo_chain mo mo' ha.mo hb.mo hc.mo, pe_imp (pe_chain hr hr' ha.run hb.run hc.run hm) fun σ H Q ⟨G, ρ, g, rs, q⟩ => ?_⟩
  refine up_of ha.mo g rs q fun x vx G1 H1 q1 s1 r1 => ?_
  refine up_of hb.mo s1.good (rs.step s1) (mo_step hb.mo s1 q1) fun y vy G2 H2 q2 s2 r2 => ?_
  refine h G2 H2 vx vy x y _ s2.good (r1.mono s2.grow) r2 (mo _ _ _ _ (fun z hz v G3 H3 s3 r3 => ?_) q2)
  have s13 := (s1.trans s2).trans s3
  obtain ⟨k, rfl, hz⟩ := bD_run r3 hz
  cases k with
  | true =>
    refine ⟨true, rfl, iteT ?_⟩
    refine up_of hc.mo s3.good (rs.step s13) (mo_step hc.mo s13 hz) fun w vw G4 H4 q4 s4 r4 => ?_
    exact h' G4 H4 vy vw y w Q s4.good (r2.mono (s3.trans s4).grow) r4 (mo' _ _ _ _ (fun _ z => z.step (s13.trans s4)) q4)
  | false => exact ⟨false, rfl, iteF (hz _ _ _ s13 (.bl false))⟩
end
end DV
set_option Elab.async false
set_option linter.all false
set_option maxRecDepth 100000
set_option maxHeartbeats 4000000
namespace DV
open PySem PySem.Spec PyProof.Rows L2
section
variable {X : Cx} {L : Pl} {e a b c : Expr} {es rest : List Expr} {m ma mb mc : DE} {mt mu : DT} {mA : DA} {pos p : Pos}
variable {K : PySem.W.Frag} {B : Bo} {F : Addr → Prop} {W : L2.St → XK} {G H : Hp} {σ : L2.St} {ρ : Slots}
/-! ### truth -/
def truD : D → (Bool → Prop) → Prop
  | .non, Q => Q false
  | .bl b, Q => Q b
  | .int i, Q => Q (i != 0)
  | .str y, Q => y.length ≤ sizeLine ∧ Q ((y.length : Int) != 0)
  | .lst xs, Q => Q (!xs.isEmpty)
  | .tup xs, Q => Q (!xs.isEmpty)
  | _, _ => False
theorem truD_mo : ∀ {d : D} {Q Q' : Bool → Prop}, (∀ b, Q b → Q' b) → truD d Q → truD d Q'
  | .non, _, _, h, x => h _ x
  | .bl _, _, _, h, x => h _ x
  | .int _, _, _, h, x => h _ x
  | .str _, _, _, h, x => ⟨x.1, h _ x.2⟩
  | .lst _, _, _, h, x => h _ x
  | .tup _, _, _, h, x => h _ x
theorem RpL.isEmpty {vs : List V} {ds : List D} (r : RpL K G vs ds) : vs.isEmpty = ds.isEmpty := by cases r <;> rfl
theorem truD_run {d : D} {v : V} {Q : Bool → Prop} (s : Sub G H) (r : Rp K G v d) (h : truD d Q) : ∃ k, TruV K v H k ∧ Q k := by
  cases r with
  | non => exact ⟨_, rfl, h⟩
  | bl b => exact ⟨_, rfl, h⟩
  | int i => exact ⟨_, rfl, h⟩
  | str x => exact ⟨_, ⟨h.1, rfl⟩, h.2⟩
  | opq => exact h.elim
  | lst q rl => exact ⟨_, .inl ⟨_, s.lstL q, rfl⟩, by rw [rl.isEmpty]; exact h⟩
  | tup q rl => exact ⟨_, .inr (.inl ⟨_, s.sqT q, rfl⟩), by rw [rl.isEmpty]; exact h⟩
  | dic => exact h.elim
  | ins => exact h.elim
/-! ### tests -/
def dTest (m : DE) : DT := fun ρ Q E => m ρ (fun x => truD x Q) E
theorem mo_test (h : Mo m) : Mo (dTest m) := fun ρ Q Q' E E' q hx x => h ρ _ _ _ _ (fun _ z => truD_mo q z) hx x
theorem d_test (h : DPE X L a m) (he : ∀ whole, isTrue a X.env whole = (do let v ← whole; standAt a.pos; holding [v] (truthy v))) : DPT X L a (dTest m) := by
  refine ⟨mo_test h.mo, pt_imp (pt_truth h.run he) fun σ H Q ⟨G, ρ, g, rs, q⟩ => ?_⟩
  refine up_of h.mo g rs q fun x v G1 H1 q1 s1 r1 => ?_
  obtain ⟨k, t, z⟩ := truD_run s1.good.sub r1 q1
  exact ⟨k, t, z _ _ s1⟩
/-- a comparison as a test: its answer is a bool -/
def dTestB (m : DE) : DT := fun ρ Q E => m ρ (fun x => bD x Q) E
theorem mo_testB (h : Mo m) : Mo (dTestB m) := fun ρ Q Q' E E' q hx x => h ρ _ _ _ _ (fun d z => bD_mo q z) hx x
theorem run_testB {Q : Bool → Hp → Prop} (hm : Mo m) (h : upT K B F W (dTestB m) σ H Q) : up K B F W m σ H (fun x H' => ∃ k, x = .bl k ∧ Q k H') := by
  obtain ⟨G, ρ, g, rs, q⟩ := h
  refine up_of hm g rs q fun x v G1 H1 q1 s1 r1 => ?_
  obtain ⟨k, rfl, q1⟩ := bD_run r1 q1
  exact ⟨_, rfl, q1 _ _ s1⟩
theorem d_tcmp {op : CmpOp} {o : D2} (ho : OpD X L.B (compareOp op) o) (ha : DPE X L a ma) (hb : DPE X L b mb) (hm : behindInMarks op b = false) : DPT X L (.Compare a [op] [b] pos) (dTestB (dOp o ma mb)) := by
  obtain ⟨mo, r, hr, h⟩ := ho
  refine ⟨mo_testB (mo_op mo ha.mo hb.mo), pt_imp (pt_cmpR hr ha.run hb.run hm) fun σ H Q q => ?_⟩
  exact run_op h mo ha.mo hb.mo (run_testB (mo_op mo ha.mo hb.mo) q)
theorem run_chain {r r' : R2} {o o' : D2} {B : Bo} {Q : VK} (h : ∀ G H x y a b Q, Good K B G H → Rp K G x a → Rp K G y b → o a b (kv K B G H Q) → r x y H Q) (mo : ∀ x y Q Q', (∀ d, Q d → Q' d) → o x y Q → o x y Q')
    (h' : ∀ G H x y a b Q, Good K B G H → Rp K G x a → Rp K G y b → o' a b (kv K B G H Q) → r' x y H Q) (mo' : ∀ x y Q Q', (∀ d, Q d → Q' d) → o' x y Q → o' x y Q') (ha : Mo ma) (hb : Mo mb) (hc : Mo mc)
    (q : up K B F W (dChain o o' ma mb mc) σ H Q) : tChain r r' (up K B F W ma) (up K B F W mb) (up K B F W mc) σ H Q := by
  obtain ⟨G, ρ, g, rs, q⟩ := q
  refine up_of ha g rs q fun x vx G1 H1 q1 s1 r1 => ?_
  refine up_of hb s1.good (rs.step s1) (mo_step hb s1 q1) fun y vy G2 H2 q2 s2 r2 => ?_
  refine h G2 H2 vx vy x y _ s2.good (r1.mono s2.grow) r2 (mo _ _ _ _ (fun z hz v G3 H3 s3 r3 => ?_) q2)
  have s13 := (s1.trans s2).trans s3
  obtain ⟨k, rfl, hz⟩ := bD_run r3 hz
  cases k with
  | true =>
    refine ⟨true, rfl, iteT ?_⟩
    refine up_of hc s3.good (rs.step s13) (mo_step hc s13 hz) fun w vw G4 H4 q4 s4 r4 => ?_
    exact h' G4 H4 vy vw y w Q s4.good (r2.mono (s3.trans s4).grow) r4 (mo' _ _ _ _ (fun _ z => z.step (s13.trans s4)) q4)
  | false => exact ⟨false, rfl, iteF (hz _ _ _ s13 (.bl false))⟩
theorem d_tchain {op op' : CmpOp} {o o' : D2} (ho : OpD X L.B (compareOp op) o) (ho' : OpD X L.B (compareOp op') o') (ha : DPE X L a ma) (hb : DPE X L b mb) (hc : DPE X L c mc) (hm : lastMarks [op, op'] [b, c] = false) :
    DPT X L (.Compare a [op, op'] [b, c] pos) (dTestB (dChain o o' ma mb mc)) := by
  obtain ⟨mo, r, hr, h⟩ := ho
  obtain ⟨mo', r', hr', h'⟩ := ho'
  have mm := mo_chain mo mo' ha.mo hb.mo hc.mo
  refine ⟨mo_testB mm, pt_imp (pt_chain hr hr' ha.run hb.run hc.run hm) fun σ H Q q => ?_⟩
  exact run_chain h mo h' mo' ha.mo hb.mo hc.mo (run_testB mm q)
def dAnd (t u : DT) : DT := fun ρ Q E => t ρ (fun c => bc c (u ρ Q E) (Q false)) E
def dOr (t u : DT) : DT := fun ρ Q E => t ρ (fun c => bc c (Q true) (u ρ Q E)) E
def dNot (t : DT) : DT := fun ρ Q E => t ρ (fun c => Q (!c)) E
theorem mo_and (ht : Mo mt) (hu : Mo mu) : Mo (dAnd mt mu) := fun ρ Q Q' E E' q hx x => ht ρ _ _ _ _ (fun c z => by cases c <;> first | exact hu ρ _ _ _ _ q hx z | exact q _ z) hx x
theorem mo_or (ht : Mo mt) (hu : Mo mu) : Mo (dOr mt mu) := fun ρ Q Q' E E' q hx x => ht ρ _ _ _ _ (fun c z => by cases c <;> first | exact hu ρ _ _ _ _ q hx z | exact q _ z) hx x
theorem mo_not (ht : Mo mt) : Mo (dNot mt) := fun ρ Q Q' E E' q hx x => ht ρ _ _ _ _ (fun _ z => q _ z) hx x
theorem d_and1 (h : DPT X L a mt) : DPW X L (.BoolOp .And [a] pos) mt := ⟨h.mo, pw_and1 h.run⟩
theorem d_or1 (h : DPT X L a mt) : DPW X L (.BoolOp .Or [a] pos) mt := ⟨h.mo, pw_or1 h.run⟩
theorem d_wand (h : DPT X L a mt) (hb : DPW X L (.BoolOp .And (b :: rest) pos) mu) : DPW X L (.BoolOp .And (a :: b :: rest) pos) (dAnd mt mu) := by
  refine ⟨mo_and h.mo hb.mo, pw_imp (pw_and h.run hb.run) fun σ H Q ⟨G, ρ, g, rs, q⟩ => ?_⟩
  refine upT_of h.mo g rs q fun c G1 H1 q1 s1 => ?_
  cases c with
  | true => exact iteT ⟨G1, ρ, s1.good, rs.step s1, hb.mo ρ _ _ _ _ (fun _ z => z.step s1) (fun _ z => z.step s1) q1⟩
  | false => exact iteF (q1 _ _ s1)
theorem d_wor (h : DPT X L a mt) (hb : DPW X L (.BoolOp .Or (b :: rest) pos) mu) : DPW X L (.BoolOp .Or (a :: b :: rest) pos) (dOr mt mu) := by
  refine ⟨mo_or h.mo hb.mo, pw_imp (pw_or h.run hb.run) fun σ H Q ⟨G, ρ, g, rs, q⟩ => ?_⟩
  refine upT_of h.mo g rs q fun c G1 H1 q1 s1 => ?_
  cases c with
  | false => exact iteF ⟨G1, ρ, s1.good, rs.step s1, hb.mo ρ _ _ _ _ (fun _ z => z.step s1) (fun _ z => z.step s1) q1⟩
  | true => exact iteT (q1 _ _ s1)
theorem DPW.pt (h : DPW X L e mt) : DPT X L e mt := ⟨h.mo, h.run.pt⟩
theorem d_tnot (h : DPT X L a mt) : DPT X L (.UnaryOp .Not a pos) (dNot mt) := by
  refine ⟨mo_not h.mo, pt_imp (pt_not h.run) fun σ H Q ⟨G, ρ, g, rs, q⟩ => ?_⟩
  exact upT_of h.mo g rs q fun c G1 H1 q1 s1 => q1 _ _ s1
/-! ### and, or, not as values -/
def dAndV (ma mb : DE) : DE := fun ρ Q E => ma ρ (fun x => truD x fun k => bc k (mb ρ Q E) (Q x)) E
def dOrV (ma mb : DE) : DE := fun ρ Q E => ma ρ (fun x => truD x fun k => bc k (Q x) (mb ρ Q E)) E
def dNotV (ma : DE) : DE := fun ρ Q E => ma ρ (fun x => truD x fun k => Q (.bl (!k))) E
theorem mo_andV (ha : Mo ma) (hb : Mo mb) : Mo (dAndV ma mb) := fun ρ Q Q' E E' q hx x => ha ρ _ _ _ _ (fun _ z => truD_mo (fun k y => by cases k <;> first | exact hb ρ _ _ _ _ q hx y | exact q _ y) z) hx x
theorem mo_orV (ha : Mo ma) (hb : Mo mb) : Mo (dOrV ma mb) := fun ρ Q Q' E E' q hx x => ha ρ _ _ _ _ (fun _ z => truD_mo (fun k y => by cases k <;> first | exact hb ρ _ _ _ _ q hx y | exact q _ y) z) hx x
theorem mo_notV (ha : Mo ma) : Mo (dNotV ma) := fun ρ Q Q' E E' q hx x => ha ρ _ _ _ _ (fun _ z => truD_mo (fun k y => q _ y) z) hx x
theorem d_one {op} (h : DPE X L a m) : DPE X L (.BoolOp op [a] pos) m := ⟨h.mo, pe_one h.run⟩
theorem d_and (ha : DPE X L a ma) (hb : DPE X L (.BoolOp .And (b :: rest) pos) mb) : DPE X L (.BoolOp .And (a :: b :: rest) pos) (dAndV ma mb) := by
  refine ⟨mo_andV ha.mo hb.mo, pe_imp (pe_andT ha.run hb.run) fun σ H Q ⟨G, ρ, g, rs, q⟩ => ?_⟩
  refine up_of ha.mo g rs q fun x v G1 H1 q1 s1 r1 => ?_
  obtain ⟨k, t, z⟩ := truD_run s1.good.sub r1 q1
  refine ⟨k, t, ?_⟩
  cases k with
  | true => exact iteT ⟨G1, ρ, s1.good, rs.step s1, hb.mo ρ _ _ _ _ (fun _ z => z.step s1) (fun _ z => z.step s1) z⟩
  | false => exact iteF (z _ _ _ s1 r1)
theorem d_or (ha : DPE X L a ma) (hb : DPE X L (.BoolOp .Or (b :: rest) pos) mb) : DPE X L (.BoolOp .Or (a :: b :: rest) pos) (dOrV ma mb) := by
  refine ⟨mo_orV ha.mo hb.mo, pe_imp (pe_orT ha.run hb.run) fun σ H Q ⟨G, ρ, g, rs, q⟩ => ?_⟩
  refine up_of ha.mo g rs q fun x v G1 H1 q1 s1 r1 => ?_
  obtain ⟨k, t, z⟩ := truD_run s1.good.sub r1 q1
  refine ⟨k, t, ?_⟩
  cases k with
  | false => exact iteF ⟨G1, ρ, s1.good, rs.step s1, hb.mo ρ _ _ _ _ (fun _ z => z.step s1) (fun _ z => z.step s1) z⟩
  | true => exact iteT (z _ _ _ s1 r1)
theorem d_not (ha : DPE X L a ma) : DPE X L (.UnaryOp .Not a pos) (dNotV ma) := by
  refine ⟨mo_notV ha.mo, pe_imp (pe_notT ha.run) fun σ H Q ⟨G, ρ, g, rs, q⟩ => ?_⟩
  refine up_of ha.mo g rs q fun x v G1 H1 q1 s1 r1 => ?_
  obtain ⟨k, t, z⟩ := truD_run s1.good.sub r1 q1
  exact ⟨k, t, z _ _ _ s1 (.bl _)⟩
def dIf (t : DT) (ma mb : DE) : DE := fun ρ Q E => t ρ (fun c => bc c (ma ρ Q E) (mb ρ Q E)) E
theorem mo_if (ht : Mo mt) (ha : Mo ma) (hb : Mo mb) : Mo (dIf mt ma mb) := fun ρ Q Q' E E' q hx x => ht ρ _ _ _ _ (fun c z => by cases c <;> first | exact hb ρ _ _ _ _ q hx z | exact ha ρ _ _ _ _ q hx z) hx x
theorem d_if (hc : DPT X L c mt) (ha : DPE X L a ma) (hb : DPE X L b mb) : DPE X L (.IfExp c a b pos) (dIf mt ma mb) := by
  refine ⟨mo_if hc.mo ha.mo hb.mo, pe_imp (pe_ifExp hc.run ha.run hb.run) fun σ H Q ⟨G, ρ, g, rs, q⟩ => ?_⟩
  refine upT_of hc.mo g rs q fun c G1 H1 q1 s1 => ?_
  cases c with
  | true => exact iteT ⟨G1, ρ, s1.good, rs.step s1, ha.mo ρ _ _ _ _ (fun _ z => z.step s1) (fun _ z => z.step s1) q1⟩
  | false => exact iteF ⟨G1, ρ, s1.good, rs.step s1, hb.mo ρ _ _ _ _ (fun _ z => z.step s1) (fun _ z => z.step s1) q1⟩
/-! ### argument lists, displays -/
def dNil : DA := fun _ Q _ => Q []
def dCons (ma : DE) (mr : DA) : DA := fun ρ Q E => ma ρ (fun x => mr ρ (fun xs => Q (x :: xs)) E) E
theorem mo_nil : Mo dNil := fun _ _ _ _ _ q _ x => q _ x
theorem mo_cons (ha : Mo ma) (hr : Mo mA) : Mo (dCons ma mA) := fun ρ Q Q' E E' q hx x => ha ρ _ _ _ _ (fun _ z => hr ρ _ _ _ _ (fun _ y => q _ y) hx z) hx x
theorem d_nil : DPA X L [] dNil := ⟨mo_nil, pa_imp pa_nil fun σ H Q ⟨G, ρ, g, rs, q⟩ => q _ _ _ (Step.refl g) .nil⟩
theorem d_cons (ha : DPE X L e m) (hr : DPA X L es mA) (hs : starEach (e :: es) X.env = (false, eval e X.env) :: starEach es X.env) : DPA X L (e :: es) (dCons m mA) := by
  refine ⟨mo_cons ha.mo hr.mo, pa_imp (pa_cons ha.run hr.run hs) fun σ H Q ⟨G, ρ, g, rs, q⟩ => ?_⟩
  refine up_of ha.mo g rs q fun x v G1 H1 q1 s1 r1 => ?_
  exact upA_of hr.mo s1.good (rs.step s1) (mo_step hr.mo s1 q1) fun xs vs G2 H2 q2 s2 r2 => q2 _ _ _ (s1.trans s2) (.cons (r1.mono s2.grow) r2)
def dTup (mA : DA) : DE := fun ρ Q E => mA ρ (fun xs => xs.length ≤ sizeLine ∧ Q (.tup xs)) E
def dLst (mA : DA) : DE := fun ρ Q E => mA ρ (fun xs => xs.length ≤ sizeLine ∧ Q (.lst xs)) E
theorem mo_tup (h : Mo mA) : Mo (dTup mA) := fun ρ Q Q' E E' q hx x => h ρ _ _ _ _ (fun _ z => ⟨z.1, q _ z.2⟩) hx x
theorem mo_lst (h : Mo mA) : Mo (dLst mA) := fun ρ Q Q' E E' q hx x => h ρ _ _ _ _ (fun _ z => ⟨z.1, q _ z.2⟩) hx x
theorem new_tup {vs : List V} {ds : List D} {q : Addr} (g : Good K B G H) (n : H q = none) (r : RpL K G vs ds) : Rp K (upd G q (.tup vs)) (.ref q) (.tup ds) :=
  .tup (.inl (.inl upd_same)) (r.mono (Step.new g n).grow)
theorem new_lst {vs : List V} {ds : List D} {q : Addr} (g : Good K B G H) (n : H q = none) (r : RpL K G vs ds) : Rp K (upd G q (.lst vs)) (.ref q) (.lst ds) :=
  .lst upd_same (r.mono (Step.new g n).grow)
theorem d_tup {x1} (h : DPA X L es mA) : DPE X L (.Tuple es x1 pos) (dTup mA) := by
  refine ⟨mo_tup h.mo, pe_imp (pe_tup h.run) fun σ H Q ⟨G, ρ, g, rs, q⟩ => ?_⟩
  exact upA_of h.mo g rs q fun xs vs G1 H1 q1 s1 r1 => ⟨by rw [r1.length]; exact q1.1, fun p np => q1.2 _ _ _ (s1.trans (Step.new s1.good np)) (new_tup s1.good np r1)⟩
theorem d_lst (h : DPA X L es mA) : DPE X L (.List es pos) (dLst mA) := by
  refine ⟨mo_lst h.mo, pe_imp (pe_lst h.run) fun σ H Q ⟨G, ρ, g, rs, q⟩ => ?_⟩
  exact upA_of h.mo g rs q fun xs vs G1 H1 q1 s1 r1 => ⟨by rw [r1.length]; exact q1.1, fun p np => q1.2 _ _ _ (s1.trans (Step.new s1.good np)) (new_lst s1.good np r1)⟩
/-! ### built-ins by values -/
abbrev DC := List D → (D → Prop) → Prop
structure CallD (X : Cx) (B : Bo) (f : Value) (o : DC) : Prop where
  mo : ∀ x Q Q', (∀ d, Q d → Q' d) → o x Q → o x Q'
  run : ∃ r, CallR X f r ∧ ∀ G H vs ds Q, Good X.K B G H → RpL X.K G vs ds → o ds (kv X.K B G H Q) → r vs H Q
def dCB (o : DC) (mA : DA) : DE := fun ρ Q E => mA ρ (fun xs => o xs Q) E
theorem mo_cb {o : DC} (ho : ∀ x Q Q', (∀ d, Q d → Q' d) → o x Q → o x Q') (h : Mo mA) : Mo (dCB o mA) := fun ρ Q Q' E E' q hx x => h ρ _ _ _ _ (fun _ z => ho _ _ _ q z) hx x
theorem run_cb {r : List V → Hp → VK → Prop} {o : DC} {Q : VK} (hr : ∀ G H vs ds Q, Good K B G H → RpL K G vs ds → o ds (kv K B G H Q) → r vs H Q) (mo : ∀ x Q Q', (∀ d, Q d → Q' d) → o x Q → o x Q') (h : Mo mA)
    (q : up K B F W (dCB o mA) σ H Q) : tCB r (upA K B F W mA) σ H Q := by
  obtain ⟨G, ρ, g, rs, q⟩ := q
  exact upA_of h g rs q fun xs vs G1 H1 q1 s1 r1 => hr G1 H1 vs xs Q s1.good r1 (mo _ _ _ (fun _ z => z.step s1) q1)
theorem d_callB {x : Str} {id : String} {o : DC} (hc : CallD X L.B (.builtin id) o) (hg : Gl X x) (hm : X.mg x = none) (hv : bootBuiltins x = some (.builtin id)) (ha : DPA X L (e :: es) mA) (hn : x ≠ "__name__") (hdb : (x == ("__debug__" : Str)) = false)
    (he : starEach (e :: es) X.env = (false, eval e X.env) :: starEach es X.env) (hpl : (backTo pos (starEach es X.env)).any (·.1) = false) : DPE X L (.Call (.Name x p) (e :: es) [] pos) (dCB o mA) := by
  obtain ⟨mo, r, hr, h⟩ := hc
  exact ⟨mo_cb mo ha.mo, pe_imp (pe_callB hr hg hm hv ha.run hn hdb he hpl) fun σ H Q q => run_cb h mo ha.mo q⟩
theorem d_callTy {x : Str} {T : String} {o : DC} (hc : CallD X L.B (.type T) o) (hg : Gl X x) (hm : X.mg x = none) (hv : bootBuiltins x = some (.type T)) (ha : DPA X L (e :: es) mA) (hn : x ≠ "__name__") (hdb : (x == ("__debug__" : Str)) = false)
    (he : starEach (e :: es) X.env = (false, eval e X.env) :: starEach es X.env) (hpl : (backTo pos (starEach es X.env)).any (·.1) = false) : DPE X L (.Call (.Name x p) (e :: es) [] pos) (dCB o mA) := by
  obtain ⟨mo, r, hr, h⟩ := hc
  exact ⟨mo_cb mo ha.mo, pe_imp (pe_callTy hr hg hm hv ha.run hn hdb he hpl) fun σ H Q q => run_cb h mo ha.mo q⟩
end
/-! ### what a def promises of data -/
abbrev DSp := List D → (D → Prop) → (Xc → Prop) → Prop
/-- closed upward -/
def spM (sp : DSp) : DSp := fun ds Q E => ∃ Q0 E0, sp ds Q0 E0 ∧ (∀ d, Q0 d → Q d) ∧ ∀ x, E0 x → E x
theorem spM.of {sp : DSp} {ds : List D} {Q : D → Prop} {E : Xc → Prop} (h : sp ds Q E) : spM sp ds Q E := ⟨Q, E, h, fun _ x => x, fun _ x => x⟩
def spD (K : PySem.W.Frag) (sp : DSp) : Sp := fun vs H Q E => ∃ G ds, Good K none G H ∧ RpL K G vs ds ∧ spM sp ds (kv K none G H Q) (kx K none G H E)
def spB (K : PySem.W.Frag) (sp : DSp) : Sp := fun vs H Q E => ∃ b l ws G ds, vs = .ref b :: ws ∧ Good K (some (b, l)) G H ∧ RpL K G ws ds ∧ spM sp ds (kv K (some (b, l)) G H Q) (kx K (some (b, l)) G H E)
theorem Good.none {K : PySem.W.Frag} {B : Bo} {G H : Hp} (g : Good K B G H) : Good K Option.none G H := ⟨g.sub, fun _ _ e => by cases e⟩
theorem Step.lift {K : PySem.W.Frag} {B : Bo} {G H G' H' : Hp} (g : Good K B G H) (s : Step K Option.none G H G' H') : Step K B G H G' H' := by
  refine ⟨s.grow, ⟨s.good.sub, fun b l e => ?_⟩, fun a o h _ => s.keep a o h (fun _ _ z => by cases z), s.hid⟩
  obtain ⟨h1, ns, i, r, m, c, h2, h3, h4⟩ := g.box b l e
  exact ⟨s.hid _ _ h2 h1, ns, i, r, m, c, s.keep _ _ h2 (fun _ _ z => by cases z), s.grow.sqL h3, h4⟩
theorem kv.lift {K : PySem.W.Frag} {B : Bo} {G H : Hp} {Q : VK} {d : D} (g : Good K B G H) (h : kv K B G H Q d) : kv K Option.none G H Q d := fun v G' H' s r => h v G' H' (s.lift g) r
theorem kx.lift {K : PySem.W.Frag} {B : Bo} {G H : Hp} {E : XK} {x : Xc} (g : Good K B G H) (h : kx K B G H E x) : kx K Option.none G H E x := fun d fs G' H' s a r => h d fs G' H' (s.lift g) a r
end DV
set_option Elab.async false
set_option linter.all false
set_option maxRecDepth 100000
set_option maxHeartbeats 4000000
namespace DV
open PySem PySem.Spec PyProof.Rows L2
section
variable {X : Cx} {L : Pl} {e a b c : Expr} {es rest : List Expr} {m ma mb mc : DE} {mt mu : DT} {mA : DA} {pos p : Pos}
variable {K : PySem.W.Frag} {B : Bo} {F : Addr → Prop} {W : L2.St → XK} {G H : Hp} {σ : L2.St} {ρ : Slots}
/-! ### calls of defs -/
def dCall (sp : DSp) (mA : DA) : DE := fun ρ Q E => mA ρ (fun ds => spM sp ds Q E) E
theorem spM_mo {sp : DSp} {ds : List D} {Q Q' : D → Prop} {E E' : Xc → Prop} (q : ∀ d, Q d → Q' d) (x : ∀ d, E d → E' d) (h : spM sp ds Q E) : spM sp ds Q' E' := by
  obtain ⟨Q0, E0, h, a, b⟩ := h
  exact ⟨Q0, E0, h, fun d z => q _ (a _ z), fun d z => x _ (b _ z)⟩
theorem mo_call {sp : DSp} (h : Mo mA) : Mo (dCall sp mA) := fun ρ Q Q' E E' q hx x => h ρ _ _ _ _ (fun _ z => spM_mo q hx z) hx x
theorem d_call {CX : CXT} {k : Nat} {f : Addr} {fd : FuncData} {ps : List Str} {sp : DSp} {x : Str} (Fn : FnOk X.prog X.w X.K X.mg X.base CX k f fd ps (spD X.K sp)) (hr : Room k X.A) (hg : Gl X x) (hm : X.mg x = some (.ref f)) (hk : PySem.W.keepIn X.K (.ref f) = true) (hb : Binds X.K fd ps [])
    (hx : ∀ σ, PassesAt CX X σ (L.W σ)) (ha : DPA X L (e :: es) mA) (hdb : (x == ("__debug__" : Str)) = false) (he : starEach (e :: es) X.env = (false, eval e X.env) :: starEach es X.env) (hpl : (backTo pos (starEach es X.env)).any (·.1) = false) :
    DPE X L (.Call (.Name x p) (e :: es) [] pos) (dCall sp mA) := by
  refine ⟨mo_call ha.mo, pe_imp (pe_callSD Fn hr hg hm hk hb .nil hx ha.run hdb he hpl) fun σ H Q ⟨G, ρ, g, rs, q⟩ => ?_⟩
  refine upA_of ha.mo g rs q fun xs vs G1 H1 q1 s1 r1 => ?_
  exact ⟨G1, xs, s1.good.none, by rw [List.append_nil]; exact r1, spM_mo (fun d z => (z.step s1).lift s1.good) (fun x z => (z.step s1).lift s1.good) q1⟩
/-- f(box, ..) -/
def dCallX (bx : Addr) (sp : DSp) (mA : DA) : DE := fun ρ Q E => mA ρ (fun ds => match ds with
  | .opq (.ref b) :: r => b = bx ∧ spM sp r Q E
  | _ => False) E
theorem mo_callX {sp : DSp} {bx : Addr} (h : Mo mA) : Mo (dCallX bx sp mA) := fun ρ Q Q' E E' q hx x => h ρ _ _ _ _ (fun ds z => by
  split at z
  · exact ⟨z.1, spM_mo q hx z.2⟩
  · exact z) hx x
theorem d_callX {CX : CXT} {k : Nat} {f bx lx : Addr} {fd : FuncData} {ps : List Str} {sp : DSp} {x : Str} (Fn : FnOk X.prog X.w X.K X.mg X.base CX k f fd ps (spB X.K sp)) (hB : L.B = some (bx, lx)) (hr : Room k X.A) (hg : Gl X x) (hm : X.mg x = some (.ref f)) (hk : PySem.W.keepIn X.K (.ref f) = true) (hb : Binds X.K fd ps [])
    (hx : ∀ σ, PassesAt CX X σ (L.W σ)) (ha : DPA X L (e :: es) mA) (hdb : (x == ("__debug__" : Str)) = false) (he : starEach (e :: es) X.env = (false, eval e X.env) :: starEach es X.env) (hpl : (backTo pos (starEach es X.env)).any (·.1) = false) :
    DPE X L (.Call (.Name x p) (e :: es) [] pos) (dCallX bx sp mA) := by
  refine ⟨mo_callX ha.mo, pe_imp (pe_callSD Fn hr hg hm hk hb .nil hx ha.run hdb he hpl) fun σ H Q ⟨G, ρ, g, rs, q⟩ => ?_⟩
  refine upA_of ha.mo g rs q fun xs vs G1 H1 q1 s1 r1 => ?_
  rw [List.append_nil]
  split at q1
  · rename_i b r
    obtain ⟨rfl, q1⟩ := q1
    cases r1 with
    | cons r2 r3 =>
      cases r2
      rw [hB] at s1 q1
      exact ⟨b, lx, _, G1, r, rfl, s1.good, r3, spM_mo (fun d z => z.step s1) (fun x z => z.step s1) q1⟩
  · exact q1.elim
/-! ### subscripts, slices -/
def ixD : D2
  | .lst xs, .int i, Q => match atI xs i with
    | some d => Q d
    | none => False
  | .tup xs, .int i, Q => match atI xs i with
    | some d => Q d
    | none => False
  | .str z, .int i, Q => z.length ≤ sizeLine ∧ match atI z.cps.toList i with
    | some c => Q (.str ⟨#[c]⟩)
    | none => False
  | _, _, _ => False
theorem ixD_mo : ∀ x y Q Q', (∀ d, Q d → Q' d) → ixD x y Q → ixD x y Q' := fun x y Q Q' h z => by
  unfold ixD at z ⊢
  split at z
  · split at z
    · exact h _ z
    · exact z
  · split at z
    · exact h _ z
    · exact z
  · refine ⟨z.1, ?_⟩
    obtain ⟨_, z⟩ := z
    split at z
    · exact h _ z
    · exact z
  · exact z
theorem RpL.atI {vs : List V} {ds : List D} {i : Int} {d : D} (r : RpL K G vs ds) (h : L2.atI ds i = some d) : ∃ v, L2.atI vs i = some v ∧ Rp K G v d := by
  unfold L2.atI at h ⊢
  rw [r.length]
  cases e : ixN ds.length i with
  | none => rw [e] at h; cases h
  | some j => rw [e] at h; exact r.get h
theorem d_ix (ha : DPE X L a ma) (hb : DPE X L b mb) (hs : PlainIx b) : DPE X L (.Subscript a b pos) (dOp ixD ma mb) := by
  refine ⟨mo_op ixD_mo ha.mo hb.mo, pe_imp (pe_ix ix_seq ha.run hb.run hs) fun σ H Q q => run_op (fun G H x y a b Q g r1 r2 h => ?_) ixD_mo ha.mo hb.mo q⟩
  unfold ixD at h
  split at h
  · split at h
    · rename_i d e
      cases r1 with
      | lst s rl =>
        cases r2
        obtain ⟨v, e1, r3⟩ := rl.atI e
        exact .inl ⟨_, _, _, v, rfl, rfl, g.sub.lstL s, e1, h _ _ _ (Step.refl g) r3⟩
    · exact h.elim
  · split at h
    · rename_i d e
      cases r1 with
      | tup s rl =>
        cases r2
        obtain ⟨v, e1, r3⟩ := rl.atI e
        exact .inr (.inl ⟨_, _, _, v, rfl, rfl, g.sub.sqT s, e1, h _ _ _ (Step.refl g) r3⟩)
    · exact h.elim
  · obtain ⟨hz, h⟩ := h
    split at h
    · rename_i d e
      cases r1
      cases r2
      exact .inr (.inr ⟨_, _, _, rfl, rfl, hz, e, h _ _ _ (Step.refl g) (.str _)⟩)
    · exact h.elim
  · exact h.elim
abbrev DO := Slots → (Option Int → Prop) → (Xc → Prop) → Prop
def ko (K : PySem.W.Frag) (B : Bo) (G H : Hp) (Q : Option Int → Hp → Prop) : Option Int → Prop := fun b => ∀ G' H', Step K B G H G' H' → Q b H'
def upO (K : PySem.W.Frag) (B : Bo) (F : Addr → Prop) (W : L2.St → XK) (m : DO) : TO := fun σ H Q => ∃ G ρ, Good K B G H ∧ RpS K B F G H σ ρ ∧ m ρ (ko K B G H Q) (kx K B G H (W σ))
structure DPO (X : Cx) (L : Pl) (e : Option Expr) (m : DO) : Prop where
  mo : Mo m
  run : PO X e (upO X.K L.B L.F L.W m)
theorem po_imp {e : Option Expr} {t t' : TO} (h : PO X e t) (i : ∀ σ H Q, t' σ H Q → t σ H Q) : PO X e t' := ⟨fun pins s σ H Q I q => h.run pins s σ H Q I (i _ _ _ q)⟩
def dNoPart : DO := fun _ Q _ => Q none
def dPart (m : DE) : DO := fun ρ Q E => m ρ (fun d => match d with | .int i => Q (some i) | _ => False) E
theorem d_nopart : DPO X L none dNoPart := ⟨fun _ _ _ _ _ q _ x => q _ x, po_imp po_none fun σ H Q ⟨G, ρ, g, rs, q⟩ => q _ _ (Step.refl g)⟩
theorem mo_part (h : Mo m) : Mo (dPart m) := fun ρ Q Q' E E' q hx x => h ρ _ _ _ _ (fun d z => by cases d <;> first | exact q _ z | exact z) hx x
theorem d_part (h : DPE X L e m) : DPO X L (some e) (dPart m) := by
  refine ⟨mo_part h.mo, po_imp (po_some h.run) fun σ H Q ⟨G, ρ, g, rs, q⟩ => ?_⟩
  refine up_of h.mo g rs q fun x v G1 H1 q1 s1 r1 => ?_
  cases r1 <;> first
    | exact ⟨_, rfl, q1 _ _ s1⟩
    | exact q1.elim
def cutD (xs : List D) (lo hi : Option Int) : List D := (xs.drop (HT.sIx xs.length 0 lo)).take (HT.sIx xs.length xs.length hi - HT.sIx xs.length 0 lo)
theorem RpL.cut {vs : List V} {ds : List D} (r : RpL K G vs ds) (lo hi : Option Int) : RpL K G (cutV vs lo hi) (cutD ds lo hi) := by
  unfold cutV cutD
  rw [r.length]
  exact (r.drop _).take _
def slD : D → Option Int → Option Int → (D → Prop) → Prop
  | .lst xs, lo, hi, Q => Q (.lst (cutD xs lo hi))
  | .str z, lo, hi, Q => z.length ≤ sizeLine ∧ Q (.str (cutS z lo hi))
  | _, _, _, _ => False
theorem slD_mo : ∀ {x lo hi Q Q'}, (∀ d, Q d → Q' d) → slD x lo hi Q → slD x lo hi Q'
  | .lst _, _, _, _, _, h, z => h _ z
  | .str _, _, _, _, _, h, z => ⟨z.1, h _ z.2⟩
def dSl (m : DE) (ml mh : DO) : DE := fun ρ Q E => m ρ (fun x => ml ρ (fun lo => mh ρ (fun hi => slD x lo hi Q) E) E) E
theorem mo_sl {ml mh : DO} (h : Mo m) (hl : Mo ml) (hh : Mo mh) : Mo (dSl m ml mh) := fun ρ Q Q' E E' q hx x => h ρ _ _ _ _ (fun _ z => hl ρ _ _ _ _ (fun _ y => hh ρ _ _ _ _ (fun _ w => slD_mo q w) hx y) hx z) hx x
theorem upO_of {R : Option Int → Hp → Prop} {P : Option Int → Prop} {mo : DO} (hm : Mo mo) (g : Good K B G H) (r : RpS K B F G H σ ρ) (h : mo ρ P (kx K B G H (W σ)))
    (k : ∀ b G' H', P b → Step K B G H G' H' → R b H') : upO K B F W mo σ H R :=
  ⟨G, ρ, g, r, hm ρ _ _ _ _ (fun d p G' H' s => k d G' H' p s) (fun _ x => x) h⟩
theorem d_sl {lo hi : Option Expr} {ml mh : DO} {p2 : Pos} (h : DPE X L e m) (hl : DPO X L lo ml) (hh : DPO X L hi mh) : DPE X L (.Subscript e (.Slice lo hi none p2) pos) (dSl m ml mh) := by
  refine ⟨mo_sl h.mo hl.mo hh.mo, pe_imp (pe_slice (sl_list.or sl_str) h.run hl.run hh.run) fun σ H Q ⟨G, ρ, g, rs, q⟩ => ?_⟩
  refine up_of h.mo g rs q fun x v G1 H1 q1 s1 r1 => ?_
  refine upO_of hl.mo s1.good (rs.step s1) (mo_step hl.mo s1 q1) fun l G2 H2 q2 s2 => ?_
  have s12 := s1.trans s2
  refine upO_of hh.mo s2.good (rs.step s12) (mo_step hh.mo s12 q2) fun u G3 H3 q3 s3 => ?_
  have s13 := s12.trans s3
  cases r1 with
  | lst sq rl =>
    refine .inl ⟨_, _, rfl, (s3.good.sub.lstL ((s2.trans s3).grow _ _ sq)), fun p np => ?_⟩
    exact q3 _ _ _ (s13.trans (Step.new s3.good np)) (new_lst s3.good np ((rl.mono (s2.trans s3).grow).cut _ _))
  | str z => exact .inr ⟨_, rfl, q3.1, q3.2 _ _ _ s13 (.str _)⟩
  | non => exact q3.elim
  | bl => exact q3.elim
  | int => exact q3.elim
  | opq => exact q3.elim
  | tup => exact q3.elim
  | dic => exact q3.elim
  | ins => exact q3.elim
end
end DV
set_option Elab.async false
set_option linter.all false
set_option maxRecDepth 100000
set_option maxHeartbeats 4000000
namespace DV
open PySem PySem.Spec PyProof.Rows L2
/-! ### what a loop walks -/
/-- J gives the data ds, one by one, while what was visible at G0 is so -/
def ItD (K : PySem.W.Frag) (B : Bo) (G0 : Hp) (J : It) (ds : List D) : Prop := ∀ (i : Nat) (G H : Hp), Good K B G H → Sub G0 G →
  (∀ d, ds[i]? = some d → J.go i H ∧ ∀ x H', J.yld i H x H' → ∃ G', Step K B G H G' H' ∧ Rp K G' x d) ∧ (i = ds.length → J.stop i H)
def ki (K : PySem.W.Frag) (B : Bo) (G H : Hp) (R : It → Hp → Prop) : List D → Prop := fun ds => ∀ J G' H', Step K B G H G' H' → ItD K B G' J ds → R J H'
def upI (K : PySem.W.Frag) (B : Bo) (F : Addr → Prop) (W : L2.St → XK) (m : DA) : TI := fun σ H R => ∃ G ρ, Good K B G H ∧ RpS K B F G H σ ρ ∧ m ρ (ki K B G H R) (kx K B G H (W σ))
structure DPI (X : Cx) (L : Pl) (tg e : Expr) (m : DA) : Prop where
  mo : Mo m
  run : PI X tg e (upI X.K L.B L.F L.W m)
section
variable {X : Cx} {L : Pl} {e a b c tg : Expr} {es rest : List Expr} {m ma mb mc : DE} {mt mu : DT} {mA : DA} {pos p : Pos}
variable {K : PySem.W.Frag} {B : Bo} {F : Addr → Prop} {W : L2.St → XK} {G H : Hp} {σ : L2.St} {ρ : Slots}
theorem pi_imp {t t' : TI} (h : PI X tg e t) (i : ∀ σ H Q, t' σ H Q → t σ H Q) : PI X tg e t' := ⟨fun pins s σ H Q I q => h.run pins s σ H Q I (i _ _ _ q)⟩
/-- a list, a tuple or a text -/
def iAny (K : PySem.W.Frag) (te : TE) : TI := fun σ H R => te σ H fun x H1 => (∃ a, x = .ref a ∧ (∃ xs, SqL K H1 a xs) ∧ R (Itl K a) H1) ∨ (∃ a, x = .ref a ∧ (∃ xs, SqT K H1 a xs) ∧ R (Itt K a) H1) ∨ ∃ y, x = .str y ∧ R (Its y) H1
theorem pi_any {te : TE} (he : PE X e te) : PI X tg e (iAny X.K te) := by
  refine ⟨fun pins s σ H R I h => ?_⟩
  refine thn (he.run pins s σ H _ I h) fun v s1 ⟨x, H1, I1, r1, q1⟩ => ?_
  rcases q1 with ⟨a, ex, ⟨xs, hq⟩, q⟩ | ⟨a, ex, ⟨xs, hq⟩, q⟩ | ⟨y, ex, q⟩
  · subst ex
    cases r1
    obtain ⟨its, rv, p, hz⟩ := I1.list hq
    refine wpAny_pyIter_list p.isList ?_
    refine ⟨s1.heap.objs.size, [s1.heap.objs.size], _, _, H1, rfl, I1.kept (t' := s1.toks) fun b o e => Heap.get?_push_of_some _ e, turn_list a _, ⟨_, Heap.get?_push_size _ rfl, rfl, rfl⟩, fun b hb => ?_, q⟩
    have e : b = s1.heap.objs.size := by simpa using hb
    subst e
    exact I1.fpOk (Nat.le_refl _) (I1.hok.fresh (Nat.le_refl _))
  · subst ex
    cases r1
    obtain ⟨its, rv, p, hz⟩ := I1.tuple hq
    refine wpAny_pyIter_tuple (show s1.heap.IsTuple a its.toArray from p) ?_
    refine ⟨s1.heap.objs.size, [s1.heap.objs.size], _, _, H1, rfl, I1.kept (t' := s1.toks) fun b o e => Heap.get?_push_of_some _ e, turn_tuple a _, ⟨_, Heap.get?_push_size _ rfl, rfl, rfl⟩, fun b hb => ?_, q⟩
    have e : b = s1.heap.objs.size := by simpa using hb
    subst e
    exact I1.fpOk (Nat.le_refl _) (I1.hok.fresh (Nat.le_refl _))
  · subst ex
    obtain ⟨t, rfl⟩ := r1
    cases ha : y.cps.all (· < 128)
    · exact wpAny_pyIter_wide ha (pi_one (tk := s1.toks) I1 _ (turn_str _ y t "str_iterator" (.inr rfl)) ⟨_, Heap.get?_push_size _ rfl, rfl, rfl⟩ q)
    · exact wpAny_pyIter_ascii ha (pi_one (tk := s1.toks) I1 _ (turn_str _ y t "str_ascii_iterator" (.inl rfl)) ⟨_, Heap.get?_push_size _ rfl, rfl, rfl⟩ q)
def charsD (y : Str) : List D := y.cps.toList.map fun c => .str ⟨#[c]⟩
/-- the items of a datum that is walked -/
def itemsD : D → (List D → Prop) → Prop
  | .lst xs, Q => Q xs
  | .tup xs, Q => Q xs
  | .str y, Q => Q (charsD y)
  | _, _ => False
theorem itemsD_mo : ∀ {x : D} {Q Q' : List D → Prop}, (∀ d, Q d → Q' d) → itemsD x Q → itemsD x Q'
  | .lst _, _, _, h, z => h _ z
  | .tup _, _, _, h, z => h _ z
  | .str _, _, _, h, z => h _ z
def dIter (m : DE) : DA := fun ρ Q E => m ρ (fun x => itemsD x Q) E
theorem mo_iter (h : Mo m) : Mo (dIter m) := fun ρ Q Q' E E' q hx x => h ρ _ _ _ _ (fun _ z => itemsD_mo q z) hx x
theorem getElem?_lt {α : Type} {l : List α} {i : Nat} {x : α} (h : l[i]? = some x) : i < l.length := by
  rcases Nat.lt_or_ge i l.length with q | q
  · exact q
  · rw [List.getElem?_eq_none q] at h; cases h
theorem itd_tup {a : Addr} {vs : List V} {ds : List D} {G0 : Hp} (s : SqT K G0 a vs) (r : RpL K G0 vs ds) : ItD K B G0 (Itt K a) ds := fun i G H g sb => by
  refine ⟨fun d e => ?_, fun h => ⟨vs, g.sub.sqT (sb.sqT s), by rw [r.length]; exact Nat.le_of_eq h.symm⟩⟩
  obtain ⟨v, ev, rv⟩ := r.get e
  refine ⟨⟨vs, v, g.sub.sqT (sb.sqT s), ev⟩, fun x H' y => ?_⟩
  obtain ⟨rfl, y⟩ := y
  have := y vs (g.sub.sqT (sb.sqT s))
  rw [ev] at this
  cases this
  exact ⟨G, Step.refl g, rv.mono sb⟩
theorem itd_str {y : Str} {G0 : Hp} : ItD K B G0 (Its y) (charsD y) := fun i G H g sb => by
  have hl : (charsD y).length = y.cps.size := by simp [charsD]
  refine ⟨fun d e => ?_, fun h => by rw [hl] at h; exact Nat.le_of_eq h.symm⟩
  have hi : i < y.cps.size := by rw [← hl]; exact getElem?_lt e
  refine ⟨hi, fun x H' q => ?_⟩
  obtain ⟨rfl, c, ec, rfl⟩ := q
  have e2 : (charsD y)[i]? = some (.str ⟨#[c]⟩) := by
    simp only [charsD, List.getElem?_map, Array.getElem?_toList, ec, Option.map_some]
  rw [e2] at e
  cases e
  exact ⟨G, Step.refl g, .str _⟩
theorem d_iter (h : DPE X L e m) : DPI X L tg e (dIter m) := by
  refine ⟨mo_iter h.mo, pi_imp (pi_any h.run) fun σ H Q ⟨G, ρ, g, rs, q⟩ => ?_⟩
  refine up_of h.mo g rs q fun x v G1 H1 q1 s1 r1 => ?_
  cases r1 with
  | lst sq rl => exact .inl ⟨_, rfl, ⟨_, s1.good.sub.lstL sq⟩, q1 _ _ _ s1 (fun i G H g sb => by
      refine ⟨fun d e => ?_, fun h => ⟨_, g.sub.lstL (sb _ _ sq), by rw [rl.length]; exact Nat.le_of_eq h.symm⟩⟩
      obtain ⟨v, ev, rv⟩ := rl.get e
      refine ⟨⟨_, v, g.sub.lstL (sb _ _ sq), ev⟩, fun x H' y => ?_⟩
      obtain ⟨rfl, y⟩ := y
      have := y _ (g.sub.lstL (sb _ _ sq))
      rw [ev] at this
      cases this
      exact ⟨G, Step.refl g, rv.mono sb⟩)⟩
  | tup sq rl => exact .inr (.inl ⟨_, rfl, ⟨_, s1.good.sub.sqT sq⟩, q1 _ _ _ s1 (itd_tup sq rl)⟩)
  | str y => exact .inr (.inr ⟨_, rfl, q1 _ _ _ s1 itd_str⟩)
  | non => exact q1.elim
  | bl => exact q1.elim
  | int => exact q1.elim
  | opq => exact q1.elim
  | dic => exact q1.elim
  | ins => exact q1.elim
/-- range -/
def rngD (lo : Int) (n : Nat) : List D := (List.range n).map fun (i : Nat) => .int (lo + (i : Int))
theorem itd_rng {lo : Int} {n : Nat} {G0 : Hp} : ItD K B G0 (Itr lo n) (rngD lo n) := fun i G H g sb => by
  have hl : (rngD lo n).length = n := by simp [rngD]
  refine ⟨fun d e => ?_, fun h => by rw [hl] at h; exact Nat.le_of_eq h.symm⟩
  have hi : i < n := by rw [← hl]; exact getElem?_lt e
  refine ⟨hi, fun x H' q => ?_⟩
  obtain ⟨rfl, rfl⟩ := q
  have e2 : (rngD lo n)[i]? = some (.int (lo + i)) := by
    simp only [rngD, List.getElem?_map, List.getElem?_range hi, Option.map_some]
  rw [e2] at e
  cases e
  exact ⟨G, Step.refl g, .int _⟩
def rng1D : List D → (List D → Prop) → Prop
  | [.int j], Q => -(2 ^ 62) ≤ j ∧ j < 2 ^ 62 ∧ Q (rngD 0 j.toNat)
  | _, _ => False
def rng2D : List D → (List D → Prop) → Prop
  | [.int i, .int j], Q => (-(2 ^ 62) ≤ i ∧ i < 2 ^ 62 ∧ -(2 ^ 62) ≤ j ∧ j < 2 ^ 62) ∧ Q (rngD i (j - i).toNat)
  | _, _ => False
theorem rng1D_mo {x : List D} {Q Q' : List D → Prop} (h : ∀ d, Q d → Q' d) (z : rng1D x Q) : rng1D x Q' := by
  unfold rng1D at z ⊢
  split at z
  · exact ⟨z.1, z.2.1, h _ z.2.2⟩
  · exact z
theorem rng2D_mo {x : List D} {Q Q' : List D → Prop} (h : ∀ d, Q d → Q' d) (z : rng2D x Q) : rng2D x Q' := by
  unfold rng2D at z ⊢
  split at z
  · exact ⟨z.1, h _ z.2⟩
  · exact z
def dRng1 (mA : DA) : DA := fun ρ Q E => mA ρ (fun xs => rng1D xs Q) E
def dRng2 (mA : DA) : DA := fun ρ Q E => mA ρ (fun xs => rng2D xs Q) E
theorem d_rng1 (hg : Gl X "range") (hm : X.mg "range" = none) (ha : DPA X L [a] mA) (hs : starEach [a] X.env = [(false, eval a X.env)]) : DPI X L tg (.Call (.Name "range" p) [a] [] pos) (dRng1 mA) := by
  refine ⟨fun ρ Q Q' E E' q hx x => ha.mo ρ _ _ _ _ (fun _ z => rng1D_mo q z) hx x, pi_imp (pi_range1 hg hm ha.run hs) fun σ H Q ⟨G, ρ, g, rs, q⟩ => ?_⟩
  refine upA_of ha.mo g rs q fun xs vs G1 H1 q1 s1 r1 => ?_
  unfold rng1D at q1
  split at q1
  · cases r1 with
    | cons r2 r3 =>
      cases r3
      cases r2
      exact ⟨_, rfl, q1.1, q1.2.1, q1.2.2 _ _ _ s1 itd_rng⟩
  · exact q1.elim
theorem d_rng2 (hg : Gl X "range") (hm : X.mg "range" = none) (ha : DPA X L [a, b] mA) (hs : starEach [a, b] X.env = [(false, eval a X.env), (false, eval b X.env)]) (hs2 : starEach [b] X.env = [(false, eval b X.env)]) : DPI X L tg (.Call (.Name "range" p) [a, b] [] pos) (dRng2 mA) := by
  refine ⟨fun ρ Q Q' E E' q hx x => ha.mo ρ _ _ _ _ (fun _ z => rng2D_mo q z) hx x, pi_imp (pi_range2 hg hm ha.run hs hs2) fun σ H Q ⟨G, ρ, g, rs, q⟩ => ?_⟩
  refine upA_of ha.mo g rs q fun xs vs G1 H1 q1 s1 r1 => ?_
  unfold rng2D at q1
  split at q1
  · cases r1 with
    | cons r2 r3 =>
      cases r3 with
      | cons r4 r5 =>
        cases r5
        cases r4
        cases r2
        exact ⟨_, _, rfl, q1.1, q1.2 _ _ _ s1 itd_rng⟩
  · exact q1.elim
end
/-! ### targets -/
abbrev DG := D → Slots → (Slots → Prop) → Prop
/-- but for the slots is they are as they were -/
def Off (is : List Nat) (σ σ' : L2.St) : Prop := σ'.length = σ.length ∧ ∀ j : Nat, j ∉ is → σ'[j]? = σ[j]?
theorem Off.refl (is : List Nat) (σ : L2.St) : Off is σ σ := ⟨rfl, fun _ _ => rfl⟩
theorem Off.trans {is js : List Nat} {σ σ' σ'' : L2.St} (a : Off is σ σ') (b : Off js σ' σ'') : Off (is ++ js) σ σ'' :=
  ⟨b.1.trans a.1, fun j h => (b.2 j fun z => h (List.mem_append_right _ z)).trans (a.2 j fun z => h (List.mem_append_left _ z))⟩
def upG (K : PySem.W.Frag) (B : Bo) (F : Addr → Prop) (is : List Nat) (g : DG) : TG := fun v σ H Q => ∃ G ρ d, Good K B G H ∧ RpS K B F G H σ ρ ∧ Rp K G v d ∧ g d ρ (fun ρ' => ∀ σ', RpS K B F G H σ' ρ' → Off is σ σ' → Q σ' H)
structure DPG (X : Cx) (L : Pl) (tg : Expr) (is : List Nat) (g : DG) : Prop where
  mo : ∀ d ρ Q Q', (∀ r, Q r → Q' r) → g d ρ Q → g d ρ Q'
  run : PG X tg (upG X.K L.B L.F is g)
abbrev DGs := List D → Slots → (Slots → Prop) → Prop
def upGs (K : PySem.W.Frag) (B : Bo) (F : Addr → Prop) (is : List Nat) (g : DGs) : TGs := fun vs σ H Q => ∃ G ρ ds, Good K B G H ∧ RpS K B F G H σ ρ ∧ RpL K G vs ds ∧ g ds ρ (fun ρ' => ∀ σ', RpS K B F G H σ' ρ' → Off is σ σ' → Q σ' H)
structure DPGs (X : Cx) (L : Pl) (tg : List Expr) (is : List Nat) (g : DGs) : Prop where
  mo : ∀ d ρ Q Q', (∀ r, Q r → Q' r) → g d ρ Q → g d ρ Q'
  run : PGs X tg (upGs X.K L.B L.F is g)
section
variable {X : Cx} {L : Pl} {e a b c tg : Expr} {es rest : List Expr} {m ma mb mc : DE} {mt mu : DT} {mA : DA} {pos p : Pos}
variable {K : PySem.W.Frag} {B : Bo} {F : Addr → Prop} {W : L2.St → XK} {G H : Hp} {σ : L2.St} {ρ : Slots}
theorem pg_imp {t t' : TG} (h : PG X tg t) (i : ∀ v σ H Q, t' v σ H Q → t v σ H Q) : PG X tg t' := ⟨fun pins s σ H v u Q I r q => h.run pins s σ H v u Q I r (i _ _ _ _ q)⟩
theorem pgs_imp {t t' : TGs} (h : PGs X es t) (i : ∀ v σ H Q, t' v σ H Q → t v σ H Q) : PGs X es t' := ⟨fun pins s σ H v u Q I r q => h.run pins s σ H v u Q I r (i _ _ _ _ q)⟩
def dgName (i : Nat) : DG := fun d ρ Q => Q (ρ.set i (.sh d))
/-- a slot set to a visible thing -/
theorem RpS.set {i : Nat} {v : V} {d : D} (r : RpS K B F G H σ ρ) (h : Rp K G v d) : RpS K B F G H (σ.set i (some v)) (ρ.set i (.sh d)) := by
  have key : ∀ (j : Nat) (x : Sl), (ρ.set i (.sh d))[j]? = some x → (j = i ∧ x = .sh d ∧ i < ρ.length) ∨ (j ≠ i ∧ ρ[j]? = some x) := fun j x e => by
    by_cases ij : i = j
    · subst ij
      have hl := getElem?_lt e
      rw [List.length_set] at hl
      rw [List.getElem?_set_self hl] at e
      exact .inl ⟨rfl, (Option.some.inj e).symm, hl⟩
    · rw [List.getElem?_set_ne ij] at e
      exact .inr ⟨fun z => ij z.symm, e⟩
  have ne : ∀ {j : Nat}, j ≠ i → (σ.set i (some v))[j]? = σ[j]? := fun h => List.getElem?_set_ne (fun z => h z.symm)
  refine ⟨by rw [List.length_set, List.length_set]; exact r.len, fun j x e => ?_, fun j x e => ?_, fun j k x y p e1 e2 e3 e4 => ?_⟩
  · rcases key j _ e with ⟨rfl, ex, hl⟩ | ⟨n, e⟩
    · cases ex
      exact ⟨v, List.getElem?_set_self (by rw [r.len]; exact hl), h⟩
    · rw [ne n]; exact r.sh j x e
  · rcases key j _ e with ⟨_, ex, _⟩ | ⟨n, e⟩
    · cases ex
    · rw [ne n]; exact r.ow j x e
  · rcases key j _ e1 with ⟨_, ex, _⟩ | ⟨n, e1⟩
    · cases ex
    rcases key k _ e2 with ⟨_, ex, _⟩ | ⟨n', e2⟩
    · cases ex
    rw [ne n] at e3
    rw [ne n'] at e4
    exact r.sep j k x y p e1 e2 e3 e4
theorem dg_name {i : Nat} {x : Str} (hN : X.N.Nodup) (hi : X.N[i]? = some x) (hx : Loc X.env.scope x) (hf : X.fn x = true ∨ X.env.scope.names.lookup x = some .local) : DPG X L (.Name x pos) [i] (dgName i) :=
  ⟨fun d ρ Q Q' h z => h _ z, pg_imp (pg_name hN hi hx hf) fun v σ H Q ⟨G, ρ, d, g, rs, r, q⟩ => q _ (rs.set r) ⟨List.length_set .., fun j h => List.getElem?_set_ne (fun z => h (by simp [z]))⟩⟩
def dgNil : DGs := fun ds ρ Q => match ds with
  | [] => Q ρ
  | _ => False
def dgCons (g : DG) (gs : DGs) : DGs := fun ds ρ Q => match ds with
  | d :: r => g d ρ fun ρ' => gs r ρ' Q
  | [] => False
theorem dgs_nil : DPGs X L [] [] dgNil := by
  refine ⟨fun d ρ Q Q' h z => by cases d <;> first | exact h _ z | exact z, pgs_imp pgs_nil fun v σ H Q ⟨G, ρ, d, g, rs, r, q⟩ => ?_⟩
  cases r with
  | nil => exact ⟨rfl, q σ rs (Off.refl _ _)⟩
  | cons _ _ => exact q.elim
theorem dgs_cons {g : DG} {gs : DGs} {is js : List Nat} (hg : DPG X L e is g) (hs : DPGs X L es js gs) (h1 : (assignEach (e :: es) X.env).map (·.2) = assign e X.env :: (assignEach es X.env).map (·.2)) : DPGs X L (e :: es) (is ++ js) (dgCons g gs) := by
  refine ⟨fun d ρ Q Q' h z => ?_, pgs_imp (pgs_cons hg.run hs.run h1) fun v σ H Q ⟨G, ρ, d, gd, rs, r, q⟩ => ?_⟩
  · cases d with
    | nil => exact z
    | cons x xs => exact hg.mo _ _ _ _ (fun _ y => hs.mo _ _ _ _ h y) z
  · cases r with
    | nil => exact q.elim
    | cons r1 r2 =>
      refine ⟨_, _, rfl, G, ρ, _, gd, rs, r1, hg.mo _ _ _ _ (fun ρ' z σ' rs' o1 => ?_) q⟩
      exact ⟨G, ρ', _, gd, rs', r2, hs.mo _ _ _ _ (fun ρ2 y σ2 rs2 o2 => y σ2 rs2 (o1.trans o2)) z⟩
def dgTup (n : Nat) (gs : DGs) : DG := fun d ρ Q => match d with
  | .tup xs => xs.length = n ∧ gs xs ρ Q
  | _ => False
theorem dg_tup {k n : Nat} {gs : DGs} {is : List Nat} (hc : X.calm = true) (h : DPGs X L es is gs) (hn : (assignEach es X.env).length = n) (hst : (assignEach es X.env).findIdx? (·.1) = none) : DPG X L (.Tuple es k pos) is (dgTup n gs) := by
  refine ⟨fun d ρ Q Q' h' z => ?_, pg_imp (pg_tup hc h.run hn hst) fun v σ H Q ⟨G, ρ, d, gd, rs, r, q⟩ => ?_⟩
  · unfold dgTup at z ⊢
    split at z
    · exact ⟨z.1, h.mo _ _ _ _ h' z.2⟩
    · exact z
  · unfold dgTup at q
    split at q
    · cases r with
      | tup sq rl => exact ⟨_, _, rfl, gd.sub.sqT sq, by rw [rl.length]; exact q.1, G, ρ, _, gd, rs, rl, q.2⟩
    · exact q.elim
/-! ### list comprehensions -/
def wipeD (ρ : Slots) : List Nat → Slots
  | [] => ρ
  | v :: vs => (wipeD ρ vs).set v .un
theorem RpS.wipe (r : RpS K B F G H σ ρ) : ∀ vs : List Nat, RpS K B F G H (L2.wipe σ vs) (wipeD ρ vs)
  | [] => r
  | v :: vs => by
    have q := RpS.wipe r vs
    have key : ∀ (j : Nat) (x : Sl), ((wipeD ρ vs).set v .un)[j]? = some x → (j = v ∧ x = .un) ∨ (j ≠ v ∧ (wipeD ρ vs)[j]? = some x) := fun j x e => by
      by_cases ij : v = j
      · subst ij
        have hl := getElem?_lt e
        rw [List.length_set] at hl
        rw [List.getElem?_set_self hl] at e
        exact .inl ⟨rfl, (Option.some.inj e).symm⟩
      · rw [List.getElem?_set_ne ij] at e
        exact .inr ⟨fun z => ij z.symm, e⟩
    have ne : ∀ {j : Nat}, j ≠ v → ((L2.wipe σ vs).set v none)[j]? = (L2.wipe σ vs)[j]? := fun h => List.getElem?_set_ne (fun z => h z.symm)
    unfold L2.wipe wipeD
    refine ⟨by rw [List.length_set, List.length_set]; exact q.len, fun j x e => ?_, fun j x e => ?_, fun j k x y p e1 e2 e3 e4 => ?_⟩
    · rcases key j _ e with ⟨_, ex⟩ | ⟨n, e⟩
      · cases ex
      · rw [ne n]; exact q.sh j x e
    · rcases key j _ e with ⟨_, ex⟩ | ⟨n, e⟩
      · cases ex
      · rw [ne n]; exact q.ow j x e
    · rcases key j _ e1 with ⟨_, ex⟩ | ⟨n, e1⟩
      · cases ex
      rcases key k _ e2 with ⟨_, ex⟩ | ⟨n', e2⟩
      · cases ex
      rw [ne n] at e3
      rw [ne n'] at e4
      exact q.sep j k x y p e1 e2 e3 e4
/-- the turns of a comprehension; acc: what is gathered -/
def lcW (g : DG) (tt : DT) (te : DE) (ρ : Slots) : List D → List D → (D → Prop) → Prop
  | [], acc, Q => Q (.lst acc)
  | d :: ds, acc, Q => g d ρ fun ρ' => tt ρ' (fun c => bc c (te ρ' (fun y => acc.length < sizeLine ∧ lcW g tt te ρ ds (acc ++ [y]) Q) (fun _ => False)) (lcW g tt te ρ ds acc Q)) (fun _ => False)
theorem lcW_mo {g : DG} {tt : DT} {te : DE} (hg : ∀ d ρ Q Q', (∀ r, Q r → Q' r) → g d ρ Q → g d ρ Q') (ht : Mo tt) (he : Mo te) {ρ : Slots} {Q Q' : D → Prop} (h : ∀ d, Q d → Q' d) : ∀ {ds acc : List D}, lcW g tt te ρ ds acc Q → lcW g tt te ρ ds acc Q'
  | [], _, z => h _ z
  | d :: ds, acc, z => hg _ _ _ _ (fun ρ' z1 => ht _ _ _ _ _ (fun c z2 => by
      cases c with
      | true => exact (he _ _ _ _ _ (fun y z3 => ⟨z3.1, lcW_mo hg ht he h z3.2⟩) (fun _ x => x) z2)
      | false => exact (lcW_mo hg ht he h z2)) (fun _ x => x) z1) z
def dLc (mi : DA) (g : DG) (tt : DT) (te : DE) (vs : List Nat) : DE := fun ρ Q E => mi ρ (fun ds => lcW g tt te (wipeD ρ vs) ds [] Q) E
theorem mo_lc {mi : DA} {g : DG} {tt : DT} {te : DE} {vs : List Nat} (hi : Mo mi) (hg : ∀ d ρ Q Q', (∀ r, Q r → Q' r) → g d ρ Q → g d ρ Q') (ht : Mo tt) (he : Mo te) : Mo (dLc mi g tt te vs) := fun ρ Q Q' E E' q hx x =>
  hi ρ _ _ _ _ (fun _ z => lcW_mo hg ht he q z) hx x
structure DPTs (X : Cx) (L : Pl) (ifs : List Expr) (m : DT) : Prop where
  mo : Mo m
  run : PTs X ifs (upT X.K L.B L.F L.W m)
def dYes : DT := fun _ Q _ => Q true
theorem pts_imp {ifs : List Expr} {t t' : TT} (h : PTs X ifs t) (i : ∀ σ H Q, t' σ H Q → t σ H Q) : PTs X ifs t' := ⟨fun pins s σ H Q I q => h.run pins s σ H Q I (i _ _ _ q)⟩
theorem d_ifs0 : DPTs X L [] dYes := ⟨fun _ _ _ _ _ q _ x => q _ x, pts_imp pts_nil fun σ H Q ⟨G, ρ, g, rs, q⟩ => q _ _ (Step.refl g)⟩
theorem d_ifs1 (h : DPT X L c mt) : DPTs X L [c] mt := ⟨h.mo, pts_one h.run⟩
/-- the place within a comprehension: nothing is raised out of it -/
abbrev Pl.blk (L : Pl) : Pl := { L with W := fun _ _ _ _ => False }
theorem wipe_get {σ : L2.St} {j : Nat} : ∀ {vs : List Nat}, (L2.wipe σ vs)[j]? = if j ∈ vs ∧ j < σ.length then some none else σ[j]?
  | [] => by simp [L2.wipe]
  | v :: vs => by
    unfold L2.wipe
    by_cases hj : v = j
    · subst hj
      by_cases hl : v < σ.length
      · rw [List.getElem?_set_self (by rw [wipe_length]; exact hl), if_pos ⟨List.mem_cons_self, hl⟩]
      · rw [List.getElem?_eq_none (by rw [List.length_set, wipe_length]; omega), if_neg (fun z => hl z.2), List.getElem?_eq_none (by omega)]
    · rw [List.getElem?_set_ne hj, wipe_get (vs := vs)]
      by_cases hm : j ∈ vs ∧ j < σ.length
      · rw [if_pos hm, if_pos ⟨List.mem_cons_of_mem _ hm.1, hm.2⟩]
      · rw [if_neg hm, if_neg (fun z => hm ⟨by
          rcases List.mem_cons.mp z.1 with q | q
          · exact absurd q.symm hj
          · exact q, z.2⟩)]
theorem wipe_off {σ σ2 : L2.St} {is vs : List Nat} (o : Off is (L2.wipe σ vs) σ2) (h : ∀ i ∈ is, i ∈ vs) : L2.wipe σ2 vs = L2.wipe σ vs := by
  have hl : σ2.length = σ.length := by rw [o.1, wipe_length]
  refine List.ext_getElem? fun j => ?_
  rw [wipe_get, wipe_get]
  by_cases hm : j ∈ vs ∧ j < σ.length
  · rw [if_pos hm, if_pos (by rw [hl]; exact hm)]
  · rw [if_neg hm, if_neg (by rw [hl]; exact hm)]
    by_cases hv : j ∈ vs
    · have : σ.length ≤ j := by
        rcases Nat.lt_or_ge j σ.length with q | q
        · exact absurd ⟨hv, q⟩ hm
        · exact q
      rw [List.getElem?_eq_none (by omega), List.getElem?_eq_none (by omega)]
    · rw [o.2 j (fun z => hv (h j z)), wipe_get, if_neg hm]
/-- the gathering of a comprehension, by HandS's reading of it -/
theorem lc_run {σ0 : L2.St} {ρ0 : Slots} {g : DG} {tt : DT} {te : DE} {vs is : List Nat} {J : It} {G0 H0 : Hp} {ds : List D} {Q : VK} {Dd : Addr} (hg : ∀ d ρ Q Q', (∀ r, Q r → Q' r) → g d ρ Q → g d ρ Q') (ht : Mo tt) (he : Mo te)
    (s0 : Step K B G H G0 H0) (rs : RpS K B F G H σ0 ρ0) (it : ItD K B G0 J ds) (h : lcW g tt te (wipeD ρ0 vs) ds [] (kv K B G H Q)) (nD : H0 Dd = none) (hv : ∀ i ∈ is, i ∈ vs) :
    ∃ W : Nat → Nat → Hp → Prop, (∃ m, W 0 m (upd H0 Dd (.lst []))) ∧ ∀ i m H, W i m H →
      (J.stop i H ∧ Q (.ref Dd) H) ∨ (J.go i H ∧ ∃ Nx : Hp → Prop, (∀ H', Nx H' → ∃ m', m' < m ∧ W (i + 1) m' H') ∧ ∀ x H', J.yld i H x H' → upG K B F is g x (L2.wipe σ0 vs) H' fun σ2 H2 => L2.wipe σ2 vs = L2.wipe σ0 vs ∧ upT K B F (fun _ _ _ _ => False) tt σ2 H2 fun b H3 =>
        if b = true then up K B F (fun _ _ _ _ => False) te σ2 H3 fun y H4 => ∃ acc, H4 Dd = some (.lst acc) ∧ acc.length < sizeLine ∧ Nx (upd H4 Dd (.lst (acc ++ [y]))) else Nx H3) := by
  have nb : ∀ b l, B = some (b, l) → Dd ≠ b := fun b l e z => by
    obtain ⟨_, ns, i, r, m, c, h2, _⟩ := s0.good.box b l e
    rw [← z, nD] at h2
    cases h2
  have nG : G0 Dd = none := by
    cases e : G0 Dd with
    | none => rfl
    | some o => rw [s0.good.sub _ _ e] at nD; cases nD
  have nH : H Dd = none := by
    cases e : H Dd with
    | none => rfl
    | some o =>
      have := s0.keep _ _ e nb
      rw [nD] at this; cases this
  -- the state while gathering: G1 visible, the list at Dd hidden
  refine ⟨fun i m H1 => ∃ G1 acc vacc, m = ds.length - i ∧ i ≤ ds.length ∧ Step K B G H G1 H1 ∧ Sub G0 G1 ∧ G1 Dd = none ∧ H1 Dd = some (.lst vacc) ∧ RpL K G1 vacc acc ∧ lcW g tt te (wipeD ρ0 vs) (ds.drop i) acc (kv K B G H Q), ⟨ds.length, G0, [], [], by simp, Nat.zero_le _, ?_, Sub.refl _, nG, upd_same, .nil, by simpa using h⟩, ?_⟩
  · refine ⟨s0.grow, ⟨fun a o e => ?_, fun b l e => ?_⟩, fun a o e n => ?_, s0.hid⟩
    · rw [upd_ne (fun z => by rw [z, nG] at e; cases e)]; exact s0.good.sub a o e
    · obtain ⟨h1, ns, i, r, m, c, h2, h3⟩ := s0.good.box b l e
      exact ⟨h1, ns, i, r, m, c, by rw [upd_ne (fun z => nb b l e z.symm)]; exact h2, h3⟩
    · rw [upd_ne (fun z => by rw [z, nH] at e; cases e)]; exact s0.keep a o e n
  · rintro i m H1 ⟨G1, acc, vacc, rfl, hi, st, sb, gD, hD, ra, hl⟩
    rcases Nat.lt_or_ge i ds.length with hlt | hge
    · have ei : ds[i]? = some ds[i] := List.getElem?_eq_getElem hlt
      have ed : ds.drop i = ds[i] :: ds.drop (i + 1) := List.drop_eq_getElem_cons hlt
      rw [ed] at hl
      obtain ⟨go, yl⟩ := (it i G1 H1 st.good sb).1 _ ei
      refine .inr ⟨go, fun H2 => ∃ G2 acc vacc, Step K B G H G2 H2 ∧ Sub G0 G2 ∧ G2 Dd = none ∧ H2 Dd = some (.lst vacc) ∧ RpL K G2 vacc acc ∧ lcW g tt te (wipeD ρ0 vs) (ds.drop (i + 1)) acc (kv K B G H Q), fun H2 ⟨G2, acc2, vacc2, a, b, c, d, e, f⟩ => ⟨ds.length - (i + 1), by omega, G2, acc2, vacc2, rfl, by omega, a, b, c, d, e, f⟩, fun x H2 y => ?_⟩
      obtain ⟨G2, s2, rx⟩ := yl x H2 y
      have st2 := st.trans s2
      have gD2 : G2 Dd = none := s2.hid _ _ hD gD
      have hD2 : H2 Dd = some (.lst vacc) := s2.keep _ _ hD nb
      refine ⟨G2, wipeD ρ0 vs, ds[i], s2.good, (rs.step st2).wipe vs, rx, hg _ _ _ _ (fun ρ' z σ2 rs2 o2 => ⟨wipe_off o2 hv, ?_⟩) hl⟩
      refine ⟨G2, ρ', s2.good, rs2, ht _ _ _ _ _ (fun c z2 G3 H3 s3 => ?_) (fun _ x => x.elim) z⟩
      have st3 := st2.trans s3
      have gD3 : G3 Dd = none := s3.hid _ _ hD2 gD2
      have hD3 : H3 Dd = some (.lst vacc) := s3.keep _ _ hD2 nb
      cases c with
      | false => exact iteF ⟨G3, acc, vacc, st3, (sb.trans s2.grow).trans s3.grow, gD3, hD3, ra.mono (s2.trans s3).grow, z2⟩
      | true =>
        refine iteT ⟨G3, ρ', s3.good, rs2.step s3, he _ _ _ _ _ (fun y z3 vy G4 H4 s4 ry => ?_) (fun _ x => x.elim) z2⟩
        have st4 := st3.trans s4
        have gD4 : G4 Dd = none := s4.hid _ _ hD3 gD3
        have hD4 : H4 Dd = some (.lst vacc) := s4.keep _ _ hD3 nb
        have ra4 : RpL K G4 vacc acc := ra.mono ((s2.trans s3).trans s4).grow
        refine ⟨vacc, hD4, by rw [ra4.length]; exact z3.1, G4, acc ++ [y], vacc ++ [vy], ?_, ((sb.trans s2.grow).trans s3.grow).trans s4.grow, gD4, upd_same, ra4.append (.cons ry .nil), z3.2⟩
        refine ⟨st4.grow, ⟨fun a o e => ?_, fun b l e => ?_⟩, fun a o e n => ?_, st4.hid⟩
        · rw [upd_ne (fun z => by rw [z, gD4] at e; cases e)]; exact s4.good.sub a o e
        · obtain ⟨h1, ns, i, r, m, c, h2, h3⟩ := s4.good.box b l e
          exact ⟨h1, ns, i, r, m, c, by rw [upd_ne (fun z => nb b l e z.symm)]; exact h2, h3⟩
        · rw [upd_ne (fun z => by rw [z, nH] at e; cases e)]; exact st4.keep a o e n
    · refine .inl ⟨(it i G1 H1 st.good sb).2 (by omega), ?_⟩
      rw [List.drop_eq_nil_of_le hge] at hl
      have hl : kv K B G H Q (.lst acc) := hl
      have key : Step K B G H (upd G1 Dd (.lst vacc)) H1 := by
        have gr : Sub G1 (upd G1 Dd (.lst vacc)) := fun a o e => by rw [upd_ne (fun z => by rw [z, gD] at e; cases e)]; exact e
        refine ⟨st.grow.trans gr, ⟨fun a o e => ?_, fun b l e => ?_⟩, st.keep, fun a o e n => ?_⟩
        · by_cases z : a = Dd
          · subst z; rw [upd_same] at e; cases e; exact hD
          · rw [upd_ne z] at e; exact st.good.sub a o e
        · obtain ⟨h1, ns, i, r, m, c, h2, h3, h4⟩ := st.good.box b l e
          exact ⟨by rw [upd_ne (fun z => nb b l e z.symm)]; exact h1, ns, i, r, m, c, h2, gr.sqL h3, h4⟩
        · rw [upd_ne (fun z => by rw [z, nH] at e; cases e)]; exact st.hid a o e n
      refine hl (.ref Dd) _ H1 key (.lst upd_same (ra.mono fun a o e => by rw [upd_ne (fun z => by rw [z, gD] at e; cases e)]; exact e))
theorem d_lc {elt tg iter : Expr} {ifs : List Expr} {scope : Scope} {own : List (Str × Nat)} {is : List Nat} {mi : DA} {g : DG} {tt : DT} {te : DE} (hc : X.calm = true) (hN : X.N.Nodup) (hi : DPI X L tg iter mi) (ok : BlkOk X.N X.env.scope scope own)
    (hg : ∀ (s : Shared) (H : Hp) (C : Addr) (cl : List (Str × Addr)) (fp : List Addr), DPG (X.blk s H scope (compEnvC scope cl C X.env) fp) L.blk tg is g)
    (ht : ∀ (s : Shared) (H : Hp) (C : Addr) (cl : List (Str × Addr)) (fp : List Addr), DPTs (X.blk s H scope (compEnvC scope cl C X.env) fp) L.blk ifs tt)
    (he : ∀ (s : Shared) (H : Hp) (C : Addr) (cl : List (Str × Addr)) (fp : List Addr), DPE (X.blk s H scope (compEnvC scope cl C X.env) fp) L.blk elt te)
    (hv : is.all (fun i => (own.map (·.2)).contains i) = true) (hs : ∀ x, foldedSetIterable iter X.env x = pure x) :
    DPE X L (.ListComp elt [⟨tg, iter, ifs, 0⟩] scope pos) (dLc mi g tt te (own.map (·.2))) := by
  have s0 : Shared := X.s_0
  have mg := (hg X.s_0 X.H_0 0 [] []).mo
  have mt := (ht X.s_0 X.H_0 0 [] []).mo
  have me := (he X.s_0 X.H_0 0 [] []).mo
  refine ⟨mo_lc hi.mo mg mt me, pe_imp (pe_lc (g := upG X.K L.B L.F is g) (tt := upT X.K L.B L.F (fun _ _ _ _ => False) tt) (te := up X.K L.B L.F (fun _ _ _ _ => False) te) hc hN hi.run ok (fun s H C cl fp => (hg s H C cl fp).run) (fun s H C cl fp => (ht s H C cl fp).run) (fun s H C cl fp => (he s H C cl fp).run) hs) fun σ H Q ⟨G, ρ, gd, rs, q⟩ => ?_⟩
  refine ⟨G, ρ, gd, rs, hi.mo ρ _ _ _ _ (fun ds z J G1 H1 s1 it Dd nD => ?_) (fun _ x => x) q⟩
  exact lc_run mg mt me s1 rs it z nD fun i hi => by
    have := List.all_eq_true.mp hv i hi
    simpa using this
end
end DV
set_option Elab.async false
set_option linter.all false
set_option maxRecDepth 100000
set_option maxHeartbeats 4000000
namespace DV
open PySem PySem.Spec PyProof.Rows L2
/-! ### statements -/
/-- a statement's step: what is visible stays, what stood ahead of the def stays -/
structure StepS (K : PySem.W.Frag) (B : Bo) (F : Addr → Prop) (G H G' H' : Hp) : Prop where
  grow : Sub G G'
  good : Good K B G' H'
  keep : ∀ a o, H a = some o → ¬ F a → (∀ b l, B = some (b, l) → a ≠ b) → H' a = some o
  hid : ∀ a o, H a = some o → ¬ F a → G a = none → G' a = none
section
variable {K : PySem.W.Frag} {B : Bo} {F : Addr → Prop} {G H G' H' G'' H'' : Hp}
theorem StepS.refl (g : Good K B G H) : StepS K B F G H G H := ⟨Sub.refl G, g, fun _ _ h _ _ => h, fun _ _ _ _ h => h⟩
theorem StepS.trans (s : StepS K B F G H G' H') (t : StepS K B F G' H' G'' H'') : StepS K B F G H G'' H'' := by
  refine ⟨s.grow.trans t.grow, t.good, fun a o h f n => t.keep a o (s.keep a o h f n) f n, fun a o h f g => ?_⟩
  by_cases hb : ∃ b l, B = some (b, l) ∧ a = b
  · obtain ⟨b, l, e, rfl⟩ := hb
    exact (t.good.box a l e).hid
  · exact t.hid a o (s.keep a o h f fun b l e z => hb ⟨b, l, e, z⟩) f (s.hid a o h f g)
theorem Step.toS (s : Step K B G H G' H') : StepS K B F G H G' H' := ⟨s.grow, s.good, fun a o h _ n => s.keep a o h n, fun a o h _ g => s.hid a o h g⟩
end
structure DEnds where
  nx : Slots → Prop
  rt : D → Prop
  bk : Slots → Prop := fun _ => False
  ct : Slots → Prop := fun _ => False
  ex : Xc → Slots → Prop := fun _ _ => False
structure DEnds.Le (A A' : DEnds) : Prop where
  nx : ∀ r, A.nx r → A'.nx r
  rt : ∀ r, A.rt r → A'.rt r
  bk : ∀ r, A.bk r → A'.bk r
  ct : ∀ r, A.ct r → A'.ct r
  ex : ∀ x r, A.ex x r → A'.ex x r
abbrev DS := DEnds → Slots → Prop
def MoS (m : DS) : Prop := ∀ A A' ρ, DEnds.Le A A' → m A ρ → m A' ρ
def dn (K : PySem.W.Frag) (L : Pl) (G H : Hp) (Dn : Ends) : DEnds where
  nx := fun ρ => ∀ σ' G' H', StepS K L.B L.F G H G' H' → RpS K L.B L.F G' H' σ' ρ → Dn.nx σ' H'
  rt := fun d => ∀ v G' H', StepS K L.B L.F G H G' H' → Rp K G' v d → Dn.rt v H'
  bk := fun ρ => ∀ σ' G' H', StepS K L.B L.F G H G' H' → RpS K L.B L.F G' H' σ' ρ → Dn.bk σ' H'
  ct := fun ρ => ∀ σ' G' H', StepS K L.B L.F G H G' H' → RpS K L.B L.F G' H' σ' ρ → Dn.ct σ' H'
  ex := fun x ρ => ∀ σ' d fs G' H', StepS K L.B L.F G H G' H' → RpS K L.B L.F G' H' σ' ρ → G' d = some (.xd fs) → RpF K G' fs x.2 → L.W σ' (.ref x.1) (some d) H'
def upS (K : PySem.W.Frag) (L : Pl) (m : DS) : TS := fun Dn σ H => ∃ G ρ, Good K L.B G H ∧ RpS K L.B L.F G H σ ρ ∧ m (dn K L G H Dn) ρ
structure DPS (X : Cx) (L : Pl) (st : Stmt) (m : DS) : Prop where
  mo : MoS m
  run : PS X st (upS X.K L m)
structure DPSs (X : Cx) (L : Pl) (st : List Stmt) (m : DS) : Prop where
  mo : MoS m
  run : PSs X st (upS X.K L m)
section
variable {X : Cx} {L : Pl} {e a b c tg : Expr} {es rest : List Expr} {m ma mb mc : DE} {mt mu : DT} {mA : DA} {pos p : Pos} {st : Stmt} {sts : List Stmt} {ms mv : DS}
variable {K : PySem.W.Frag} {G H G' H' : Hp} {σ : L2.St} {ρ : Slots}
theorem ps_imp {t t' : TS} (h : PS X st t) (i : ∀ Dn σ H, t' Dn σ H → t Dn σ H) : PS X st t' := ⟨fun pins s σ H Dn I q => h.run pins s σ H Dn I (i _ _ _ q)⟩
theorem pss_imp {t t' : TS} (h : PSs X sts t) (i : ∀ Dn σ H, t' Dn σ H → t Dn σ H) : PSs X sts t' := ⟨fun pins s σ H Dn I q => h.run pins s σ H Dn I (i _ _ _ q)⟩
theorem dn_step {Dn : Ends} (s : StepS K L.B L.F G H G' H') : DEnds.Le (dn K L G H Dn) (dn K L G' H' Dn) :=
  ⟨fun _ h σ' G2 H2 t r => h σ' G2 H2 (s.trans t) r, fun _ h v G2 H2 t r => h v G2 H2 (s.trans t) r, fun _ h σ' G2 H2 t r => h σ' G2 H2 (s.trans t) r, fun _ h σ' G2 H2 t r => h σ' G2 H2 (s.trans t) r,
    fun _ _ h σ' d fs G2 H2 t r a b => h σ' d fs G2 H2 (s.trans t) r a b⟩
/-- the wish of an expression's exceptions, from a statement's -/
theorem kx_of {Dn : Ends} {x : Xc} (rs : RpS K L.B L.F G H σ ρ) (h : (dn K L G H Dn).ex x ρ) : kx K L.B G H (L.W σ) x := fun d fs G' H' s a r => h σ d fs G' H' s.toS (rs.step s) a r
theorem upE {Dn : Ends} {R : VK} {P : D → Prop} (mo : Mo m) (g : Good K L.B G H) (r : RpS K L.B L.F G H σ ρ) (h : m ρ P (fun x => (dn K L G H Dn).ex x ρ))
    (k : ∀ d v G' H', P d → Step K L.B G H G' H' → Rp K G' v d → R v H') : up K L.B L.F L.W m σ H R :=
  up_of mo g r (mo ρ _ _ _ _ (fun _ z => z) (fun x z => kx_of r z) h) k
theorem upTE {Dn : Ends} {R : Bool → Hp → Prop} {P : Bool → Prop} (mo : Mo mt) (g : Good K L.B G H) (r : RpS K L.B L.F G H σ ρ) (h : mt ρ P (fun x => (dn K L G H Dn).ex x ρ))
    (k : ∀ d G' H', P d → Step K L.B G H G' H' → R d H') : upT K L.B L.F L.W mt σ H R :=
  upT_of mo g r (mo ρ _ _ _ _ (fun _ z => z) (fun x z => kx_of r z) h) k
def dNext : DS := fun A ρ => A.nx ρ
def dSeq (t u : DS) : DS := fun A ρ => t { A with nx := u A } ρ
theorem DEnds.Le.refl (A : DEnds) : DEnds.Le A A := ⟨fun _ h => h, fun _ h => h, fun _ h => h, fun _ h => h, fun _ _ h => h⟩
theorem mo_next : MoS dNext := fun A A' ρ l h => l.nx _ h
theorem mo_seq (h1 : MoS ms) (h2 : MoS mv) : MoS (dSeq ms mv) := fun A A' ρ l h => h1 { A with nx := mv A } { A' with nx := mv A' } ρ ⟨fun r z => h2 _ _ _ l z, l.rt, l.bk, l.ct, l.ex⟩ h
theorem d_snil : DPSs X L [] dNext := ⟨mo_next, pss_imp pss_nil fun Dn σ H ⟨G, ρ, g, rs, q⟩ => q _ _ _ (StepS.refl g) rs⟩
theorem d_scons (h1 : DPS X L st ms) (h2 : DPSs X L sts mv) : DPSs X L (st :: sts) (dSeq ms mv) := by
  refine ⟨mo_seq h1.mo h2.mo, pss_imp (pss_cons h1.run h2.run) fun Dn σ H ⟨G, ρ, g, rs, q⟩ => ?_⟩
  refine ⟨G, ρ, g, rs, h1.mo { dn X.K L G H Dn with nx := mv (dn X.K L G H Dn) } _ _ ⟨fun r z σ' G' H' s rs' => ?_, fun _ z => z, fun _ z => z, fun _ z => z, fun _ _ z => z⟩ q⟩
  exact ⟨G', r, s.good, rs', h2.mo _ _ _ (dn_step s) z⟩
theorem d_sone (h1 : DPS X L st ms) : DPSs X L [st] ms := ⟨h1.mo, pss_one h1.run⟩
def dRet (m : DE) : DS := fun A ρ => m ρ A.rt (fun x => A.ex x ρ)
theorem d_ret (h : DPE X L e m) : DPS X L (.Return (some e) pos) (dRet m) := by
  refine ⟨fun A A' ρ l z => h.mo _ _ _ _ _ (fun d y => l.rt _ y) (fun x y => l.ex _ _ y) z, ps_imp (ps_ret h.run) fun Dn σ H ⟨G, ρ, g, rs, q⟩ => ?_⟩
  exact upE h.mo g rs q fun d v G' H' z s r => z v G' H' s.toS r
def dRetN : DS := fun A _ => A.rt .non
theorem d_retN : DPS X L (.Return none pos) dRetN := ⟨fun A A' ρ l z => l.rt _ z, ps_imp ps_retN fun Dn σ H ⟨G, ρ, g, rs, q⟩ => q _ _ _ (StepS.refl g) .non⟩
def dDrop (m : DE) : DS := fun A ρ => m ρ (fun _ => A.nx ρ) (fun x => A.ex x ρ)
theorem d_expr (h : DPE X L e m) (hs : swapsWith e none pos.line X.env = pure false) : DPS X L (.Expr e pos) (dDrop m) := by
  refine ⟨fun A A' ρ l z => h.mo _ _ _ _ _ (fun d y => l.nx _ y) (fun x y => l.ex _ _ y) z, ps_imp (ps_expr h.run hs) fun Dn σ H ⟨G, ρ, g, rs, q⟩ => ?_⟩
  exact upE h.mo g rs q fun d v G' H' z s r => z σ G' H' s.toS (rs.step s)
theorem d_pass : DPS X L (.Pass pos) dNext := ⟨mo_next, ps_imp ps_pass fun Dn σ H ⟨G, ρ, g, rs, q⟩ => q _ _ _ (StepS.refl g) rs⟩
theorem d_doc {x j pos'} : DPS X L (.Expr (.Constant (.str x) j pos) pos') dNext := ⟨mo_next, ps_imp ps_doc fun Dn σ H ⟨G, ρ, g, rs, q⟩ => q _ _ _ (StepS.refl g) rs⟩
def dBreak : DS := fun A ρ => A.bk ρ
def dCont : DS := fun A ρ => A.ct ρ
theorem d_break : DPS X L (.Break pos) dBreak := ⟨fun A A' ρ l z => l.bk _ z, ps_imp ps_break fun Dn σ H ⟨G, ρ, g, rs, q⟩ => q _ _ _ (StepS.refl g) rs⟩
theorem d_continue : DPS X L (.Continue pos) dCont := ⟨fun A A' ρ l z => l.ct _ z, ps_imp ps_continue fun Dn σ H ⟨G, ρ, g, rs, q⟩ => q _ _ _ (StepS.refl g) rs⟩
def dIfS (t : DT) (u v : DS) : DS := fun A ρ => t ρ (fun c => bc c (u A ρ) (v A ρ)) (fun x => A.ex x ρ)
theorem d_ifS {s1 s2 : List Stmt} (hc : DPT X L c mt) (h1 : DPSs X L s1 ms) (h2 : DPSs X L s2 mv) : DPS X L (.If c s1 s2 pos) (dIfS mt ms mv) := by
  refine ⟨fun A A' ρ l z => hc.mo _ _ _ _ _ (fun d y => by cases d <;> first | exact h1.mo _ _ _ l y | exact h2.mo _ _ _ l y) (fun x y => l.ex _ _ y) z, ps_imp (ps_if hc.run h1.run h2.run) fun Dn σ H ⟨G, ρ, g, rs, q⟩ => ?_⟩
  refine upTE hc.mo g rs q fun d G' H' z s => ?_
  cases d with
  | true => exact iteT ⟨G', ρ, s.good, rs.step s, h1.mo _ _ _ (dn_step s.toS) z⟩
  | false => exact iteF ⟨G', ρ, s.good, rs.step s, h2.mo _ _ _ (dn_step s.toS) z⟩
def dAsg (m : DE) (g : DG) : DS := fun A ρ => m ρ (fun d => g d ρ A.nx) (fun x => A.ex x ρ)
theorem run_asg {g : DG} {is : List Nat} {Dn : Ends} (hm : Mo m) (hg : ∀ d ρ Q Q', (∀ r, Q r → Q' r) → g d ρ Q → g d ρ Q') (h : upS K L (dAsg m g) Dn σ H) : tAsg (up K L.B L.F L.W m) (upG K L.B L.F is g) Dn σ H := by
  obtain ⟨G, ρ, gd, rs, q⟩ := h
  refine upE hm gd rs q fun d v G' H' z s r => ?_
  exact ⟨G', ρ, d, s.good, rs.step s, r, hg _ _ _ _ (fun ρ' y σ' rs' _ => y σ' G' H' s.toS rs') z⟩
theorem mo_asg {g : DG} (hm : Mo m) (hg : ∀ d ρ Q Q', (∀ r, Q r → Q' r) → g d ρ Q → g d ρ Q') : MoS (dAsg m g) := fun A A' ρ l z => hm _ _ _ _ _ (fun d y => hg _ _ _ _ l.nx y) (fun x y => l.ex _ _ y) z
theorem d_asg {g : DG} {is : List Nat} (he : DPE X L e m) (hg : DPG X L tg is g) (hs : swapsWithSole [tg] e pos.line X.env = pure false) (hw : swappedStores [tg] e X.env = pure none) (h1 : (assignEach [tg] X.env).map (·.2) = [assign tg X.env]) :
    DPS X L (.Assign [tg] e pos) (dAsg m g) := ⟨mo_asg he.mo hg.mo, ps_imp (ps_asg he.run hg.run hs hw h1) fun Dn σ H q => run_asg he.mo hg.mo q⟩
theorem d_set {i : Nat} {x : Str} {pos' : Pos} (hN : X.N.Nodup) (hi : X.N[i]? = some x) (hx : Loc X.env.scope x) (he : DPE X L e m) (hs : swapsWith e (some (.Name x pos')) pos.line X.env = pure false) (hf : X.fn x = true ∨ X.env.scope.names.lookup x = some .local) :
    DPS X L (.Assign [.Name x pos'] e pos) (dAsg m (dgName i)) := by
  refine ⟨mo_asg he.mo (fun _ _ _ _ h z => h _ z), ps_imp (ps_set hN hi hx he.run hs hf) fun Dn σ H ⟨G, ρ, g, rs, q⟩ => ?_⟩
  exact upE he.mo g rs q fun d v G' H' z s r => z _ G' H' s.toS ((rs.step s).set r)
/-- y = [..] on one row -/
theorem d_setLc {i : Nat} {y : Str} {py spos : Pos} {elt tg iter : Expr} {ifs : List Expr} {scope : Scope} {own : List (Str × Nat)} {is : List Nat} {mi : DA} {g : DG} {tt : DT} {te : DE} (hc : X.calm = true) (hN : X.N.Nodup) (hy : X.N[i]? = some y) (hyl : X.env.scope.names.lookup y = some .local)
    (hsw : swapsWith (.ListComp elt [⟨tg, iter, ifs, 0⟩] scope pos) (some (.Name y py)) spos.line X.env = pure true) (hi : DPI X L tg iter mi) (ok : BlkOk X.N X.env.scope scope own)
    (hg : ∀ (s : Shared) (H : Hp) (C : Addr) (cl : List (Str × Addr)) (fp : List Addr), DPG (X.blk s H scope (compEnvC scope cl C X.env) fp) L.blk tg is g)
    (ht : ∀ (s : Shared) (H : Hp) (C : Addr) (cl : List (Str × Addr)) (fp : List Addr), DPTs (X.blk s H scope (compEnvC scope cl C X.env) fp) L.blk ifs tt)
    (he : ∀ (s : Shared) (H : Hp) (C : Addr) (cl : List (Str × Addr)) (fp : List Addr), DPE (X.blk s H scope (compEnvC scope cl C X.env) fp) L.blk elt te)
    (hv : is.all (fun i => (own.map (·.2)).contains i) = true) (hs : ∀ x, foldedSetIterable iter X.env x = pure x) :
    DPS X L (.Assign [.Name y py] (.ListComp elt [⟨tg, iter, ifs, 0⟩] scope pos) spos) (dAsg (dLc mi g tt te (own.map (·.2))) (dgName i)) := by
  have mg := (hg X.s_0 X.H_0 0 [] []).mo
  have mt := (ht X.s_0 X.H_0 0 [] []).mo
  have me := (he X.s_0 X.H_0 0 [] []).mo
  have ml : Mo (dLc mi g tt te (own.map (·.2))) := mo_lc hi.mo mg mt me
  refine ⟨mo_asg ml (fun _ _ _ _ h z => h _ z), ps_imp (ps_setLc (g := upG X.K L.B L.F is g) (tt := upT X.K L.B L.F (fun _ _ _ _ => False) tt) (te := up X.K L.B L.F (fun _ _ _ _ => False) te) hc hN hy hyl hsw hi.run ok (fun s H C cl fp => (hg s H C cl fp).run) (fun s H C cl fp => (ht s H C cl fp).run) (fun s H C cl fp => (he s H C cl fp).run) hs) fun Dn σ H ⟨G, ρ, gd, rs, q⟩ => ?_⟩
  have q2 : up X.K L.B L.F L.W (dLc mi g tt te (own.map (·.2))) σ H (fun x H1 => gName i x σ H1 Dn.nx) := upE ml gd rs q fun d v G' H' z s r => z _ G' H' s.toS ((rs.step s).set r)
  obtain ⟨G2, ρ2, gd2, rs2, q2⟩ := q2
  refine ⟨G2, ρ2, gd2, rs2, hi.mo ρ2 _ _ _ _ (fun ds z J G1 H1 s1 it Dd nD => ?_) (fun _ x => x) q2⟩
  exact lc_run mg mt me s1 rs2 it z nD fun i hi => by
    have := List.all_eq_true.mp hv i hi
    simpa using this
/-! ### for -/
def forW (g : DG) (b : DS) (A : DEnds) : List D → Slots → Prop
  | [], ρ => A.nx ρ
  | d :: ds, ρ => g d ρ fun ρ' => b { A with nx := forW g b A ds, ct := forW g b A ds, bk := A.nx } ρ'
theorem forW_mo {g : DG} {b : DS} (hg : ∀ d ρ Q Q', (∀ r, Q r → Q' r) → g d ρ Q → g d ρ Q') (hb : MoS b) {A A' : DEnds} (l : DEnds.Le A A') : ∀ {ds : List D} {ρ : Slots}, forW g b A ds ρ → forW g b A' ds ρ
  | [], _, z => l.nx _ z
  | d :: ds, _, z => hg _ _ _ _ (fun ρ' y => hb { A with nx := forW g b A ds, ct := forW g b A ds, bk := A.nx } { A' with nx := forW g b A' ds, ct := forW g b A' ds, bk := A'.nx } _ ⟨fun r w => forW_mo hg hb l w, l.rt, l.nx, fun r w => forW_mo hg hb l w, l.ex⟩ y) z
def dFor (mi : DA) (g : DG) (b : DS) : DS := fun A ρ => mi ρ (fun ds => forW g b A ds ρ) (fun x => A.ex x ρ)
theorem d_for {iter : Expr} {body : List Stmt} {mi : DA} {g : DG} {is : List Nat} (hp : PassesOwn (model X.prog X.w) X.A X.env X.xe) (hc : X.calm = true) (hi : DPI X L tg iter mi) (hg : DPG X L tg is g) (hb : DPSs X L body ms)
    (hs : ∀ x, foldedSetIterable iter X.env x = pure x) : DPS X L (.For tg iter body [] pos) (dFor mi g ms) := by
  refine ⟨fun A A' ρ l z => hi.mo _ _ _ _ _ (fun d y => forW_mo hg.mo hb.mo l y) (fun x y => l.ex _ _ y) z, ps_imp (ps_for hp hc hi.run hg.run hb.run hs) fun Dn σ H ⟨G, ρ, gd, rs, q⟩ => ?_⟩
  refine ⟨G, ρ, gd, rs, hi.mo ρ _ _ _ _ (fun ds z J G1 H1 s1 it => ?_) (fun x z => kx_of rs z) q⟩
  refine ⟨fun i m σ2 H2 => ∃ G2 ρ2, m = ds.length - i ∧ i ≤ ds.length ∧ StepS X.K L.B L.F G1 H1 G2 H2 ∧ RpS X.K L.B L.F G2 H2 σ2 ρ2 ∧ forW g ms (dn X.K L G2 H2 Dn) (ds.drop i) ρ2,
    ⟨ds.length, G1, ρ, by simp, Nat.zero_le _, StepS.refl s1.good, rs.step s1, ?_⟩, ?_⟩
  · rw [List.drop_zero]
    exact forW_mo hg.mo hb.mo (dn_step s1.toS) z
  · rintro i m σ2 H2 ⟨G2, ρ2, rfl, hi2, st, rs2, hf⟩
    rcases Nat.lt_or_ge i ds.length with hlt | hge
    · have ei : ds[i]? = some ds[i] := List.getElem?_eq_getElem hlt
      have ed : ds.drop i = ds[i] :: ds.drop (i + 1) := List.drop_eq_getElem_cons hlt
      rw [ed] at hf
      obtain ⟨go, yl⟩ := (it i G2 H2 st.good st.grow).1 _ ei
      refine .inr ⟨go, fun σ3 H3 => ∃ G3 ρ3, StepS X.K L.B L.F G1 H1 G3 H3 ∧ RpS X.K L.B L.F G3 H3 σ3 ρ3 ∧ forW g ms (dn X.K L G3 H3 Dn) (ds.drop (i + 1)) ρ3, fun σ3 H3 ⟨G3, ρ3, a, b, c⟩ => ⟨ds.length - (i + 1), by omega, G3, ρ3, rfl, by omega, a, b, c⟩, fun x H3 y => ?_⟩
      obtain ⟨G3, s3, rx⟩ := yl x H3 y
      refine ⟨G3, ρ2, ds[i], s3.good, rs2.step s3, rx, hg.mo _ _ _ _ (fun ρ' z2 σ' rs' _ => ?_) hf⟩
      refine ⟨G3, ρ', s3.good, rs', hb.mo { dn X.K L G2 H2 Dn with nx := forW g ms (dn X.K L G2 H2 Dn) (ds.drop (i + 1)), ct := forW g ms (dn X.K L G2 H2 Dn) (ds.drop (i + 1)), bk := (dn X.K L G2 H2 Dn).nx } _ _ ⟨fun r w σ4 G4 H4 s4 rs4 => ?_, fun r w v G4 H4 s4 r4 => ?_, fun r w σ4 G4 H4 s4 rs4 => ?_, fun r w σ4 G4 H4 s4 rs4 => ?_, fun x r w σ4 d fs G4 H4 s4 rs4 a b => ?_⟩ z2⟩
      · exact ⟨G4, r, st.trans (s3.toS.trans s4), rs4, forW_mo hg.mo hb.mo (dn_step (s3.toS.trans s4)) w⟩
      · exact w v G4 H4 (s3.toS.trans s4) r4
      · exact w σ4 G4 H4 (s3.toS.trans s4) rs4
      · exact ⟨G4, r, st.trans (s3.toS.trans s4), rs4, forW_mo hg.mo hb.mo (dn_step (s3.toS.trans s4)) w⟩
      · exact w σ4 d fs G4 H4 (s3.toS.trans s4) rs4 a b
    · refine .inl ⟨(it i G2 H2 st.good st.grow).2 (by omega), ?_⟩
      rw [List.drop_eq_nil_of_le hge] at hf
      exact hf _ _ _ (StepS.refl st.good) rs2
end
/-! ### defs -/
def startD (N : List Str) (ds : List D) : Slots := ds.map .sh ++ List.replicate (N.length - ds.length) .un
theorem start_rp {K : PySem.W.Frag} {B : Bo} {F : Addr → Prop} {G H : Hp} {N : List Str} {vs : List V} {ds : List D} (r : RpL K G vs ds) : RpS K B F G H (L2.start N vs) (startD N ds) := by
  have hl := r.length
  unfold L2.start startD
  refine ⟨by simp [hl], fun i d e => ?_, fun i d e => ?_, fun i j d e p h1 _ _ _ => ?_⟩
  · by_cases hi : i < ds.length
    · rw [List.getElem?_append_left (by simpa using hi), List.getElem?_map] at e
      cases q : ds[i]? with
      | none => rw [q] at e; cases e
      | some x =>
        rw [q] at e
        cases e
        obtain ⟨v, ev, rv⟩ := r.get q
        exact ⟨v, by rw [List.getElem?_append_left (by simpa [hl] using hi), List.getElem?_map, ev]; rfl, rv⟩
    · rw [List.getElem?_append_right (by simpa using hi)] at e
      rw [List.getElem?_replicate] at e
      split at e <;> cases e
  · by_cases hi : i < ds.length
    · rw [List.getElem?_append_left (by simpa using hi), List.getElem?_map] at e
      cases q : ds[i]? with
      | none => rw [q] at e; cases e
      | some x => rw [q] at e; cases e
    · rw [List.getElem?_append_right (by simpa using hi)] at e
      rw [List.getElem?_replicate] at e
      split at e <;> cases e
  · by_cases hi : i < ds.length
    · rw [List.getElem?_append_left (by simpa using hi), List.getElem?_map] at h1
      cases q : ds[i]? with
      | none => rw [q] at h1; cases h1
      | some x => rw [q] at h1; cases h1
    · rw [List.getElem?_append_right (by simpa using hi)] at h1
      rw [List.getElem?_replicate] at h1
      split at h1 <;> cases h1
/-- the ends of a def's body -/
def endsD (Q : D → Prop) (E : Xc → Prop) : DEnds := { nx := fun _ => Q .non, rt := Q, ex := fun x _ => E x }
section
variable {P : Program} {w : World} {K : PySem.W.Frag} {mg : Str → Option Value} {base : Heap}
/-- a def that raises nothing -/
theorem fn_pure {x qual : Str} {st : Stmt} {f : Addr} {fd : FuncData} {N ps : List Str} {k : Nat} {sp : DSp} {ms : DS} (Fn : Fun K x qual st f fd) (S : FnScope N ps (defScope st)) (len : ∀ ds Q E, sp ds Q E → ds.length = ps.length)
    (hb : ∀ (cdv : Value) (A : Around) (outer : List Env) (s : Shared) (H : Hp) (E : XK), Room k (A.deeper (envOfC qual (defScope st) s.heap.objs.size f cdv)) →
      DPSs (cxOf CX0 P w K mg base N qual (defScope st) f cdv A outer s H E).nox ⟨none, fun _ _ _ _ => False, H⟩ (defBody st) ms)
    (h : ∀ ds Q E, sp ds Q E → ms (endsD Q E) (startD N ds)) (noex : ∀ ds Q E, sp ds Q E → sp ds Q fun _ => False) : FnOk P w K mg base CX0 (k + 1) f fd ps (spD K sp) := by
  refine Fn.ok S (fun vs H Q E ⟨G, ds, g, r, Q0, E0, h0, _⟩ => ?_) (fun cdv A outer s H vs Q E hr ⟨G, ds, g, r, Q0, E0, h0, hq, hx⟩ => ?_)
  · rw [r.length]; exact len _ _ _ h0
  · have b := hb cdv A outer s H E hr
    refine ⟨_, b.run, G, startD N ds, g, start_rp r, b.mo (endsD Q0 fun _ => False) _ _ ⟨fun ρ z σ' G' H' s _ => ?_, fun d z v G' H' s rv => ?_, fun _ z => z.elim, fun _ z => z.elim, fun x ρ z => z.elim⟩ (h ds Q0 (fun _ => False) (noex _ _ _ h0))⟩
    · exact hq _ z _ G' H' ⟨s.grow, s.good, fun a o e n => s.keep a o e (fun (f : H a = none) => by rw [f] at e; cases e) n, fun a o e => s.hid a o e (fun (f : H a = none) => by rw [f] at e; cases e)⟩ .non
    · exact hq _ z v G' H' ⟨s.grow, s.good, fun a o e n => s.keep a o e (fun (f : H a = none) => by rw [f] at e; cases e) n, fun a o e => s.hid a o e (fun (f : H a = none) => by rw [f] at e; cases e)⟩ rv
/-- a def that takes the box first and raises nothing -/
theorem fn_box {x qual : Str} {st : Stmt} {f : Addr} {fd : FuncData} {N ps : List Str} {k : Nat} {sp : DSp} {ms : Addr → DS} (Fn : Fun K x qual st f fd) (S : FnScope N ps (defScope st)) (len : ∀ ds Q E, sp ds Q E → ds.length + 1 = ps.length)
    (hb : ∀ (cdv : Value) (A : Around) (outer : List Env) (s : Shared) (H : Hp) (E : XK) (b l : Addr), Room k (A.deeper (envOfC qual (defScope st) s.heap.objs.size f cdv)) →
      DPSs (cxOf CX0 P w K mg base N qual (defScope st) f cdv A outer s H E).nox ⟨some (b, l), fun _ _ _ _ => False, H⟩ (defBody st) (ms b))
    (h : ∀ b ds Q E, sp ds Q E → ms b (endsD Q E) (startD N (.opq (.ref b) :: ds))) (noex : ∀ ds Q E, sp ds Q E → sp ds Q fun _ => False) : FnOk P w K mg base CX0 (k + 1) f fd ps (spB K sp) := by
  refine Fn.ok S (fun vs H Q E ⟨b, l, ws, G, ds, ev, g, r, Q0, E0, h0, _⟩ => ?_) (fun cdv A outer s H vs Q E hr ⟨b, l, ws, G, ds, ev, g, r, Q0, E0, h0, hq, hx⟩ => ?_)
  · rw [ev, List.length_cons, r.length]; exact len _ _ _ h0
  · subst ev
    have bb := hb cdv A outer s H E b l hr
    refine ⟨_, bb.run, G, startD N (.opq (.ref b) :: ds), g, start_rp (.cons (.opq _) r), bb.mo (endsD Q0 fun _ => False) _ _ ⟨fun ρ z σ' G' H' s _ => ?_, fun d z v G' H' s rv => ?_, fun _ z => z.elim, fun _ z => z.elim, fun x ρ z => z.elim⟩ (h b ds Q0 (fun _ => False) (noex _ _ _ h0))⟩
    · exact hq _ z _ G' H' ⟨s.grow, s.good, fun a o e n => s.keep a o e (fun (f : H a = none) => by rw [f] at e; cases e) n, fun a o e => s.hid a o e (fun (f : H a = none) => by rw [f] at e; cases e)⟩ .non
    · exact hq _ z v G' H' ⟨s.grow, s.good, fun a o e n => s.keep a o e (fun (f : H a = none) => by rw [f] at e; cases e) n, fun a o e => s.hid a o e (fun (f : H a = none) => by rw [f] at e; cases e)⟩ rv
end
end DV
set_option Elab.async false
set_option linter.all false
set_option maxRecDepth 100000
set_option maxHeartbeats 4000000
namespace DV
open PySem PySem.Spec PyProof.Rows L2
/-! ### plain data -/
mutual
def toP : D → Option PyData
  | .non => some .none
  | .bl b => some (.bool b)
  | .int i => some (.int i)
  | .str x => some (.str x)
  | .lst xs => (toPs xs).map .list
  | .tup xs => (toPs xs).map .tuple
  | _ => none
def toPs : List D → Option (List PyData)
  | [] => some []
  | x :: xs => match toP x, toPs xs with
    | some y, some ys => some (y :: ys)
    | _, _ => none
end
section
variable {K : PySem.W.Frag} {G H : Hp}
mutual
theorem Rp.dp (s : Sub G H) : ∀ {d : D} {v : V} {q : PyData}, Rp K G v d → toP d = some q → Dp K H v q
  | .non, _, _, .non, e => by cases e; exact .non
  | .bl _, _, _, .bl b, e => by cases e; exact .bl b
  | .int _, _, _, .int i, e => by cases e; exact .int i
  | .str _, _, _, .str x, e => by cases e; exact .str x
  | .opq _, _, _, .opq v, e => by simp [toP] at e
  | .lst ds, _, _, .lst h r, e => by
    simp only [toP, Option.map_eq_some_iff] at e
    obtain ⟨qs, e1, rfl⟩ := e
    exact .lst (s.lstL h) (RpL.dp s r e1)
  | .tup ds, _, _, .tup h r, e => by
    simp only [toP, Option.map_eq_some_iff] at e
    obtain ⟨qs, e1, rfl⟩ := e
    exact .tup (s.sqT h) (RpL.dp s r e1)
  | .dic _, _, _, .dic h r, e => by simp [toP] at e
  | .ins _ _, _, _, .ins h r, e => by simp [toP] at e
theorem RpL.dp (s : Sub G H) : ∀ {ds : List D} {vs : List V} {qs : List PyData}, RpL K G vs ds → toPs ds = some qs → DpAll K H vs qs
  | [], _, _, .nil, e => by cases e; exact .nil
  | d :: ds, _, _, .cons h r, e => by
    simp only [toPs] at e
    split at e
    · rename_i y ys e1 e2
      cases e
      exact .cons (Rp.dp s h e1) (RpL.dp s r e2)
    · cases e
end
end
/-! ### operators of data -/
def addD : D2
  | .int i, .int j, Q => Q (.int (i + j))
  | .str x, .str y, Q => x.length + y.length ≤ sizeLine ∧ Q (.str (x ++ y))
  | .lst xs, .lst ys, Q => xs.length + ys.length ≤ sizeLine ∧ Q (.lst (xs ++ ys))
  | .tup xs, .tup ys, Q => xs ≠ [] ∧ xs.length + ys.length ≤ sizeLine ∧ Q (.tup (xs ++ ys))
  | _, _, _ => False
def iI (C : Int → Int → Prop) (g : Int → Int → D) : D2
  | .int i, .int j, Q => C i j ∧ Q (g i j)
  | _, _, _ => False
def subD : D2 := iI (fun _ _ => True) fun i j => .int (i - j)
def modD : D2 := iI (fun _ j => 0 < j) fun i j => .int (i % j)
def fdivD : D2 := iI CDiv fun i j => .int (i / j)
def powD : D2 := iI CPow fun i j => .int (i ^ j.toNat)
def mulD : D2
  | .int i, .int j, Q => CMul i j ∧ Q (.int (i * j))
  | .str x, .int n, Q => MulOk x n ∧ Q (.str (Txt.mul x n))
  | .lst xs, .int k, Q => -(2 ^ 63) ≤ k ∧ k < 2 ^ 63 ∧ xs.length * k.toNat ≤ sizeLine ∧ Q (.lst (List.replicate k.toNat xs).flatten)
  | _, _, _ => False
def ordD (gi : Int → Int → Bool) (gs : Str → Str → Bool) : D2
  | .int i, .int j, Q => Q (.bl (gi i j))
  | .str x, .str y, Q => Q (.bl (gs x y))
  | _, _, _ => False
def ltD : D2 := ordD (fun i j => decide (i < j)) fun x y => decide (x.cps.toList < y.cps.toList)
def leD : D2 := ordD (fun i j => decide (i ≤ j)) fun x y => !decide (y.cps.toList < x.cps.toList)
def gtD : D2 := ordD (fun i j => decide (j < i)) fun x y => decide (y.cps.toList < x.cps.toList)
def geD : D2 := ordD (fun i j => decide (j ≤ i)) fun x y => !decide (x.cps.toList < y.cps.toList)
/-- ==, told through f -/
def eqD (f : Bool → Bool) : D2
  | .int i, .int j, Q => Q (.bl (f (decide (i = j))))
  | .str x, .str y, Q => Q (.bl (f (decide (x = y))))
  | .bl x, .bl y, Q => Q (.bl (f (decide (x = y))))
  | a, b, Q => match toP a, toP b with
    | some x, some y => SeqAt.shaped x = true ∧ SeqAt.shaped y = true ∧ Q (.bl (f (PyData.eqv x y)))
    | _, _ => False
def isNonD : D → Bool
  | .non => true
  | _ => false
/-- is None, is not None -/
def isD (f : Bool → Bool) : D2
  | .opq _, _, _ => False
  | a, .non, Q => Q (.bl (f (isNonD a)))
  | _, _, _ => False
/-- in, not in -/
def inD (f : Bool → Bool) : D2
  | .str ⟨⟨[c]⟩⟩, .str z, Q => Q (.bl (f (decide (c ∈ z.cps.toList))))
  | a, .lst xs, Q => match toP a, toPs xs with
    | some x, some ys => SeqAt.shaped x = true ∧ SeqAt.shaped (.list ys) = true ∧ Q (.bl (f (ys.any fun z => PyData.eqv z x)))
    | _, _ => False
  | _, _, _ => False
theorem sub_i {X : Cx} {B : Bo} {f : Value → Value → Sem Value} {C : Int → Int → Prop} {g : Int → Int → D} {gv : Int → Int → V} (h : OpR X f (rI C gv)) (hg : ∀ i j K G, Rp K G (gv i j) (g i j)) : OpD X B f (iI C g) := by
  refine ⟨fun x y Q Q' q z => ?_, _, h, fun G H x y a b Q gd r1 r2 q => ?_⟩
  · unfold iI at z ⊢
    split at z
    · exact ⟨z.1, q _ z.2⟩
    · exact z
  · unfold iI at q
    split at q
    · cases r1
      cases r2
      exact ⟨_, _, rfl, rfl, q.1, q.2 _ _ _ (Step.refl gd) (hg _ _ _ _)⟩
    · exact q.elim
section
variable {X : Cx} {B : Bo}
theorem od_sub : OpD X B (binaryOp .Sub) subD := by
  have h : OpR X (binaryOp .Sub) (rI (fun _ _ => True) fun i j => .int (i - j)) := fun pins s σ H x y v u Q I r1 r2 ⟨i, j, e1, e2, _, q⟩ => op_sub pins s σ H x y v u Q I r1 r2 ⟨i, j, e1, e2, q⟩
  exact sub_i h fun i j K G => .int _
theorem od_mod : OpD X B (binaryOp .Mod) modD := sub_i op_mod fun i j K G => .int _
theorem od_fdiv : OpD X B (binaryOp .FloorDiv) fdivD := sub_i op_fdiv fun i j K G => .int _
theorem od_pow : OpD X B (binaryOp .Pow) powD := sub_i op_pow fun i j K G => .int _
theorem od_add : OpD X B (binaryOp .Add) addD := by
  refine ⟨fun x y Q Q' q z => ?_, _, op_add.or (op_add_str.or (op_cat.or op_catT)), fun G H x y a b Q gd r1 r2 q => ?_⟩
  · unfold addD at z ⊢
    split at z
    · exact q _ z
    · exact ⟨z.1, q _ z.2⟩
    · exact ⟨z.1, q _ z.2⟩
    · exact ⟨z.1, z.2.1, q _ z.2.2⟩
    · exact z
  · unfold addD at q
    split at q
    · cases r1
      cases r2
      exact .inl ⟨_, _, rfl, rfl, q _ _ _ (Step.refl gd) (.int _)⟩
    · cases r1
      cases r2
      exact .inr (.inl ⟨_, _, rfl, rfl, q.1, q.2 _ _ _ (Step.refl gd) (.str _)⟩)
    · cases r1 with
      | lst s1 l1 =>
        cases r2 with
        | lst s2 l2 => exact .inr (.inr (.inl ⟨_, _, _, _, rfl, rfl, gd.sub _ _ s1, gd.sub _ _ s2, by rw [l1.length, l2.length]; exact q.1, fun p np => q.2 _ _ _ (Step.new gd np) (new_lst gd np (l1.append l2))⟩))
    · rename_i xs ys
      cases r1 with
      | tup s1 l1 =>
        cases r2 with
        | tup s2 l2 =>
          refine .inr (.inr (.inr ⟨_, _, _, _, rfl, rfl, gd.sub.sqT s1, gd.sub.sqT s2, fun z => ?_, by rw [l1.length, l2.length]; exact q.2.1, fun z => ?_, fun z p np => q.2.2 _ _ _ (Step.new gd np) (new_tup gd np (l1.append l2))⟩))
          · subst z
            cases l1
            exact q.1 rfl
          · subst z
            cases l2
            rw [List.append_nil] at q
            exact q.2.2 _ _ _ (Step.refl gd) (.tup s1 l1)
    · exact q.elim
theorem RpL.rep {K : PySem.W.Frag} {G : Hp} {vs : List V} {ds : List D} (r : RpL K G vs ds) : ∀ n : Nat, RpL K G (List.replicate n vs).flatten (List.replicate n ds).flatten
  | 0 => .nil
  | n + 1 => by
    rw [List.replicate_succ, List.replicate_succ, List.flatten_cons, List.flatten_cons]
    exact r.append (RpL.rep r n)
theorem op_mulS : OpR X (binaryOp .Mult) (fun x y H Q => ∃ z n, x = .str z ∧ y = .int n ∧ MulOk z n ∧ Q (.str (Txt.mul z n)) H) := by
  intro pins s σ H x y v u Q I rx ry h
  obtain ⟨z, n, rfl, rfl, hk, q⟩ := h
  obtain ⟨t, rfl⟩ := rx
  obtain ⟨t', rfl⟩ := ry
  exact SB.mul hk fun t2 k => ⟨.str _, H, I.tok _, ⟨_, rfl⟩, q⟩
theorem od_mul : OpD X B (binaryOp .Mult) mulD := by
  refine ⟨fun x y Q Q' q z => ?_, _, op_mul.or (op_mulS.or op_rep), fun G H x y a b Q gd r1 r2 q => ?_⟩
  · unfold mulD at z ⊢
    split at z
    · exact ⟨z.1, q _ z.2⟩
    · exact ⟨z.1, q _ z.2⟩
    · exact ⟨z.1, z.2.1, z.2.2.1, q _ z.2.2.2⟩
    · exact z
  · unfold mulD at q
    split at q
    · cases r1
      cases r2
      exact .inl ⟨_, _, rfl, rfl, q.1, q.2 _ _ _ (Step.refl gd) (.int _)⟩
    · cases r1
      cases r2
      exact .inr (.inl ⟨_, _, rfl, rfl, q.1, q.2 _ _ _ (Step.refl gd) (.str _)⟩)
    · cases r1 with
      | lst s1 l1 =>
        cases r2
        exact .inr (.inr ⟨_, _, _, rfl, rfl, gd.sub _ _ s1, q.1, q.2.1, by rw [l1.length]; exact q.2.2.1, fun p np => q.2.2.2 _ _ _ (Step.new gd np) (new_lst gd np (l1.rep _))⟩)
    · exact q.elim
theorem od_ord {op : CmpOp} {gi : Int → Int → Bool} {gs : Str → Str → Bool} (h1 : OpR X (compareOp op) (rI0 fun i j => .bl (gi i j))) (h2 : OpR X (compareOp op) (fun x y H Q => ∃ i j, x = .str i ∧ y = .str j ∧ Q (.bl (gs i j)) H)) : OpD X B (compareOp op) (ordD gi gs) := by
  refine ⟨fun x y Q Q' q z => ?_, _, h1.or h2, fun G H x y a b Q gd r1 r2 q => ?_⟩
  · unfold ordD at z ⊢
    split at z
    · exact q _ z
    · exact q _ z
    · exact z
  · unfold ordD at q
    split at q
    · cases r1
      cases r2
      exact .inl ⟨_, _, rfl, rfl, q _ _ _ (Step.refl gd) (.bl _)⟩
    · cases r1
      cases r2
      exact .inr ⟨_, _, rfl, rfl, q _ _ _ (Step.refl gd) (.bl _)⟩
    · exact q.elim
theorem od_lt : OpD X B (compareOp .Lt) ltD := od_ord op_lt op_lt_str
theorem od_le : OpD X B (compareOp .LtE) leD := od_ord op_le op_le_str
theorem od_gt : OpD X B (compareOp .Gt) gtD := od_ord op_gt op_gt_str
theorem od_ge : OpD X B (compareOp .GtE) geD := od_ord op_ge op_ge_str
theorem od_eqf {op : CmpOp} {f : Bool → Bool} (h1 : OpR X (compareOp op) (fun x y H Q => scal x y = true ∧ Q (.bl (f (decide (x = y)))) H))
    (h2 : OpR X (compareOp op) (fun x y H Q => ∃ d e, Dp X.K H x d ∧ Dp X.K H y e ∧ SeqAt.shaped d = true ∧ SeqAt.shaped e = true ∧ Q (.bl (f (PyData.eqv d e))) H)) : OpD X B (compareOp op) (eqD f) := by
  refine ⟨fun x y Q Q' q z => ?_, _, h1.or h2, fun G H x y a b Q gd r1 r2 q => ?_⟩
  · unfold eqD at z ⊢
    split at z
    · exact q _ z
    · exact q _ z
    · exact q _ z
    · split at z
      · exact ⟨z.1, z.2.1, q _ z.2.2⟩
      · exact z
  · unfold eqD at q
    split at q
    · cases r1
      cases r2
      rename_i i j
      have : decide (V.int i = V.int j) = decide (i = j) := by simp
      exact .inl ⟨rfl, by rw [this]; exact q _ _ _ (Step.refl gd) (.bl _)⟩
    · cases r1
      cases r2
      rename_i i j
      have : decide (V.str i = V.str j) = decide (i = j) := by simp
      exact .inl ⟨rfl, by rw [this]; exact q _ _ _ (Step.refl gd) (.bl _)⟩
    · cases r1
      cases r2
      rename_i i j
      have : decide (V.bl i = V.bl j) = decide (i = j) := by simp
      exact .inl ⟨rfl, by rw [this]; exact q _ _ _ (Step.refl gd) (.bl _)⟩
    · split at q
      · rename_i p1 p2 e1 e2
        exact .inr ⟨p1, p2, r1.dp gd.sub e1, r2.dp gd.sub e2, q.1, q.2.1, q.2.2 _ _ _ (Step.refl gd) (.bl _)⟩
      · exact q.elim
theorem od_eq (hu : X.A.units + 64 < cLine) : OpD X B (compareOp .Eq) (eqD id) := od_eqf op_eq (op_eqD hu)
theorem od_ne (hu : X.A.units + 64 < cLine) : OpD X B (compareOp .NotEq) (eqD not) := od_eqf op_ne (op_neD hu)
theorem od_isf {op : CmpOp} {f : Bool → Bool} (h : OpR X (compareOp op) (fun x y H Q => y = .non ∧ Q (.bl (f (decide (x = .non)))) H)) : OpD X B (compareOp op) (isD f) := by
  refine ⟨fun x y Q Q' q z => ?_, _, h, fun G H x y a b Q gd r1 r2 q => ?_⟩
  · unfold isD at z ⊢
    split at z
    · exact z
    · exact q _ z
    · exact z
  · unfold isD at q
    split at q
    · exact q.elim
    · cases r2
      refine ⟨rfl, ?_⟩
      cases r1 <;> first
        | exact q _ _ _ (Step.refl gd) (.bl _)
        | (rename_i nn _ _; exact (nn _ rfl).elim)
        | (rename_i nn; exact (nn _ rfl).elim)
    · exact q.elim
theorem od_is : OpD X B (compareOp .Is) (isD id) := od_isf op_isN
theorem od_isnot : OpD X B (compareOp .IsNot) (isD not) := od_isf op_notN
theorem toPs_list {K : PySem.W.Frag} {G H : Hp} {a : Addr} {ds : List D} {qs : List PyData} (s : Sub G H) (r : Rp K G (.ref a) (.lst ds)) (e : toPs ds = some qs) : Dp K H (.ref a) (.list qs) := r.dp s (by simp [toP, e])
theorem od_inf {op : CmpOp} {f : Bool → Bool} (h1 : OpR X (compareOp op) (fun x y H Q => ∃ (c : Nat) (z : Str), x = .str ⟨#[c]⟩ ∧ y = .str z ∧ Q (.bl (f (decide (c ∈ z.cps.toList)))) H))
    (h2 : OpR X (compareOp op) (fun x y H Q => ∃ d ds, Dp X.K H x d ∧ Dp X.K H y (.list ds) ∧ SeqAt.shaped d = true ∧ SeqAt.shaped (.list ds) = true ∧ Q (.bl (f (ds.any fun z => PyData.eqv z d))) H)) : OpD X B (compareOp op) (inD f) := by
  refine ⟨fun x y Q Q' q z => ?_, _, h1.or h2, fun G H x y a b Q gd r1 r2 q => ?_⟩
  · unfold inD at z ⊢
    split at z
    · exact q _ z
    · split at z
      · exact ⟨z.1, z.2.1, q _ z.2.2⟩
      · exact z
    · exact z
  · unfold inD at q
    split at q
    · cases r1
      cases r2
      exact .inl ⟨_, _, rfl, rfl, q _ _ _ (Step.refl gd) (.bl _)⟩
    · split at q
      · rename_i p1 p2 e1 e2
        cases r2 with
        | lst s2 l2 => exact .inr ⟨p1, p2, r1.dp gd.sub e1, toPs_list gd.sub (.lst s2 l2) e2, q.1, q.2.1, q.2.2 _ _ _ (Step.refl gd) (.bl _)⟩
      · exact q.elim
    · exact q.elim
theorem od_in (hu : X.A.units + 65 < cLine) : OpD X B (compareOp .In) (inD id) := od_inf op_in_sign (op_inD hu)
theorem od_notin (hu : X.A.units + 65 < cLine) : OpD X B (compareOp .NotIn) (inD not) := od_inf op_notIn_sign (op_notInD hu)
end
end DV
set_option Elab.async false
set_option linter.all false
set_option maxRecDepth 100000
set_option maxHeartbeats 4000000
namespace DV
open PySem PySem.Spec PyProof.Rows L2
/-! ### built-in functions of data -/
def lenD : DC
  | [.str y], Q => y.length ≤ sizeLine ∧ Q (.int y.length)
  | [.lst xs], Q => Q (.int xs.length)
  | [.tup xs], Q => Q (.int xs.length)
  | _, _ => False
def absD : DC
  | [.int i], Q => Q (.int (if i < 0 then -i else i))
  | _, _ => False
def toIntD : DC
  | [.int i], Q => Q (.int i)
  | [.bl k], Q => Q (.int (if k then 1 else 0))
  | _, _ => False
def toBs : List D → Option (List Bool)
  | [] => some []
  | .bl b :: r => (toBs r).map (b :: ·)
  | _ => none
def allD : DC
  | [.lst xs], Q => match toBs xs with
    | some bs => Q (.bl (bs.all id))
    | none => False
  | _, _ => False
def anyD : DC
  | [.lst xs], Q => match toBs xs with
    | some bs => Q (.bl (bs.any id))
    | none => False
  | _, _ => False
/-- the type's name of plain data -/
def tyD : D → Option String
  | .non => some "NoneType"
  | .bl _ => some "bool"
  | .int _ => some "int"
  | .str _ => some "str"
  | .lst _ => some "list"
  | .tup _ => some "tuple"
  | .dic _ => some "dict"
  | _ => none
def kn (n : String) : Bool := n == "str" || n == "int" || n == "bool" || n == "list" || n == "tuple" || n == "dict"
def isT (t n : String) : Bool := t == n || (t == "bool" && n == "int")
def isiB (d : D) (n : String) : Bool := match tyD d with
  | some t => isT t n
  | none => false
def isAny (d : D) : List D → Option Bool
  | [] => some false
  | .opq (.ty n) :: r => if kn n = true then (isAny d r).map (isiB d n || ·) else none
  | _ => none
def isiD : DC
  | [x, .opq (.ty n)], Q => kn n = true ∧ (tyD x).isSome = true ∧ Q (.bl (isiB x n))
  | _, _ => False
theorem toBs_vs {K : PySem.W.Frag} {G : Hp} : ∀ {ds : List D} {vs : List V} {bs : List Bool}, RpL K G vs ds → toBs ds = some bs → vs = bs.map V.bl
  | [], _, _, .nil, e => by cases e; rfl
  | .bl b :: r, _, _, .cons (.bl _) t, e => by
    simp only [toBs, Option.map_eq_some_iff] at e
    obtain ⟨bs, e1, rfl⟩ := e
    rw [toBs_vs t e1]; rfl
theorem kn_cases {n : String} (h : kn n = true) : n = "str" ∨ n = "int" ∨ n = "bool" ∨ n = "list" ∨ n = "tuple" ∨ n = "dict" := by
  unfold kn at h
  simp only [Bool.or_eq_true, beq_iff_eq] at h
  rcases h with ((((h | h) | h) | h) | h) | h <;> simp [h]
theorem kit_tab : ∀ t ∈ ["NoneType", "bool", "int", "str", "list", "tuple", "dict"], ∀ n ∈ ["str", "int", "bool", "list", "tuple", "dict"], kitB t n = some (isT t n) := by decide +kernel
theorem kit_isi {K : PySem.W.Frag} {d : D} {t n : String} (ht : tyD d = some t) (hn : kn n = true) : PySem.W.kitOne K (.type t) (.type n) = some (isiB d n) := by
  have e : isiB d n = isT t n := by unfold isiB; rw [ht]
  rw [e]
  refine kit_ty (kit_tab t ?_ n ?_)
  · cases d <;> simp [tyD] at ht <;> subst ht <;> simp
  · rcases kn_cases hn with q | q | q | q | q | q <;> subst q <;> simp
theorem Rp.ty {K : PySem.W.Frag} {G H : Hp} {d : D} {v : V} {t : String} (s : Sub G H) (r : Rp K G v d) (h : tyD d = some t) : TyX K H v (.type t) := by
  cases r with
  | non => cases h; exact .base .non
  | bl b => cases h; exact .base (.bl b)
  | int i => cases h; exact .base (.int i)
  | str x => cases h; exact .base (.str x)
  | opq => simp [tyD] at h
  | lst q _ => cases h; exact .base (.lst (s _ _ q))
  | tup q _ =>
    cases h
    rcases q with (q | ⟨o, q⟩) | ⟨o, its, n, q, c, _⟩
    · exact .base (.tup (s _ _ q))
    · exact .fTuple (s _ _ q)
    · exact .kTuple q c
  | dic q _ => cases h; exact .base (.dK (s _ _ q))
  | ins => simp [tyD] at h
theorem isAny_run {K : PySem.W.Frag} {G : Hp} {d : D} {t : String} (ht : tyD d = some t) : ∀ {cs : List D} {vs : List V} {b : Bool}, RpL K G vs cs → isAny d cs = some b → ∃ us, Paired ClsV vs us ∧ PySem.W.kitAny K (.type t) us = some b
  | [], _, _, .nil, e => by cases e; exact ⟨[], .nil, rfl⟩
  | .opq (.ty n) :: r, _, _, .cons (.opq _) q, e => by
    unfold isAny at e
    split at e
    · rename_i hn
      simp only [Option.map_eq_some_iff] at e
      obtain ⟨b', e1, rfl⟩ := e
      obtain ⟨us, p, k⟩ := isAny_run ht q e1
      refine ⟨.type n :: us, .cons (.ty n) p, ?_⟩
      refine kitAny_cons (kit_isi ht hn) (fun z => ?_) (fun z => ?_)
      · rw [z, Bool.false_or]; exact k
      · rw [z, Bool.true_or]
    · cases e
section
variable {X : Cx} {L : Pl} {B : Bo} {e o : Expr} {m mo' : DE} {pos p : Pos}
theorem cd_len : CallD X B (.builtin "len") lenD := by
  refine ⟨fun x Q Q' q z => ?_, _, call_len, fun G H vs ds Q g r h => ?_⟩
  · unfold lenD at z ⊢
    split at z
    · exact ⟨z.1, q _ z.2⟩
    · exact q _ z
    · exact q _ z
    · exact z
  · unfold lenD at h
    split at h
    · cases r with | cons r1 r2 => cases r2; cases r1; exact ⟨_, _, rfl, ⟨h.1, rfl⟩, h.2 _ _ _ (Step.refl g) (.int _)⟩
    · cases r with | cons r1 r2 => cases r2; cases r1 with | lst s l => exact ⟨_, _, rfl, .inl ⟨_, g.sub.lstL s, rfl⟩, by rw [l.length]; exact h _ _ _ (Step.refl g) (.int _)⟩
    · cases r with | cons r1 r2 => cases r2; cases r1 with | tup s l => exact ⟨_, _, rfl, .inr ⟨_, g.sub.sqT s, rfl⟩, by rw [l.length]; exact h _ _ _ (Step.refl g) (.int _)⟩
    · exact h.elim
theorem cd_abs : CallD X B (.builtin "abs") absD := by
  refine ⟨fun x Q Q' q z => ?_, _, call_abs, fun G H vs ds Q g r h => ?_⟩
  · unfold absD at z ⊢
    split at z
    · exact q _ z
    · exact z
  · unfold absD at h
    split at h
    · cases r with | cons r1 r2 => cases r2; cases r1; exact ⟨_, rfl, h _ _ _ (Step.refl g) (.int _)⟩
    · exact h.elim
theorem cd_int : CallD X B (.type "int") toIntD := by
  refine ⟨fun x Q Q' q z => ?_, _, call_int1, fun G H vs ds Q g r h => ?_⟩
  · unfold toIntD at z ⊢
    split at z
    · exact q _ z
    · exact q _ z
    · exact z
  · unfold toIntD at h
    split at h
    · cases r with | cons r1 r2 => cases r2; cases r1; exact .inl ⟨_, rfl, h _ _ _ (Step.refl g) (.int _)⟩
    · cases r with | cons r1 r2 => cases r2; cases r1; exact .inr ⟨_, rfl, h _ _ _ (Step.refl g) (.int _)⟩
    · exact h.elim
theorem cd_all (hc : X.calm = true) : CallD X B (.builtin "all") allD := by
  refine ⟨fun x Q Q' q z => ?_, _, cr_all hc, fun G H vs ds Q g r h => ?_⟩
  · unfold allD at z ⊢
    split at z
    · split at z
      · exact q _ z
      · exact z
    · exact z
  · unfold allD at h
    split at h
    · split at h
      · rename_i bs eb
        cases r with | cons r1 r2 => cases r2; cases r1 with | lst s l => exact ⟨_, bs, rfl, by rw [← toBs_vs l eb]; exact g.sub.lstL s, h _ _ _ (Step.refl g) (.bl _)⟩
      · exact h.elim
    · exact h.elim
theorem cd_any (hc : X.calm = true) : CallD X B (.builtin "any") anyD := by
  refine ⟨fun x Q Q' q z => ?_, _, cr_any hc, fun G H vs ds Q g r h => ?_⟩
  · unfold anyD at z ⊢
    split at z
    · split at z
      · exact q _ z
      · exact z
    · exact z
  · unfold anyD at h
    split at h
    · split at h
      · rename_i bs eb
        cases r with | cons r1 r2 => cases r2; cases r1 with | lst s l => exact ⟨_, bs, rfl, by rw [← toBs_vs l eb]; exact g.sub.lstL s, h _ _ _ (Step.refl g) (.bl _)⟩
      · exact h.elim
    · exact h.elim
theorem cd_isi : CallD X B (.builtin "isinstance") isiD := by
  refine ⟨fun x Q Q' q z => ?_, _, call_isi, fun G H vs ds Q g r h => ?_⟩
  · unfold isiD at z ⊢
    split at z
    · exact ⟨z.1, z.2.1, q _ z.2.2⟩
    · exact z
  · unfold isiD at h
    split at h
    · obtain ⟨h1, h2, h3⟩ := h
      obtain ⟨t, ht⟩ := Option.isSome_iff_exists.mp h2
      cases r with
      | cons r1 r2 =>
        cases r2 with
        | cons r3 r4 =>
          cases r4
          cases r3
          exact ⟨_, _, _, _, _, rfl, .ty _, r1.ty g.sub ht, kit_isi ht h1, h3 _ _ _ (Step.refl g) (.bl _)⟩
    · exact h.elim
/-- isinstance(x, (A, B, ..)) -/
def dIsiT (m : DE) (mA : DA) : DE := fun ρ Q E => m ρ (fun x => mA ρ (fun cs => cs.length ≤ 100 ∧ (tyD x).isSome = true ∧ match isAny x cs with
  | some b => Q (.bl b)
  | none => False) E) E
theorem d_isiT {es : List Expr} {mA : DA} {k : Nat} {tpos : Pos} (hg : Gl X "isinstance") (hm : X.mg "isinstance" = none) (he : DPE X L e m) (ha : DPA X L es mA)
    (hs : starEach [e, .Tuple es k tpos] X.env = (false, eval e X.env) :: starEach [.Tuple es k tpos] X.env) (hs2 : starEach [.Tuple es k tpos] X.env = (false, eval (.Tuple es k tpos) X.env) :: starEach [] X.env) (hpl : (backTo pos (starEach [.Tuple es k tpos] X.env)).any (·.1) = false) :
    DPE X L (.Call (.Name "isinstance" p) [e, .Tuple es k tpos] [] pos) (dIsiT m mA) := by
  refine ⟨fun ρ Q Q' E E' q hx x => he.mo _ _ _ _ _ (fun _ z => ha.mo _ _ _ _ _ (fun cs y => ⟨y.1, y.2.1, ?_⟩) hx z) hx x, pe_imp (pe_callB call_isiT hg hm boot_isinstance (pa_cons he.run (pa_cons (pe_tup ha.run) pa_nil hs2) hs) (by decide) (by decide) hs hpl) fun σ H Q ⟨G, ρ, g, rs, q⟩ => ?_⟩
  · obtain ⟨_, _, y⟩ := y
    split at y
    · exact q _ y
    · exact y
  · refine up_of he.mo g rs q fun x v G1 H1 q1 s1 r1 => ?_
    refine upA_of ha.mo s1.good (rs.step s1) (mo_step ha.mo s1 q1) fun cs vs G2 H2 q2 s2 r2 => ?_
    obtain ⟨h1, h2, h3⟩ := q2
    obtain ⟨t, ht⟩ := Option.isSome_iff_exists.mp h2
    refine ⟨by rw [r2.length]; exact Nat.le_trans h1 (by decide), fun p np => ?_⟩
    split at h3
    · rename_i b eb
      obtain ⟨us, pu, ku⟩ := isAny_run ht r2 eb
      have s3 := Step.new (o := .tup vs) s2.good np
      exact ⟨_, _, _, _, _, _, rfl, upd_same, pu, (r1.mono (s2.trans s3).grow).ty s3.good.sub ht, ku, h3 _ _ _ ((s1.trans s2).trans s3) (.bl _)⟩
    · exact h3.elim
/-- a built-in class's name as a value -/
theorem d_ty {x : Str} {n : String} (hg : Gl X x) (hm : X.mg x = none) (hv : bootBuiltins x = some (.type n)) (hn : x ≠ "__name__") (hd : (x == ("__debug__" : Str)) = false) : DPE X L (.Name x pos) (dC (.opq (.ty n))) := d_c (v := .ty n) (pe_bltn hg hm hv rfl hn hd) fun _ => .opq _
/-- a module's constant -/
theorem d_glob {x : Str} {v : V} {d : D} {u : Value} (hg : Gl X x) (hm : X.mg x = some u) (r : RelV v u) (hd : (x == ("__debug__" : Str)) = false) (rd : ∀ G, Rp X.K G v d) : DPE X L (.Name x pos) (dC d) := d_c (pe_glob hg hm r hd) rd
theorem d_globI {x : Str} {i : Int} {t : Tok} (hg : Gl X x) (hm : X.mg x = some (.int i t)) (hd : (x == ("__debug__" : Str)) = false) : DPE X L (.Name x pos) (dC (.int i)) := d_c (v := .int i) (pe_glob hg hm ⟨t, rfl⟩ hd) fun _ => .int i
theorem d_globS {x : Str} {i : Str} {t : Tok} (hg : Gl X x) (hm : X.mg x = some (.str i t)) (hd : (x == ("__debug__" : Str)) = false) : DPE X L (.Name x pos) (dC (.str i)) := d_c (v := .str i) (pe_glob hg hm ⟨t, rfl⟩ hd) fun _ => .str i
/-! ### texts -/
def toSs : List D → Option (List Str)
  | [] => some []
  | .str b :: r => (toSs r).map (b :: ·)
  | _ => none
theorem toSs_vs {K : PySem.W.Frag} {G : Hp} : ∀ {ds : List D} {vs : List V} {bs : List Str}, RpL K G vs ds → toSs ds = some bs → vs = bs.map V.str
  | [], _, _, .nil, e => by cases e; rfl
  | .str b :: r, _, _, .cons (.str _) t, e => by
    simp only [toSs, Option.map_eq_some_iff] at e
    obtain ⟨bs, e1, rfl⟩ := e
    rw [toSs_vs t e1]; rfl
def joinOn (a : Str) (xs : List D) (Q : D → Prop) : Prop := match toSs xs with
  | some ys => (ys.map (·.length)).sum + ys.length * a.length ≤ 16777216 ∧ Q (.str (Txt.join a ys))
  | none => False
def joinD (a : Str) : D → (D → Prop) → Prop
  | .lst xs, Q => joinOn a xs Q
  | .tup xs, Q => joinOn a xs Q
  | _, _ => False
theorem joinOn_mo {a : Str} {xs : List D} {Q Q' : D → Prop} (h : ∀ d, Q d → Q' d) (z : joinOn a xs Q) : joinOn a xs Q' := by
  unfold joinOn at z ⊢
  split at z
  · exact ⟨z.1, h _ z.2⟩
  · exact z
theorem joinD_mo : ∀ a y Q Q', (∀ d, Q d → Q' d) → joinD a y Q → joinD a y Q' := fun x y Q Q' h z => by
  unfold joinD at z ⊢
  split at z
  · exact joinOn_mo h z
  · exact joinOn_mo h z
  · exact z
/-- s.m(e) of a text -/
def dM1 (o : Str → D → (D → Prop) → Prop) (mo m : DE) : DE := fun ρ Q E => mo ρ (fun x => match x with
  | .str a => m ρ (fun y => o a y Q) E
  | _ => False) E
theorem mo_m1 {o : Str → D → (D → Prop) → Prop} (ho : ∀ a y Q Q', (∀ d, Q d → Q' d) → o a y Q → o a y Q') (h1 : Mo mo') (h2 : Mo m) : Mo (dM1 o mo' m) := fun ρ Q Q' E E' q hx x => h1 ρ _ _ _ _ (fun d z => by
  cases d <;> first
    | exact h2 ρ _ _ _ _ (fun _ y => ho _ _ _ _ q y) hx z
    | exact z) hx x
theorem d_m1 {id : String} {name : Str} {apos : Pos} {r : V → List V → Hp → VK → Prop} {o' : Str → D → (D → Prop) → Prop} (slot : Slot "str" name id) (ty : typeOf (.builtin id) = pure (.type "method_descriptor")) (rule : MtR X id r)
    (hr : ∀ G H a vy y Q, Good X.K L.B G H → Rp X.K G vy y → o' a y (kv X.K L.B G H Q) → r (.str a) [vy] H Q) (mo1 : ∀ a y Q Q', (∀ d, Q d → Q' d) → o' a y Q → o' a y Q') (ho : DPE X L o mo') (he : DPE X L e m)
    (hs : starEach [e] X.env = [(false, eval e X.env)]) (hbase : attributeBase o name X.env (eval o X.env) = eval o X.env) (hline : (apos.endLine == pos.line) = true) :
    DPE X L (.Call (.Attribute o name apos) [e] [] pos) (dM1 o' mo' m) := by
  refine ⟨mo_m1 mo1 ho.mo he.mo, pe_imp (pe_m1 slot ty rule ho.run he.run hs hbase hline) fun σ H Q ⟨G, ρ, g, rs, q⟩ => ?_⟩
  refine up_of ho.mo g rs q fun x v G1 H1 q1 s1 r1 => ?_
  cases r1 with
  | str a =>
    refine ⟨⟨a, rfl⟩, up_of he.mo s1.good (rs.step s1) (mo_step he.mo s1 q1) fun y vy G2 H2 q2 s2 r2 => ?_⟩
    exact hr G2 H2 a vy y Q s2.good r2 (mo1 _ _ _ _ (fun _ z => z.step (s1.trans s2)) q2)
  | non => exact q1.elim
  | bl => exact q1.elim
  | int => exact q1.elim
  | opq => exact q1.elim
  | lst => exact q1.elim
  | tup => exact q1.elim
  | dic => exact q1.elim
  | ins => exact q1.elim
theorem d_join {apos : Pos} (ho : DPE X L o mo') (he : DPE X L e m) (hs : starEach [e] X.env = [(false, eval e X.env)]) (hbase : attributeBase o "join" X.env (eval o X.env) = eval o X.env) (hline : (apos.endLine == pos.line) = true) :
    DPE X L (.Call (.Attribute o "join" apos) [e] [] pos) (dM1 joinD mo' m) := by
  refine d_m1 F.slot_str_join F.type_str_join mt_join (fun G H a vy y Q g ry h => ?_) joinD_mo ho he hs hbase hline
  unfold joinD at h
  split at h
  · unfold joinOn at h
    split at h
    · rename_i ys e1
      cases ry with
      | lst sq rl => exact ⟨a, _, ys, rfl, rfl, .inl (by rw [← toSs_vs rl e1]; exact g.sub.lstL sq), h.1, h.2 _ _ _ (Step.refl g) (.str _)⟩
    · exact h.elim
  · unfold joinOn at h
    split at h
    · rename_i ys e1
      cases ry with
      | tup sq rl => exact ⟨a, _, ys, rfl, rfl, .inr (by rw [← toSs_vs rl e1]; exact g.sub.sqT sq), h.1, h.2 _ _ _ (Step.refl g) (.str _)⟩
    · exact h.elim
  · exact h.elim
end
end DV
set_option Elab.async false
set_option linter.all false
set_option maxRecDepth 100000
set_option maxHeartbeats 4000000
namespace DV
open PySem PySem.Spec PyProof.Rows L2
/-! ### zip of two lists, tuples, texts -/
inductive Src where
  | lst (a : Addr) | tup (a : Addr) | str (y : Str)
def SrcAt (K : PySem.W.Frag) (H : Hp) : Src → List V → Prop
  | .lst a, xs => SqL K H a xs
  | .tup a, xs => SqT K H a xs
  | .str y, xs => xs = y.cps.toList.map fun c => V.str ⟨#[c]⟩
def Src.fp : Src → List Addr
  | .lst a => [a]
  | .tup a => [a]
  | .str _ => []
/-- the iterator at it of the source stands at i -/
def Src.pos (s : Src) (it : Addr) (i : Nat) (h : Heap) : Prop := match s with
  | .lst a => h.IsListIter it a i
  | .tup a => h.IsTupleIter it a i
  | .str y => ∃ t, h.IsStrIter it (strIterType y) y t i
def SrcV (v : V) (s : Src) : Prop := match s with
  | .lst a => v = .ref a
  | .tup a => v = .ref a
  | .str y => v = .str y
theorem Src.pos_at {s : Src} {it : Addr} {i : Nat} {h h' : Heap} (p : s.pos it i h) (k : ∀ o, h.get? it = some o → h'.get? it = some o) : s.pos it i h' := by
  cases s with
  | lst a => exact p.at k
  | tup a => exact p.at k
  | str y => obtain ⟨t, o, e, r⟩ := p; exact ⟨t, o, k _ e, r⟩
theorem Src.pos_obj {s : Src} {it : Addr} {i : Nat} {h : Heap} (p : s.pos it i h) : ∃ o, h.get? it = some o ∧ ∀ v, o.data ≠ .cell v := by
  cases s with
  | lst a => obtain ⟨o, e, _, d⟩ := p; exact ⟨o, e, fun v q => by rw [d] at q; cases q⟩
  | tup a => obtain ⟨o, e, _, d⟩ := p; exact ⟨o, e, fun v q => by rw [d] at q; cases q⟩
  | str y => obtain ⟨t, o, e, _, d⟩ := p; exact ⟨o, e, fun v q => by rw [d] at q; cases q⟩
section
variable {X : Cx} {pins : List (Addr × Obj)} {σ : L2.St} {H : Hp} {s : Shared}
theorem src_inj (I : Inv X pins σ H s) {r : Src} {xs ys : List V} (h1 : SrcAt X.K H r xs) (h2 : SrcAt X.K H r ys) : xs = ys := by
  cases r with
  | lst a => exact I.list_inj h1 h2
  | tup a => exact I.tuple_inj h1 h2
  | str y => exact h1.trans h2.symm
/-- what the source's iterator draws, where it stands -/
theorem src_draws (I : Inv X pins σ H s) {r : Src} {xs : List V} {it : Addr} {i : Nat} (h : SrcAt X.K H r xs) (p : r.pos it i s.heap) (A : Around) (hh : A.handled = none) (ne : it ∉ r.fp) :
    ∃ (fp : List Addr) (P : Nat → Value → Prop) (St : Nat → Heap → Prop), fp = it :: r.fp ∧ Draws X.prog X.w A it fp xs.length P St ∧ St i s.heap ∧ (∀ j u, P j u → ∃ x, xs[j]? = some x ∧ RelV x u) ∧ ∀ j h, St j h → r.pos it j h := by
  cases r with
  | lst a =>
    obtain ⟨its, rv, pl, _⟩ := I.list h
    refine ⟨[it, a], fun i v => its.toArray[i]? = some v, fun i h => h.IsListIter it a i ∧ h.IsList a its.toArray, rfl, by rw [rv.length]; exact Draws.list hh it a (fun z => ne (by simp [Src.fp, z])) its.toArray, ⟨p, pl.isList⟩, fun j u hj => ?_, fun j h st => st.1⟩
    have hj' : its[j]? = some u := by simpa using hj
    cases e : xs[j]? with
    | none => rw [rv.none_of e] at hj'; cases hj'
    | some x =>
      obtain ⟨u', e2, r2⟩ := rv.get e
      rw [hj'] at e2
      cases e2
      exact ⟨x, rfl, r2⟩
  | tup a =>
    obtain ⟨its, rv, pl, _⟩ := I.tuple h
    refine ⟨[it, a], fun i v => its.toArray[i]? = some v, fun i h => h.IsTupleIter it a i ∧ h.IsTuple a its.toArray, rfl, by rw [rv.length]; exact Draws.tuple hh it a (fun z => ne (by simp [Src.fp, z])) its.toArray, ⟨p, pl⟩, fun j u hj => ?_, fun j h st => st.1⟩
    have hj' : its[j]? = some u := by simpa using hj
    cases e : xs[j]? with
    | none => rw [rv.none_of e] at hj'; cases hj'
    | some x =>
      obtain ⟨u', e2, r2⟩ := rv.get e
      rw [hj'] at e2
      cases e2
      exact ⟨x, rfl, r2⟩
  | str y =>
    obtain ⟨t, p⟩ := p
    have h : xs = y.cps.toList.map fun c => V.str ⟨#[c]⟩ := h
    refine ⟨[it], _, _, rfl, by rw [h, List.length_map, Array.length_toList]; exact Draws.text hh it y t, p, fun j u hj => ?_, fun j h st => ⟨t, st⟩⟩
    obtain ⟨c, u', e, rfl⟩ := hj
    refine ⟨.str ⟨#[c]⟩, ?_, ⟨u', rfl⟩⟩
    rw [h, List.getElem?_map, Array.getElem?_toList, e]
    rfl
end
def Itzz (K : PySem.W.Frag) (r1 r2 : Src) : It :=
  ⟨fun i H => ∃ (xs ys : List V) (x y : V), SrcAt K H r1 xs ∧ SrcAt K H r2 ys ∧ xs[i]? = some x ∧ ys[i]? = some y,
    fun i H v H' => ∃ T x y, v = .ref T ∧ H T = none ∧ H' = upd H T (.tup [x, y]) ∧ (∀ xs, SrcAt K H r1 xs → xs[i]? = some x) ∧ ∀ ys, SrcAt K H r2 ys → ys[i]? = some y,
    fun i H => ∃ xs ys : List V, SrcAt K H r1 xs ∧ SrcAt K H r2 ys ∧ i = min xs.length ys.length⟩
theorem turn_zz {P : Program} {w : World} {K : PySem.W.Frag} {elts : List Expr} {kk : Nat} {tpos : Pos} {z TI TO i1 i2 : Addr} {r1 r2 : Src} (S : ZipSep2 z TI TO i1 i2 (i1 :: r1.fp) (i2 :: r2.fp)) (n1 : i1 ∉ r1.fp) (n2 : i2 ∉ r2.fp) (nTI : TI ∉ r1.fp ∧ TI ∉ r2.fp) :
    Turn P w K (.Tuple elts kk tpos) (Itzz K r1 r2) [z, TI, TO, i1, i2] z (fun i h => IsZip h z TI TO .none ∧ IsTupOf2 h TI (.ref i1) (.ref i2) ∧ (∃ x y, IsTupOf2 h TO x y) ∧ r1.pos i1 i h ∧ r2.pos i2 i h) where
  mem := by simp
  obj := fun i h st c hc => by
    obtain ⟨hz, hTI, ⟨x, y, hTO⟩, p1, p2⟩ := st
    have e' : c = z ∨ c = TI ∨ c = TO ∨ c = i1 ∨ c = i2 := by simpa using hc
    rcases e' with q | q | q | q | q
    · rw [q]; exact ⟨_, hz, fun v q => nomatch q⟩
    · rw [q]; exact ⟨_, hTI, fun v q => nomatch q⟩
    · rw [q]; exact ⟨_, hTO, fun v q => nomatch q⟩
    · rw [q]; exact Src.pos_obj p1
    · rw [q]; exact Src.pos_obj p2
  keep := fun i h h' st k => by
    obtain ⟨hz, hTI, ⟨x, y, hTO⟩, p1, p2⟩ := st
    exact ⟨k z (by simp) _ hz, k TI (by simp) _ hTI, ⟨x, y, k TO (by simp) _ hTO⟩, Src.pos_at p1 fun o q => k i1 (by simp) o q, Src.pos_at p2 fun o q => k i2 (by simp) o q⟩
  item := by
    intro X hP hw hK hc i pins s σ H E I hf st hg
    subst hP hw hK
    obtain ⟨hz, hTI, hTO, p1, p2⟩ := st
    obtain ⟨xs, ys, x, y, q1, q2, hx, hy⟩ := hg
    have hh : X.A.in1.handled = none := I.ok.hd hc
    obtain ⟨fp1, P1, St1, rfl, D1, st1, rel1, pos1⟩ := src_draws I q1 p1 X.A.in1 hh n1
    obtain ⟨fp2, P2, St2, rfl, D2, st2, rel2, pos2⟩ := src_draws I q2 p2 X.A.in1 hh n2
    have W := WalksT.zipD2 (A := X.A) S D1 D2
    have hi : i < min xs.length ys.length := by
      have a := getElem?_lt hx
      have b := getElem?_lt hy
      omega
    refine W.item i s _ E hi ⟨hz, hTI, hTO, st1, st2⟩ fun T vals h' tk hp hT hTup mid keep => ?_
    refine ⟨_, rfl, W.go elts kk tpos i T { s with heap := h', toks := tk } _ E mid fun h2 stn keep2 => ?_⟩
    obtain ⟨u, v, pu, pv, rfl⟩ := hp
    obtain ⟨x', ex, ru⟩ := rel1 i u pu
    obtain ⟨y', ey, rv⟩ := rel2 i v pv
    rw [hx] at ex
    rw [hy] at ey
    cases ex
    cases ey
    have nT : T ∉ [z, TO, i1, i2] := W.apart i T h' mid
    have hT2 : h2.IsTuple T #[u, v] := hTup.at fun o e => keep2 T o nT e
    have new : ObjOk X.prog X.w (upd H T (.tup [x, y])) h2 T (.tup [x, y]) := ⟨by show 2 ≤ sizeLine; decide, [u, v], .cons ru (.cons rv .nil), hT2⟩
    have kk2 : ∀ c o, c ∉ [z, TI, TO, i1, i2] → s.heap.get? c = some o → h2.get? c = some o := fun c o hc e => by
      have n : c ∉ [z, TO, i1, i2] := fun q => hc (by simp at q ⊢; rcases q with q | q | q | q <;> simp [q])
      exact keep2 c o n (keep c o n e)
    have I1 : Inv X pins σ (upd H T (.tup [x, y])) { s with heap := h2, toks := tk } := I.turnedNew (t' := tk) (ch := [z, TI, TO, i1, i2]) kk2 hf hT new
    refine ⟨.ref T, _, I1, rfl, ⟨T, x, y, rfl, I.hok.fresh hT, rfl, fun l hl => by rw [src_inj I hl q1]; exact hx, fun l hl => by rw [src_inj I hl q2]; exact hy⟩, ⟨stn.1, stn.2.1, stn.2.2.1, pos1 _ _ stn.2.2.2.1, pos2 _ _ stn.2.2.2.2⟩, fun c hcm => ?_⟩
    have hlt : c < s.heap.objs.size := by
      have e' : c = z ∨ c = TI ∨ c = TO ∨ c = i1 ∨ c = i2 := by simpa using hcm
      rcases e' with q | q | q | q | q
      · rw [q]; exact Heap.lt_size hz
      · rw [q]; exact Heap.lt_size hTI
      · obtain ⟨a, b, hTO⟩ := hTO
        rw [q]; exact Heap.lt_size hTO
      · rw [q]; obtain ⟨o, e, _⟩ := Src.pos_obj p1; exact Heap.lt_size e
      · rw [q]; obtain ⟨o, e, _⟩ := Src.pos_obj p2; exact Heap.lt_size e
    rw [upd_ne (Nat.ne_of_lt (Nat.lt_of_lt_of_le hlt hT))]
    exact (hf c hcm).1
  done := by
    intro X hP hw hK hc i pins s σ H E I hf st hg
    subst hP hw hK
    obtain ⟨hz, hTI, hTO, p1, p2⟩ := st
    obtain ⟨xs, ys, q1, q2, hend⟩ := hg
    have hh : X.A.in1.handled = none := I.ok.hd hc
    obtain ⟨fp1, P1, St1, rfl, D1, st1, rel1, pos1⟩ := src_draws I q1 p1 X.A.in1 hh n1
    obtain ⟨fp2, P2, St2, rfl, D2, st2, rel2, pos2⟩ := src_draws I q2 p2 X.A.in1 hh n2
    have W := WalksT.zipD2 (A := X.A) S D1 D2
    subst hend
    refine W.done s _ E ⟨hz, hTI, hTO, st1, st2⟩ fun h' tk keep => ⟨rfl, I.turnedL (t' := tk) (ch := [z, TI, TO, i1, i2]) (fun c o hc e => ?_) hf⟩
    exact keep c o (fun q => hc (by simp at q ⊢; rcases q with q | q | q | q <;> simp [q])) e
  self := fun A i s Q E st h => wpAny_pyIter_zip st.1 h
section
variable {X : Cx} {L : Pl} {pins : List (Addr × Obj)} {σ : L2.St} {H : Hp} {s : Shared} {e e2 : Expr} {mA : DA} {pos p : Pos}
theorem src_begins (I : Inv X pins σ H s) {r : Src} {xs : List V} {v : V} {u : Value} (hv : SrcV v r) (h : SrcAt X.K H r xs) (ru : RelV v u) :
    ∃ (o : Obj) (Hc : Heap → Prop), Begins u o Hc ∧ Hc s.heap ∧ (∀ it h', h'.get? it = some o → r.pos it 0 h') ∧ ∀ b ∈ r.fp, b < s.heap.objs.size := by
  cases r with
  | lst a =>
    cases (show v = .ref a from hv)
    cases ru
    obtain ⟨its, rv, pl, _⟩ := I.list h
    refine ⟨_, _, begins_list a its.toArray, pl.isList, fun it h' e => ⟨_, e, rfl, rfl⟩, fun b hb => ?_⟩
    have hb : b = a := by simpa [Src.fp] using hb
    rw [hb]
    obtain ⟨o, e, _⟩ := pl.isList
    exact Heap.lt_size e
  | tup a =>
    cases (show v = .ref a from hv)
    cases ru
    obtain ⟨its, rv, pl, _⟩ := I.tuple h
    refine ⟨_, _, begins_tuple a its.toArray, pl, fun it h' e => ⟨_, e, rfl, rfl⟩, fun b hb => ?_⟩
    have hb : b = a := by simpa [Src.fp] using hb
    rw [hb]
    obtain ⟨o, e, _⟩ := (show s.heap.IsTuple a its.toArray from pl)
    exact Heap.lt_size e
  | str y =>
    cases (show v = .str y from hv)
    obtain ⟨t, rfl⟩ := ru
    exact ⟨_, _, begins_text y t, trivial, fun it h' e => ⟨t, _, e, rfl, rfl⟩, fun b hb => by cases hb⟩
def iZz (K : PySem.W.Frag) (ta : TA) : TI := fun σ H R => ta σ H fun vs H1 => ∃ v1 v2 r1 r2, vs = [v1, v2] ∧ SrcV v1 r1 ∧ SrcV v2 r2 ∧ (∃ xs, SrcAt K H1 r1 xs) ∧ (∃ ys, SrcAt K H1 r2 ys) ∧ R (Itzz K r1 r2) H1
theorem pi_zz {ta : TA} {tpos : Pos} {elts : List Expr} {kk : Nat} (hg : Gl X "zip") (hm : X.mg "zip" = none) (ha : PA X [e, e2] ta)
    (hs : starEach [e, e2] X.env = (false, eval e X.env) :: starEach [e2] X.env) (hpl : (backTo pos (starEach [e2] X.env)).any (·.1) = false) :
    PI X (.Tuple elts kk tpos) (.Call (.Name "zip" p) [e, e2] [] pos) (iZz X.K ta) := by
  refine ⟨fun pins s σ H R I h => ?_⟩
  refine Call_ (ld_blt I hg hm PyProof.Rows.boot_zip (PyProof.Rows.callWith_type1 (thn (ha.run pos pins s σ H _ I h) fun us s1 ⟨vs, H1, I1, r1, q1⟩ => ?_) hs hpl))
  obtain ⟨v1, v2, c1, c2, ex, k1, k2, ⟨xs, a1⟩, ⟨ys, a2⟩, q⟩ := q1
  subst ex
  cases r1 with
  | cons r rr =>
    cases rr with
    | cons r' rr =>
      cases rr
      obtain ⟨o1, Hc1, B1, h1, p1, f1⟩ := src_begins I1 k1 a1 r
      obtain ⟨o2, Hc2, B2, h2, p2, f2⟩ := src_begins I1 k2 a2 r'
      refine zip_begins2 B1 B2 h1 h2 fun h' hz hTI hTO g1 g2 hsz hk => ?_
      refine wpAny_pyIter_zip hz ?_
      have S := zip_sep2 (N := s1.heap.objs.size) f1 f2
      have nf : ∀ {fp : List Addr} {c : Addr}, (∀ b ∈ fp, b < s1.heap.objs.size) → s1.heap.objs.size ≤ c → c ∉ fp := fun hf hc z => absurd (Nat.lt_of_lt_of_le (hf _ z) hc) (Nat.lt_irrefl _)
      have I2 : Inv X pins σ H1 { s1 with heap := h' } := I1.kept (t' := s1.toks) hk
      refine ⟨s1.heap.objs.size + 4, [s1.heap.objs.size + 4, s1.heap.objs.size + 2, s1.heap.objs.size + 3, s1.heap.objs.size, s1.heap.objs.size + 1], _, _, H1, rfl, I2,
        turn_zz S (nf f1 (Nat.le_refl _)) (nf f2 (Nat.le_succ _)) ⟨nf f1 (Nat.le_add_right _ _), nf f2 (Nat.le_add_right _ _)⟩, ⟨hz, hTI, ⟨_, _, hTO⟩, p1 _ _ g1, p2 _ _ g2⟩, fun b hb => ?_, q⟩
      have hb' : s1.heap.objs.size ≤ b := by
        have e' : b = s1.heap.objs.size + 4 ∨ b = s1.heap.objs.size + 2 ∨ b = s1.heap.objs.size + 3 ∨ b = s1.heap.objs.size ∨ b = s1.heap.objs.size + 1 := by simpa using hb
        rcases e' with q | q | q | q | q <;> rw [q]
        · exact Nat.le_add_right _ _
        · exact Nat.le_add_right _ _
        · exact Nat.le_add_right _ _
        · exact Nat.le_refl _
        · exact Nat.le_succ _
      exact I1.fpOk hb' (I1.hok.fresh hb')
def zipL (xs ys : List D) : List D := List.zipWith (fun a b => .tup [a, b]) xs ys
def zipD : List D → (List D → Prop) → Prop
  | [x, y], Q => itemsD x fun xs => itemsD y fun ys => Q (zipL xs ys)
  | _, _ => False
theorem zipD_mo {x : List D} {Q Q' : List D → Prop} (h : ∀ d, Q d → Q' d) (z : zipD x Q) : zipD x Q' := by
  unfold zipD at z ⊢
  split at z
  · exact itemsD_mo (fun _ y => itemsD_mo (fun _ w => h _ w) y) z
  · exact z
def dZip (mA : DA) : DA := fun ρ Q E => mA ρ (fun xs => zipD xs Q) E
/-- a datum that is walked, as a source -/
theorem src_of {K : PySem.W.Frag} {G : Hp} {v : V} {d : D} {Q : List D → Prop} (r : Rp K G v d) (h : itemsD d Q) : ∃ (c : Src) (xs : List V) (ds : List D), SrcV v c ∧ RpL K G xs ds ∧ (∀ H, Sub G H → SrcAt K H c xs) ∧ Q ds := by
  cases r with
  | lst s l => exact ⟨.lst _, _, _, rfl, l, fun H sb => sb.lstL s, h⟩
  | tup s l => exact ⟨.tup _, _, _, rfl, l, fun H sb => sb.sqT s, h⟩
  | str y =>
    refine ⟨.str y, _, charsD y, rfl, ?_, fun H _ => rfl, h⟩
    have : ∀ cs : List Nat, RpL K G (cs.map fun c => V.str ⟨#[c]⟩) (cs.map fun c => D.str ⟨#[c]⟩) := fun cs => by
      induction cs with
      | nil => exact .nil
      | cons c r ih => exact .cons (.str _) ih
    exact this _
  | non => exact h.elim
  | bl => exact h.elim
  | int => exact h.elim
  | opq => exact h.elim
  | dic => exact h.elim
  | ins => exact h.elim
theorem itd_zz {K : PySem.W.Frag} {B : Bo} {G0 : Hp} {c1 c2 : Src} {xs ys : List V} {ds es : List D} (r1 : RpL K G0 xs ds) (r2 : RpL K G0 ys es) (a1 : ∀ H, Sub G0 H → SrcAt K H c1 xs) (a2 : ∀ H, Sub G0 H → SrcAt K H c2 ys) : ItD K B G0 (Itzz K c1 c2) (zipL ds es) := fun i G H g sb => by
  have sH := sb.trans g.sub
  have hl : (zipL ds es).length = min xs.length ys.length := by simp [zipL, r1.length, r2.length]
  refine ⟨fun d e => ?_, fun h => ⟨xs, ys, a1 H sH, a2 H sH, by rw [← hl]; exact h⟩⟩
  unfold zipL at e
  rw [List.getElem?_zipWith] at e
  split at e
  · rename_i d1 d2 e1 e2
    cases e
    obtain ⟨v1, f1, q1⟩ := r1.get e1
    obtain ⟨v2, f2, q2⟩ := r2.get e2
    refine ⟨⟨xs, ys, v1, v2, a1 H sH, a2 H sH, f1, f2⟩, fun x H' y => ?_⟩
    obtain ⟨T, x', y', rfl, nT, rfl, g1, g2⟩ := y
    have h1 := g1 xs (a1 H sH)
    have h2 := g2 ys (a2 H sH)
    rw [f1] at h1
    rw [f2] at h2
    cases h1
    cases h2
    exact ⟨_, Step.new g nT, new_tup g nT (.cons (q1.mono sb) (.cons (q2.mono sb) .nil))⟩
  · cases e
theorem d_zip {tpos : Pos} {elts : List Expr} {kk : Nat} (hg : Gl X "zip") (hm : X.mg "zip" = none) (ha : DPA X L [e, e2] mA)
    (hs : starEach [e, e2] X.env = (false, eval e X.env) :: starEach [e2] X.env) (hpl : (backTo pos (starEach [e2] X.env)).any (·.1) = false) :
    DPI X L (.Tuple elts kk tpos) (.Call (.Name "zip" p) [e, e2] [] pos) (dZip mA) := by
  refine ⟨fun ρ Q Q' E E' q hx x => ha.mo ρ _ _ _ _ (fun _ z => zipD_mo q z) hx x, pi_imp (pi_zz hg hm ha.run hs hpl) fun σ H Q ⟨G, ρ, g, rs, q⟩ => ?_⟩
  refine upA_of ha.mo g rs q fun xs vs G1 H1 q1 s1 r1 => ?_
  unfold zipD at q1
  split at q1
  · cases r1 with
    | cons r2 r3 =>
      cases r3 with
      | cons r4 r5 =>
        cases r5
        obtain ⟨c1, xs1, ds1, k1, l1, a1, q1⟩ := src_of r2 q1
        obtain ⟨c2, xs2, ds2, k2, l2, a2, q1⟩ := src_of r4 q1
        exact ⟨_, _, c1, c2, rfl, k1, k2, ⟨_, a1 _ s1.good.sub⟩, ⟨_, a2 _ s1.good.sub⟩, q1 _ _ _ s1 (itd_zz l1 l2 a1 a2)⟩
  · exact q1.elim
end
end DV
set_option Elab.async false
set_option linter.all false
set_option maxRecDepth 100000
set_option maxHeartbeats 4000000
namespace DV
open PySem PySem.Spec PyProof.Rows L2
/-! ### comprehensions read -/
/-- one turn: Qy where an item is kept, Qs where not -/
def elW (g : DG) (tt : DT) (te : DE) (ρ : Slots) (d : D) (Qy : D → Prop) (Qs : Prop) : Prop :=
  g d ρ fun ρ' => tt ρ' (fun c => bc c (te ρ' Qy (fun _ => False)) Qs) (fun _ => False)
theorem lcW_cons {g : DG} {tt : DT} {te : DE} {ρ : Slots} {d : D} {ds acc : List D} {Q : D → Prop} (h : elW g tt te ρ d (fun y => acc.length < sizeLine ∧ lcW g tt te ρ ds (acc ++ [y]) Q) (lcW g tt te ρ ds acc Q)) : lcW g tt te ρ (d :: ds) acc Q := h
/-- each turn gives what f tells -/
theorem lcW_fm {g : DG} {tt : DT} {te : DE} {ρ : Slots} (f : D → Option D) {Q : D → Prop} : ∀ {ds acc : List D}, (∀ d ∈ ds, ∀ (Qy : D → Prop) (Qs : Prop), (∀ y, f d = some y → Qy y) → (f d = none → Qs) → elW g tt te ρ d Qy Qs) → acc.length + ds.length ≤ sizeLine →
    Q (.lst (acc ++ ds.filterMap f)) → lcW g tt te ρ ds acc Q
  | [], acc, _, _, q => by simpa [lcW] using q
  | d :: ds, acc, h, hl, q => by
    have hl' : acc.length + (ds.length + 1) ≤ sizeLine := hl
    refine lcW_cons (h d List.mem_cons_self _ _ (fun y e => ⟨by omega, lcW_fm f (fun d' m => h d' (List.mem_cons_of_mem _ m)) (by simp; omega) ?_⟩) (fun e => lcW_fm f (fun d' m => h d' (List.mem_cons_of_mem _ m)) (by omega) ?_))
    · rw [List.filterMap_cons, e] at q
      simpa using q
    · rw [List.filterMap_cons, e] at q
      exact q
theorem lcW_map {g : DG} {te : DE} {ρ : Slots} (f : D → D) {Q : D → Prop} {ds acc : List D} (h : ∀ d ∈ ds, ∀ (Qy : D → Prop), Qy (f d) → g d ρ fun ρ' => te ρ' Qy fun _ => False) (hl : acc.length + ds.length ≤ sizeLine) (q : Q (.lst (acc ++ ds.map f))) : lcW g dYes te ρ ds acc Q := by
  refine lcW_fm (fun d => some (f d)) (fun d m Qy Qs h1 _ => ?_) hl (by simpa [List.filterMap_eq_map'] using q)
  exact h d m Qy (h1 _ rfl)
/-- each turn gives something that P tells of -/
inductive Each (P : D → D → Prop) : List D → List D → Prop
  | nil : Each P [] []
  | cons {d y : D} {ds ys : List D} : P d y → Each P ds ys → Each P (d :: ds) (y :: ys)
theorem Each.length {P : D → D → Prop} : ∀ {ds ys : List D}, Each P ds ys → ys.length = ds.length
  | _, _, .nil => rfl
  | _, _, .cons _ r => congrArg (· + 1) r.length
theorem lcW_each {g : DG} {te : DE} {ρ : Slots} (P : D → D → Prop) {Q : D → Prop} : ∀ {ds acc : List D}, (∀ d ∈ ds, ∀ (Qy : D → Prop), (∀ y, P d y → Qy y) → g d ρ fun ρ' => te ρ' Qy fun _ => False) → acc.length + ds.length ≤ sizeLine →
    (∀ ys, Each P ds ys → Q (.lst (acc ++ ys))) → lcW g dYes te ρ ds acc Q
  | [], acc, _, _, q => by simpa [lcW] using q [] .nil
  | d :: ds, acc, h, hl, q => by
    have hl' : acc.length + (ds.length + 1) ≤ sizeLine := hl
    refine h d List.mem_cons_self _ fun y py => ⟨by omega, lcW_each P (fun d' m => h d' (List.mem_cons_of_mem _ m)) (by simp; omega) fun ys r => ?_⟩
    simpa using q (y :: ys) (.cons py r)
theorem toBs_map {α : Type} (f : α → Bool) : ∀ xs : List α, toBs (xs.map fun x => .bl (f x)) = some (xs.map f)
  | [] => rfl
  | x :: xs => by simp [toBs, toBs_map f xs]
theorem allD_of {xs : List D} {bs : List Bool} {Q : D → Prop} (h : toBs xs = some bs) (q : Q (.bl (bs.all id))) : allD [.lst xs] Q := by
  simp only [allD, h]
  exact q
theorem anyD_of {xs : List D} {bs : List Bool} {Q : D → Prop} (h : toBs xs = some bs) (q : Q (.bl (bs.any id))) : anyD [.lst xs] Q := by
  simp only [anyD, h]
  exact q
end DV
set_option Elab.async false
set_option linter.all false
set_option maxRecDepth 100000
set_option maxHeartbeats 4000000
namespace DV
open PySem PySem.Spec PyProof.Rows L2
/-! ### texts as lists of codes; loops by an invariant -/
def co (x : Str) : List Nat := x.cps.toList
theorem co_len (x : Str) : (co x).length = x.length := by simp [co]; rfl
theorem co_app (x y : Str) : co (x ++ y) = co x ++ co y := by
  show (x.cps ++ y.cps).toList = _
  simp [co]
theorem co_inj {x y : Str} (h : co x = co y) : x = y := by
  cases x with
  | mk a =>
    cases y with
    | mk b =>
      have : a = b := Array.toList_inj.mp h
      rw [this]
theorem fold_sing (acc : Array Nat) : ∀ cs : List Nat, ((cs.map fun c => (⟨#[c]⟩ : Str)).foldl (fun acc p => acc ++ (Str.empty).cps ++ p.cps) acc).toList = acc.toList ++ cs
  | [] => by simp
  | c :: cs => by
    rw [List.map_cons, List.foldl_cons, fold_sing _ cs]
    simp [Str.empty]
theorem join_sing (cs : List Nat) : co (Txt.join Str.empty (cs.map fun c => ⟨#[c]⟩)) = cs := by
  cases cs with
  | nil => rfl
  | cons c cs =>
    show (((cs.map fun c => (⟨#[c]⟩ : Str))).foldl (fun acc p => acc ++ (Str.empty).cps ++ p.cps) #[c]).toList = c :: cs
    rw [fold_sing]
    rfl
theorem toSs_map {α : Type} (f : α → Str) : ∀ xs : List α, toSs (xs.map fun x => .str (f x)) = some (xs.map f)
  | [] => rfl
  | x :: xs => by simp [toSs, toSs_map f xs]
theorem co_cut (z : Str) (lo hi : Option Int) : co (cutS z lo hi) = ((co z).drop (HT.sIx z.length 0 lo)).take (HT.sIx z.length z.length hi - HT.sIx z.length 0 lo) := by
  unfold co cutS
  simp
theorem cut_to (z : Str) {k : Int} (h0 : 0 ≤ k) (h1 : k ≤ z.length) : co (cutS z none (some k)) = (co z).take k.toNat := by
  rw [co_cut, HT.sIx_none]
  have e : HT.sIx z.length z.length (some k) = k.toNat := by
    show (if k < 0 then (k + (z.length : Int)).toNat else min k.toNat z.length) = k.toNat
    rw [if_neg (by omega)]
    omega
  rw [e, List.drop_zero, Nat.sub_zero]
theorem cut_from (z : Str) {k : Int} (h0 : 0 ≤ k) (h1 : k ≤ z.length) : co (cutS z (some k) none) = (co z).drop k.toNat := by
  rw [co_cut, HT.sIx_none]
  have e : HT.sIx z.length 0 (some k) = k.toNat := by
    show (if k < 0 then (k + (z.length : Int)).toNat else min k.toNat z.length) = k.toNat
    rw [if_neg (by omega)]
    omega
  rw [e, List.take_of_length_le]
  rw [List.length_drop, co_len]
  omega
/-- a for by what holds between its turns -/
theorem forW_inv {g : DG} {b : DS} {A : DEnds} (I : Slots → Prop) : ∀ {ds : List D} {ρ : Slots}, (∀ d ∈ ds, ∀ ρ, I ρ → ∀ N : Slots → Prop, (∀ r, I r → N r) → g d ρ fun ρ' => b { A with nx := N, ct := N, bk := A.nx } ρ') → (∀ r, I r → A.nx r) → I ρ → forW g b A ds ρ
  | [], _, _, he, hi => he _ hi
  | d :: ds, ρ, h, he, hi => h d List.mem_cons_self ρ hi (forW g b A ds) fun r hr => forW_inv I (fun d' m => h d' (List.mem_cons_of_mem _ m)) he hr
end DV
set_option Elab.async false
set_option linter.all false
set_option maxRecDepth 100000
set_option maxHeartbeats 4000000
namespace LW
open PySem PySem.Spec PyProof.Rows L2 DV
def topS (i : Nat) : Stmt := PySem.Challenge.pw_oncethrough_k01_names_and_numbers.main.body.getD i (.Pass ⟨0, 0, 0, 0⟩)
/-- a def of the text, as a caller takes it -/
structure Gf (K : PySem.W.Frag) (mg : Str → Option Value) (x : Str) (f : Addr) (fd : FuncData) (ps : List Str) : Prop where
  m : mg x = some (.ref f)
  k : PySem.W.keepIn K (.ref f) = true
  b : Binds K fd ps []
abbrev s_box : Stmt := topS 6
abbrev N_box : List Str := ["_law_script", "_law_mixed", "_law_cell"]
theorem sc_box : FnScope N_box ["_law_script"] (defScope s_box) := ⟨rfl, rfl, rfl, by decide +kernel, rfl, by decide +kernel, by decide +kernel⟩
abbrev s_pull : Stmt := topS 7
abbrev N_pull : List Str := ["_law_box_here", "_law_many", "_law_cell", "_law_digit", "_law_twice"]
theorem sc_pull : FnScope N_pull ["_law_box_here", "_law_many"] (defScope s_pull) := ⟨rfl, rfl, rfl, by decide +kernel, rfl, by decide +kernel, by decide +kernel⟩
section
variable {P : Program} {w : World} {K : PySem.W.Frag} {mg : Str → Option Value} {base : Heap}
def spBox (K : PySem.W.Frag) : Sp := fun vs H Q _ => ∃ (a : Addr) (ns : List Int), vs = [.ref a] ∧ SqL K H a (ns.map V.int) ∧
  ∀ (b l : Addr) (m : Int) (ms : List Int) (H' : Hp), Same H H' → H b = none → H' b = some (.lst [.ref l, .int 0, .int 0, .int m, .int 0]) → H' l = some (.lst (ms.map V.int)) → l ≠ b → 0 ≤ m → m < 2147483587 → Q (.ref b) H'
theorem same_upd {H : Hp} {p : Addr} {o : HO} (h : H p = none) : Same H (upd H p o) := fun b x e => by
  rw [upd_ne (ne_of_none e h)]
  exact e
theorem cut_ints (ns : List Int) (lo hi : Option Int) : ∃ ms : List Int, cutV (ns.map V.int) lo hi = ms.map V.int := by
  unfold cutV
  exact ⟨_, by rw [← List.map_drop, ← List.map_take]⟩
theorem ok_box {f : Addr} {fd : FuncData} (F : Fun K "_law_box" "_law_box" s_box f fd) (mi : mg "int" = none) (ml : mg "list" = none) : FnOk P w K mg base CX0 1 f fd ["_law_script"] (spBox K) := by
  refine F.ok sc_box (fun vs H Q E h => ?_) (fun cdv A outer s H vs Q E hr h => ?_)
  · obtain ⟨a, ns, rfl, _⟩ := h
    rfl
  · obtain ⟨a, ns, rfl, hS, q⟩ := h
    refine ⟨_, pss_cons (ps_set (i := 1) sc_box.nd rfl (.inl rfl) pe_int)
      (pss_cons (ps_for PassesOwn.never rfl (pi_list (pe_slice sl_list (pv 0) po_none (po_some pe_int))) (pg_name (i := 2) sc_box.nd rfl (.inl rfl))
        (pss_one (ps_set (i := 1) sc_box.nd rfl (.inl rfl) (pe_op op_mod (pe_callTy call_int1 rfl mi boot_int (pa_cons (pe_op op_add (pe_op op_add (pe_op op_mul (pv 1) pe_int) (pe_op op_mul (pe_op op_mod (pe_callTy call_int1 rfl mi boot_int (pa_cons (pv 2) pa_nil)) pe_int) pe_int)) pe_int) pa_nil)) pe_int))))
      (pss_one (ps_ret (pe_lst (pa_cons (pe_callTy call_list_of rfl ml boot_list (pa_cons (pe_slice sl_list (pv 0) po_none (po_some pe_int)) pa_nil)) (pa_cons pe_int (pa_cons pe_int (pa_cons (pv 1) (pa_cons pe_int pa_nil))))))))), ?_⟩
    obtain ⟨ms, ems⟩ := cut_ints ns none (some 63)
    refine ⟨.ref a, rfl, 63, rfl, a, ns.map V.int, rfl, hS, fun c nc => ?_⟩
    rw [ems]
    have s1 : Same H (upd H c (.lst (ms.map V.int))) := same_upd nc
    refine ⟨c, rfl, ⟨_, .inl (.inl upd_same)⟩, for_list (K := K) (a := c) (xs := ms.map V.int) (fun i σ H' => ∃ (y2 : Option V) (m : Int), σ = [some (.ref a), some (.int m), y2] ∧ 0 ≤ m ∧ m < 2147483587 ∧ H' = upd H c (.lst (ms.map V.int)))
      ⟨none, 12022, rfl, by decide, by decide, rfl⟩ (fun i σ H' _ ⟨_, _, _, _, _, e⟩ => by rw [e]; exact .inl (.inl upd_same)) ?_ ?_⟩
    · rintro i x σ H' hx ⟨y2, m, rfl, m0, m1, rfl⟩
      obtain ⟨z, rfl⟩ : ∃ z, x = V.int z := by
        rw [List.getElem?_map] at hx
        cases e : ms[i]? with
        | none => rw [e] at hx; cases hx
        | some z => rw [e] at hx; exact ⟨z, (Option.some.inj hx).symm⟩
      refine ⟨.int m, rfl, _, _, rfl, rfl, .inr ⟨by decide, by decide⟩, .int z, rfl, .inl ⟨z, rfl, _, _, rfl, rfl, (by decide : (0 : Int) < 1000003), _, _, rfl, rfl, .inr ⟨by decide, by decide⟩, _, _, rfl, rfl, _, _, rfl, rfl, .inl ⟨_, rfl, _, _, rfl, rfl, (by decide : (0 : Int) < 2147483579), ?_⟩⟩⟩
      refine ⟨some (.int z), _, rfl, Int.emod_nonneg _ (by decide), Int.lt_trans (Int.emod_lt_of_pos _ (by decide)) (by decide), rfl⟩
    · rintro σ H' ⟨y2, m, rfl, m0, m1, rfl⟩
      refine ⟨.ref a, rfl, 63, rfl, a, ns.map V.int, rfl, s1.seq hS, fun d nd => ?_⟩
      rw [ems]
      refine ⟨d, _, rfl, .inl (.inl (.inl upd_same)), fun l nl => ?_⟩
      have s2 := same_upd (o := .lst (ms.map V.int)) nd
      have s3 := same_upd (o := .lst (ms.map V.int)) nl
      refine ⟨.int m, rfl, (by show 5 ≤ sizeLine; decide), fun b nb => ?_⟩
      have s4 := same_upd (o := .lst [.ref l, .int 0, .int 0, .int m, .int 0]) nb
      have nlb : l ≠ b := fun e => by rw [← e, upd_same] at nb; cases nb
      have sA := ((s1.trans s2).trans s3)
      exact q b l m ms _ (sA.trans s4) (sA.free nb) upd_same (by rw [upd_ne nlb, upd_same]) nlb m0 m1
end
end LW
set_option Elab.async false
set_option linter.all false
set_option maxRecDepth 100000
set_option maxHeartbeats 4000000
namespace LW
open PySem PySem.Spec PyProof.Rows L2 DV
abbrev bx (l : Addr) (i r m c : Int) : HO := .lst [.ref l, .int i, .int r, .int m, .int c]
theorem at0 {l : Addr} {i r m c : Int} : atI [V.ref l, .int i, .int r, .int m, .int c] 0 = some (.ref l) := rfl
theorem at1 {l : Addr} {i r m c : Int} : atI [V.ref l, .int i, .int r, .int m, .int c] 1 = some (.int i) := rfl
theorem at2 {l : Addr} {i r m c : Int} : atI [V.ref l, .int i, .int r, .int m, .int c] 2 = some (.int r) := rfl
theorem at3 {l : Addr} {i r m c : Int} : atI [V.ref l, .int i, .int r, .int m, .int c] 3 = some (.int m) := rfl
theorem at4 {l : Addr} {i r m c : Int} : atI [V.ref l, .int i, .int r, .int m, .int c] 4 = some (.int c) := rfl
def pullS : DSp := fun ds Q _ => ∃ n : Int, ds = [.int n] ∧ 0 < n ∧ n < 1073741824 ∧ ∀ k, 0 ≤ k → k < n → Q (.int k)
section
variable {P : Program} {w : World} {K : PySem.W.Frag} {mg : Str → Option Value} {base : Heap}
theorem ok_pull {f : Addr} {fd : FuncData} (F : Fun K "_law_pull" "_law_pull" s_pull f fd) (mi : mg "int" = none) (ml : mg "len" = none) (ma : mg "abs" = none) : FnOk P w K mg base CX0 1 f fd ["_law_box_here", "_law_many"] (spB K pullS) := by
  refine F.ok sc_pull (fun vs H Q E ⟨b, l, ws, G, ds, ev, g, r, Q0, E0, h0, _⟩ => ?_) (fun cdv A outer s H vs Q E hr ⟨b, l, ws, G, ds, ev, g, r, Q0, E0, h0, hq, hx⟩ => ?_)
  · obtain ⟨n, rfl, _⟩ := h0
    rw [ev, List.length_cons, r.length]
    rfl
  · obtain ⟨n, rfl, n0, n1, h0⟩ := h0
    subst ev
    cases r with
    | cons r1 r2 =>
    cases r2
    cases r1
    obtain ⟨hid, ns, i, r, m, c, hb, hl, i0, r0, m0, m1, c0⟩ := g.box b l rfl
    have nlb : ∀ (o : HO), SqL K (upd H b o) l (ns.map V.int) := fun o => by
      refine Sub.sqL (fun a u e => ?_) hl
      rw [upd_ne (fun z => by rw [z, hid] at e; cases e)]
      exact g.sub a u e
    have fin : ∀ (k i r m c : Int), 0 ≤ k → k < n → 0 ≤ i → 0 ≤ r → 0 ≤ m → m < 2147483587 → 0 ≤ c → Q (.int k) (upd H b (bx l i r m c)) := fun k i r m c k0 k1 i0 r0 m0 m1 c0 => by
      refine hq (.int k) (h0 k k0 k1) (.int k) G _ ⟨Sub.refl G, ⟨fun a o e => ?_, fun b' l' e => ?_⟩, fun a o e ne => ?_, fun _ _ _ z => z⟩ (.int k)
      · rw [upd_ne (fun z => by rw [z, hid] at e; cases e)]
        exact g.sub a o e
      · cases e
        exact ⟨hid, ns, i, r, m, c, upd_same, hl, i0, r0, m0, m1, c0⟩
      · rw [upd_ne (ne b l rfl)]
        exact e
    refine ⟨_, pss_cons (ps_asg (pe_op op_add (pe_ix ix_list (pv 0) pe_int (fun _ _ => rfl)) pe_int) (pg_sub (pv 0) pe_int set_list))
      (C8.pss_cut (ps_if (PW.pt (pw_and (pt_cmpR op_eq (pe_ix ix_list (pv 0) pe_int (fun _ _ => rfl)) pe_int (nomark _)) (pw_and1 (pt_cmpR op_lt (pe_ix ix_list (pv 0) pe_int (fun _ _ => rfl)) (pe_callB call_len rfl ml boot_len (pa_cons (pe_ix ix_list (pv 0) pe_int (fun _ _ => rfl)) pa_nil)) (nomark _)))))
        (pss_cons (ps_set (i := 2) sc_pull.nd rfl (.inl rfl) (pe_ix ix_list (pe_ix ix_list (pv 0) pe_int (fun _ _ => rfl)) (pe_ix ix_list (pv 0) pe_int (fun _ _ => rfl)) (fun _ _ => rfl)))
        (pss_cons (ps_asg (pe_op op_add (pe_ix ix_list (pv 0) pe_int (fun _ _ => rfl)) pe_int) (pg_sub (pv 0) pe_int set_list))
        (pss_one (ps_if (pt_cmpR op_ge (pe_callB call_abs rfl ma boot_abs (pa_cons (pv 2) pa_nil)) (pe_op op_pow pe_int pe_int) (nomark _))
          (pss_one (ps_asg (pe_callB call_abs rfl ma boot_abs (pa_cons (pv 2) pa_nil)) (pg_sub (pv 0) pe_int set_list)))
          (pss_one (ps_asg (pe_op op_mod (pe_callTy call_int1 rfl mi boot_int (pa_cons (pe_op op_add (pe_op op_add (pe_op op_mul (pe_ix ix_list (pv 0) pe_int (fun _ _ => rfl)) pe_int) (pe_op op_mul (pe_op op_mod (pe_callTy call_int1 rfl mi boot_int (pa_cons (pv 2) pa_nil)) pe_int) pe_int)) pe_int) pa_nil)) pe_int) (pg_sub (pv 0) pe_int set_list)))))))
        pss_nil)
      (pss_cons (ps_if (pt_cmpR op_gt (pe_ix ix_list (pv 0) pe_int (fun _ _ => rfl)) pe_int (nomark _))
        (pss_cons (ps_set (i := 3) sc_pull.nd rfl (.inl rfl) (pe_op op_mod (pe_callTy call_int1 rfl mi boot_int (pa_cons (pe_ix ix_list (pv 0) pe_int (fun _ _ => rfl)) pa_nil)) (pv 1)))
        (pss_cons (ps_asg (pe_op op_fdiv (pe_ix ix_list (pv 0) pe_int (fun _ _ => rfl)) (pv 1)) (pg_sub (pv 0) pe_int set_list))
        (pss_one (ps_ret (pv 3)))))
        pss_nil)
      (pss_cons (ps_set (i := 4) sc_pull.nd rfl (.inl rfl) (pe_op op_mod (pe_callTy call_int1 rfl mi boot_int (pa_cons (pe_op op_add (pe_op op_mul (pe_ix ix_list (pv 0) pe_int (fun _ _ => rfl)) (pe_ix ix_list (pv 0) pe_int (fun _ _ => rfl))) (pe_op op_mul (pe_ix ix_list (pv 0) pe_int (fun _ _ => rfl)) pe_int)) pa_nil)) pe_int))
      (pss_cons (ps_asg (pe_op op_mod (pe_callTy call_int1 rfl mi boot_int (pa_cons (pe_op op_add (pe_op op_add (pe_op op_mul (pv 4) pe_int) (pe_op op_mul (pe_ix ix_list (pv 0) pe_int (fun _ _ => rfl)) pe_int)) pe_int) pa_nil)) pe_int) (pg_sub (pv 0) pe_int set_list))
      (pss_one (ps_ret (pe_op op_mod (pe_callTy call_int1 rfl mi boot_int (pa_cons (pe_op op_fdiv (pe_ix ix_list (pv 0) pe_int (fun _ _ => rfl)) pe_int) pa_nil)) (pv 1)))))))), ?_⟩
    have sq : ∀ {H' : Hp} {i r m c : Int}, H' = upd H b (bx l i r m c) → SqL K H' b [.ref l, .int i, .int r, .int m, .int c] := fun e => by
      rw [e]; exact .inl (.inl upd_same)
    -- box[4] = box[4] + 1
    refine ⟨.ref b, rfl, b, _, 4, _, rfl, rfl, .inl (.inl hb), at4, _, _, rfl, rfl, .ref b, rfl, b, _, 4, 4, rfl, rfl, hb, rfl, ?_⟩
    rw [show [V.ref l, .int i, .int r, .int m, .int c].set 4 (.int (c + 1)) = [V.ref l, .int i, .int r, .int m, .int (c + 1)] from rfl]
    refine ⟨fun σ' H' => ∃ (y2 : Option V) (i r m c : Int), σ' = [some (.ref b), some (.int n), y2, none, none] ∧ H' = upd H b (bx l i r m c) ∧ 0 ≤ i ∧ 0 ≤ r ∧ 0 ≤ m ∧ m < 2147483587 ∧ 0 ≤ c, ?_, ?_⟩
    · -- if box[2] == 0 and box[1] < len(box[0])
      have q0 : SqL K (upd H b (bx l i r m (c + 1))) b [.ref l, .int i, .int r, .int m, .int (c + 1)] := sq rfl
      have stop : ∃ (y2 : Option V) (i' r' m' c' : Int), [some (V.ref b), some (V.int n), none, none, none] = [some (.ref b), some (.int n), y2, none, none] ∧ upd H b (bx l i r m (c + 1)) = upd H b (bx l i' r' m' c') ∧ 0 ≤ i' ∧ 0 ≤ r' ∧ 0 ≤ m' ∧ m' < 2147483587 ∧ 0 ≤ c' :=
        ⟨none, i, r, m, c + 1, rfl, rfl, i0, r0, m0, m1, by omega⟩
      refine ⟨.ref b, rfl, b, _, 2, _, rfl, rfl, q0, at2, rfl, _, rfl, ite2 (fun e1 => ?_) (fun e1 => iteF stop)⟩
      refine ⟨.ref b, rfl, b, _, 1, _, rfl, rfl, q0, at1, .ref b, rfl, b, _, 0, _, rfl, rfl, q0, at0, .ref l, _, rfl, .inl ⟨_, nlb _, rfl⟩, _, _, rfl, rfl, _, rfl, ite2 (fun e2 => ?_) (fun e2 => stop)⟩
      have e2 : i < ((ns.map V.int).length : Int) := of_decide_eq_true e2
      rw [List.length_map] at e2
      have hi : i.toNat < ns.length := by omega
      have gi : (ns.map V.int)[i.toNat]? = some (.int ns[i.toNat]) := by
        rw [List.getElem?_map, List.getElem?_eq_getElem hi]; rfl
      have ai : atI (ns.map V.int) i = some (.int ns[i.toNat]) := by
        have := atI_nat gi
        rwa [Int.toNat_of_nonneg i0] at this
      -- cell = box[0][box[1]]; box[1] = box[1] + 1
      refine ⟨.ref b, rfl, b, _, 0, _, rfl, rfl, q0, at0, .ref b, rfl, b, _, 1, _, rfl, rfl, q0, at1, l, _, i, _, rfl, rfl, nlb _, ai, ?_⟩
      refine ⟨.ref b, rfl, b, _, 1, _, rfl, rfl, q0, at1, _, _, rfl, rfl, .ref b, rfl, b, _, 1, 1, rfl, rfl, upd_same, rfl, ?_⟩
      rw [upd_upd, show [V.ref l, .int i, .int r, .int m, .int (c + 1)].set 1 (.int (i + 1)) = [V.ref l, .int (i + 1), .int r, .int m, .int (c + 1)] from rfl]
      have q1 : SqL K (upd H b (bx l (i + 1) r m (c + 1))) b [.ref l, .int (i + 1), .int r, .int m, .int (c + 1)] := sq rfl
      refine ⟨.int ns[i.toNat], rfl, _, rfl, _, _, rfl, rfl, ⟨by decide, by decide, by decide⟩, _, _, rfl, rfl, _, rfl, ite2 (fun e3 => ?_) (fun e3 => ?_)⟩
      · refine ⟨.int ns[i.toNat], rfl, _, rfl, .ref b, rfl, b, _, 2, 2, rfl, rfl, upd_same, rfl, ?_⟩
        rw [upd_upd]
        refine ⟨some (.int ns[i.toNat]), i + 1, _, m, c + 1, rfl, rfl, by omega, ?_, m0, m1, by omega⟩
        split <;> omega
      · refine ⟨.ref b, rfl, b, _, 3, _, rfl, rfl, q1, at3, _, _, rfl, rfl, .inr ⟨by decide, by decide⟩, .int ns[i.toNat], rfl, .inl ⟨_, rfl, _, _, rfl, rfl, (by decide : (0 : Int) < 1000003), _, _, rfl, rfl, .inr ⟨by decide, by decide⟩, _, _, rfl, rfl, _, _, rfl, rfl, .inl ⟨_, rfl, _, _, rfl, rfl, (by decide : (0 : Int) < 2147483587), .ref b, rfl, b, _, 3, 3, rfl, rfl, upd_same, rfl, ?_⟩⟩⟩
        rw [upd_upd]
        exact ⟨some (.int ns[i.toNat]), i + 1, r, _, c + 1, rfl, rfl, by omega, r0, Int.emod_nonneg _ (by decide), Int.emod_lt_of_pos _ (by decide), by omega⟩
    · rintro σ' H' ⟨y2, i, r, m, c, rfl, rfl, i0, r0, m0, m1, c0⟩
      have q0 : SqL K (upd H b (bx l i r m c)) b [.ref l, .int i, .int r, .int m, .int c] := sq rfl
      refine ⟨.ref b, rfl, b, _, 2, _, rfl, rfl, q0, at2, _, _, rfl, rfl, _, rfl, ite2 (fun e1 => ?_) (fun e1 => ?_)⟩
      · refine ⟨.ref b, rfl, b, _, 2, _, rfl, rfl, q0, at2, .inl ⟨_, rfl, .int n, rfl, _, _, rfl, rfl, n0, ?_⟩⟩
        refine ⟨.ref b, rfl, b, _, 2, _, rfl, rfl, q0, at2, .int n, rfl, _, _, rfl, rfl, ⟨n0, n1⟩, .ref b, rfl, b, _, 2, 2, rfl, rfl, upd_same, rfl, .int (r % n), rfl, ?_⟩
        rw [upd_upd]
        exact fin _ i (r / n) m c (Int.emod_nonneg _ (by omega)) (Int.emod_lt_of_pos _ n0) i0 (Int.ediv_nonneg r0 (by omega)) m0 m1 c0
      · refine ⟨.ref b, rfl, b, _, 3, _, rfl, rfl, q0, at3, .ref b, rfl, b, _, 3, _, rfl, rfl, q0, at3, _, _, rfl, rfl, .inl ⟨by omega, by omega⟩, .ref b, rfl, b, _, 4, _, rfl, rfl, q0, at4, _, _, rfl, rfl, .inr ⟨by decide, by decide⟩, _, _, rfl, rfl, .inl ⟨_, rfl, _, _, rfl, rfl, (by decide : (0 : Int) < 2147483543), ?_⟩⟩
        refine ⟨_, rfl, _, _, rfl, rfl, .inr ⟨by decide, by decide⟩, .ref b, rfl, b, _, 3, _, rfl, rfl, q0, at3, _, _, rfl, rfl, .inr ⟨by decide, by decide⟩, _, _, rfl, rfl, _, _, rfl, rfl, .inl ⟨_, rfl, _, _, rfl, rfl, (by decide : (0 : Int) < 2147483587), .ref b, rfl, b, _, 3, 3, rfl, rfl, upd_same, rfl, ?_⟩⟩
        rw [upd_upd]
        refine ⟨.ref b, rfl, b, _, 3, _, rfl, rfl, sq rfl, at3, _, _, rfl, rfl, ⟨by decide, by decide⟩, .inl ⟨_, rfl, .int n, rfl, _, _, rfl, rfl, n0, ?_⟩⟩
        exact fin _ i r _ c (Int.emod_nonneg _ (by omega)) (Int.emod_lt_of_pos _ n0) i0 r0 (Int.emod_nonneg _ (by decide)) (Int.emod_lt_of_pos _ (by decide)) c0
end
end LW
set_option Elab.async false
set_option linter.all false
set_option maxRecDepth 100000
set_option maxHeartbeats 4000000
namespace LW
open PySem PySem.Spec PyProof.Rows L2 DV
theorem hu1 {A : Around} {k : Nat} (hr : Room k A) : A.units + 65 < cLine := by have := hr.un; omega
theorem pass0A {X : Cx} {σ : L2.St} {E : XK} : PassesAt CX0 X σ E := fun _ _ _ _ _ _ h => h.elim
local macro_rules | `(tactic| walk_at "dv") => `(tactic| simp only [dSeq, dIfS, dAnd, dOr, dNot, dTest, dTestB, bD, dCB, dCons, dNil, dVar, dC, dOp, dChain, dAndV, dOrV, dNotV, dIf, dTup, dLst, dRet, dAsg, dgName, isiD, lenD, absD, toIntD, dLc, dIter, itemsD, List.map,  leD, ltD, geD, gtD, ordD, truD, endsD, dNext, List.getElem?_cons_zero, List.getElem?_cons_succ, List.set_cons_zero, List.set_cons_succ])
abbrev s_is_name : Stmt := topS 3
abbrev N_is_name : List Str := ["value", "letter"]
theorem sc_is_name : FnScope N_is_name ["value"] (defScope s_is_name) := ⟨rfl, rfl, rfl, by decide +kernel, rfl, by decide +kernel, by decide +kernel⟩

def letters : List Nat := ("abcdefghijklmnopqrstuvwxyz" : Str).cps.toList
def isName : D → Bool
  | .str x => decide (1 ≤ x.length) && decide (x.length ≤ 6) && x.cps.toList.all fun c => decide (c ∈ letters)
  | _ => false
def nameS : DSp := fun ds Q _ => ∃ d, ds = [d] ∧ (tyD d).isSome = true ∧ (∀ x, d = .str x → x.length ≤ sizeLine) ∧ Q (.bl (isName d))
section
variable {P : Program} {w : World} {K : PySem.W.Frag} {mg : Str → Option Value} {base : Heap}
theorem ok_is_name {f : Addr} {fd : FuncData} (F : Fun K "is_name" "is_name" s_is_name f fd) (m_isinstance : mg "isinstance" = none) (m_str : mg "str" = none) (m_len : mg "len" = none) (m_all : mg "all" = none)
    {tl tg : Tok} (gLetters : mg "LETTERS" = some (.str "abcdefghijklmnopqrstuvwxyz" tl)) (gLongest : mg "LONGEST_NAME" = some (.int 6 tg)) : FnOk P w K mg base CX0 1 f fd ["value"] (spD K nameS) := by
  refine fn_pure F sc_is_name (fun ds Q E h => ?_) (fun cdv A outer s H E hr =>
    (d_scons (d_ifS (DPW.pt (d_wor (d_tnot (d_test (d_callB cd_isi rfl m_isinstance boot_isinstance (d_cons (d_var (i := 0) rfl (.inl rfl) (by decide) (by decide)) (d_cons (d_ty rfl m_str boot_str (by decide) (by decide)) d_nil rfl) rfl) (by decide) (by decide) rfl rfl) (by intro _; rfl))) (d_or1 (d_tnot (d_tchain od_le od_le d_int (d_callB cd_len rfl m_len boot_len (d_cons (d_var (i := 0) rfl (.inl rfl) (by decide) (by decide)) d_nil rfl) (by decide) (by decide) rfl rfl) (d_globI rfl gLongest (by decide)) (by with_unfolding_all rfl)))))) (d_sone (d_ret d_bl)) d_snil)
      (d_sone (d_ret (d_callB (cd_all rfl) rfl m_all boot_all (d_cons (d_lc rfl sc_is_name.nd (d_iter (d_var (i := 0) rfl (.inl rfl) (by decide) (by decide))) (blkOk_by (own := [("letter", 1)]) (N := N_is_name) (sc := defScope s_is_name) (by decide +kernel)) (fun _ _ _ _ _ => (dg_name (i := 1) sc_is_name.nd rfl (.inl rfl) (.inr rfl))) (fun _ _ _ _ _ => d_ifs0) (fun _ _ _ _ _ => (d_cmp (od_in (hu1 hr)) (d_var (i := 1) rfl (.inl rfl) (by decide) (by decide)) (d_globS rfl gLetters (by decide)) rfl)) (by decide +kernel) (fun _ => rfl)) d_nil rfl) (by decide) (by decide) rfl rfl))))) (fun ds Q E h => ?_) (fun ds Q E h => h)
  · obtain ⟨d, rfl, _⟩ := h; rfl
  · obtain ⟨d, rfl, h1, h2, q⟩ := h
    rw [show startD N_is_name [d] = [.sh d, .un] from rfl]
    by_cases hs : isiB d "str" = true
    · obtain ⟨x, rfl⟩ : ∃ x, d = .str x := by cases d <;> first | exact ⟨_, rfl⟩ | simp [isiB, tyD, isT] at hs
      have hx := h2 x rfl
      walk_at "dv"
      refine ⟨by decide, rfl, ?_⟩
      rw [hs]
      refine ⟨hx, ?_⟩
      by_cases c1 : (1 : Int) ≤ x.length
      · rw [decide_eq_true c1]
        by_cases c2 : (x.length : Int) ≤ 6
        · show bc true (bc (!decide ((x.length : Int) ≤ 6)) _ _) _
          rw [decide_eq_true c2]
          refine lcW_map (fun d => .bl (match d with | .str ⟨⟨[c]⟩⟩ => decide (c ∈ letters) | _ => false)) (fun d m Qy hy => ?_) (by
            show 0 + (charsD x).length ≤ sizeLine
            simp [charsD]
            exact hx) ?_
          · obtain ⟨c, _, rfl⟩ := List.mem_map.mp m
            exact hy
          · have e : (charsD x).map (fun d => D.bl (match d with | .str ⟨⟨[c]⟩⟩ => decide (c ∈ letters) | _ => false)) = x.cps.toList.map fun c => .bl (decide (c ∈ letters)) := by
              simp [charsD]
            rw [List.nil_append, e]
            refine allD_of (toBs_map _ _) ?_
            have e2 : isName (.str x) = ((x.cps.toList.map fun c => decide (c ∈ letters)).all id) := by
              have a1 : 1 ≤ x.length := by omega
              have a2 : x.length ≤ 6 := by omega
              simp [isName, List.all_map, a1, a2]
            rw [← e2]
            exact q
        · show bc true (bc (!decide ((x.length : Int) ≤ 6)) _ _) _
          rw [decide_eq_false c2]
          have : isName (.str x) = false := by
            have a2 : ¬ x.length ≤ 6 := by omega
            simp [isName, a2]
          rw [this] at q
          exact q
      · rw [decide_eq_false c1]
        have : isName (.str x) = false := by
          have a2 : ¬ 1 ≤ x.length := by omega
          simp [isName, a2]
        rw [this] at q
        exact q
    · have e : isName d = false := by cases d <;> first | rfl | exact absurd rfl hs
      rw [e] at q
      walk_at "dv"
      refine ⟨by decide, h1, ?_⟩
      rw [Bool.not_eq_true] at hs
      rw [hs]
      exact q
end
end LW
set_option Elab.async false
set_option linter.all false
set_option maxRecDepth 100000
set_option maxHeartbeats 4000000
namespace LW
open PySem PySem.Spec PyProof.Rows L2 DV
local macro_rules | `(tactic| walk_at "dv") => `(tactic| simp only [dSeq, dIfS, dAnd, dOr, dNot, dTest, dTestB, bD, dCB, dCons, dNil, dVar, dC, dOp, dChain, dAndV, dOrV, dNotV, dIf, dTup, dLst, dRet, dAsg, dgName, isiD, lenD, absD, toIntD, dLc, dIter, itemsD, List.map,  leD, ltD, geD, gtD, ordD, truD, endsD, dNext, List.getElem?_cons_zero, List.getElem?_cons_succ, List.set_cons_zero, List.set_cons_succ])
abbrev s_is_number : Stmt := topS 4
abbrev N_is_number : List Str := ["value", "least", "most"]
theorem sc_is_number : FnScope N_is_number ["value", "least", "most"] (defScope s_is_number) := ⟨rfl, rfl, rfl, by decide +kernel, rfl, by decide +kernel, by decide +kernel⟩

def isNum (d : D) (lo hi : Int) : Bool := match d with
  | .int i => decide (lo ≤ i) && decide (i ≤ hi)
  | _ => false
def numS : DSp := fun ds Q _ => ∃ d lo hi, ds = [d, .int lo, .int hi] ∧ (tyD d).isSome = true ∧ Q (.bl (isNum d lo hi))
abbrev s_of : Stmt := topS 8
abbrev N_of : List Str := ["_law_box_here", "_law_some"]
theorem sc_of : FnScope N_of ["_law_box_here", "_law_some"] (defScope s_of) := ⟨rfl, rfl, rfl, by decide +kernel, rfl, by decide +kernel, by decide +kernel⟩

def itemsL : D → List D
  | .lst xs => xs
  | .tup xs => xs
  | .str y => charsD y
  | _ => []
def ofS : DSp := fun ds Q _ => ∃ d, ds = [d] ∧ 0 < (itemsL d).length ∧ (itemsL d).length < 1000000 ∧ ∀ y ∈ itemsL d, Q y
abbrev s_same : Stmt := topS 9
abbrev N_same : List Str := ["_law_found", "_law_due", "_law_a", "_law_b"]
theorem sc_same : FnScope N_same ["_law_found", "_law_due"] (defScope s_same) := ⟨rfl, rfl, rfl, by decide +kernel, rfl, by decide +kernel, by decide +kernel⟩

mutual
def sameD : D → D → Bool
  | .non, .non => true
  | .bl a, .bl b => decide (a = b)
  | .int a, .int b => decide (a = b)
  | .str a, .str b => decide (a = b)
  | .lst xs, .lst ys => sameL xs ys
  | .tup xs, .tup ys => sameL xs ys
  | _, _ => false
def sameL : List D → List D → Bool
  | [], [] => true
  | x :: xs, y :: ys => sameD x y && sameL xs ys
  | _, _ => false
end
/-- plain data, at most so deep -/
def Plain : Nat → D → Prop
  | _, .non => True
  | _, .bl _ => True
  | _, .int _ => True
  | _, .str _ => True
  | n + 1, .lst xs => xs.length ≤ sizeLine ∧ ∀ x ∈ xs, Plain n x
  | n + 1, .tup xs => xs.length ≤ sizeLine ∧ ∀ x ∈ xs, Plain n x
  | _, _ => False
def sameS (n : Nat) : DSp := fun ds Q _ => ∃ a b, ds = [a, b] ∧ Plain n a ∧ Plain n b ∧ Q (.bl (sameD a b))
theorem Plain.ty {n : Nat} {d : D} (h : Plain n d) : (tyD d).isSome = true := by
  cases d <;> cases n <;> first | rfl | exact h.elim
theorem sameL_len {xs ys : List D} (h : xs.length ≠ ys.length) : sameL xs ys = false := by
  induction xs generalizing ys with
  | nil => cases ys with
    | nil => exact absurd rfl h
    | cons => rfl
  | cons x xs ih => cases ys with
    | nil => rfl
    | cons y ys =>
      simp only [List.length_cons, ne_eq, Nat.add_right_cancel_iff] at h
      simp [sameL, ih h]
theorem sameL_zip {xs ys : List D} (h : xs.length = ys.length) : sameL xs ys = ((List.zip xs ys).all fun p => sameD p.1 p.2) := by
  induction xs generalizing ys with
  | nil => cases ys with
    | nil => rfl
    | cons => cases h
  | cons x xs ih => cases ys with
    | nil => cases h
    | cons y ys =>
      simp only [List.length_cons, Nat.add_right_cancel_iff] at h
      simp [sameL, ih h]
theorem zipL_eq (xs ys : List D) : zipL xs ys = (List.zip xs ys).map fun p => .tup [p.1, p.2] := by
  unfold zipL
  rw [List.zip, List.map_zipWith]
section
variable {P : Program} {w : World} {K : PySem.W.Frag} {mg : Str → Option Value} {base : Heap}
theorem ok_is_number {f : Addr} {fd : FuncData} (F : Fun K "is_number" "is_number" s_is_number f fd) (m_isinstance : mg "isinstance" = none) (m_int : mg "int" = none) (m_bool : mg "bool" = none) : FnOk P w K mg base CX0 1 f fd ["value", "least", "most"] (spD K numS) := by
  refine fn_pure F sc_is_number (fun ds Q E h => ?_) (fun cdv A outer s H E hr =>
    (d_sone (d_ret (d_and (d_callB cd_isi rfl m_isinstance boot_isinstance (d_cons (d_var (i := 0) rfl (.inl rfl) (by decide) (by decide)) (d_cons (d_ty rfl m_int boot_int (by decide) (by decide)) d_nil rfl) rfl) (by decide) (by decide) rfl rfl) (d_and (d_not (d_callB cd_isi rfl m_isinstance boot_isinstance (d_cons (d_var (i := 0) rfl (.inl rfl) (by decide) (by decide)) (d_cons (d_ty rfl m_bool boot_bool (by decide) (by decide)) d_nil rfl) rfl) (by decide) (by decide) rfl rfl)) (d_one (d_chain od_le od_le (d_var (i := 1) rfl (.inl rfl) (by decide) (by decide)) (d_var (i := 0) rfl (.inl rfl) (by decide) (by decide)) (d_var (i := 2) rfl (.inl rfl) (by decide) (by decide)) (by with_unfolding_all rfl)))))))) (fun ds Q E h => ?_) (fun ds Q E h => h)
  · obtain ⟨d, lo, hi, rfl, _⟩ := h; rfl
  · obtain ⟨d, lo, hi, rfl, h1, q⟩ := h
    rw [show startD N_is_number [d, .int lo, .int hi] = [.sh d, .sh (.int lo), .sh (.int hi)] from rfl]
    walk_at "dv"
    refine ⟨by decide, h1, ?_⟩
    cases d with
    | int i =>
      refine ⟨by decide, rfl, ?_⟩
      by_cases c1 : lo ≤ i
      · show bc (decide (lo ≤ i)) _ _
        rw [decide_eq_true c1]
        have e : isNum (.int i) lo hi = decide (i ≤ hi) := by simp [isNum, c1]
        rw [e] at q
        exact q
      · show bc (decide (lo ≤ i)) _ _
        rw [decide_eq_false c1]
        have e : isNum (.int i) lo hi = false := by simp [isNum, c1]
        rw [e] at q
        exact q
    | bl b => exact ⟨by decide, rfl, q⟩
    | non => exact q
    | str => exact q
    | lst => exact q
    | tup => exact q
    | dic => exact q
    | opq => cases h1
    | ins => cases h1
theorem ok_of {f fP : Addr} {fd fdP : FuncData} (F : Fun K "_law_of" "_law_of" s_of f fd) (G_pull : FnOk P w K mg base CX0 1 fP fdP ["_law_box_here", "_law_many"] (spB K pullS)) (T_pull : Gf K mg "_law_pull" fP fdP ["_law_box_here", "_law_many"]) (m_len : mg "len" = none) :
    FnOk P w K mg base CX0 2 f fd ["_law_box_here", "_law_some"] (spB K ofS) := by
  refine fn_box F sc_of (fun ds Q E h => ?_) (fun cdv A outer s H E b l hr =>
    (d_sone (d_ret (d_ix (d_var (i := 1) rfl (.inl rfl) (by decide) (by decide)) (d_callX G_pull rfl hr rfl T_pull.m T_pull.k T_pull.b (fun _ => pass0A) (d_cons (d_var (i := 0) rfl (.inl rfl) (by decide) (by decide)) (d_cons (d_callB cd_len rfl m_len boot_len (d_cons (d_var (i := 1) rfl (.inl rfl) (by decide) (by decide)) d_nil rfl) (by decide) (by decide) rfl rfl) d_nil rfl) rfl) (by decide) rfl rfl) (fun _ _ => rfl))))) (fun b ds Q E h => ?_) (fun ds Q E h => h)
  · obtain ⟨d, rfl, _⟩ := h; rfl
  · obtain ⟨d, rfl, h1, h2, q⟩ := h
    rw [show startD N_of [.opq (.ref b), d] = [.sh (.opq (.ref b)), .sh d] from rfl]
    have key : ∀ (xs : List D) (k : Int), 0 ≤ k → k < xs.length → ∃ y, atI xs k = some y ∧ y ∈ xs := fun xs k k0 k1 => by
      have hk : k.toNat < xs.length := by omega
      have e : atI xs ((k.toNat : Nat) : Int) = some xs[k.toNat] := atI_nat (List.getElem?_eq_getElem hk)
      rw [Int.toNat_of_nonneg k0] at e
      exact ⟨_, e, List.getElem_mem hk⟩
    cases d with
    | lst xs =>
      refine ⟨rfl, spM.of ⟨xs.length, rfl, by exact_mod_cast h1, by have : xs.length < 1000000 := h2; omega, fun k k0 k1 => ?_⟩⟩
      obtain ⟨y, e, m⟩ := key xs k k0 k1
      simp only [ixD, e]
      exact q y m
    | tup xs =>
      refine ⟨rfl, spM.of ⟨xs.length, rfl, by exact_mod_cast h1, by have : xs.length < 1000000 := h2; omega, fun k k0 k1 => ?_⟩⟩
      obtain ⟨y, e, m⟩ := key xs k k0 k1
      simp only [ixD, e]
      exact q y m
    | str z =>
      have hz : (charsD z).length = z.length := by simp [charsD]; rfl
      have h1 : 0 < (charsD z).length := h1
      have h2 : (charsD z).length < 1000000 := h2
      rw [hz] at h1 h2
      have hs : z.length ≤ sizeLine := Nat.le_trans (Nat.le_of_lt h2) (by decide)
      refine ⟨hs, rfl, spM.of ⟨z.length, rfl, by exact_mod_cast h1, by omega, fun k k0 k1 => ⟨hs, ?_⟩⟩⟩
      have hk : k.toNat < z.cps.toList.length := by
        have : z.cps.toList.length = z.length := by simp; rfl
        omega
      have e : atI z.cps.toList ((k.toNat : Nat) : Int) = some z.cps.toList[k.toNat] := atI_nat (List.getElem?_eq_getElem hk)
      rw [Int.toNat_of_nonneg k0] at e
      rw [e]
      exact q _ (List.mem_map.mpr ⟨_, List.getElem_mem hk, rfl⟩)
    | non => cases h1
    | bl => cases h1
    | int => cases h1
    | opq => cases h1
    | dic => cases h1
    | ins => cases h1
theorem ok_same {f : Addr} {fd : FuncData} (F : Fun K "_law_same" "_law_same" s_same f fd) (T_same : Gf K mg "_law_same" f fd ["_law_found", "_law_due"]) (m_isinstance : mg "isinstance" = none) (m_list : mg "list" = none) (m_tuple : mg "tuple" = none)
    (m_bool : mg "bool" = none) (m_int : mg "int" = none) (m_str : mg "str" = none) (m_len : mg "len" = none) (m_all : mg "all" = none) (m_zip : mg "zip" = none) : ∀ n : Nat, FnOk P w K mg base CX0 (n + 2) f fd ["_law_found", "_law_due"] (spD K (sameS n)) := by
  have step : ∀ (k : Nat) (S : DSp), FnOk P w K mg base CX0 (k + 1) f fd ["_law_found", "_law_due"] (spD K S) → ∀ (S2 : DSp), (∀ ds Q E, S2 ds Q E → ∃ (n : Nat) (a b : D), ds = [a, b] ∧ Plain n a ∧ Plain n b ∧ Q (.bl (sameD a b)) ∧ ∀ x y Q', (∃ m, n = m + 1 ∧ Plain m x ∧ Plain m y) → Q' (.bl (sameD x y)) → S [x, y] Q' fun _ => False) →
      (∀ ds Q E, S2 ds Q E → S2 ds Q fun _ => False) → FnOk P w K mg base CX0 (k + 2) f fd ["_law_found", "_law_due"] (spD K S2) := by
    intro k S G_same S2 hS noex
    refine fn_pure F sc_same (fun ds Q E h => ?_) (fun cdv A outer s H E hr =>
      (d_scons (d_ifS (DPW.pt (d_wor (d_tcmp od_is (d_var (i := 1) rfl (.inl rfl) (by decide) (by decide)) d_non (nomark _)) (d_or1 (d_tcmp od_is (d_var (i := 0) rfl (.inl rfl) (by decide) (by decide)) d_non (nomark _))))) (d_sone (d_ret (d_and (d_cmp od_is (d_var (i := 1) rfl (.inl rfl) (by decide) (by decide)) d_non (nomark _)) (d_one (d_cmp od_is (d_var (i := 0) rfl (.inl rfl) (by decide) (by decide)) d_non (nomark _)))))) d_snil)
      (d_scons (d_ifS (d_test (d_isiT rfl m_isinstance (d_var (i := 1) rfl (.inl rfl) (by decide) (by decide)) (d_cons (d_ty rfl m_list boot_list (by decide) (by decide)) (d_cons (d_ty rfl m_tuple boot_tuple (by decide) (by decide)) d_nil rfl) rfl) rfl rfl rfl) (by intro _; rfl)) (d_scons (d_ifS (DPW.pt (d_wor (d_tcmp (od_ne hr.units) (d_callB cd_isi rfl m_isinstance boot_isinstance (d_cons (d_var (i := 0) rfl (.inl rfl) (by decide) (by decide)) (d_cons (d_ty rfl m_list boot_list (by decide) (by decide)) d_nil rfl) rfl) (by decide) (by decide) rfl rfl) (d_callB cd_isi rfl m_isinstance boot_isinstance (d_cons (d_var (i := 1) rfl (.inl rfl) (by decide) (by decide)) (d_cons (d_ty rfl m_list boot_list (by decide) (by decide)) d_nil rfl) rfl) (by decide) (by decide) rfl rfl) (nomark _)) (d_or1 (d_tcmp (od_ne hr.units) (d_callB cd_isi rfl m_isinstance boot_isinstance (d_cons (d_var (i := 0) rfl (.inl rfl) (by decide) (by decide)) (d_cons (d_ty rfl m_tuple boot_tuple (by decide) (by decide)) d_nil rfl) rfl) (by decide) (by decide) rfl rfl) (d_callB cd_isi rfl m_isinstance boot_isinstance (d_cons (d_var (i := 1) rfl (.inl rfl) (by decide) (by decide)) (d_cons (d_ty rfl m_tuple boot_tuple (by decide) (by decide)) d_nil rfl) rfl) (by decide) (by decide) rfl rfl) (nomark _))))) (d_sone (d_ret d_bl)) d_snil)
      (d_sone (d_ret (d_and (d_cmp (od_eq hr.units) (d_callB cd_len rfl m_len boot_len (d_cons (d_var (i := 0) rfl (.inl rfl) (by decide) (by decide)) d_nil rfl) (by decide) (by decide) rfl rfl) (d_callB cd_len rfl m_len boot_len (d_cons (d_var (i := 1) rfl (.inl rfl) (by decide) (by decide)) d_nil rfl) (by decide) (by decide) rfl rfl) (nomark _)) (d_one (d_callB (cd_all rfl) rfl m_all boot_all (d_cons (d_lc rfl sc_same.nd (d_zip rfl m_zip (d_cons (d_var (i := 0) rfl (.inl rfl) (by decide) (by decide)) (d_cons (d_var (i := 1) rfl (.inl rfl) (by decide) (by decide)) d_nil rfl) rfl) rfl rfl) (blkOk_by (own := [("_law_a", 2), ("_law_b", 3)]) (N := N_same) (sc := defScope s_same) (by decide +kernel)) (fun _ _ _ _ _ => (dg_tup (n := 2) rfl (dgs_cons (dg_name (i := 2) sc_same.nd rfl (.inl rfl) (.inr rfl)) (dgs_cons (dg_name (i := 3) sc_same.nd rfl (.inl rfl) (.inr rfl)) dgs_nil rfl) rfl) rfl rfl)) (fun _ _ _ _ _ => d_ifs0) (fun _ _ _ _ _ => (d_call G_same hr rfl T_same.m T_same.k T_same.b (fun _ => pass0A) (d_cons (d_var (i := 2) rfl (.inl rfl) (by decide) (by decide)) (d_cons (d_var (i := 3) rfl (.inl rfl) (by decide) (by decide)) d_nil rfl) rfl) (by decide) rfl rfl)) (by decide +kernel) (fun _ => rfl)) d_nil rfl) (by decide) (by decide) rfl rfl)))))) d_snil)
      (d_scons (d_ifS (DPW.pt (d_wor (d_test (d_callB cd_isi rfl m_isinstance boot_isinstance (d_cons (d_var (i := 1) rfl (.inl rfl) (by decide) (by decide)) (d_cons (d_ty rfl m_bool boot_bool (by decide) (by decide)) d_nil rfl) rfl) (by decide) (by decide) rfl rfl) (by intro _; rfl)) (d_or1 (d_test (d_callB cd_isi rfl m_isinstance boot_isinstance (d_cons (d_var (i := 0) rfl (.inl rfl) (by decide) (by decide)) (d_cons (d_ty rfl m_bool boot_bool (by decide) (by decide)) d_nil rfl) rfl) (by decide) (by decide) rfl rfl) (by intro _; rfl))))) (d_sone (d_ret (d_and (d_callB cd_isi rfl m_isinstance boot_isinstance (d_cons (d_var (i := 1) rfl (.inl rfl) (by decide) (by decide)) (d_cons (d_ty rfl m_bool boot_bool (by decide) (by decide)) d_nil rfl) rfl) (by decide) (by decide) rfl rfl) (d_and (d_callB cd_isi rfl m_isinstance boot_isinstance (d_cons (d_var (i := 0) rfl (.inl rfl) (by decide) (by decide)) (d_cons (d_ty rfl m_bool boot_bool (by decide) (by decide)) d_nil rfl) rfl) (by decide) (by decide) rfl rfl) (d_one (d_cmp (od_eq hr.units) (d_var (i := 0) rfl (.inl rfl) (by decide) (by decide)) (d_var (i := 1) rfl (.inl rfl) (by decide) (by decide)) (nomark _))))))) d_snil)
      (d_scons (d_ifS (d_test (d_callB cd_isi rfl m_isinstance boot_isinstance (d_cons (d_var (i := 1) rfl (.inl rfl) (by decide) (by decide)) (d_cons (d_ty rfl m_int boot_int (by decide) (by decide)) d_nil rfl) rfl) (by decide) (by decide) rfl rfl) (by intro _; rfl)) (d_sone (d_ret (d_and (d_callB cd_isi rfl m_isinstance boot_isinstance (d_cons (d_var (i := 0) rfl (.inl rfl) (by decide) (by decide)) (d_cons (d_ty rfl m_int boot_int (by decide) (by decide)) d_nil rfl) rfl) (by decide) (by decide) rfl rfl) (d_one (d_cmp (od_eq hr.units) (d_var (i := 0) rfl (.inl rfl) (by decide) (by decide)) (d_var (i := 1) rfl (.inl rfl) (by decide) (by decide)) (nomark _)))))) d_snil)
      (d_sone (d_ret (d_and (d_callB cd_isi rfl m_isinstance boot_isinstance (d_cons (d_var (i := 0) rfl (.inl rfl) (by decide) (by decide)) (d_cons (d_ty rfl m_str boot_str (by decide) (by decide)) d_nil rfl) rfl) (by decide) (by decide) rfl rfl) (d_and (d_callB cd_isi rfl m_isinstance boot_isinstance (d_cons (d_var (i := 1) rfl (.inl rfl) (by decide) (by decide)) (d_cons (d_ty rfl m_str boot_str (by decide) (by decide)) d_nil rfl) rfl) (by decide) (by decide) rfl rfl) (d_one (d_cmp (od_eq hr.units) (d_var (i := 0) rfl (.inl rfl) (by decide) (by decide)) (d_var (i := 1) rfl (.inl rfl) (by decide) (by decide)) (nomark _)))))))))))) (fun ds Q E h => ?_) noex
    · obtain ⟨n, a, b, rfl, _⟩ := hS ds Q E h; rfl
    · obtain ⟨n, a, b, rfl, pa, pb, q, rec⟩ := hS ds Q E h
      rw [show startD N_same [a, b] = [.sh a, .sh b, .un, .un] from rfl]
      have ta := pa.ty
      have tb := pb.ty
      have core : ∀ (xs ys : List D) (Q' : D → Prop), xs.length ≤ sizeLine → (∃ m, n = m + 1 ∧ (∀ x ∈ xs, Plain m x) ∧ ∀ y ∈ ys, Plain m y) → xs.length = ys.length → Q' (.bl (sameL xs ys)) →
          lcW (dgTup 2 (dgCons (dgName 2) (dgCons (dgName 3) dgNil))) dYes (dCall S (dCons (dVar 2) (dCons (dVar 3) dNil))) [.sh a, .sh b, .un, .un] (zipL xs ys) [] (fun d => allD [d] Q') := by
        intro xs ys Q' hl ⟨m, em, hx, hy⟩ hlen q'
        refine lcW_map (fun d => match d with | .tup [x, y] => .bl (sameD x y) | _ => .non) (fun d md Qy hq => ?_) (by simp [zipL]; omega) ?_
        · rw [zipL_eq] at md
          obtain ⟨⟨x, y⟩, mp, rfl⟩ := List.mem_map.mp md
          have mm : x ∈ xs ∧ y ∈ ys := by
            exact ⟨(List.of_mem_zip mp).1, (List.of_mem_zip mp).2⟩
          exact ⟨rfl, spM.of (rec x y Qy ⟨m, em, hx x mm.1, hy y mm.2⟩ hq)⟩
        · rw [List.nil_append, zipL_eq, List.map_map]
          refine allD_of (toBs_map (fun p : D × D => sameD p.1 p.2) _) ?_
          rw [List.all_map]
          have := sameL_zip hlen
          rw [this] at q'
          exact q'
      cases b with
      | non =>
        cases a <;> first
          | exact q
          | (cases ta; done)
      | lst ys =>
        cases n with
        | zero => exact pb.elim
        | succ n =>
          cases a with
          | lst xs =>
            refine ⟨by decide, rfl, ?_⟩
            refine ⟨by decide, rfl, by decide, rfl, ?_⟩
            refine ⟨by decide, rfl, by decide, rfl, ?_⟩
            by_cases hl : xs.length = ys.length
            · show bc (decide ((xs.length : Int) = ys.length)) _ _
              rw [decide_eq_true (by rw [hl])]
              exact core xs ys Q pa.1 ⟨n, rfl, pa.2, pb.2⟩ hl q
            · show bc (decide ((xs.length : Int) = ys.length)) _ _
              rw [decide_eq_false (by omega)]
              rw [show sameD (.lst xs) (.lst ys) = sameL xs ys by simp [sameD], sameL_len hl] at q
              exact q
          | tup xs => simp only [sameD] at q; (repeat (first | exact q | refine ⟨by decide, rfl, ?_⟩))
          | non => simp only [sameD] at q; (repeat (first | exact q | refine ⟨by decide, rfl, ?_⟩))
          | bl x => simp only [sameD] at q; (repeat (first | exact q | refine ⟨by decide, rfl, ?_⟩))
          | int x => simp only [sameD] at q; (repeat (first | exact q | refine ⟨by decide, rfl, ?_⟩))
          | str x => simp only [sameD] at q; (repeat (first | exact q | refine ⟨by decide, rfl, ?_⟩))
          | opq => cases ta
          | dic => exact pa.elim
          | ins => cases ta
      | tup ys =>
        cases n with
        | zero => exact pb.elim
        | succ n =>
          cases a with
          | tup xs =>
            refine ⟨by decide, rfl, ?_⟩
            refine ⟨by decide, rfl, by decide, rfl, ?_⟩
            refine ⟨by decide, rfl, by decide, rfl, ?_⟩
            by_cases hl : xs.length = ys.length
            · show bc (decide ((xs.length : Int) = ys.length)) _ _
              rw [decide_eq_true (by rw [hl])]
              exact core xs ys Q pa.1 ⟨n, rfl, pa.2, pb.2⟩ hl q
            · show bc (decide ((xs.length : Int) = ys.length)) _ _
              rw [decide_eq_false (by omega)]
              rw [show sameD (.tup xs) (.tup ys) = sameL xs ys by simp [sameD], sameL_len hl] at q
              exact q
          | lst xs => simp only [sameD] at q; (repeat (first | exact q | refine ⟨by decide, rfl, ?_⟩))
          | non => simp only [sameD] at q; (repeat (first | exact q | refine ⟨by decide, rfl, ?_⟩))
          | bl x => simp only [sameD] at q; (repeat (first | exact q | refine ⟨by decide, rfl, ?_⟩))
          | int x => simp only [sameD] at q; (repeat (first | exact q | refine ⟨by decide, rfl, ?_⟩))
          | str x => simp only [sameD] at q; (repeat (first | exact q | refine ⟨by decide, rfl, ?_⟩))
          | opq => cases ta
          | dic => exact pa.elim
          | ins => cases ta
      | bl y =>
        cases a with
        | opq => cases ta
        | ins => cases ta
        | dic => cases n <;> exact pa.elim
        | _ => simp only [sameD] at q; (repeat (first | exact q | refine ⟨by decide, rfl, ?_⟩))
      | int y =>
        cases a with
        | opq => cases ta
        | ins => cases ta
        | dic => cases n <;> exact pa.elim
        | _ => simp only [sameD] at q; (repeat (first | exact q | refine ⟨by decide, rfl, ?_⟩))
      | str y =>
        cases a with
        | opq => cases ta
        | ins => cases ta
        | dic => cases n <;> exact pa.elim
        | _ => simp only [sameD] at q; (repeat (first | exact q | refine ⟨by decide, rfl, ?_⟩))
      | opq => cases tb
      | dic => cases n <;> exact pb.elim
      | ins => cases tb
  intro n
  induction n with
  | zero =>
    refine step 0 (fun _ _ _ => False) ?_ (sameS 0) (fun ds Q E ⟨a, b, e, pa, pb, q⟩ => ⟨0, a, b, e, pa, pb, q, fun x y Q' ⟨m, em, _⟩ => nomatch em⟩) (fun ds Q E h => h)
    exact ⟨fun vs H Q E ⟨_, _, _, _, _, _, h, _⟩ => h.elim, fun A outer s H args us vs Q E _ _ _ _ ⟨_, _, _, _, _, _, h, _⟩ => h.elim⟩
  | succ n ih =>
    exact step (n + 1) (sameS n) ih (sameS (n + 1)) (fun ds Q E ⟨a, b, e, pa, pb, q⟩ => ⟨n + 1, a, b, e, pa, pb, q, fun x y Q' ⟨m, em, px, py⟩ q' => by
      cases em
      exact ⟨x, y, rfl, px, py, q'⟩⟩) (fun ds Q E h => h)
end
end LW
set_option Elab.async false
set_option linter.all false
set_option maxRecDepth 100000
set_option maxHeartbeats 4000000
namespace LW
open PySem PySem.Spec PyProof.Rows L2 DV
local macro_rules | `(tactic| walk_at "dv") => `(tactic| simp only [dSeq, dIfS, dAnd, dOr, dNot, dTest, dTestB, bD, dCB, dCons, dNil, dVar, dC, dOp, dChain, dAndV, dOrV, dNotV, dIf, dTup, dLst, dRet, dAsg, dgName, isiD, lenD, absD, toIntD, dLc, dIter, itemsD, List.map,  leD, ltD, geD, gtD, ordD, truD, endsD, dNext, List.getElem?_cons_zero, List.getElem?_cons_succ, List.set_cons_zero, List.set_cons_succ])
/-! ### the law's own def: the box first, then by value -/
theorem pss_box {X : Cx} {sts : List Stmt} {m : Addr → DS} (h : ∀ (b l : Addr) (H0 : Hp), DPSs X ⟨some (b, l), fun _ _ _ _ => False, H0⟩ sts (m b)) : PSs X sts (fun D σ H => ∃ b l H0, upS X.K ⟨some (b, l), fun _ _ _ _ => False, H0⟩ (m b) D σ H) :=
  ⟨fun pins s σ H D I ⟨b, l, H0, q⟩ => (h b l H0).run.run pins s σ H D I q⟩
def spLaw (K : PySem.W.Frag) : Sp := fun vs H Q _ => ∃ (a : Addr) (ns : List Int), vs = [.ref a] ∧ SqL K H a (ns.map V.int) ∧ ∀ H', Q (.bl true) H'
/-- the slots behind the box -/
def boxed (b : Addr) (n : Nat) : Slots := .un :: .sh (.opq (.ref b)) :: List.replicate n .un
theorem boxed_rp {K : PySem.W.Frag} {B : Bo} {F : Addr → Prop} {G H : Hp} {a b : Addr} {n : Nat} : RpS K B F G H (some (.ref a) :: some (.ref b) :: List.replicate n none) (boxed b n) := by
  refine ⟨by simp [boxed], fun i d e => ?_, fun i d e => ?_, fun i j d e p h => ?_⟩
  · match i, e with
    | 0, e => cases e
    | 1, e => cases e; exact ⟨_, rfl, .opq _⟩
    | i + 2, e =>
      have : (List.replicate n Sl.un)[i]? = some (.sh d) := e
      rw [List.getElem?_replicate] at this
      split at this <;> cases this
  · match i, e with
    | 0, e => cases e
    | 1, e => cases e
    | i + 2, e =>
      have : (List.replicate n Sl.un)[i]? = some (.ow d) := e
      rw [List.getElem?_replicate] at this
      split at this <;> cases this
  · match i, h with
    | 0, h => cases h
    | 1, h => cases h
    | i + 2, h =>
      have : (List.replicate n Sl.un)[i]? = some (.ow d) := h
      rw [List.getElem?_replicate] at this
      split at this <;> cases this
/-- from the box's promise and the rest by value to the reading -/
theorem law_read {K : PySem.W.Frag} {a b l : Addr} {ms : List Int} {mm : Int} {H1 : Hp} {Q : VK} {m : DS} {n : Nat} (mo : MoS m) (hb : H1 b = some (.lst [.ref l, .int 0, .int 0, .int mm, .int 0])) (hl : H1 l = some (.lst (ms.map V.int))) (ne : l ≠ b) (m0 : 0 ≤ mm) (m1 : mm < 2147483587)
    (q : ∀ H', Q (.bl true) H') (h : m (endsD (fun d => d = .bl true) (fun _ => False)) (boxed b n)) :
    upS K ⟨some (b, l), fun _ _ _ _ => False, H1⟩ m { nx := fun _ H' => Q .non H', rt := Q } (some (.ref a) :: some (.ref b) :: List.replicate n none) H1 := by
  refine ⟨fun x => if x = b then none else H1 x, boxed b n, ⟨fun x o e => ?_, fun b' l' e => ?_⟩, boxed_rp, mo (endsD (fun d => d = .bl true) fun _ => False) _ _ ⟨fun r z => ?_, fun d z v G' H' _ r => ?_, fun _ z => z.elim, fun _ z => z.elim, fun _ _ z => z.elim⟩ h⟩
  · by_cases c : x = b
    · rw [if_pos c] at e; cases e
    · rw [if_neg c] at e; exact e
  · cases e
    exact ⟨if_pos rfl, ms, 0, 0, mm, 0, hb, .inl (.inl (by show (if l = b then none else H1 l) = _; rw [if_neg ne]; exact hl)), by decide, by decide, m0, m1, by decide⟩
  · cases (show D.non = D.bl true from z)
  · subst z
    cases r
    exact q H'
theorem sum_ones : ∀ cs : List Nat, (cs.map fun _ => 1).sum = cs.length
  | [] => rfl
  | _ :: cs => by simp only [List.map_cons, List.sum_cons, sum_ones cs, List.length_cons]; omega
theorem each_letters : ∀ {ds ys : List D}, Each (fun _ y => ∃ c ∈ letters, y = .str ⟨#[c]⟩) ds ys → ∃ cs : List Nat, ys = cs.map (fun c => D.str ⟨#[c]⟩) ∧ ∀ c ∈ cs, c ∈ letters
  | _, _, .nil => ⟨[], rfl, fun _ h => by cases h⟩
  | _, _, .cons ⟨c, mc, e⟩ r => by
    obtain ⟨cs, e1, h1⟩ := each_letters r
    refine ⟨c :: cs, by rw [e, e1]; rfl, fun x hx => ?_⟩
    rcases List.mem_cons.mp hx with q | q
    · rw [q]; exact mc
    · exact h1 x q
theorem plain_bls {n : Nat} (bs : List Bool) (h : bs.length ≤ 100 := by decide) : Plain (n + 1) (.lst (bs.map D.bl)) := by
  refine ⟨?_, fun x hx => ?_⟩
  · rw [List.length_map]
    exact Nat.le_trans h (by decide)
  · obtain ⟨b, _, rfl⟩ := List.mem_map.mp hx
    cases n <;> trivial
abbrev s_law : Stmt := topS 10
abbrev N_law : List Str := ["_law_script", "_law_box_here", "_law_letters", "_law_turn", "_law_name", "_law_spot", "_law_bent", "_law_least", "_law_most", "_law_asks", "_law_odd", "_law_value", "_law_k"]
theorem sc_law : FnScope N_law ["_law_script"] (defScope s_law) := ⟨rfl, rfl, rfl, by decide +kernel, rfl, by decide +kernel, by decide +kernel⟩

section
variable {P : Program} {w : World} {K : PySem.W.Frag} {mg : Str → Option Value} {base : Heap}
theorem ok_law {f fB fP fO fS fN fM : Addr} {fd fdB fdP fdO fdS fdN fdM : FuncData} (F : Fun K "law" "law" s_law f fd)
    (G_box : FnOk P w K mg base CX0 1 fB fdB ["_law_script"] (spBox K)) (T_box : Gf K mg "_law_box" fB fdB ["_law_script"])
    (G_pull : FnOk P w K mg base CX0 1 fP fdP ["_law_box_here", "_law_many"] (spB K pullS)) (T_pull : Gf K mg "_law_pull" fP fdP ["_law_box_here", "_law_many"])
    (G_of : FnOk P w K mg base CX0 2 fO fdO ["_law_box_here", "_law_some"] (spB K ofS)) (T_of : Gf K mg "_law_of" fO fdO ["_law_box_here", "_law_some"])
    (G_same : FnOk P w K mg base CX0 4 fS fdS ["_law_found", "_law_due"] (spD K (sameS 2))) (T_same : Gf K mg "_law_same" fS fdS ["_law_found", "_law_due"])
    (G_is_name : FnOk P w K mg base CX0 1 fN fdN ["value"] (spD K nameS)) (T_is_name : Gf K mg "is_name" fN fdN ["value"])
    (G_is_number : FnOk P w K mg base CX0 1 fM fdM ["value", "least", "most"] (spD K numS)) (T_is_number : Gf K mg "is_number" fM fdM ["value", "least", "most"])
    (m_range : mg "range" = none) (m_len : mg "len" = none) : FnOk P w K mg base CX0 5 f fd ["_law_script"] (spLaw K) := by
  refine F.ok sc_law (fun vs H Q E h => ?_) (fun cdv A outer s H vs Q E hr h => ?_)
  · obtain ⟨a, ns, rfl, _⟩ := h; rfl
  · obtain ⟨a, ns, rfl, hS, q⟩ := h
    have hr1 : Room 1 _ := hr.mono (by decide)
    have hr2 : Room 2 _ := hr.mono (by decide)
    have D1 : ∀ (b l : Addr) (H0 : Hp), DPSs (cxOf CX0 P w K mg base N_law "law" (defScope s_law) f cdv A outer s H E).nox ⟨some (b, l), fun _ _ _ _ => False, H0⟩ (defBody s_law).tail _ := fun b l H0 =>
      (d_scons (d_set (i := 2) sc_law.nd rfl (.inr rfl) d_str rfl (.inl rfl))
      (d_scons (d_for PassesOwn.never rfl (d_rng1 rfl m_range (d_cons d_int d_nil rfl) rfl) (dg_name (i := 3) sc_law.nd rfl (.inl rfl) (.inl rfl)) (d_scons (d_set (i := 4) sc_law.nd rfl (.inl rfl) (d_join d_str (d_lc rfl sc_law.nd (d_rng1 rfl m_range (d_cons (d_op od_add d_int (d_callX G_pull rfl hr1 rfl T_pull.m T_pull.k T_pull.b (fun _ => pass0A) (d_cons (d_var (i := 1) rfl (.inr (.inl rfl)) (by decide) (by decide)) (d_cons d_int d_nil rfl) rfl) (by decide) rfl rfl)) d_nil rfl) rfl) (blkOk_by (own := [("_law_k", 12)]) (N := N_law) (sc := defScope s_law) (by decide +kernel)) (fun _ _ _ _ _ => (dg_name (i := 12) sc_law.nd rfl (.inl rfl) (.inr rfl))) (fun _ _ _ _ _ => d_ifs0) (fun _ _ _ _ _ => (d_callX G_of rfl hr2 rfl T_of.m T_of.k T_of.b (fun _ => pass0A) (d_cons (d_var (i := 1) rfl (.inr (.inl rfl)) (by decide) (by decide)) (d_cons (d_var (i := 2) rfl (.inr (.inl rfl)) (by decide) (by decide)) d_nil rfl) rfl) (by decide) rfl rfl)) (by decide +kernel) (fun _ => rfl)) rfl rfl rfl) rfl (.inl rfl))
      (d_scons (d_set (i := 5) sc_law.nd rfl (.inl rfl) (d_callX G_pull rfl hr1 rfl T_pull.m T_pull.k T_pull.b (fun _ => pass0A) (d_cons (d_var (i := 1) rfl (.inr (.inl rfl)) (by decide) (by decide)) (d_cons (d_callB cd_len rfl m_len boot_len (d_cons (d_var (i := 4) rfl (.inl rfl) (by decide) (by decide)) d_nil rfl) (by decide) (by decide) rfl rfl) d_nil rfl) rfl) (by decide) rfl rfl) rfl (.inl rfl))
      (d_scons (d_set (i := 6) sc_law.nd rfl (.inl rfl) (d_op od_add (d_op od_add (d_sl (d_var (i := 4) rfl (.inl rfl) (by decide) (by decide)) d_nopart (d_part (d_var (i := 5) rfl (.inl rfl) (by decide) (by decide)))) (d_callX G_of rfl hr2 rfl T_of.m T_of.k T_of.b (fun _ => pass0A) (d_cons (d_var (i := 1) rfl (.inr (.inl rfl)) (by decide) (by decide)) (d_cons d_str d_nil rfl) rfl) (by decide) rfl rfl)) (d_sl (d_var (i := 4) rfl (.inl rfl) (by decide) (by decide)) (d_part (d_op od_add (d_var (i := 5) rfl (.inl rfl) (by decide) (by decide)) d_int)) d_nopart)) rfl (.inl rfl))
      (d_scons (d_ifS (d_tnot (d_test (d_call G_same hr rfl T_same.m T_same.k T_same.b (fun _ => pass0A) (d_cons (d_lst (d_cons (d_call G_is_name hr1 rfl T_is_name.m T_is_name.k T_is_name.b (fun _ => pass0A) (d_cons (d_var (i := 4) rfl (.inl rfl) (by decide) (by decide)) d_nil rfl) (by decide) rfl rfl) (d_cons (d_call G_is_name hr1 rfl T_is_name.m T_is_name.k T_is_name.b (fun _ => pass0A) (d_cons (d_var (i := 6) rfl (.inl rfl) (by decide) (by decide)) d_nil rfl) (by decide) rfl rfl) (d_cons (d_call G_is_name hr1 rfl T_is_name.m T_is_name.k T_is_name.b (fun _ => pass0A) (d_cons (d_op od_add (d_var (i := 4) rfl (.inl rfl) (by decide) (by decide)) (d_op od_mul d_str d_int)) d_nil rfl) (by decide) rfl rfl) d_nil rfl) rfl) rfl)) (d_cons (d_lst (d_cons d_bl (d_cons d_bl (d_cons d_bl d_nil rfl) rfl) rfl)) d_nil rfl) rfl) (by decide) rfl rfl) (by intro _; rfl))) (d_sone (d_ret d_bl)) d_snil)
      (d_scons (d_set (i := 7) sc_law.nd rfl (.inr rfl) (d_op od_sub (d_callX G_pull rfl hr1 rfl T_pull.m T_pull.k T_pull.b (fun _ => pass0A) (d_cons (d_var (i := 1) rfl (.inr (.inl rfl)) (by decide) (by decide)) (d_cons (d_op od_pow d_int d_int) d_nil rfl) rfl) (by decide) rfl rfl) (d_op od_mul d_int (d_op od_pow d_int d_int))) rfl (.inl rfl))
      (d_scons (d_set (i := 8) sc_law.nd rfl (.inr rfl) (d_op od_add (d_var (i := 7) rfl (.inr (.inl rfl)) (by decide) (by decide)) (d_callX G_of rfl hr2 rfl T_of.m T_of.k T_of.b (fun _ => pass0A) (d_cons (d_var (i := 1) rfl (.inr (.inl rfl)) (by decide) (by decide)) (d_cons (d_lst (d_cons d_int (d_cons d_int (d_cons d_int (d_cons d_int d_nil rfl) rfl) rfl) rfl)) d_nil rfl) rfl) (by decide) rfl rfl)) rfl (.inl rfl))
      (d_scons (d_setLc (i := 9) rfl sc_law.nd rfl rfl (sw_true rfl rfl rfl (by decide +kernel)) (d_iter (d_lst (d_cons (d_op od_sub (d_var (i := 7) rfl (.inr (.inl rfl)) (by decide) (by decide)) d_int) (d_cons (d_var (i := 7) rfl (.inr (.inl rfl)) (by decide) (by decide)) (d_cons (d_var (i := 8) rfl (.inr (.inl rfl)) (by decide) (by decide)) (d_cons (d_op od_add (d_var (i := 8) rfl (.inr (.inl rfl)) (by decide) (by decide)) d_int) d_nil rfl) rfl) rfl) rfl))) (blkOk_by (own := [("_law_value", 11)]) (N := N_law) (sc := defScope s_law) (by decide +kernel)) (fun _ _ _ _ _ => (dg_name (i := 11) sc_law.nd rfl (.inl rfl) (.inr rfl))) (fun _ _ _ _ _ => d_ifs0) (fun _ _ _ _ _ => (d_call G_is_number hr1 rfl T_is_number.m T_is_number.k T_is_number.b (fun _ => pass0A) (d_cons (d_var (i := 11) rfl (.inl rfl) (by decide) (by decide)) (d_cons (d_var (i := 7) rfl (.inr (.inl rfl)) (by decide) (by decide)) (d_cons (d_var (i := 8) rfl (.inr (.inl rfl)) (by decide) (by decide)) d_nil rfl) rfl) rfl) (by decide) rfl rfl)) (by decide +kernel) (fun _ => rfl))
      (d_scons (d_ifS (d_tnot (d_test (d_call G_same hr rfl T_same.m T_same.k T_same.b (fun _ => pass0A) (d_cons (d_var (i := 9) rfl (.inl rfl) (by decide) (by decide)) (d_cons (d_lst (d_cons d_bl (d_cons d_bl (d_cons d_bl (d_cons d_bl d_nil rfl) rfl) rfl) rfl)) d_nil rfl) rfl) (by decide) rfl rfl) (by intro _; rfl))) (d_sone (d_ret d_bl)) d_snil)
      (d_scons (d_set (i := 10) sc_law.nd rfl (.inl rfl) (d_callX G_of rfl hr2 rfl T_of.m T_of.k T_of.b (fun _ => pass0A) (d_cons (d_var (i := 1) rfl (.inr (.inl rfl)) (by decide) (by decide)) (d_cons (d_lst (d_cons d_non (d_cons d_bl (d_cons d_bl (d_cons d_str (d_cons d_str (d_cons (d_tup (d_cons d_int d_nil rfl)) (d_cons (d_lst (d_cons d_int d_nil rfl)) (d_cons (d_tup d_nil) d_nil rfl) rfl) rfl) rfl) rfl) rfl) rfl) rfl)) d_nil rfl) rfl) (by decide) rfl rfl) rfl (.inl rfl))
      (d_sone (d_ifS (d_tnot (d_test (d_call G_same hr rfl T_same.m T_same.k T_same.b (fun _ => pass0A) (d_cons (d_lst (d_cons (d_call G_is_name hr1 rfl T_is_name.m T_is_name.k T_is_name.b (fun _ => pass0A) (d_cons (d_var (i := 10) rfl (.inl rfl) (by decide) (by decide)) d_nil rfl) (by decide) rfl rfl) (d_cons (d_call G_is_number hr1 rfl T_is_number.m T_is_number.k T_is_number.b (fun _ => pass0A) (d_cons (d_var (i := 10) rfl (.inl rfl) (by decide) (by decide)) (d_cons d_int (d_cons d_int d_nil rfl) rfl) rfl) (by decide) rfl rfl) d_nil rfl) rfl)) (d_cons (d_lst (d_cons d_bl (d_cons d_bl d_nil rfl) rfl)) d_nil rfl) rfl) (by decide) rfl rfl) (by intro _; rfl))) (d_sone (d_ret d_bl)) d_snil))))))))))) (fun _ => rfl))
      (d_sone (d_ret (d_call G_same hr rfl T_same.m T_same.k T_same.b (fun _ => pass0A) (d_cons (d_lst (d_cons (d_call G_is_name hr1 rfl T_is_name.m T_is_name.k T_is_name.b (fun _ => pass0A) (d_cons d_int d_nil rfl) (by decide) rfl rfl) (d_cons (d_call G_is_name hr1 rfl T_is_name.m T_is_name.k T_is_name.b (fun _ => pass0A) (d_cons (d_tup (d_cons d_str d_nil rfl)) d_nil rfl) (by decide) rfl rfl) (d_cons (d_call G_is_number hr1 rfl T_is_number.m T_is_number.k T_is_number.b (fun _ => pass0A) (d_cons d_str (d_cons d_int (d_cons d_int d_nil rfl) rfl) rfl) (by decide) rfl rfl) d_nil rfl) rfl) rfl)) (d_cons (d_lst (d_cons d_bl (d_cons d_bl (d_cons d_bl d_nil rfl) rfl) rfl)) d_nil rfl) rfl) (by decide) rfl rfl)))))
    refine ⟨_, pss_cons (ps_set (i := 1) sc_law.nd rfl (.inr rfl) (pe_call G_box hr1 rfl T_box.m T_box.k T_box.b .nil pass0 (pa_cons (pv 0) pa_nil))) (pss_box D1), ?_⟩
    refine ⟨.ref a, rfl, a, ns, rfl, hS, fun b l mm ms H1 sm nb hb hl ne m0 m1 => ⟨b, l, H1, law_read (n := 11) (D1 b l H1).mo hb hl ne m0 m1 q ?_⟩⟩
    -- letters
    refine ⟨by decide, by decide, ?_⟩
    refine forW_inv (fun ρ => ∃ a3 a4 a5 a6 a7 a8 a9 a10 a11 a12 : Sl, ρ = [.un, .sh (.opq (.ref b)), .sh (.str "abcdefghijklmnopqrstuvwxyz"), a3, a4, a5, a6, a7, a8, a9, a10, a11, a12]) (fun t ht ρ hρ N hN => ?_) (fun ρ hρ => ?_) ⟨_, _, _, _, _, _, _, _, _, _, rfl⟩
    · obtain ⟨a3, a4, a5, a6, a7, a8, a9, a10, a11, a12, rfl⟩ := hρ
      -- name
      refine ⟨rfl, spM.of ⟨6, rfl, by decide, by decide, fun k k0 k1 => ?_⟩⟩
      refine ⟨by omega, by omega, ?_⟩
      refine lcW_each (fun _ y => ∃ c ∈ letters, y = .str ⟨#[c]⟩) (fun d _ Qy hy => ?_) (by
        have : (rngD 0 (1 + k).toNat).length = (1 + k).toNat := by simp [rngD]
        rw [this]
        show 0 + _ ≤ 16777216
        omega) fun ys he => ?_
      · refine ⟨rfl, spM.of ⟨.str "abcdefghijklmnopqrstuvwxyz", rfl, by decide +kernel, by decide +kernel, fun y my => ?_⟩⟩
        obtain ⟨c, mc, rfl⟩ := List.mem_map.mp my
        exact hy _ ⟨c, mc, rfl⟩
      obtain ⟨cs, ecs, lcs, hcs⟩ : ∃ cs : List Nat, ys = cs.map (fun c => D.str ⟨#[c]⟩) ∧ cs.length = (1 + k).toNat ∧ ∀ c ∈ cs, c ∈ letters := by
        obtain ⟨cs, e1, h1⟩ := each_letters he
        refine ⟨cs, e1, ?_, h1⟩
        have := he.length
        rw [e1, List.length_map] at this
        rw [this]; simp [rngD]
      have hn1 : 1 ≤ cs.length := by omega
      have hn6 : cs.length ≤ 6 := by omega
      rw [List.nil_append, ecs]
      have ej : ∀ Q : D → Prop, Q (.str ⟨cs.toArray⟩) → joinD Str.empty (.lst (cs.map fun c => D.str ⟨#[c]⟩)) Q := fun Q q => by
        show joinOn _ _ _
        unfold joinOn
        rw [toSs_map]
        refine ⟨?_, ?_⟩
        · have e1 : ((cs.map fun c => (⟨#[c]⟩ : Str)).map (·.length)).sum = cs.length := by
            rw [List.map_map]
            show (cs.map fun _ => 1).sum = cs.length
            exact sum_ones cs
          rw [e1, show (Str.empty).length = 0 from rfl, Nat.mul_zero]
          omega
        · rw [co_inj (x := Txt.join Str.empty (cs.map fun c => ⟨#[c]⟩)) (y := ⟨cs.toArray⟩) (by rw [join_sing]; rfl)]
          exact q
      refine ej _ ?_
      clear ej he ecs
      obtain ⟨nm, enm⟩ : ∃ nm : Str, nm = ⟨cs.toArray⟩ := ⟨_, rfl⟩
      have hco : co nm = cs := by rw [enm]; rfl
      have hlen : nm.length = cs.length := by rw [← co_len, hco]
      rw [← enm]
      have hsz : nm.length ≤ sizeLine := by
        show _ ≤ 16777216
        omega
      -- spot
      refine ⟨hsz, rfl, spM.of ⟨nm.length, rfl, by omega, by omega, fun sp sp0 sp1 => ?_⟩⟩
      -- bent
      refine ⟨hsz, rfl, spM.of ⟨.str "AZ09_- .{", rfl, by decide +kernel, by decide +kernel, fun y my => ?_⟩⟩
      obtain ⟨c, mc, rfl⟩ := List.mem_map.mp my
      have hc : c ∉ letters := by
        have : ∀ c ∈ (("AZ09_- .{" : Str)).cps.toList, c ∉ letters := by decide +kernel
        exact this c mc
      have e1 := cut_to nm (k := sp) sp0 (by omega)
      have e2 := cut_from nm (k := sp + 1) (by omega) (by omega)
      have l1 : (cutS nm none (some sp)).length = sp.toNat := by
        rw [← co_len, e1, List.length_take, hco]; omega
      have l2 : (cutS nm (some (sp + 1)) none).length = cs.length - (sp + 1).toNat := by
        rw [← co_len, e2, List.length_drop, hco]
      refine ⟨by rw [l1]; show sp.toNat + 1 ≤ 16777216; omega, hsz, ?_⟩
      refine ⟨by
        rw [l2]
        have : (cutS nm none (some sp) ++ (⟨#[c]⟩ : Str)).length = sp.toNat + 1 := by
          rw [← co_len, co_app, List.length_append, co_len, l1]; rfl
        rw [this]
        show _ ≤ 16777216
        omega, ?_⟩
      obtain ⟨bt, ebt⟩ : ∃ bt : Str, bt = cutS nm none (some sp) ++ (⟨#[c]⟩ : Str) ++ cutS nm (some (sp + 1)) none := ⟨_, rfl⟩
      have hbt : co bt = (co nm).take sp.toNat ++ [c] ++ (co nm).drop (sp + 1).toNat := by
        rw [ebt, co_app, co_app, e1, e2]; rfl
      rw [← ebt]
      have lbt : bt.length ≤ 7 := by
        rw [← co_len, hbt]
        simp only [List.length_append, List.length_take, List.length_drop, List.length_singleton, hco]
        omega
      have n1 : isName (.str nm) = true := by
        have a1 : 1 ≤ nm.length := by omega
        have a2 : nm.length ≤ 6 := by omega
        have a3 : ∀ c ∈ nm.cps.toList, c ∈ letters := fun c h => hcs c (by rw [← hco]; exact h)
        simp only [isName, a1, a2, decide_true, Bool.true_and, List.all_eq_true, decide_eq_true_eq]
        exact a3
      have n2 : isName (.str bt) = false := by
        have a3 : (bt.cps.toList.all fun c => decide (c ∈ letters)) = false := by
          rw [List.all_eq_false]
          exact ⟨c, by show c ∈ co bt; rw [hbt]; simp, by simpa using hc⟩
        simp only [isName, a3, Bool.and_false]
      have n3 : isName (.str (nm ++ Txt.mul "a" 6)) = false := by
        have a2 : ¬ (nm ++ Txt.mul "a" 6).length ≤ 6 := by
          rw [← co_len, co_app, List.length_append, co_len, show (co (Txt.mul "a" 6)).length = 6 by decide +kernel]
          omega
        simp only [isName, a2, decide_false, Bool.and_false, Bool.false_and]
      -- the first same
      refine spM.of ⟨.str nm, rfl, rfl, fun x e => by cases e; exact hsz, ?_⟩
      refine spM.of ⟨.str bt, rfl, rfl, fun x e => by cases e; exact Nat.le_trans lbt (by decide), ?_⟩
      refine ⟨⟨by decide, fun _ _ => by decide +kernel, fun _ _ => by decide +kernel⟩, ?_⟩
      refine ⟨by show nm.length + 6 ≤ 16777216; omega, ?_⟩
      refine spM.of ⟨.str (nm ++ Txt.mul "a" 6), rfl, rfl, fun x e => by
        cases e
        rw [← co_len, co_app, List.length_append, co_len, show (co (Txt.mul "a" 6)).length = 6 by decide +kernel]
        show _ ≤ 16777216
        omega, ?_⟩
      rw [n1, n2, n3]
      refine ⟨by decide, by decide, spM.of ⟨_, _, rfl, plain_bls [true, false, false], plain_bls [true, false, false], ?_⟩⟩
      -- least, most
      refine ⟨⟨by decide, by decide, by decide⟩, rfl, spM.of ⟨1000000, rfl, by decide, by decide, fun d0 d1 d2 => ?_⟩⟩
      refine ⟨⟨by decide, by decide, by decide⟩, .inl ⟨by decide, by decide⟩, trivial, ?_⟩
      obtain ⟨lo, elo⟩ : ∃ lo : Int, lo = d0 - 5 * 10 ^ (5 : Int).toNat := ⟨_, rfl⟩
      show dgName 7 (D.int (d0 - 5 * 10 ^ (5 : Int).toNat)) _ _
      rw [← elo]
      refine ⟨by decide, rfl, spM.of ⟨.lst [.int 0, .int 1, .int 2, .int 1000], rfl, by decide, by decide, fun y my => ?_⟩⟩
      obtain ⟨z, z0, rfl⟩ : ∃ z : Int, 0 ≤ z ∧ y = .int z := by
        have my : y ∈ [D.int 0, .int 1, .int 2, .int 1000] := my
        simp only [List.mem_cons, List.not_mem_nil, or_false] at my
        rcases my with q | q | q | q <;> exact ⟨_, by decide, q⟩
      -- asks
      refine ⟨trivial, (by show 4 ≤ sizeLine; decide), ?_⟩
      refine lcW_map (fun d => .bl (isNum d lo (lo + z))) (fun d md Qy hq => ?_) (by show 0 + 4 ≤ sizeLine; decide) ?_
      · obtain ⟨i, rfl⟩ : ∃ i, d = .int i := by
          simp only [List.mem_cons, List.not_mem_nil, or_false] at md
          rcases md with q | q | q | q <;> exact ⟨_, q⟩
        exact spM.of ⟨.int i, lo, lo + z, rfl, rfl, hq⟩
      have ea : [] ++ ([D.int (lo - 1), .int lo, .int (lo + z), .int (lo + z + 1)].map fun d => D.bl (isNum d lo (lo + z))) = [.bl false, .bl true, .bl true, .bl false] := by
        have h1 : ¬ lo ≤ lo - 1 := by omega
        have h2 : lo ≤ lo := by omega
        have h3 : lo ≤ lo + z := by omega
        have h4 : ¬ lo + z + 1 ≤ lo + z := by omega
        simp [isNum, h1, h2, h3, h4]
      rw [ea]
      refine ⟨by decide, spM.of ⟨_, _, rfl, plain_bls [false, true, true, false], plain_bls [false, true, true, false], ?_⟩⟩
      -- odd
      refine ⟨by decide, by decide, by decide, by decide, rfl, spM.of ⟨.lst [.non, .bl true, .bl false, .str "", .str "1", .tup [.int 1], .lst [.int 1], .tup []], rfl, by decide, by decide, fun y my => ?_⟩⟩
      have hy : (tyD y).isSome = true ∧ (∀ x, y = .str x → x.length ≤ sizeLine) ∧ isName y = false ∧ isNum y 0 1 = false := by
        have my : y ∈ [D.non, .bl true, .bl false, .str "", .str "1", .tup [.int 1], .lst [.int 1], .tup []] := my
        simp only [List.mem_cons, List.not_mem_nil, or_false] at my
        rcases my with q | q | q | q | q | q | q | q <;> subst q
        · exact ⟨rfl, (fun x e => by cases e), rfl, rfl⟩
        · exact ⟨rfl, (fun x e => by cases e), rfl, rfl⟩
        · exact ⟨rfl, (fun x e => by cases e), rfl, rfl⟩
        · exact ⟨rfl, (fun x e => by cases e; decide), by decide, rfl⟩
        · exact ⟨rfl, (fun x e => by cases e; decide), by decide +kernel, rfl⟩
        · exact ⟨rfl, (fun x e => by cases e), rfl, rfl⟩
        · exact ⟨rfl, (fun x e => by cases e), rfl, rfl⟩
        · exact ⟨rfl, (fun x e => by cases e), rfl, rfl⟩
      obtain ⟨y1, y2, y3, y4⟩ := hy
      refine spM.of ⟨y, rfl, y1, y2, ?_⟩
      refine spM.of ⟨y, 0, 1, rfl, y1, ?_⟩
      rw [y3, y4]
      refine ⟨by decide, by decide, spM.of ⟨_, _, rfl, plain_bls [false, false], plain_bls [false, false], ?_⟩⟩
      exact hN _ ⟨_, _, _, _, _, _, _, _, _, _, rfl⟩
    · obtain ⟨a3, a4, a5, a6, a7, a8, a9, a10, a11, a12, rfl⟩ := hρ
      refine spM.of ⟨.int 7, rfl, rfl, (fun x e => by cases e), ?_⟩
      refine ⟨by decide, spM.of ⟨.tup [.str "a"], rfl, rfl, (fun x e => by cases e), ?_⟩⟩
      refine spM.of ⟨.str "a", 0, 9, rfl, rfl, ?_⟩
      refine ⟨by decide, by decide, spM.of ⟨_, _, rfl, plain_bls [false, false, false], plain_bls [false, false, false], ?_⟩⟩
      rfl
end
end LW
set_option Elab.async false
set_option linter.all false
set_option maxRecDepth 100000
set_option maxHeartbeats 0
namespace LW
open PySem PySem.Spec PyProof.Rows L2 DV
abbrev FnP (K : PySem.W.Frag) (x : Str) (st : Stmt) (f : Addr) (fd : FuncData) : Prop := FunD K x x (defArgs st) (defBody st) (defScope st) [] [] f fd
theorem fun_of {K : PySem.W.Frag} {x q : Str} {st : Stmt} {f : Addr} {fd : FuncData} (F : FunD K x q (defArgs st) (defBody st) (defScope st) [] [] f fd) : Fun K x q st f fd := by
  obtain ⟨oc, od, dV, kV, doc, pm, an, cdv, ct, osl, e, lk, hcd, hD, hK⟩ := F.ex
  rcases hD with ⟨_, rfl⟩ | ⟨e, _⟩
  · exact ⟨⟨oc, od, kV, doc, pm, an, cdv, ct, osl, e, lk, hcd⟩, F.kp⟩
  · exact absurd rfl e
theorem gf_of {K : PySem.W.Frag} {mg : Str → Option Value} {x : Str} {st : Stmt} {f : Addr} {fd : FuncData} {ps : List Str} (F : FnP K x st f fd) (m : mg x = some (.ref f)) (b : Binds K fd ps []) : Gf K mg x f fd ps := ⟨m, F.kp, b⟩
def dd (x : Str) (st : Stmt) : He.DefD := ⟨(x, none), x, x, defArgs st, defBody st, defScope st, [], []⟩
def fn : List He.DefD := [dd "is_name" s_is_name, dd "is_number" s_is_number, dd "_law_box" s_box, dd "_law_pull" s_pull, dd "_law_of" s_of, dd "_law_same" s_same, dd "law" s_law]
def fa : List He.Fa := [.glo "is_name", .glo "is_number", .glo "_law_box", .glo "_law_pull", .glo "_law_of", .glo "_law_same", .glo "law",
  .free "isinstance", .free "str", .free "len", .free "all", .free "int", .free "bool", .free "list", .free "tuple", .free "zip", .free "abs", .free "range", .str "LETTERS" "abcdefghijklmnopqrstuvwxyz", .int "LONGEST_NAME" 6]
abbrev Rw : PySem.W.OpenRow := PySem.W.OpenLaw.row PySem.Challenge.rw_oncethrough_k01_names_and_numbers
abbrev hk : PySem.W.Hook := He.hookD 4 fa fn
def ob (s : PySem.W.SharedT) : He.AlD := He.obsDG 4 fa fn (HandSHeadRun.getT s)
theorem ob_eq (s : PySem.W.SharedT) : ob s = hk.obs s.abs := He.obsDG_eq (HandSHeadRun.getT_eq s)
def loose : List PySem.Str := ["LETTERS", "LONGEST_NAME", "is_name", "is_number", "_law_box", "_law_pull", "_law_of", "_law_same"]
theorem run (w : World) : HandSHeadRun.RunEq Rw (PySem.W.view Rw.prog [10]) hk ob 2000 loose w := by
  intro os
  kernel_rfl
end LW
set_option Elab.async false
set_option linter.all false
set_option maxRecDepth 100000
set_option maxHeartbeats 0
namespace LW
open PySem PySem.Spec PyProof.Rows L2 DV
theorem def_of {K : PySem.W.Frag} (c : He.SaysD fa fn K) (i : Nat) (x : Str) (st : Stmt) (h : fn[i]? = some (dd x st)) : ∃ fd, FnP K x st (He.ga K x) fd := c.def_ i h
theorem facts {P : Program} {w : World} {K : PySem.W.Frag} {h : Heap} {mg : Str → Option Value} {f : Addr} (X : K.In h) (G : h.Ns mainGlobals mg) (hfa : mg ("law" : Str) = some (.ref f)) (c : He.SaysD fa fn K) :
    ∃ fd : FuncData, (∀ (s : Shared) (v : Value), BindsTo s fd ⟨[v], []⟩ [("_law_script", v)]) ∧ ∀ base : Heap, K.In base → base.Ns mainGlobals mg → FnOk P w K mg base CX0 5 f fd ["_law_script"] (spLaw K) := by
  obtain ⟨fd0, F0⟩ := def_of c 0 "is_name" s_is_name rfl
  obtain ⟨fd1, F1⟩ := def_of c 1 "is_number" s_is_number rfl
  obtain ⟨fd2, F2⟩ := def_of c 2 "_law_box" s_box rfl
  obtain ⟨fd3, F3⟩ := def_of c 3 "_law_pull" s_pull rfl
  obtain ⟨fd4, F4⟩ := def_of c 4 "_law_of" s_of rfl
  obtain ⟨fd5, F5⟩ := def_of c 5 "_law_same" s_same rfl
  obtain ⟨fd6, F6⟩ := def_of c 6 "law" s_law rfl
  have e := hfa.symm.trans (He.glo_ok X G (c.fact 6 (f := .glo "law") rfl))
  cases e
  have b6 := FunD.bindsA (ps := ["_law_script"]) F6 fun _ _ _ _ _ _ us hl => match us, hl with | [_], _ => rfl
  have T0 := gf_of F0 (He.glo_ok X G (c.fact 0 (f := .glo "is_name") rfl)) (FunD.bindsN (ps := ["value"]) F0 fun _ _ _ _ _ _ us hl => match us, hl with | [_], _ => rfl)
  have T1 := gf_of F1 (He.glo_ok X G (c.fact 1 (f := .glo "is_number") rfl)) (FunD.bindsN (ps := ["value", "least", "most"]) F1 fun _ _ _ _ _ _ us hl => match us, hl with | [_, _, _], _ => rfl)
  have T2 := gf_of F2 (He.glo_ok X G (c.fact 2 (f := .glo "_law_box") rfl)) (FunD.bindsN (ps := ["_law_script"]) F2 fun _ _ _ _ _ _ us hl => match us, hl with | [_], _ => rfl)
  have T3 := gf_of F3 (He.glo_ok X G (c.fact 3 (f := .glo "_law_pull") rfl)) (FunD.bindsN (ps := ["_law_box_here", "_law_many"]) F3 fun _ _ _ _ _ _ us hl => match us, hl with | [_, _], _ => rfl)
  have T4 := gf_of F4 (He.glo_ok X G (c.fact 4 (f := .glo "_law_of") rfl)) (FunD.bindsN (ps := ["_law_box_here", "_law_some"]) F4 fun _ _ _ _ _ _ us hl => match us, hl with | [_, _], _ => rfl)
  have T5 := gf_of F5 (He.glo_ok X G (c.fact 5 (f := .glo "_law_same") rfl)) (FunD.bindsN (ps := ["_law_found", "_law_due"]) F5 fun _ _ _ _ _ _ us hl => match us, hl with | [_, _], _ => rfl)
  have m_isinstance := He.free_ok X G (c.fact 7 (f := .free "isinstance") rfl)
  have m_str := He.free_ok X G (c.fact 8 (f := .free "str") rfl)
  have m_len := He.free_ok X G (c.fact 9 (f := .free "len") rfl)
  have m_all := He.free_ok X G (c.fact 10 (f := .free "all") rfl)
  have m_int := He.free_ok X G (c.fact 11 (f := .free "int") rfl)
  have m_bool := He.free_ok X G (c.fact 12 (f := .free "bool") rfl)
  have m_list := He.free_ok X G (c.fact 13 (f := .free "list") rfl)
  have m_tuple := He.free_ok X G (c.fact 14 (f := .free "tuple") rfl)
  have m_zip := He.free_ok X G (c.fact 15 (f := .free "zip") rfl)
  have m_abs := He.free_ok X G (c.fact 16 (f := .free "abs") rfl)
  have m_range := He.free_ok X G (c.fact 17 (f := .free "range") rfl)
  obtain ⟨tl, gl⟩ := He.str_ok X G (c.fact 18 (f := .str "LETTERS" "abcdefghijklmnopqrstuvwxyz") rfl)
  obtain ⟨tg, gg⟩ := He.int_ok X G (c.fact 19 (f := .int "LONGEST_NAME" 6) rfl)
  refine ⟨fd6, fun s v => b6 s [v] rfl, fun base _ _ => ?_⟩
  have G3 : FnOk P w K mg base CX0 1 _ fd3 _ (spB K pullS) := ok_pull (fun_of F3) m_int m_len m_abs
  exact ok_law (fun_of F6) (ok_box (fun_of F2) m_int m_list) T2 G3 T3 (ok_of (fun_of F4) G3 T3 m_len) T4
    (ok_same (fun_of F5) T5 m_isinstance m_list m_tuple m_bool m_int m_str m_len m_all m_zip 2) T5
    (ok_is_name (fun_of F0) m_isinstance m_str m_len m_all gl gg) T0 (ok_is_number (fun_of F1) m_isinstance m_int m_bool) T1 m_range m_len
end LW
open PySem PySem.W PySem.Calls PyProof.Rows
theorem PySem.Challenge.cw_oncethrough_k01_names_and_numbers_holds : PySem.Challenge.rw_oncethrough_k01_names_and_numbers.Holds := by
  w_on; o_law
  refine HandSHeadRun.head_any (r := LW.Rw) (q := view LW.Rw.prog [10]) (H := LW.hk) (ob := LW.ob) (M := 2000) (loose := LW.loose) (d := HandSHeadRun.topDef LW.Rw.prog 10) (kwd := []) LW.ob_eq
    (by kernel_rfl) (fun s => by kernel_rfl) LW.run (by kernel_rfl) (by kernel_rfl) (by kernel_rfl) (by rfl) (by first | assumption | decide +kernel) (by decide +kernel) ⟨rfl, rfl, rfl, rfl, rfl, by decide +kernel⟩ ?hw ?hc
  case hw => w_witness2
  case hc =>
    refine L2.walk_ofE (l := PySem.Challenge.rw_oncethrough_k01_names_and_numbers) (n := 63) (k := 5) (x := "_law_script") (CX := L2.CX0) rfl (by decide) (by kernel_rfl) ⟨rfl, by decide, by decide⟩ ?F (fun _ _ _ _ z => z)
    intro w mg fa h Y G hmg0
    obtain ⟨K, KX, c⟩ := Y
    have hmg : mg ("law" : PySem.Str) = some (.ref fa) := by
      have e : (HandSHeadRun.topDef LW.Rw.prog 10).name = ("law" : PySem.Str) := by kernel_rfl
      rw [← e]
      exact hmg0
    obtain ⟨fd, hb, hF⟩ := LW.facts (P := (PySem.Challenge.rw_oncethrough_k01_names_and_numbers).prog) (w := w) KX G hmg c
    exact ⟨K, fd, LW.spLaw K, KX, hb, fun H a ns hl _ hS => ⟨a, ns, rfl, hS, fun _ => rfl⟩, hF⟩
#print axioms PySem.Challenge.cw_oncethrough_k01_names_and_numbers_holds
