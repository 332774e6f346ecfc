import PyProof.Rows.All
import Wide.All
import OpenK.AllK
import Wide.FinOn
import HandS.ForMost
import HandS.Walk
import HandS.Wide
import HandS.IsInst
import HandS.Style
import HandS.Zip
import HandS.Defaults
import HandS.HeadHook4
import HandS.Head0
import HandS.Head1
import HandS.Head2
import HandS.HeadEnd
import HandS.HeadHook1
import HandS.HeadHook2
import PySem.Challenge.RW_roomofcalls_k02_names_words_and_numbers
set_option Elab.async false
set_option linter.all false
set_option maxRecDepth 100000
set_option maxHeartbeats 4000000
/-! Values as trees, a ghost for what is frozen, and the readings that an evaluator gives. -/
namespace Rc
open PySem PySem.Spec L2
open PyProof.Rows hiding St

/-- a value: what never changes is a tree; ref n: the n-th live object -/
inductive MV where
  | non
  | bl (b : Bool)
  | int (i : Int)
  | str (x : Str)
  | tup (xs : List MV)
  | lst (xs : List MV)
  | kl (xs : List MV)
  | ref (n : Nat)
  deriving Inhabited

/-- an object that may change -/
inductive MO where
  | lst (xs : List MV)

abbrev Mem := List (Option MO)

/-- what an expression gives: a value, or an own object of the frame, lent -/
inductive OV where
  | v (x : MV)
  | b (o : MO)

inductive SV where
  | v (x : MV)
  | own (o : MO)

abbrev Sl := List (Option SV)

inductive R (α : Type) where
  | ok (a : α) (m : Mem)
  | exc (c : Str) (fs : List (Str × MV)) (m : Mem)
  | stuck

def R.bind {α β : Type} (r : R α) (k : α → Mem → R β) : R β := match r with
  | .ok a m => k a m
  | .exc c fs m => .exc c fs m
  | .stuck => .stuck

/-- what a def gives: a value, or a new object -/
inductive FR where
  | ok (x : MV) (m : Mem)
  | new (o : MO) (m : Mem)
  | exc (c : Str) (fs : List (Str × MV)) (m : Mem)
  | stuck
abbrev Mir := List MV → Mem → FR

/-- the ghost: what is frozen, and where the live objects lie -/
structure G where
  F : Hp
  r : Nat → Option Addr

mutual
def RV (K : PySem.W.Frag) (g : G) : MV → V → Prop
  | .non, v => v = .non
  | .bl b, v => v = .bl b
  | .int i, v => v = .int i
  | .str x, v => v = .str x
  | .tup xs, v => ∃ a ys, v = .ref a ∧ SqT K g.F a ys ∧ RVs K g xs ys
  | .lst xs, v => ∃ a ys, v = .ref a ∧ g.F a = some (.lst ys) ∧ RVs K g xs ys
  | .kl xs, v => ∃ a ys, v = .ref a ∧ SqL K g.F a ys ∧ RVs K g xs ys
  | .ref n, v => ∃ a, v = .ref a ∧ g.r n = some a
def RVs (K : PySem.W.Frag) (g : G) : List MV → List V → Prop
  | [], vs => vs = []
  | x :: xs, vs => ∃ v r, vs = v :: r ∧ RV K g x v ∧ RVs K g xs r
end

def ObjR (K : PySem.W.Frag) (g : G) (o : MO) (H : Hp) (a : Addr) : Prop := match o with
  | .lst xs => ∃ ys, H a = some (.lst ys) ∧ RVs K g xs ys

def RO (K : PySem.W.Frag) (g : G) (H : Hp) : OV → V → Prop
  | .v x, v => RV K g x v
  | .b o, v => ∃ a, v = .ref a ∧ ObjR K g o H a ∧ g.F a = none ∧ ∀ n, g.r n ≠ some a

structure Rs (K : PySem.W.Frag) (g : G) (m : Mem) (H : Hp) : Prop where
  sub : ∀ a o, g.F a = some o → H a = some o
  gr : ∀ n o, m[n]? = some (some o) → ∃ a, g.r n = some a ∧ g.F a = none ∧ ObjR K g o H a
  rb : ∀ n a, g.r n = some a → n < m.length ∧ H a ≠ none
  rj : ∀ n k a, g.r n = some a → g.r k = some a → n = k

structure RSl (K : PySem.W.Frag) (g : G) (s : Sl) (σ : St) (H : Hp) : Prop where
  val : ∀ (i : Nat) x, s[i]? = some (some (.v x)) → ∃ v, σ[i]? = some (some v) ∧ RV K g x v
  own : ∀ (i : Nat) o, s[i]? = some (some (.own o)) → ∃ a, σ[i]? = some (some (.ref a)) ∧ ObjR K g o H a ∧ g.F a = none ∧ ∀ n, g.r n ≠ some a
  dis : ∀ (i j : Nat) o u a, s[i]? = some (some (.own o)) → s[j]? = some (some (.own u)) → σ[i]? = some (some (.ref a)) → σ[j]? = some (some (.ref a)) → i = j
  len : s.length = σ.length

structure Stp (g : G) (H : Hp) (g' : G) (H' : Hp) : Prop where
  F : ∀ a o, g.F a = some o → g'.F a = some o
  r : ∀ n a, g.r n = some a → g'.r n = some a
  keep : ∀ b o, H b = some o → (∀ n, g.r n ≠ some b) → H' b = some o
  dom : ∀ b, H b ≠ none → H' b ≠ none
  Fn : ∀ b, g'.F b ≠ none → g.F b ≠ none ∨ H b = none ∨ ∃ n, g.r n = some b
  rn : ∀ n b, g'.r n = some b → g.r n = some b ∨ H b = none

theorem Stp.refl (g : G) (H : Hp) : Stp g H g H := ⟨fun _ _ h => h, fun _ _ h => h, fun _ _ h _ => h, fun _ h => h, fun _ h => .inl h, fun _ _ h => .inl h⟩
theorem Stp.trans {g1 g2 g3 : G} {H1 H2 H3 : Hp} (a : Stp g1 H1 g2 H2) (b : Stp g2 H2 g3 H3) : Stp g1 H1 g3 H3 where
  F := fun x o h => b.F x o (a.F x o h)
  r := fun n x h => b.r n x (a.r n x h)
  keep := fun x o h hn => b.keep x o (a.keep x o h hn) fun n e => by
    rcases a.rn n x e with q | q
    · exact hn n q
    · rw [h] at q; cases q
  dom := fun x h => b.dom x (a.dom x h)
  Fn := fun x h => by
    rcases b.Fn x h with q | q | ⟨n, q⟩
    · exact a.Fn x q
    · by_cases e : H1 x = none
      · exact .inr (.inl e)
      · exact absurd q (a.dom x e)
    · rcases a.rn n x q with z | z
      · exact .inr (.inr ⟨n, z⟩)
      · exact .inr (.inl z)
  rn := fun n x h => by
    rcases b.rn n x h with q | q
    · exact a.rn n x q
    · by_cases e : H1 x = none
      · exact .inr e
      · exact absurd q (a.dom x e)

theorem SqL.monoF {K : PySem.W.Frag} {F F' : Hp} {a : Addr} {xs : List V} (h : ∀ a o, F a = some o → F' a = some o) (q : SqL K F a xs) : SqL K F' a xs := Same.seq h q
theorem SqT.monoF {K : PySem.W.Frag} {F F' : Hp} {a : Addr} {xs : List V} (e : ∀ a o, F a = some o → F' a = some o) (h : SqT K F a xs) : SqT K F' a xs := by
  rcases h with (h | ⟨o, h⟩) | h
  · exact .inl (.inl (e _ _ h))
  · exact .inl (.inr ⟨o, e _ _ h⟩)
  · exact .inr h

mutual
theorem RV.mono {K : PySem.W.Frag} {g g' : G} (hF : ∀ a o, g.F a = some o → g'.F a = some o) (hr : ∀ n a, g.r n = some a → g'.r n = some a) : ∀ (x : MV) {v : V}, RV K g x v → RV K g' x v
  | .non, _, h => h
  | .bl _, _, h => h
  | .int _, _, h => h
  | .str _, _, h => h
  | .tup xs, _, ⟨a, ys, e, q, r⟩ => ⟨a, ys, e, SqT.monoF hF q, RVs.mono hF hr xs r⟩
  | .lst xs, _, ⟨a, ys, e, q, r⟩ => ⟨a, ys, e, hF _ _ q, RVs.mono hF hr xs r⟩
  | .kl xs, _, ⟨a, ys, e, q, r⟩ => ⟨a, ys, e, SqL.monoF hF q, RVs.mono hF hr xs r⟩
  | .ref n, _, ⟨a, e, q⟩ => ⟨a, e, hr n a q⟩
theorem RVs.mono {K : PySem.W.Frag} {g g' : G} (hF : ∀ a o, g.F a = some o → g'.F a = some o) (hr : ∀ n a, g.r n = some a → g'.r n = some a) : ∀ (xs : List MV) {vs : List V}, RVs K g xs vs → RVs K g' xs vs
  | [], _, h => h
  | x :: xs, _, ⟨v, r, e, h, t⟩ => ⟨v, r, e, RV.mono hF hr x h, RVs.mono hF hr xs t⟩
end
section
variable {K : PySem.W.Frag} {g g' g'' : G} {H H' H'' : Hp} {m m' : Mem} {s : Sl} {σ : St}
theorem RV.st {x : MV} {v : V} (h : RV K g x v) (t : Stp g H g' H') : RV K g' x v := RV.mono t.F t.r x h
theorem RVs.st {xs : List MV} {vs : List V} (h : RVs K g xs vs) (t : Stp g H g' H') : RVs K g' xs vs := RVs.mono t.F t.r xs h
theorem RVs.length : ∀ {xs : List MV} {vs : List V}, RVs K g xs vs → xs.length = vs.length
  | [], _, h => by cases (show _ = [] from h); rfl
  | x :: xs, _, ⟨v, r, e, _, t⟩ => by subst e; simp [RVs.length t]
theorem RVs.get : ∀ {xs : List MV} {vs : List V} {i : Nat} {x : MV}, RVs K g xs vs → xs[i]? = some x → ∃ v, vs[i]? = some v ∧ RV K g x v
  | [], _, _, _, _, e => by simp at e
  | y :: xs, _, 0, x, ⟨v, r, e, h, t⟩, q => by simp at q; subst q; subst e; exact ⟨v, rfl, h⟩
  | y :: xs, _, i + 1, x, ⟨v, r, e, h, t⟩, q => by
    subst e
    obtain ⟨w, a, b⟩ := RVs.get (i := i) t (by simpa using q)
    exact ⟨w, by simpa using a, b⟩
theorem RVs.get' : ∀ {xs : List MV} {vs : List V} {i : Nat} {v : V}, RVs K g xs vs → vs[i]? = some v → ∃ x, xs[i]? = some x ∧ RV K g x v
  | [], _, _, _, h, e => by cases (show _ = [] from h); simp at e
  | y :: xs, _, 0, v, ⟨w, r, e, h, t⟩, q => by subst e; simp at q; subst q; exact ⟨y, rfl, h⟩
  | y :: xs, _, i + 1, v, ⟨w, r, e, h, t⟩, q => by
    subst e
    obtain ⟨x, a, b⟩ := RVs.get' (i := i) t (by simpa using q)
    exact ⟨x, by simpa using a, b⟩
theorem RVs.set {x : MV} {v : V} (h : RV K g x v) : ∀ {xs : List MV} {vs : List V} (i : Nat), RVs K g xs vs → RVs K g (xs.set i x) (vs.set i v)
  | [], _, _, q => by cases (show _ = [] from q); exact rfl
  | y :: xs, _, 0, ⟨w, r, e, _, t⟩ => by subst e; exact ⟨v, r, rfl, h, t⟩
  | y :: xs, _, i + 1, ⟨w, r, e, q, t⟩ => by subst e; exact ⟨w, r.set i v, rfl, q, RVs.set h i t⟩
theorem RVs.append : ∀ {xs ys : List MV} {vs ws : List V}, RVs K g xs vs → RVs K g ys ws → RVs K g (xs ++ ys) (vs ++ ws)
  | [], _, _, _, h, q => by cases (show _ = [] from h); exact q
  | x :: xs, _, _, _, ⟨v, r, e, h, t⟩, q => by subst e; exact ⟨v, _, rfl, h, RVs.append t q⟩
theorem RVs.one {x : MV} {v : V} (h : RV K g x v) : RVs K g [x] [v] := ⟨v, [], rfl, h, rfl⟩
theorem RVs.take : ∀ {xs : List MV} {vs : List V} (n : Nat), RVs K g xs vs → RVs K g (xs.take n) (vs.take n)
  | _, _, 0, _ => rfl
  | [], _, _ + 1, h => by cases (show _ = [] from h); exact rfl
  | x :: xs, _, n + 1, ⟨v, r, e, h, t⟩ => by subst e; exact ⟨v, _, rfl, h, RVs.take n t⟩
theorem RVs.drop : ∀ {xs : List MV} {vs : List V} (n : Nat), RVs K g xs vs → RVs K g (xs.drop n) (vs.drop n)
  | _, _, 0, h => h
  | [], _, _ + 1, h => by cases (show _ = [] from h); exact rfl
  | x :: xs, _, n + 1, ⟨v, r, e, h, t⟩ => by subst e; exact RVs.drop n t

theorem ObjR.st {o : MO} {a : Addr} (h : ObjR K g o H a) (t : Stp g H g' H') (e : H' a = H a) : ObjR K g' o H' a := by
  cases o with
  | lst xs => obtain ⟨ys, q, r⟩ := h; exact ⟨ys, e.trans q, r.st t⟩
theorem ObjR.some {o : MO} {a : Addr} (h : ObjR K g o H a) : ∃ u, H a = some u := by
  cases o with
  | lst xs => obtain ⟨ys, q, r⟩ := h; exact ⟨_, q⟩
/-- an own object stays through a step -/
theorem own_st {o : MO} {a : Addr} (h : ObjR K g o H a) (hF : g.F a = none) (hr : ∀ n, g.r n ≠ some a) (t : Stp g H g' H') : ObjR K g' o H' a ∧ g'.F a = none ∧ ∀ n, g'.r n ≠ some a := by
  obtain ⟨u, q⟩ := h.some
  refine ⟨h.st t ((t.keep a u q hr).trans q.symm), ?_, fun n e => ?_⟩
  · cases z : g'.F a with
    | none => rfl
    | some w =>
      rcases t.Fn a (by rw [z]; simp) with y | y | ⟨n, y⟩
      · exact absurd hF y
      · rw [q] at y; cases y
      · exact absurd y (hr n)
  · rcases t.rn n a e with y | y
    · exact hr n y
    · rw [q] at y; cases y
theorem RO.st {x : OV} {v : V} (h : RO K g H x v) (t : Stp g H g' H') : RO K g' H' x v := by
  cases x with
  | v x => exact RV.st (show RV K g x v from h) t
  | b o =>
    obtain ⟨a, e, q, hF, hr⟩ := h
    obtain ⟨q1, q2, q3⟩ := own_st q hF hr t
    exact ⟨a, e, q1, q2, q3⟩
theorem RSl.st (h : RSl K g s σ H) (t : Stp g H g' H') : RSl K g' s σ H' where
  val := fun i x e => let ⟨v, a, b⟩ := h.val i x e; ⟨v, a, b.st t⟩
  own := fun i o e => by
    obtain ⟨a, e1, q, hF, hr⟩ := h.own i o e
    obtain ⟨q1, q2, q3⟩ := own_st q hF hr t
    exact ⟨a, e1, q1, q2, q3⟩
  dis := h.dis
  len := h.len

/-- a new object is laid and frozen -/
theorem Rs.freeze {p : Addr} {o : HO} (h : Rs K g m H) (hp : H p = none) : Rs K { g with F := upd g.F p o } m (upd H p o) ∧ Stp g H { g with F := upd g.F p o } (upd H p o) := by
  have ne : ∀ a u, H a = some u → a ≠ p := fun a u e z => by subst z; rw [hp] at e; cases e
  have neF : ∀ a u, g.F a = some u → a ≠ p := fun a u e => ne a u (h.sub a u e)
  have st : Stp g H { g with F := upd g.F p o } (upd H p o) := by
    refine ⟨fun a u e => ?_, fun n a e => e, fun b u e _ => ?_, fun b e => ?_, fun b e => ?_, fun n b e => .inl e⟩
    · show upd g.F p o a = some u
      rw [upd_ne (neF a u e)]; exact e
    · rw [upd_ne (ne b u e)]; exact e
    · by_cases z : b = p
      · subst z; exact absurd hp e
      · rw [upd_ne z]; exact e
    · by_cases z : b = p
      · subst z; exact .inr (.inl hp)
      · have e : upd g.F p o b ≠ none := e
        rw [upd_ne z] at e; exact .inl e
  refine ⟨⟨fun a u e => ?_, fun n u e => ?_, fun n a e => ?_, h.rj⟩, st⟩
  · have e : upd g.F p o a = some u := e
    by_cases z : a = p
    · subst z; rw [upd_same] at e ⊢; exact e
    · rw [upd_ne z] at e ⊢; exact h.sub a u e
  · obtain ⟨a, e1, e2, e3⟩ := h.gr n u e
    obtain ⟨w, hw⟩ := e3.some
    have na := ne a w hw
    exact ⟨a, e1, by show upd g.F p o a = none; rw [upd_ne na]; exact e2, e3.st st (upd_ne na)⟩
  · obtain ⟨h1, h2⟩ := h.rb n a e
    refine ⟨h1, ?_⟩
    rw [upd_ne (fun z => h2 (by rw [z]; exact hp))]; exact h2
/-- what stands new and apart is frozen as it stands -/
theorem Rs.freezeAt {p : Addr} {o : HO} (h : Rs K g m H) (hp : H p = some o) (hr : ∀ n, g.r n ≠ some p) (hF : g.F p = none) : Rs K { g with F := upd g.F p o } m H := by
  have mono : ∀ a u, g.F a = some u → upd g.F p o a = some u := fun a u e => by
    by_cases z : a = p
    · subst z; rw [hF] at e; cases e
    · rw [upd_ne z]; exact e
  refine ⟨fun a u e => ?_, fun n u e => ?_, h.rb, h.rj⟩
  · have e : upd g.F p o a = some u := e
    by_cases z : a = p
    · subst z; rw [upd_same] at e; rw [hp]; exact e
    · rw [upd_ne z] at e; exact h.sub a u e
  · obtain ⟨a, e1, e2, e3⟩ := h.gr n u e
    have na : a ≠ p := fun z => hr n (by rw [← z]; exact e1)
    refine ⟨a, e1, by show upd g.F p o a = none; rw [upd_ne na]; exact e2, ?_⟩
    cases u with
    | lst xs => obtain ⟨ys, q, r⟩ := e3; exact ⟨ys, q, RVs.mono (g := g) (g' := { g with F := upd g.F p o }) mono (fun _ _ e => e) xs r⟩
end

/-! ### what is wanted of a result -/
def Post {α β : Type} (K : PySem.W.Frag) (Rel : G → Hp → α → β → Prop) (g : G) (H : Hp) (r : R α) (Q : β → Hp → Prop) : Prop := match r with
  | .ok x m' => ∀ g' v H', Rs K g' m' H' → Stp g H g' H' → Rel g' H' x v → Q v H'
  | _ => False
abbrev PostO (K : PySem.W.Frag) : G → Hp → R OV → VK → Prop := Post K (RO K)
abbrev PostB (K : PySem.W.Frag) : G → Hp → R Bool → (Bool → Hp → Prop) → Prop := Post K fun _ _ x v => x = v
abbrev PostL (K : PySem.W.Frag) : G → Hp → R (List OV) → (List V → Hp → Prop) → Prop := Post K fun g H => Paired (RO K g H)
/-- a new object -/
def PostF (K : PySem.W.Frag) (g : G) (H : Hp) (r : R MO) (Q : VK) : Prop := match r with
  | .ok o m' => ∀ g' p H', Rs K g' m' H' → Stp g H g' H' → H p = none → g'.F p = none → (∀ n, g'.r n ≠ some p) → ObjR K g' o H' p → Q (.ref p) H'
  | _ => False
def tE (K : PySem.W.Frag) (f : Sl → Mem → R OV) : TE := fun σ H Q => ∃ g s m, Rs K g m H ∧ RSl K g s σ H ∧ PostO K g H (f s m) Q
def tF (K : PySem.W.Frag) (f : Sl → Mem → R MO) : TE := fun σ H Q => ∃ g s m, Rs K g m H ∧ RSl K g s σ H ∧ PostF K g H (f s m) Q
def tT (K : PySem.W.Frag) (f : Sl → Mem → R Bool) : TT := fun σ H Q => ∃ g s m, Rs K g m H ∧ RSl K g s σ H ∧ PostB K g H (f s m) Q
def tA (K : PySem.W.Frag) (f : Sl → Mem → R (List OV)) : TA := fun σ H Q => ∃ g s m, Rs K g m H ∧ RSl K g s σ H ∧ PostL K g H (f s m) Q

theorem _root_.L2.PE.weaken {X : Cx} {e : Expr} {t t' : TE} (h : PE X e t) (w : ∀ σ H Q, t' σ H Q → t σ H Q) : PE X e t' := ⟨fun pins s σ H Q I q => h.run pins s σ H Q I (w σ H Q q)⟩
theorem _root_.L2.PT.weaken {X : Cx} {e : Expr} {t t' : TT} (h : PT X e t) (w : ∀ σ H Q, t' σ H Q → t σ H Q) : PT X e t' := ⟨fun pins s σ H Q I q => h.run pins s σ H Q I (w σ H Q q)⟩
theorem _root_.L2.PW.weaken {X : Cx} {e : Expr} {t t' : TT} (h : PW X e t) (w : ∀ σ H Q, t' σ H Q → t σ H Q) : PW X e t' := ⟨fun wh pins s σ H Q I q => h.run wh pins s σ H Q I (w σ H Q q)⟩
theorem _root_.L2.PA.weaken {X : Cx} {es : List Expr} {t t' : TA} (h : PA X es t) (w : ∀ σ H Q, t' σ H Q → t σ H Q) : PA X es t' := ⟨fun pos pins s σ H Q I q => h.run pos pins s σ H Q I (w σ H Q q)⟩
theorem _root_.L2.PS.weaken {X : Cx} {e : Stmt} {t t' : TS} (h : PS X e t) (w : ∀ D σ H, t' D σ H → t D σ H) : PS X e t' := ⟨fun pins s σ H D I q => h.run pins s σ H D I (w D σ H q)⟩
theorem _root_.L2.PSs.weaken {X : Cx} {e : List Stmt} {t t' : TS} (h : PSs X e t) (w : ∀ D σ H, t' D σ H → t D σ H) : PSs X e t' := ⟨fun pins s σ H D I q => h.run pins s σ H D I (w D σ H q)⟩
theorem _root_.L2.OpR.weaken {X : Cx} {f : Value → Value → Sem Value} {r r' : R2} (h : OpR X f r) (w : ∀ x y H Q, r' x y H Q → r x y H Q) : OpR X f r' := fun pins s σ H x y v u Q I rx ry q => h pins s σ H x y v u Q I rx ry (w x y H Q q)

section
variable {α β γ δ : Type} {K : PySem.W.Frag} {g g' : G} {H H' : Hp} {R1 : G → Hp → α → β → Prop} {R2 : G → Hp → γ → δ → Prop}
theorem Post.shift {r : R α} {Q : β → Hp → Prop} (t : Stp g H g' H') (h : Post K R1 g H r Q) : Post K R1 g' H' r Q := by
  cases r with
  | ok x m' => exact fun g2 v H2 a b c => h g2 v H2 a (t.trans b) c
  | _ => exact h
theorem PostF.shift {r : R MO} {Q : VK} (t : Stp g H g' H') (h : PostF K g H r Q) : PostF K g' H' r Q := by
  cases r with
  | ok x m' =>
    refine fun g2 p H2 a b c d e f => h g2 p H2 a (t.trans b) ?_ d e f
    cases q : H p with
    | none => rfl
    | some o => exact absurd c (t.dom p (by rw [q]; simp))
  | _ => exact h
/-- what comes behind -/
theorem Post.bind {r : R α} {k : α → Mem → R γ} {Q : δ → Hp → Prop} (h : Post K R2 g H (r.bind k) Q) : Post K R1 g H r fun v H1 => ∃ x g1 m1, Rs K g1 m1 H1 ∧ Stp g H g1 H1 ∧ R1 g1 H1 x v ∧ Post K R2 g1 H1 (k x m1) Q := by
  cases r with
  | ok x m' => exact fun g1 v H1 a b c => ⟨x, g1, m', a, b, c, Post.shift b h⟩
  | _ => exact h
theorem PostF.bind {r : R α} {k : α → Mem → R MO} {Q : VK} (h : PostF K g H (r.bind k) Q) : Post K R1 g H r fun v H1 => ∃ x g1 m1, Rs K g1 m1 H1 ∧ Stp g H g1 H1 ∧ R1 g1 H1 x v ∧ PostF K g1 H1 (k x m1) Q := by
  cases r with
  | ok x m' => exact fun g1 v H1 a b c => ⟨x, g1, m', a, b, c, PostF.shift b h⟩
  | _ => exact h
end
end Rc

set_option Elab.async false
set_option linter.all false
set_option maxRecDepth 100000
set_option maxHeartbeats 4000000
namespace Rc
open PySem PySem.Spec L2
open PyProof.Rows hiding St

/-! ### contents -/
inductive Sq where
  | l (xs : List MV)
  | t (xs : List MV)
  | s (x : Str)
def memL (m : Mem) (n : Nat) : Option (List MV) := match m[n]? with
  | some (some (.lst xs)) => some xs
  | _ => none
theorem memL_eq {m : Mem} {n : Nat} {xs : List MV} (h : memL m n = some xs) : m[n]? = some (some (.lst xs)) := by
  unfold memL at h
  split at h
  · cases h; assumption
  · cases h
def contO (m : Mem) : OV → Option Sq
  | .v (.lst xs) => some (.l xs)
  | .v (.kl xs) => some (.l xs)
  | .v (.tup xs) => some (.t xs)
  | .v (.str x) => some (.s x)
  | .v (.ref n) => (memL m n).map Sq.l
  | .b (.lst xs) => some (.l xs)
  | _ => none
def SqR (K : PySem.W.Frag) (g : G) (H : Hp) (c : Sq) (v : V) : Prop := match c with
  | .l xs => ∃ a ys, v = .ref a ∧ SqL K H a ys ∧ RVs K g xs ys
  | .t xs => ∃ a ys, v = .ref a ∧ SqT K H a ys ∧ RVs K g xs ys
  | .s z => v = .str z
section
variable {K : PySem.W.Frag} {g g' : G} {H H' : Hp} {m : Mem}
theorem contO_ok {x : OV} {v : V} {c : Sq} (rs : Rs K g m H) (r : RO K g H x v) (e : contO m x = some c) : SqR K g H c v := by
  cases x with
  | b o =>
    cases o with
    | lst xs =>
      cases e
      obtain ⟨a, rfl, ⟨ys, q, rv⟩, _⟩ := r
      exact ⟨a, ys, rfl, .of q, rv⟩
  | v x =>
    cases x with
    | lst xs =>
      cases e
      obtain ⟨a, ys, rfl, q, rv⟩ := r
      exact ⟨a, ys, rfl, .of (rs.sub _ _ q), rv⟩
    | kl xs =>
      cases e
      obtain ⟨a, ys, rfl, q, rv⟩ := r
      exact ⟨a, ys, rfl, SqL.monoF rs.sub q, rv⟩
    | tup xs =>
      cases e
      obtain ⟨a, ys, rfl, q, rv⟩ := r
      exact ⟨a, ys, rfl, SqT.monoF rs.sub q, rv⟩
    | str x => cases e; exact r
    | ref n =>
      obtain ⟨a, rfl, q⟩ := r
      obtain ⟨xs, h, rfl⟩ := Option.map_eq_some_iff.mp (show (memL m n).map Sq.l = some c from e)
      obtain ⟨b, q1, _, ys, q2, rv⟩ := rs.gr n _ (memL_eq h)
      rw [q] at q1; cases q1
      exact ⟨a, ys, rfl, .of q2, rv⟩
    | _ => cases e
/-- a plain list that is tracked (no written one) -/
def lstO (m : Mem) : OV → Option (List MV)
  | .v (.lst xs) => some xs
  | .v (.ref n) => memL m n
  | .b (.lst xs) => some xs
  | _ => none
theorem lstO_ok {x : OV} {v : V} {xs : List MV} (rs : Rs K g m H) (r : RO K g H x v) (e : lstO m x = some xs) : ∃ a ys, v = .ref a ∧ H a = some (.lst ys) ∧ RVs K g xs ys := by
  cases x with
  | b o =>
    cases o with
    | lst xs =>
      cases e
      obtain ⟨a, rfl, ⟨ys, q, rv⟩, _⟩ := r
      exact ⟨a, ys, rfl, q, rv⟩
  | v x =>
    cases x with
    | lst xs =>
      cases e
      obtain ⟨a, ys, rfl, q, rv⟩ := r
      exact ⟨a, ys, rfl, rs.sub _ _ q, rv⟩
    | ref n =>
      obtain ⟨a, rfl, q⟩ := r
      obtain ⟨b, q1, _, ys, q2, rv⟩ := rs.gr n _ (memL_eq (show memL m n = some xs from e))
      rw [q] at q1; cases q1
      exact ⟨a, ys, rfl, q2, rv⟩
    | _ => cases e
end

/-! ### operations by values -/
def t2 (K : PySem.W.Frag) (f : OV → OV → Mem → R OV) : R2 := fun x y H Q => ∃ g m a b, Rs K g m H ∧ RO K g H a x ∧ RO K g H b y ∧ PostO K g H (f a b m) Q
def t1 (K : PySem.W.Frag) (f : OV → Mem → R OV) : V → Hp → VK → Prop := fun x H Q => ∃ g m a, Rs K g m H ∧ RO K g H a x ∧ PostO K g H (f a m) Q
/-- arguments -/
def tN (K : PySem.W.Frag) (f : List OV → Mem → R OV) : List V → Hp → VK → Prop := fun xs H Q => ∃ g m as, Rs K g m H ∧ Paired (RO K g H) as xs ∧ PostO K g H (f as m) Q
section
variable {K : PySem.W.Frag} {g : G} {H : Hp} {m : Mem} {Q : VK}
/-- a value without a part is the answer, the heap as it was -/
theorem post_val {x : MV} {v : V} (rs : Rs K g m H) (p : PostO K g H (.ok (.v x) m) Q) (r : RV K g x v) : Q v H := p g v H rs (Stp.refl _ _) r
/-- a new list is the answer, frozen -/
theorem post_new {xs : List MV} {ys : List V} (rs : Rs K g m H) (p : PostO K g H (.ok (.v (.lst xs)) m) Q) (r : RVs K g xs ys) : ∀ a, H a = none → Q (.ref a) (upd H a (.lst ys)) := fun a ha => by
  obtain ⟨r1, st⟩ := rs.freeze (o := .lst ys) ha
  exact p _ _ _ r1 st ⟨a, ys, rfl, upd_same, r.st st⟩
theorem post_tup {xs : List MV} {ys : List V} (rs : Rs K g m H) (p : PostO K g H (.ok (.v (.tup xs)) m) Q) (r : RVs K g xs ys) : ∀ a, H a = none → Q (.ref a) (upd H a (.tup ys)) := fun a ha => by
  obtain ⟨r1, st⟩ := rs.freeze (o := .tup ys) ha
  exact p _ _ _ r1 st ⟨a, ys, rfl, .of upd_same, r.st st⟩
end

def addO : OV → OV → Mem → R OV := fun a b m => match a, b with
  | .v (.int i), .v (.int j) => .ok (.v (.int (i + j))) m
  | .v (.str x), .v (.str y) => if x.length + y.length ≤ sizeLine then .ok (.v (.str (x ++ y))) m else .stuck
  | a, b => match lstO m a, lstO m b with
    | some xs, some ys => if xs.length + ys.length ≤ sizeLine then .ok (.v (.lst (xs ++ ys))) m else .stuck
    | _, _ => .stuck
def subO : OV → OV → Mem → R OV := fun a b m => match a, b with
  | .v (.int i), .v (.int j) => .ok (.v (.int (i - j))) m
  | _, _ => .stuck
def mulO : OV → OV → Mem → R OV := fun a b m => match a, b with
  | .v (.int i), .v (.int j) => if (-(2 ^ 64) < i ∧ i < 2 ^ 64) ∨ (-(2 ^ 64) < j ∧ j < 2 ^ 64) then .ok (.v (.int (i * j))) m else .stuck
  | _, _ => .stuck
def fdivO : OV → OV → Mem → R OV := fun a b m => match a, b with
  | .v (.int i), .v (.int j) => if 0 < j ∧ j.natAbs.log2 < 9000 then .ok (.v (.int (i / j))) m else .stuck
  | _, _ => .stuck
def modO : OV → OV → Mem → R OV := fun a b m => match a, b with
  | .v (.int i), .v (.int j) => if 0 < j then .ok (.v (.int (i % j))) m else .stuck
  | _, _ => .stuck
def powO : OV → OV → Mem → R OV := fun a b m => match a, b with
  | .v (.int i), .v (.int j) => if 0 ≤ j ∧ j ≤ 1000000 ∧ i.natAbs < 2 ^ 64 then .ok (.v (.int (i ^ j.toNat))) m else .stuck
  | _, _ => .stuck
def negO : OV → Mem → R OV := fun a m => match a with
  | .v (.int i) => .ok (.v (.int (-i))) m
  | _ => .stuck

section
variable {X : Cx}
theorem op_addO : OpR X (binaryOp .Add) (t2 X.K addO) := by
  refine ((op_add.or op_add_str).or op_cat).weaken ?_
  rintro x y H Q ⟨g, m, a, b, rs, ra, rb, p⟩
  unfold addO at p
  split at p
  · cases ra; cases rb
    exact .inl (.inl ⟨_, _, rfl, rfl, post_val rs p rfl⟩)
  · cases ra; cases rb
    split at p
    · exact .inl (.inr ⟨_, _, rfl, rfl, by assumption, post_val rs p rfl⟩)
    · exact p.elim
  · split at p
    · rename_i xs ys e1 e2
      split at p
      · obtain ⟨a1, v1, rfl, q1, r1⟩ := lstO_ok rs ra e1
        obtain ⟨a2, v2, rfl, q2, r2⟩ := lstO_ok rs rb e2
        exact .inr ⟨a1, a2, v1, v2, rfl, rfl, q1, q2, by rw [← r1.length, ← r2.length]; assumption, post_new rs p (r1.append r2)⟩
      · exact p.elim
    · exact p.elim
theorem op_subO : OpR X (binaryOp .Sub) (t2 X.K subO) := by
  refine op_sub.weaken ?_
  rintro x y H Q ⟨g, m, a, b, rs, ra, rb, p⟩
  unfold subO at p
  split at p
  · cases ra; cases rb; exact ⟨_, _, rfl, rfl, post_val rs p rfl⟩
  · exact p.elim
theorem op_mulO : OpR X (binaryOp .Mult) (t2 X.K mulO) := by
  refine (opI (C := fun i j => (-(2 ^ 64) < i ∧ i < 2 ^ 64) ∨ (-(2 ^ 64) < j ∧ j < 2 ^ 64)) (g := fun i j => i * j) fun i j t u s Q E hc q => ?_).weaken ?_
  · exact mul_int q (by
      rcases hc with ⟨h1, h2⟩ | ⟨h1, h2⟩
      · exact .of_left (intBits_le_64 h1 h2)
      · exact .of_right (intBits_le_64 h1 h2))
  rintro x y H Q ⟨g, m, a, b, rs, ra, rb, p⟩
  unfold mulO at p
  split at p
  · cases ra; cases rb
    split at p
    · exact ⟨_, _, rfl, rfl, by assumption, post_val rs p rfl⟩
    · exact p.elim
  · exact p.elim
theorem op_fdivO : OpR X (binaryOp .FloorDiv) (t2 X.K fdivO) := by
  refine op_fdivW.weaken ?_
  rintro x y H Q ⟨g, m, a, b, rs, ra, rb, p⟩
  unfold fdivO at p
  split at p
  · cases ra; cases rb
    split at p
    · exact ⟨_, _, rfl, rfl, by assumption, post_val rs p rfl⟩
    · exact p.elim
  · exact p.elim
theorem op_modO : OpR X (binaryOp .Mod) (t2 X.K modO) := by
  refine op_mod.weaken ?_
  rintro x y H Q ⟨g, m, a, b, rs, ra, rb, p⟩
  unfold modO at p
  split at p
  · cases ra; cases rb
    split at p
    · exact ⟨_, _, rfl, rfl, by assumption, post_val rs p rfl⟩
    · exact p.elim
  · exact p.elim
theorem op_powO : OpR X (binaryOp .Pow) (t2 X.K powO) := by
  refine op_pow.weaken ?_
  rintro x y H Q ⟨g, m, a, b, rs, ra, rb, p⟩
  unfold powO at p
  split at p
  · cases ra; cases rb
    split at p
    · exact ⟨_, _, rfl, rfl, by assumption, post_val rs p rfl⟩
    · exact p.elim
  · exact p.elim
theorem _root_.L2.UnR.weaken {f : Value → Sem Value} {r r' : V → Hp → VK → Prop} (h : UnR X f r) (w : ∀ x H Q, r' x H Q → r x H Q) : UnR X f r' := fun pins s σ H x v Q I rx q => h pins s σ H x v Q I rx (w x H Q q)
theorem un_negO : UnR X (unaryOp .USub) (t1 X.K negO) := by
  refine un_neg.weaken ?_
  rintro x H Q ⟨g, m, a, rs, ra, p⟩
  unfold negO at p
  split at p
  · cases ra; exact ⟨_, rfl, post_val rs p rfl⟩
  · exact p.elim
end

/-! ### comparisons -/
def eqS : MV → MV → Option Bool
  | .non, .non => some true
  | .non, .int _ => some false
  | .int _, .non => some false
  | .non, .bl _ => some false
  | .bl _, .non => some false
  | .non, .str _ => some false
  | .str _, .non => some false
  | .int i, .int j => some (decide (i = j))
  | .bl a, .bl b => some (a == b)
  | .str x, .str y => some (decide (x = y))
  | .int _, .str _ => some false
  | .str _, .int _ => some false
  | .bl _, .str _ => some false
  | .str _, .bl _ => some false
  | _, _ => none
def blO (m : Mem) : Option Bool → R OV
  | some b => .ok (.v (.bl b)) m
  | none => .stuck
def eqO : OV → OV → Mem → R OV := fun a b m => match a, b with
  | .v x, .v y => blO m (eqS x y)
  | _, _ => .stuck
def neO : OV → OV → Mem → R OV := fun a b m => match a, b with
  | .v x, .v y => blO m ((eqS x y).map (!·))
  | _, _ => .stuck
def cmpI (p : Int → Int → Bool) : OV → OV → Mem → R OV := fun a b m => match a, b with
  | .v (.int i), .v (.int j) => .ok (.v (.bl (p i j))) m
  | _, _ => .stuck
def ltO := cmpI fun i j => decide (i < j)
def leO := cmpI fun i j => decide (i ≤ j)
def gtO := cmpI fun i j => decide (j < i)
def geO := cmpI fun i j => decide (j ≤ i)
/-- flat values: what in looks at -/
def flatM : MV → Bool
  | .non => true | .bl _ => true | .int _ => true | .str _ => true | _ => false
def eqF : MV → MV → Bool
  | .non, .non => true
  | .bl a, .bl b => a == b
  | .int i, .int j => i == j
  | .bl a, .int j => (if a then 1 else 0) == j
  | .int i, .bl b => i == (if b then 1 else 0)
  | .str x, .str y => x == y
  | _, _ => false
def isN : OV → Option Bool
  | .v .non => some true
  | .v (.bl _) => some false
  | .v (.int _) => some false
  | .v (.str _) => some false
  | .v (.tup _) => some false
  | .v (.lst _) => some false
  | .v (.kl _) => some false
  | .v (.ref _) => some false
  | .b _ => some false
def isO : OV → OV → Mem → R OV := fun a b m => match b with
  | .v .non => blO m (isN a)
  | .v (.bl c) => (match a with
    | .v (.bl d) => .ok (.v (.bl (d == c))) m
    | _ => .stuck)
  | _ => .stuck
def isntO : OV → OV → Mem → R OV := fun a b m => match b with
  | .v .non => blO m ((isN a).map (!·))
  | .v (.bl c) => (match a with
    | .v (.bl d) => .ok (.v (.bl (!(d == c)))) m
    | _ => .stuck)
  | _ => .stuck
def inB (m : Mem) (a b : OV) : Option Bool := match b with
  | .v (.str z) => (match a with
    | .v (.str y) => (match y.cps.toList with
      | [c] => some (decide (c ∈ z.cps.toList))
      | _ => none)
    | _ => none)
  | b => match a, contO m b with
    | .v x, some (.l xs) => if flatM x && xs.all flatM then some (xs.any fun y => eqF y x) else none
    | .v x, some (.t xs) => if flatM x && xs.all flatM then some (xs.any fun y => eqF y x) else none
    | _, _ => none
def inO : OV → OV → Mem → R OV := fun a b m => blO m (inB m a b)
def notinO : OV → OV → Mem → R OV := fun a b m => blO m ((inB m a b).map (!·))

section
variable {K : PySem.W.Frag} {g : G} {H : Hp} {m : Mem}
theorem eqS_ok {x y : MV} {v w : V} {b : Bool} (rx : RV K g x v) (ry : RV K g y w) (e : eqS x y = some b) : scal v w = true ∧ b = decide (v = w) := by
  cases x <;> cases y <;> simp only [eqS, Option.some.injEq, reduceCtorEq] at e <;> (cases rx; cases ry; subst e; first | (simp [scal]; done) | (refine ⟨rfl, ?_⟩; rw [Bool.eq_iff_iff]; simp))
theorem isN_ok {x : OV} {v : V} {b : Bool} (r : RO K g H x v) (e : isN x = some b) : b = decide (v = .non) := by
  cases x with
  | b o => cases e; obtain ⟨a, rfl, _⟩ := r; simp
  | v x =>
    cases x with
    | non => cases e; cases r; simp
    | bl b => cases e; cases r; simp
    | int b => cases e; cases r; simp
    | str b => cases e; cases r; simp
    | tup b => cases e; obtain ⟨a, ys, rfl, _⟩ := r; simp
    | lst b => cases e; obtain ⟨a, ys, rfl, _⟩ := r; simp
    | kl b => cases e; obtain ⟨a, ys, rfl, _⟩ := r; simp
    | ref b => cases e; obtain ⟨a, rfl, _⟩ := r; simp
theorem flatM_ok {x : MV} {v : V} (r : RV K g x v) (f : flatM x = true) : flatV v = true := by
  cases x <;> simp only [flatM, reduceCtorEq] at f <;> (cases r; rfl)
theorem eqF_ok {x y : MV} {v w : V} (rx : RV K g x v) (ry : RV K g y w) (fx : flatM x = true) (fy : flatM y = true) : eqV v w = eqF x y := by
  cases x <;> simp only [flatM, reduceCtorEq] at fx <;> cases y <;> simp only [flatM, reduceCtorEq] at fy <;> (cases rx; cases ry; first | rfl | (simp [eqV, eqF]; done) | skip)
  all_goals (simp only [eqV, eqF]; try simp)
end

section
variable {X : Cx}
theorem post_blO {K : PySem.W.Frag} {g : G} {H : Hp} {m : Mem} {Q : VK} {o : Option Bool} (rs : Rs K g m H) (p : PostO K g H (blO m o) Q) : ∃ b, o = some b ∧ Q (.bl b) H := by
  cases o with
  | none => exact p.elim
  | some b => exact ⟨b, rfl, post_val rs p rfl⟩
theorem op_eqO : OpR X (compareOp .Eq) (t2 X.K eqO) := by
  refine op_eq.weaken ?_
  rintro x y H Q ⟨g, m, a, b, rs, ra, rb, p⟩
  unfold eqO at p
  split at p
  · obtain ⟨b, e, q⟩ := post_blO rs p
    obtain ⟨h1, h2⟩ := eqS_ok ra rb e
    exact ⟨h1, h2 ▸ q⟩
  · exact p.elim
theorem op_neO : OpR X (compareOp .NotEq) (t2 X.K neO) := by
  refine op_ne.weaken ?_
  rintro x y H Q ⟨g, m, a, b, rs, ra, rb, p⟩
  unfold neO at p
  split at p
  · obtain ⟨b, e, q⟩ := post_blO rs p
    obtain ⟨c, e0, rfl⟩ := Option.map_eq_some_iff.mp e; clear e; have e := e0; clear e0
    obtain ⟨h1, h2⟩ := eqS_ok ra rb e
    exact ⟨h1, h2 ▸ q⟩
  · exact p.elim
theorem op_cmpI {op : CmpOp} {p : Int → Int → Bool} (h : OpR X (compareOp op) (rI0 fun i j => .bl (p i j))) : OpR X (compareOp op) (t2 X.K (cmpI p)) := by
  refine h.weaken ?_
  rintro x y H Q ⟨g, m, a, b, rs, ra, rb, q⟩
  unfold cmpI at q
  split at q
  · cases ra; cases rb; exact ⟨_, _, rfl, rfl, post_val rs q rfl⟩
  · exact q.elim
theorem op_isO : OpR X (compareOp .Is) (t2 X.K isO) := by
  refine (op_isN.or op_isBl).weaken ?_
  rintro x y H Q ⟨g, m, a, b, rs, ra, rb, p⟩
  unfold isO at p
  split at p
  · obtain ⟨b, e, q⟩ := post_blO rs p
    cases rb
    exact .inl ⟨rfl, isN_ok ra e ▸ q⟩
  · split at p
    · cases ra; cases rb
      exact .inr ⟨_, _, rfl, rfl, post_val rs p (congrArg V.bl (by rw [Bool.eq_iff_iff]; simp))⟩
    · exact p.elim
  · exact p.elim
theorem op_isntO : OpR X (compareOp .IsNot) (t2 X.K isntO) := by
  refine (op_notN.or op_notBl).weaken ?_
  rintro x y H Q ⟨g, m, a, b, rs, ra, rb, p⟩
  unfold isntO at p
  split at p
  · obtain ⟨b, e, q⟩ := post_blO rs p
    obtain ⟨c, e0, rfl⟩ := Option.map_eq_some_iff.mp e; clear e; have e := e0; clear e0
    cases rb
    exact .inl ⟨rfl, isN_ok ra e ▸ q⟩
  · split at p
    · cases ra; cases rb
      exact .inr ⟨_, _, rfl, rfl, post_val rs p (congrArg V.bl (by rw [Bool.eq_iff_iff]; simp))⟩
    · exact p.elim
  · exact p.elim
theorem inV_ok {K : PySem.W.Frag} {g : G} {x : MV} {v : V} (rx : RV K g x v) (fx : flatM x = true) : ∀ {xs : List MV} {vs : List V}, RVs K g xs vs → xs.all flatM = true → vs.all flatV = true ∧ inV v vs = xs.any fun y => eqF y x
  | [], _, r, _ => by cases (show _ = [] from r); exact ⟨rfl, rfl⟩
  | y :: ys, _, ⟨w, r, e, h, t⟩, f => by
    subst e
    rw [List.all_cons, Bool.and_eq_true] at f
    obtain ⟨h1, h2⟩ := inV_ok rx fx t f.2
    refine ⟨by rw [List.all_cons, flatM_ok h f.1, h1]; rfl, ?_⟩
    show (eqV w v || inV v r) = _
    rw [h2, eqF_ok h rx f.1 fx]
    rfl
theorem inB_ok {K : PySem.W.Frag} {g : G} {H : Hp} {m : Mem} {a b : OV} {x y : V} {c : Bool} (rs : Rs K g m H) (ra : RO K g H a x) (rb : RO K g H b y) (e : inB m a b = some c) :
    (∃ (d : Nat) (z : Str), x = .str ⟨#[d]⟩ ∧ y = .str z ∧ c = decide (d ∈ z.cps.toList)) ∨
    (∃ p xs, y = .ref p ∧ (SqL K H p xs ∨ SqT K H p xs) ∧ flatV x = true ∧ xs.all flatV = true ∧ c = inV x xs) := by
  unfold inB at e
  split at e
  · split at e
    · split at e
      · rename_i z _ y _ d hd
        cases e; cases ra; cases rb
        refine .inl ⟨d, z, ?_, rfl, rfl⟩
        obtain ⟨y⟩ := y
        have : y = #[d] := by
          apply Array.ext'
          exact hd
        rw [this]
      · cases e
    · cases e
  · split at e
    · rename_i x xs hc
      split at e
      · rename_i hf
        rw [Bool.and_eq_true] at hf
        cases e
        obtain ⟨p, ys, rfl, q, r⟩ := contO_ok rs rb hc
        obtain ⟨h1, h2⟩ := inV_ok ra hf.1 r hf.2
        exact .inr ⟨p, ys, rfl, .inl q, flatM_ok ra hf.1, h1, h2.symm⟩
      · cases e
    · rename_i x xs hc
      split at e
      · rename_i hf
        rw [Bool.and_eq_true] at hf
        cases e
        obtain ⟨p, ys, rfl, q, r⟩ := contO_ok rs rb hc
        obtain ⟨h1, h2⟩ := inV_ok ra hf.1 r hf.2
        exact .inr ⟨p, ys, rfl, .inr q, flatM_ok ra hf.1, h1, h2.symm⟩
      · cases e
    · cases e
theorem op_inO : OpR X (compareOp .In) (t2 X.K inO) := by
  refine (op_in_sign.or op_in_seq).weaken ?_
  rintro x y H Q ⟨g, m, a, b, rs, ra, rb, p⟩
  obtain ⟨c, e, q⟩ := post_blO rs p
  rcases inB_ok rs ra rb e with ⟨d, z, e1, e2, e3⟩ | ⟨p, xs, e1, e2, e3, e4, e5⟩
  · exact .inl ⟨d, z, e1, e2, e3 ▸ q⟩
  · exact .inr ⟨p, xs, e1, e2, e3, e4, by rw [if_neg (by decide), ← e5]; exact q⟩
theorem op_notinO : OpR X (compareOp .NotIn) (t2 X.K notinO) := by
  refine (op_notIn_sign.or op_notIn_seq).weaken ?_
  rintro x y H Q ⟨g, m, a, b, rs, ra, rb, p⟩
  obtain ⟨c, e, q⟩ := post_blO rs p
  obtain ⟨c, e0, rfl⟩ := Option.map_eq_some_iff.mp e; clear e; have e := e0; clear e0
  rcases inB_ok rs ra rb e with ⟨d, z, e1, e2, e3⟩ | ⟨p, xs, e1, e2, e3, e4, e5⟩
  · exact .inl ⟨d, z, e1, e2, e3 ▸ q⟩
  · exact .inr ⟨p, xs, e1, e2, e3, e4, by rw [if_pos rfl, ← e5]; exact q⟩
end
end Rc

set_option Elab.async false
set_option linter.all false
set_option maxRecDepth 100000
set_option maxHeartbeats 4000000
namespace Rc
open PySem PySem.Spec L2
open PyProof.Rows hiding St

/-! ### the small language -/
inductive O2 where
  | add | sub | mul | fdiv | mod | pow
inductive C2 where
  | eq | ne | lt | le | gt | ge | is_ | isnt | in_ | notin
/-- built-in functions, called with arguments -/
inductive BI where
  | len | int | abs | all | list | tuple | sum | bool | str
/-- classes that isinstance is asked of -/
inductive Ty where
  | int | str | bool | list | tuple
/-- a target -/
inductive MG where
  | name (i : Nat)
  | tup (is : List Nat)

mutual
inductive ME where
  | slot (i : Nat)
  | cN
  | cB (b : Bool)
  | cI (i : Int)
  | cS (x : Str)
  | glob (x : Str) (v : MV)
  | bin (op : O2) (a b : ME)
  | neg (a : ME)
  | cmp (op : C2) (a b : ME)
  | chain (op op' : C2) (a b c : ME)
  | andV (a b : ME)
  | orV (a b : ME)
  | notV (a : ME)
  | ite (t : MT) (a b : ME)
  | tup (es : MEs)
  | fr (f : MF)
  | ix (a i : ME)
  | sl (a : ME) (lo hi : MP)
  | call (i : Nat) (es : MEs)
  | callN (i : Nat) (es : MEs)
  | callK (i : Nat) (ks : List Str) (es : MEs)
  | bi (b : BI) (e : ME)
  | join (o e : ME)
  | isi (a : ME) (ts : List Ty) (one : Bool)
inductive MEs where
  | nil
  | cons (e : ME) (es : MEs)
inductive MP where
  | none
  | some (e : ME)
inductive MT where
  | val (e : ME)
  | cmp (op : C2) (a b : ME)
  | chain (op op' : C2) (a b c : ME)
  | and (a b : MT)
  | or (a b : MT)
  | not (a : MT)
inductive MF where
  | lst (es : MEs)
  | comp (own : List Nat) (tg : MG) (it : MI) (ifs : MTs) (e : ME)
  | toList (e : ME)
inductive MI where
  | seq (e : ME)
  | range1 (a : ME)
  | range2 (a b : ME)
  | zip (a b : ME)
inductive MTs where
  | nil
  | one (t : MT)
end

/-! ### what it does -/
def bopF : O2 → OV → OV → Mem → R OV
  | .add => addO | .sub => subO | .mul => mulO | .fdiv => fdivO | .mod => modO | .pow => powO
def cmpF : C2 → OV → OV → Mem → R OV
  | .eq => eqO | .ne => neO | .lt => ltO | .le => leO | .gt => gtO | .ge => geO | .is_ => isO | .isnt => isntO | .in_ => inO | .notin => notinO
def truO (m : Mem) : OV → Option Bool
  | .v .non => some false
  | .v (.bl b) => some b
  | .v (.int i) => some (i != 0)
  | .v (.str x) => if x.length ≤ sizeLine then some ((x.length : Int) != 0) else none
  | x => match contO m x with
    | some (.l xs) => some (!xs.isEmpty)
    | some (.t xs) => some (!xs.isEmpty)
    | _ => none
def truR (x : OV) (m : Mem) : R Bool := match truO m x with
  | some b => .ok b m
  | none => .stuck
/-- a bool, as it is -/
def asBl (x : OV) (m : Mem) : R Bool := match x with
  | .v (.bl b) => .ok b m
  | _ => .stuck
def valO : OV → Option MV
  | .v x => some x
  | .b _ => none
def vals : List OV → Option (List MV)
  | [] => some []
  | .v x :: r => (vals r).map (x :: ·)
  | .b _ :: _ => none
def blsM : List MV → Option (List Bool)
  | [] => some []
  | .bl b :: r => (blsM r).map (b :: ·)
  | _ :: _ => none
def intsM : List MV → Option (List Int)
  | [] => some []
  | .int b :: r => (intsM r).map (b :: ·)
  | _ :: _ => none
def strsOf : List MV → Option (List Str)
  | [] => some []
  | .str b :: r => (strsOf r).map (b :: ·)
  | _ :: _ => none
def atM (xs : List MV) (i : Int) : Option MV := atI xs i
def ixF (a i : OV) (m : Mem) : R OV := match i with
  | .v (.int k) => (match contO m a with
    | some (.l xs) => (match atI xs k with
      | some x => .ok (.v x) m
      | none => .stuck)
    | some (.t xs) => (match atI xs k with
      | some x => .ok (.v x) m
      | none => .stuck)
    | some (.s z) => if z.length ≤ sizeLine then (match atI z.cps.toList k with
      | some c => .ok (.v (.str ⟨#[c]⟩)) m
      | none => .stuck) else .stuck
    | none => .stuck)
  | _ => .stuck
def cutM (xs : List MV) (lo hi : Option Int) : List MV := (xs.drop (HT.sIx xs.length 0 lo)).take (HT.sIx xs.length xs.length hi - HT.sIx xs.length 0 lo)
def slF (a : OV) (lo hi : Option Int) (m : Mem) : R OV := match contO m a with
  | some (.l xs) => .ok (.v (.lst (cutM xs lo hi))) m
  | some (.t xs) => if HT.sIx xs.length 0 lo = 0 ∧ HT.sIx xs.length xs.length hi = xs.length then .stuck else .ok (.v (.tup (cutM xs lo hi))) m
  | some (.s z) => if z.length ≤ sizeLine then .ok (.v (.str (cutS z lo hi))) m else .stuck
  | none => .stuck
def biF (b : BI) (x : OV) (m : Mem) : R OV := match b with
  | .len => (match contO m x with
    | some (.l xs) => .ok (.v (.int xs.length)) m
    | some (.t xs) => .ok (.v (.int xs.length)) m
    | some (.s z) => if z.length ≤ sizeLine then .ok (.v (.int z.length)) m else .stuck
    | none => .stuck)
  | .int => (match x with
    | .v (.int i) => .ok (.v (.int i)) m
    | .v (.bl k) => .ok (.v (.int (if k then 1 else 0))) m
    | _ => .stuck)
  | .abs => (match x with
    | .v (.int i) => .ok (.v (.int (if i < 0 then -i else i))) m
    | _ => .stuck)
  | .all => (match contO m x with
    | some (.l xs) => (match blsM xs with
      | some bs => .ok (.v (.bl (bs.all id))) m
      | none => .stuck)
    | _ => .stuck)
  | .sum => (match contO m x with
    | some (.l xs) => (match intsM xs with
      | some bs => .ok (.v (.int bs.sum)) m
      | none => .stuck)
    | _ => .stuck)
  | .tuple => (match contO m x with
    | some (.l xs) => .ok (.v (.tup xs)) m
    | _ => .stuck)
  | _ => .stuck
def joinF (o e : OV) (m : Mem) : R OV := match o, contO m e with
  | .v (.str a), some (.l xs) => (match strsOf xs with
    | some ys => if (ys.map (·.length)).sum + ys.length * a.length ≤ 16777216 then .ok (.v (.str (Txt.join a ys))) m else .stuck
    | none => .stuck)
  | _, _ => .stuck
def tyOf : MV → Option Ty
  | .bl _ => some .bool
  | .int _ => some .int
  | .str _ => some .str
  | .tup _ => some .tuple
  | .lst _ => some .list
  | _ => none
/-- isinstance(x, t) -/
def isiB (x : MV) (t : Ty) : Option Bool := match x, t with
  | .non, _ => some false
  | .bl _, .bool => some true
  | .bl _, .int => some true
  | .bl _, _ => some false
  | .int _, .int => some true
  | .int _, _ => some false
  | .str _, .str => some true
  | .str _, _ => some false
  | .tup _, .tuple => some true
  | .tup _, _ => some false
  | .lst _, .list => some true
  | .lst _, _ => some false
  | _, _ => none
def isiAny (x : MV) : List Ty → Option Bool
  | [] => some false
  | t :: ts => match isiB x t with
    | some true => some true
    | some false => isiAny x ts
    | none => none
def isiF (ts : List Ty) (x : OV) (m : Mem) : R OV := match x with
  | .v x => blO m (isiAny x ts)
  | _ => .stuck
/-- slots forgotten -/
def wipeS (s : Sl) : List Nat → Sl
  | [] => s
  | v :: vs => (wipeS s vs).set v none
def setAll (s : Sl) : List Nat → List MV → Option Sl
  | [], [] => some s
  | i :: is, x :: xs => setAll (s.set i (some (.v x))) is xs
  | _, _ => none
def assignG (tg : MG) (x : MV) (s : Sl) : Option Sl := match tg with
  | .name i => some (s.set i (some (.v x)))
  | .tup is => (match x with
    | .tup xs => setAll s is xs
    | _ => none)
/-- list(x): a new list -/
def toListF (x : OV) (m : Mem) : R MO := match contO m x with
  | some (.l xs) => .ok (.lst xs) m
  | some (.t xs) => .ok (.lst xs) m
  | _ => .stuck
/-- a comprehension's turns: none: the test said no -/
def compM (f : MV → Mem → R (Option MV)) : List MV → List MV → Mem → R (List MV)
  | [], acc, m => .ok acc m
  | x :: xs, acc, m => (f x m).bind fun y m => match y with
    | some y => if acc.length < sizeLine then compM f xs (acc ++ [y]) m else .stuck
    | none => compM f xs acc m
/-- a turn -/
def compTurnF (own : List Nat) (tg : MG) (ft : Sl → Mem → R Bool) (fe : Sl → Mem → R OV) (s : Sl) : MV → Mem → R (Option MV) := fun x m => match assignG tg x (wipeS s own) with
  | some s2 => (ft s2 m).bind fun k m => if k = true then (fe s2 m).bind fun y m => (match valO y with
    | some y => .ok (some y) m
    | none => .stuck) else .ok none m
  | none => .stuck
def rangeM (lo : Int) (n : Nat) : List MV := (List.range n).map fun (i : Nat) => MV.int (lo + (i : Int))
def zipM (xs ys : List MV) : List MV := List.zipWith (fun x y => MV.tup [x, y]) xs ys
/-- what stands still: frozen, or written -/
def seqL (m : Mem) (x : OV) : R (List MV) := match x with
  | .v (.lst xs) => .ok xs m
  | .v (.kl xs) => .ok xs m
  | _ => .stuck
def seqT (m : Mem) (x : OV) : R (List MV) := match x with
  | .v (.tup xs) => .ok xs m
  | _ => .stuck
def seqZ (m : Mem) (x y : OV) : R (List MV) := match x, y with
  | .v (.lst xs), .v (.lst ys) => .ok (zipM xs ys) m
  | .v (.tup xs), .v (.tup ys) => .ok (zipM xs ys) m
  | _, _ => .stuck
def signs (z : Str) : List MV := z.cps.toList.map fun c => MV.str ⟨#[c]⟩
def seqA (m : Mem) (x : OV) : R (List MV) := match x with
  | .v (.lst xs) => .ok xs m
  | .v (.kl xs) => .ok xs m
  | .v (.tup xs) => .ok xs m
  | .v (.str z) => .ok (signs z) m
  | _ => .stuck
def frz (o : MO) : MV := match o with
  | .lst xs => .lst xs
def callV (M : Mir) (as : List OV) (m : Mem) : R OV := match vals as with
  | some xs => (match M xs m with
    | .ok x m' => .ok (.v x) m'
    | .new o m' => .ok (.v (frz o)) m'
    | .exc c fs m' => .exc c fs m'
    | .stuck => .stuck)
  | none => .stuck
/-- arguments by keywords, put in the parameters' order -/
def spreadV {α : Type} (d : α) (ps ks : List Str) (ws : List α) : List α := ps.map fun x => ws.getD (ks.idxOf x) d
/-- a new object that a def hands back lives on -/
def callN (M : Mir) (as : List OV) (m : Mem) : R OV := match vals as with
  | some xs => (match M xs m with
    | .new o m' => .ok (.v (.ref m'.length)) (m' ++ [some o])
    | _ => .stuck)
  | none => .stuck
/-- a def: its name, its parameters, its mirror; kws: the ways in which it is called by keywords alone -/
structure Fn where
  name : Str
  ps : List Str
  M : Mir
  kws : List (List Str) := []
instance : Inhabited Fn := ⟨⟨⟨#[]⟩, [], fun _ _ => .stuck, []⟩⟩

section
variable (Fs : List Fn)
mutual
def ev : ME → Sl → Mem → R OV
  | .slot i, s, m => (match s[i]? with
    | some (some (.v x)) => .ok (.v x) m
    | some (some (.own o)) => .ok (.b o) m
    | _ => .stuck)
  | .cN, _, m => .ok (.v .non) m
  | .cB b, _, m => .ok (.v (.bl b)) m
  | .cI i, _, m => .ok (.v (.int i)) m
  | .cS x, _, m => .ok (.v (.str x)) m
  | .glob _ v, _, m => .ok (.v v) m
  | .bin op a b, s, m => (ev a s m).bind fun x m => (ev b s m).bind fun y m => bopF op x y m
  | .neg a, s, m => (ev a s m).bind fun x m => negO x m
  | .cmp op a b, s, m => (ev a s m).bind fun x m => (ev b s m).bind fun y m => cmpF op x y m
  | .chain op op' a b c, s, m => (ev a s m).bind fun x m => (ev b s m).bind fun y m => (cmpF op x y m).bind fun z m => (asBl z m).bind fun k m =>
      if k = true then (ev c s m).bind fun w m => cmpF op' y w m else .ok (.v (.bl false)) m
  | .andV a b, s, m => (ev a s m).bind fun x m => (asBl x m).bind fun k m => if k = true then ev b s m else .ok (.v (.bl false)) m
  | .orV a b, s, m => (ev a s m).bind fun x m => (asBl x m).bind fun k m => if k = true then .ok (.v (.bl true)) m else ev b s m
  | .notV a, s, m => (ev a s m).bind fun x m => (asBl x m).bind fun k m => .ok (.v (.bl (!k))) m
  | .ite t a b, s, m => (evT t s m).bind fun k m => if k = true then ev a s m else ev b s m
  | .tup es, s, m => (evs es s m).bind fun xs m => match vals xs with
    | some ys => if ys.length ≤ sizeLine then .ok (.v (.tup ys)) m else .stuck
    | none => .stuck
  | .fr f, s, m => (evF f s m).bind fun o m => .ok (.v (frz o)) m
  | .ix a i, s, m => (ev a s m).bind fun x m => (ev i s m).bind fun y m => ixF x y m
  | .sl a lo hi, s, m => (ev a s m).bind fun x m => (evP lo s m).bind fun l m => (evP hi s m).bind fun h m => slF x l h m
  | .call i es, s, m => (evs es s m).bind fun xs m => callV (Fs.getD i default).M xs m
  | .callN i es, s, m => (evs es s m).bind fun xs m => callN (Fs.getD i default).M xs m
  | .callK i ks es, s, m => (evs es s m).bind fun xs m => match vals xs with
    | some ys => callV (Fs.getD i default).M ((spreadV .non (Fs.getD i default).ps ks ys).map OV.v) m
    | none => .stuck
  | .bi b e, s, m => (ev e s m).bind fun x m => biF b x m
  | .join o e, s, m => (ev o s m).bind fun x m => (ev e s m).bind fun y m => joinF x y m
  | .isi a ts _, s, m => (ev a s m).bind fun x m => isiF ts x m
def evs : MEs → Sl → Mem → R (List OV)
  | .nil, _, m => .ok [] m
  | .cons e es, s, m => (ev e s m).bind fun x m => (evs es s m).bind fun xs m => .ok (x :: xs) m
def evP : MP → Sl → Mem → R (Option Int)
  | .none, _, m => .ok none m
  | .some e, s, m => (ev e s m).bind fun x m => match x with
    | .v (.int i) => .ok (some i) m
    | _ => .stuck
def evT : MT → Sl → Mem → R Bool
  | .val e, s, m => (ev e s m).bind fun x m => truR x m
  | .cmp op a b, s, m => (ev a s m).bind fun x m => (ev b s m).bind fun y m => (cmpF op x y m).bind fun z m => asBl z m
  | .chain op op' a b c, s, m => (ev a s m).bind fun x m => (ev b s m).bind fun y m => (cmpF op x y m).bind fun z m => (asBl z m).bind fun k m =>
      if k = true then (ev c s m).bind fun w m => (cmpF op' y w m).bind fun z m => asBl z m else .ok false m
  | .and a b, s, m => (evT a s m).bind fun k m => if k = true then evT b s m else .ok false m
  | .or a b, s, m => (evT a s m).bind fun k m => if k = true then .ok true m else evT b s m
  | .not a, s, m => (evT a s m).bind fun k m => .ok (!k) m
def evF : MF → Sl → Mem → R MO
  | .lst es, s, m => (evs es s m).bind fun xs m => match vals xs with
    | some ys => if ys.length ≤ sizeLine then .ok (.lst ys) m else .stuck
    | none => .stuck
  | .comp own tg it ifs e, s, m => (evI it s m).bind fun xs m =>
      (compM (compTurnF own tg (evTs ifs) (ev e) s) xs [] m).bind fun ys m => .ok (.lst ys) m
  | .toList e, s, m => (ev e s m).bind fun x m => toListF x m
def evI : MI → Sl → Mem → R (List MV)
  | .seq e, s, m => (ev e s m).bind fun x m => seqA m x
  | .range1 a, s, m => (ev a s m).bind fun x m => match x with
    | .v (.int j) => if -(2 ^ 62) ≤ j ∧ j < 2 ^ 62 then .ok (rangeM 0 j.toNat) m else .stuck
    | _ => .stuck
  | .range2 a b, s, m => (ev a s m).bind fun x m => (ev b s m).bind fun y m => match x, y with
    | .v (.int i), .v (.int j) => if -(2 ^ 62) ≤ i ∧ i < 2 ^ 62 ∧ -(2 ^ 62) ≤ j ∧ j < 2 ^ 62 then .ok (rangeM i (j - i).toNat) m else .stuck
    | _, _ => .stuck
  | .zip a b, s, m => (ev a s m).bind fun x m => (ev b s m).bind fun y m => seqZ m x y
def evTs : MTs → Sl → Mem → R Bool
  | .nil, _, m => .ok true m
  | .one t, s, m => evT t s m
end
end
end Rc

set_option Elab.async false
set_option linter.all false
set_option maxRecDepth 100000
set_option maxHeartbeats 4000000
namespace Rc
open PySem PySem.Spec L2
open PyProof.Rows hiding St

section
variable {α β γ δ : Type} {K : PySem.W.Frag} {g g' : G} {H H' : Hp} {R1 : G → Hp → α → β → Prop} {Rel2 : G → Hp → γ → δ → Prop} {σ : St} {Q : VK}
theorem Post.imp {r : R α} {Q Q' : β → Hp → Prop} (h : Post K R1 g H r Q) (w : ∀ v H, Q v H → Q' v H) : Post K R1 g H r Q' := by
  cases r with
  | ok x m' => exact fun g2 v H2 a b c => w _ _ (h g2 v H2 a b c)
  | _ => exact h
theorem PostF.imp {r : R MO} {Q Q' : VK} (h : PostF K g H r Q) (w : ∀ v H, Q v H → Q' v H) : PostF K g H r Q' := by
  cases r with
  | ok x m' => exact fun g2 p H2 a b c d e f => w _ _ (h g2 p H2 a b c d e f)
  | _ => exact h

/-! ### readings from readings -/
theorem tE_bin {fa fb : Sl → Mem → R OV} {f2 : OV → OV → Mem → R OV} (h : tE K (fun s m => (fa s m).bind fun x m => (fb s m).bind fun y m => f2 x y m) σ H Q) : tOp (t2 K f2) (tE K fa) (tE K fb) σ H Q := by
  obtain ⟨g, s, m, rs, rl, p⟩ := h
  exact ⟨g, s, m, rs, rl, (Post.bind p).imp fun v H1 ⟨x, g1, m1, rs1, st1, r1, p1⟩ => ⟨g1, s, m1, rs1, rl.st st1, (Post.bind p1).imp fun w H2 ⟨y, g2, m2, rs2, st2, r2, p2⟩ => ⟨g2, m2, x, y, rs2, RO.st r1 st2, r2, p2⟩⟩⟩
theorem tE_un {fa : Sl → Mem → R OV} {f1 : OV → Mem → R OV} (h : tE K (fun s m => (fa s m).bind fun x m => f1 x m) σ H Q) : tUn (t1 K f1) (tE K fa) σ H Q := by
  obtain ⟨g, s, m, rs, rl, p⟩ := h
  exact ⟨g, s, m, rs, rl, (Post.bind p).imp fun v H1 ⟨x, g1, m1, rs1, st1, r1, p1⟩ => ⟨g1, m1, x, rs1, r1, p1⟩⟩
/-- one argument -/
theorem tE_tN1 {fa : Sl → Mem → R OV} {f1 : OV → Mem → R OV} (h : tE K (fun s m => (fa s m).bind fun x m => f1 x m) σ H Q) :
    tCB (fun vs H Q => ∃ v, vs = [v] ∧ t1 K f1 v H Q) (tCons (tE K fa) tNil) σ H Q := by
  obtain ⟨g, s, m, rs, rl, p⟩ := h
  exact ⟨g, s, m, rs, rl, (Post.bind p).imp fun v H1 ⟨x, g1, m1, rs1, st1, r1, p1⟩ => ⟨v, rfl, g1, m1, x, rs1, r1, p1⟩⟩
theorem asBl_ok {z : OV} {m : Mem} {v : V} {k : Bool → Mem → R γ} {Q : δ → Hp → Prop} (r : RO K g H z v) (p : Post K Rel2 g H ((asBl z m).bind k) Q) : ∃ b, v = .bl b ∧ Post K Rel2 g H (k b m) Q := by
  unfold asBl at p
  split at p
  · rename_i b
    exact ⟨b, r, p⟩
  · exact p.elim
theorem tE_chain {fa fb fc : Sl → Mem → R OV} {f f' : OV → OV → Mem → R OV} (h : tE K (fun s m => (fa s m).bind fun x m => (fb s m).bind fun y m => (f x y m).bind fun z m => (asBl z m).bind fun k m =>
      if k = true then (fc s m).bind fun w m => f' y w m else .ok (.v (.bl false)) m) σ H Q) : tChain (t2 K f) (t2 K f') (tE K fa) (tE K fb) (tE K fc) σ H Q := by
  obtain ⟨g, s, m, rs, rl, p⟩ := h
  refine ⟨g, s, m, rs, rl, (Post.bind p).imp fun v H1 ⟨x, g1, m1, rs1, st1, r1, p1⟩ => ⟨g1, s, m1, rs1, rl.st st1, (Post.bind p1).imp fun w H2 ⟨y, g2, m2, rs2, st2, r2, p2⟩ => ⟨g2, m2, x, y, rs2, RO.st r1 st2, r2, (Post.bind p2).imp fun z H3 ⟨zo, g3, m3, rs3, st3, r3, p3⟩ => ?_⟩⟩⟩
  obtain ⟨k, e, p4⟩ := asBl_ok r3 p3
  refine ⟨k, e, ?_⟩
  cases k with
  | false => exact iteF (post_val rs3 p4 rfl)
  | true => exact iteT ⟨g3, s, m3, rs3, (rl.st st1).st st2 |>.st st3, (Post.bind p4).imp fun w' H4 ⟨u, g4, m4, rs4, st4, r4, p5⟩ => ⟨g4, m4, y, u, rs4, RO.st (RO.st r2 st3) st4, r4, p5⟩⟩
theorem tE_and {fa fb : Sl → Mem → R OV} (h : tE K (fun s m => (fa s m).bind fun x m => (asBl x m).bind fun k m => if k = true then fb s m else .ok (.v (.bl false)) m) σ H Q) : tAndV (tE K fa) (tE K fb) σ H Q := by
  obtain ⟨g, s, m, rs, rl, p⟩ := h
  refine ⟨g, s, m, rs, rl, (Post.bind p).imp fun v H1 ⟨x, g1, m1, rs1, st1, r1, p1⟩ => ?_⟩
  obtain ⟨k, e, p2⟩ := asBl_ok r1 p1
  refine ⟨k, e, ?_⟩
  cases k with
  | false => exact iteF (post_val rs1 p2 rfl)
  | true => exact iteT ⟨g1, s, m1, rs1, rl.st st1, p2⟩
theorem tE_or {fa fb : Sl → Mem → R OV} (h : tE K (fun s m => (fa s m).bind fun x m => (asBl x m).bind fun k m => if k = true then .ok (.v (.bl true)) m else fb s m) σ H Q) : tOrV (tE K fa) (tE K fb) σ H Q := by
  obtain ⟨g, s, m, rs, rl, p⟩ := h
  refine ⟨g, s, m, rs, rl, (Post.bind p).imp fun v H1 ⟨x, g1, m1, rs1, st1, r1, p1⟩ => ?_⟩
  obtain ⟨k, e, p2⟩ := asBl_ok r1 p1
  refine ⟨k, e, ?_⟩
  cases k with
  | true => exact iteT (post_val rs1 p2 rfl)
  | false => exact iteF ⟨g1, s, m1, rs1, rl.st st1, p2⟩
theorem tE_not {fa : Sl → Mem → R OV} (h : tE K (fun s m => (fa s m).bind fun x m => (asBl x m).bind fun k m => .ok (.v (.bl (!k))) m) σ H Q) : tNotV (tE K fa) σ H Q := by
  obtain ⟨g, s, m, rs, rl, p⟩ := h
  refine ⟨g, s, m, rs, rl, (Post.bind p).imp fun v H1 ⟨x, g1, m1, rs1, st1, r1, p1⟩ => ?_⟩
  obtain ⟨k, e, p2⟩ := asBl_ok r1 p1
  exact ⟨k, e, post_val rs1 p2 rfl⟩
theorem tE_ite {ft : Sl → Mem → R Bool} {fa fb : Sl → Mem → R OV} (h : tE K (fun s m => (ft s m).bind fun k m => if k = true then fa s m else fb s m) σ H Q) : tIf (tT K ft) (tE K fa) (tE K fb) σ H Q := by
  obtain ⟨g, s, m, rs, rl, p⟩ := h
  refine ⟨g, s, m, rs, rl, (Post.bind p).imp fun k H1 ⟨x, g1, m1, rs1, st1, r1, p1⟩ => ?_⟩
  subst r1
  cases x with
  | true => exact iteT ⟨g1, s, m1, rs1, rl.st st1, p1⟩
  | false => exact iteF ⟨g1, s, m1, rs1, rl.st st1, p1⟩

/-- a new list, not frozen -/
theorem newF {m : Mem} {xs : List MV} {ys : List V} (rs : Rs K g m H) (r : RVs K g xs ys) (p : PostF K g H (.ok (.lst xs) m) Q) (a : Addr) (ha : H a = none) : Q (.ref a) (upd H a (.lst ys)) := by
  have ne : ∀ b u, H b = some u → b ≠ a := fun b u e z => by subst z; rw [ha] at e; cases e
  have st : Stp g H g (upd H a (.lst ys)) := ⟨fun _ _ e => e, fun _ _ e => e, fun b u e _ => by rw [upd_ne (ne b u e)]; exact e, fun b e => by
    by_cases z : b = a
    · subst z; exact absurd ha e
    · rw [upd_ne z]; exact e, fun b e => .inl e, fun n b e => .inl e⟩
  have hF : g.F a = none := by
    cases q : g.F a with
    | none => rfl
    | some u => have := rs.sub _ _ q; rw [ha] at this; cases this
  have hr : ∀ n, g.r n ≠ some a := fun n e => (rs.rb n a e).2 ha
  refine p g a _ ⟨fun b u e => ?_, fun n u e => ?_, fun n b e => ?_, rs.rj⟩ st ha hF hr ⟨ys, upd_same, r⟩
  · rw [upd_ne (ne b u (rs.sub b u e))]; exact rs.sub b u e
  · obtain ⟨b, e1, e2, e3⟩ := rs.gr n u e
    obtain ⟨w, hw⟩ := e3.some
    exact ⟨b, e1, e2, e3.st st (upd_ne (ne b w hw))⟩
  · obtain ⟨h1, h2⟩ := rs.rb n b e
    exact ⟨h1, st.dom b h2⟩

/-! ### arguments -/
theorem vals_ok : ∀ {xs : List OV} {vs : List V} {ys : List MV}, Paired (RO K g H) xs vs → vals xs = some ys → RVs K g ys vs
  | [], _, _, .nil, e => by cases e; exact rfl
  | .v x :: xs, _, _, .cons r t, e => by
    obtain ⟨zs, e2, rfl⟩ := Option.map_eq_some_iff.mp (show (vals xs).map (x :: ·) = some _ from e)
    exact ⟨_, _, rfl, r, vals_ok t e2⟩
  | .b x :: xs, _, _, .cons r t, e => by cases e
theorem tA_nil {Q' : List V → Hp → Prop} (h : tA K (fun s m => .ok [] m) σ H Q') : tNil σ H Q' := by
  obtain ⟨g, s, m, rs, rl, p⟩ := h
  exact p g [] H rs (Stp.refl _ _) .nil
theorem tA_cons {fa : Sl → Mem → R OV} {fs : Sl → Mem → R (List OV)} {Q' : List V → Hp → Prop} (h : tA K (fun s m => (fa s m).bind fun x m => (fs s m).bind fun xs m => .ok (x :: xs) m) σ H Q') : tCons (tE K fa) (tA K fs) σ H Q' := by
  obtain ⟨g, s, m, rs, rl, p⟩ := h
  exact ⟨g, s, m, rs, rl, (Post.bind p).imp fun v H1 ⟨x, g1, m1, rs1, st1, r1, p1⟩ => ⟨g1, s, m1, rs1, rl.st st1, (Post.bind p1).imp fun vs H2 ⟨xs, g2, m2, rs2, st2, r2, p2⟩ => p2 g2 _ H2 rs2 (Stp.refl _ _) (.cons (RO.st r1 st2) r2)⟩⟩
theorem tE_tup {fs : Sl → Mem → R (List OV)} (h : tE K (fun s m => (fs s m).bind fun xs m => match vals xs with
    | some ys => if ys.length ≤ sizeLine then .ok (.v (.tup ys)) m else .stuck
    | none => .stuck) σ H Q) : tTup (tA K fs) σ H Q := by
  obtain ⟨g, s, m, rs, rl, p⟩ := h
  refine ⟨g, s, m, rs, rl, (Post.bind p).imp fun vs H1 ⟨xs, g1, m1, rs1, st1, r1, p1⟩ => ?_⟩
  split at p1
  · rename_i ys e
    have r := vals_ok r1 e
    split at p1
    · exact ⟨by rw [← r.length]; assumption, post_tup rs1 p1 r⟩
    · exact p1.elim
  · exact p1.elim
theorem tF_lst {fs : Sl → Mem → R (List OV)} (h : tF K (fun s m => (fs s m).bind fun xs m => match vals xs with
    | some ys => if ys.length ≤ sizeLine then .ok (.lst ys) m else .stuck
    | none => .stuck) σ H Q) : tLst (tA K fs) σ H Q := by
  obtain ⟨g, s, m, rs, rl, p⟩ := h
  refine ⟨g, s, m, rs, rl, (PostF.bind p).imp fun vs H1 ⟨xs, g1, m1, rs1, st1, r1, p1⟩ => ?_⟩
  split at p1
  · rename_i ys e
    have r := vals_ok r1 e
    split at p1
    · refine ⟨by rw [← r.length]; assumption, fun q hq => ?_⟩
      exact newF rs1 r p1 q hq
    · exact p1.elim
  · exact p1.elim
end
end Rc

set_option Elab.async false
set_option linter.all false
set_option maxRecDepth 100000
set_option maxHeartbeats 4000000
namespace Rc
open PySem PySem.Spec L2
open PyProof.Rows hiding St

section
variable {K : PySem.W.Frag} {g g' g1 : G} {H H' H1 : Hp} {m m' : Mem} {s : Sl} {σ : St} {Q : VK}
theorem Rs.free (rs : Rs K g m H) {a : Addr} (ha : H a = none) : g.F a = none ∧ ∀ n, g.r n ≠ some a := by
  refine ⟨?_, fun n e => (rs.rb n a e).2 ha⟩
  cases q : g.F a with
  | none => rfl
  | some u => have := rs.sub _ _ q; rw [ha] at this; cases this
/-- an untracked new object -/
theorem Rs.grow {a : Addr} {o : HO} (rs : Rs K g m H) (ha : H a = none) : Rs K g m (upd H a o) ∧ Stp g H g (upd H a o) := by
  have ne : ∀ b u, H b = some u → b ≠ a := fun b u e z => by subst z; rw [ha] at e; cases e
  have st : Stp g H g (upd H a o) := ⟨fun _ _ e => e, fun _ _ e => e, fun b u e _ => by rw [upd_ne (ne b u e)]; exact e, fun b e => by
    by_cases z : b = a
    · subst z; exact absurd ha e
    · rw [upd_ne z]; exact e, fun b e => .inl e, fun n b e => .inl e⟩
  refine ⟨⟨fun b u e => ?_, fun n u e => ?_, fun n b e => ?_, rs.rj⟩, st⟩
  · rw [upd_ne (ne b u (rs.sub b u e))]; exact rs.sub b u e
  · obtain ⟨b, e1, e2, e3⟩ := rs.gr n u e
    obtain ⟨w, hw⟩ := e3.some
    exact ⟨b, e1, e2, e3.st st (upd_ne (ne b w hw))⟩
  · obtain ⟨h1, h2⟩ := rs.rb n b e
    exact ⟨h1, st.dom b h2⟩
/-- an own object is written -/
theorem Rs.own {a : Addr} {o : HO} (rs : Rs K g m H) (hF : g.F a = none) (hr : ∀ n, g.r n ≠ some a) : Rs K g m (upd H a o) := by
  refine ⟨fun b u e => ?_, fun n u e => ?_, fun n b e => ?_, rs.rj⟩
  · rw [upd_ne (fun z => by rw [z, hF] at e; cases e)]; exact rs.sub b u e
  · obtain ⟨b, e1, e2, e3⟩ := rs.gr n u e
    have ne : b ≠ a := fun z => hr n (by rw [← z]; exact e1)
    refine ⟨b, e1, e2, ?_⟩
    cases u with
    | lst xs => obtain ⟨ys, q, r⟩ := e3; exact ⟨ys, (upd_ne ne).trans q, r⟩
  · obtain ⟨h1, h2⟩ := rs.rb n b e
    refine ⟨h1, ?_⟩
    rw [upd_ne (fun z => hr n (by rw [← z]; exact e))]; exact h2
theorem Stp.own {a : Addr} {o : HO} (st : Stp g1 H1 g H) (h1 : H1 a = none) : Stp g1 H1 g (upd H a o) := by
  refine ⟨st.F, st.r, fun b u e hn => ?_, fun b e => ?_, st.Fn, st.rn⟩
  · rw [upd_ne (fun z => by rw [z, h1] at e; cases e)]; exact st.keep b u e hn
  · by_cases z : b = a
    · subst z; rw [upd_same]; simp
    · rw [upd_ne z]; exact st.dom b e
/-- what was new is frozen behind -/
theorem Stp.frz {a : Addr} {o : HO} (st : Stp g1 H1 g H) (h1 : H1 a = none) (hF : g.F a = none) : Stp g1 H1 { g with F := upd g.F a o } H := by
  refine ⟨fun b u e => ?_, st.r, st.keep, st.dom, fun b e => ?_, st.rn⟩
  · have e2 := st.F b u e
    show upd g.F a o b = some u
    rw [upd_ne (fun z => by rw [z, hF] at e2; cases e2)]; exact e2
  · have e : upd g.F a o b ≠ none := e
    by_cases z : b = a
    · subst z; exact .inr (.inl h1)
    · rw [upd_ne z] at e; exact st.Fn b e
theorem Stp.free (st : Stp g H g' H') {a : Addr} (h : H' a = none) : H a = none := by
  cases q : H a with
  | none => rfl
  | some u => exact absurd h (st.dom a (by rw [q]; simp))

/-- the new object of a fresh expression, frozen -/
theorem tE_fr {f : Sl → Mem → R MO} (h : tE K (fun s m => (f s m).bind fun o m => .ok (.v (frz o)) m) σ H Q) : tF K f σ H Q := by
  obtain ⟨g, s, m, rs, rl, p⟩ := h
  refine ⟨g, s, m, rs, rl, ?_⟩
  have p : PostO K g H ((f s m).bind fun o m => R.ok (OV.v (frz o)) m) Q := p
  cases e : f s m with
  | stuck => rw [e] at p; exact p
  | exc c fs m' => rw [e] at p; exact p
  | ok o m' =>
    rw [e] at p
    intro g' q H' rs' st hq hF hr ob
    cases o with
    | lst xs =>
      obtain ⟨ys, e1, r⟩ := ob
      exact p { g' with F := upd g'.F q (.lst ys) } _ H' (rs'.freezeAt e1 hr hF) (st.frz hq hF) ⟨q, ys, rfl, upd_same, RVs.mono (g := g') (g' := { g' with F := upd g'.F q (.lst ys) }) (fun b u e => by show upd g'.F q _ b = some u; rw [upd_ne (fun z => by rw [z, hF] at e; cases e)]; exact e) (fun _ _ e => e) xs r⟩

/-! ### calls of built-ins, by values -/
end
section
variable {X : Cx}
theorem _root_.L2.CallR.weaken {f : Value} {r r' : List V → Hp → VK → Prop} (h : CallR X f r) (w : ∀ x H Q, r' x H Q → r x H Q) : CallR X f r' := fun pins s σ H xs us Q I rx q => h pins s σ H xs us Q I rx (w xs H Q q)
def tB1 (K : PySem.W.Frag) (f : OV → Mem → R OV) : List V → Hp → VK → Prop := fun vs H Q => ∃ v, vs = [v] ∧ t1 K f v H Q
theorem cb_len : CallR X (.builtin "len") (tB1 X.K (biF .len)) := by
  refine (call_len_seq.or call_len_str).weaken ?_
  rintro xs H Q ⟨v, rfl, g, m, a, rs, ra, p⟩
  unfold biF at p
  dsimp only at p
  split at p
  · rename_i ys e
    obtain ⟨b, zs, rfl, q, r⟩ := contO_ok rs ra e
    exact .inl ⟨b, zs, rfl, .inl q, by rw [← r.length]; exact post_val rs p rfl⟩
  · rename_i ys e
    obtain ⟨b, zs, rfl, q, r⟩ := contO_ok rs ra e
    exact .inl ⟨b, zs, rfl, .inr q, by rw [← r.length]; exact post_val rs p rfl⟩
  · rename_i z e
    obtain rfl := contO_ok rs ra e
    split at p
    · exact .inr ⟨z, rfl, by assumption, post_val rs p rfl⟩
    · exact p.elim
  · exact p.elim
theorem cb_int : CallR X (.type "int") (tB1 X.K (biF .int)) := by
  refine call_int1.weaken ?_
  rintro xs H Q ⟨v, rfl, g, m, a, rs, ra, p⟩
  unfold biF at p
  dsimp only at p
  split at p
  · cases ra; exact .inl ⟨_, rfl, post_val rs p rfl⟩
  · cases ra; exact .inr ⟨_, rfl, post_val rs p rfl⟩
  · exact p.elim
theorem cb_abs : CallR X (.builtin "abs") (tB1 X.K (biF .abs)) := by
  refine call_abs.weaken ?_
  rintro xs H Q ⟨v, rfl, g, m, a, rs, ra, p⟩
  unfold biF at p
  dsimp only at p
  split at p
  · cases ra; exact ⟨_, rfl, post_val rs p rfl⟩
  · exact p.elim
theorem blsM_ok {K : PySem.W.Frag} {g : G} : ∀ {xs : List MV} {bs : List Bool} {vs : List V}, blsM xs = some bs → RVs K g xs vs → vs = bs.map V.bl
  | [], _, _, e, r => by cases e; exact r
  | .bl b :: xs, _, _, e, ⟨v, r, e1, h, t⟩ => by
    obtain ⟨zs, e2, rfl⟩ := Option.map_eq_some_iff.mp (show (blsM xs).map (b :: ·) = some _ from e)
    subst e1
    cases h
    rw [blsM_ok e2 t]; rfl
  | .non :: _, _, _, e, _ => by cases e
  | .int _ :: _, _, _, e, _ => by cases e
  | .str _ :: _, _, _, e, _ => by cases e
  | .tup _ :: _, _, _, e, _ => by cases e
  | .lst _ :: _, _, _, e, _ => by cases e
  | .kl _ :: _, _, _, e, _ => by cases e
  | .ref _ :: _, _, _, e, _ => by cases e
theorem intsM_ok {K : PySem.W.Frag} {g : G} : ∀ {xs : List MV} {bs : List Int} {vs : List V}, intsM xs = some bs → RVs K g xs vs → vs = bs.map V.int
  | [], _, _, e, r => by cases e; exact r
  | .int b :: xs, _, _, e, ⟨v, r, e1, h, t⟩ => by
    obtain ⟨zs, e2, rfl⟩ := Option.map_eq_some_iff.mp (show (intsM xs).map (b :: ·) = some _ from e)
    subst e1
    cases h
    rw [intsM_ok e2 t]; rfl
  | .non :: _, _, _, e, _ => by cases e
  | .bl _ :: _, _, _, e, _ => by cases e
  | .str _ :: _, _, _, e, _ => by cases e
  | .tup _ :: _, _, _, e, _ => by cases e
  | .lst _ :: _, _, _, e, _ => by cases e
  | .kl _ :: _, _, _, e, _ => by cases e
  | .ref _ :: _, _, _, e, _ => by cases e
theorem strsOf_ok {K : PySem.W.Frag} {g : G} : ∀ {xs : List MV} {bs : List Str} {vs : List V}, strsOf xs = some bs → RVs K g xs vs → vs = bs.map V.str
  | [], _, _, e, r => by cases e; exact r
  | .str b :: xs, _, _, e, ⟨v, r, e1, h, t⟩ => by
    obtain ⟨zs, e2, rfl⟩ := Option.map_eq_some_iff.mp (show (strsOf xs).map (b :: ·) = some _ from e)
    subst e1
    cases h
    rw [strsOf_ok e2 t]; rfl
  | .non :: _, _, _, e, _ => by cases e
  | .bl _ :: _, _, _, e, _ => by cases e
  | .int _ :: _, _, _, e, _ => by cases e
  | .tup _ :: _, _, _, e, _ => by cases e
  | .lst _ :: _, _, _, e, _ => by cases e
  | .kl _ :: _, _, _, e, _ => by cases e
  | .ref _ :: _, _, _, e, _ => by cases e
theorem cb_all (hc : X.calm = true) : CallR X (.builtin "all") (tB1 X.K (biF .all)) := by
  refine (cr_all hc).weaken ?_
  rintro xs H Q ⟨v, rfl, g, m, a, rs, ra, p⟩
  unfold biF at p
  dsimp only at p
  split at p
  · rename_i ys e
    obtain ⟨b, zs, rfl, q, r⟩ := contO_ok rs ra e
    split at p
    · rename_i bs e2
      rw [blsM_ok e2 r] at q
      exact ⟨b, bs, rfl, q, post_val rs p rfl⟩
    · exact p.elim
  · exact p.elim
theorem cb_sum (hc : X.calm = true) : CallR X (.builtin "sum") (tB1 X.K (biF .sum)) := by
  refine (cr_sum hc).weaken ?_
  rintro xs H Q ⟨v, rfl, g, m, a, rs, ra, p⟩
  unfold biF at p
  dsimp only at p
  split at p
  · rename_i ys e
    obtain ⟨b, zs, rfl, q, r⟩ := contO_ok rs ra e
    split at p
    · rename_i bs e2
      rw [intsM_ok e2 r] at q
      exact ⟨b, bs, rfl, q, post_val rs p rfl⟩
    · exact p.elim
  · exact p.elim
theorem cb_tuple : CallR X (.type "tuple") (tB1 X.K (biF .tuple)) := by
  refine call_tuple_of.weaken ?_
  rintro xs H Q ⟨v, rfl, g, m, a, rs, ra, p⟩
  unfold biF at p
  dsimp only at p
  split at p
  · rename_i ys e
    obtain ⟨b, zs, rfl, q, r⟩ := contO_ok rs ra e
    exact ⟨b, zs, rfl, .inl ⟨q, post_tup rs p r⟩⟩
  · exact p.elim
def tB1F (K : PySem.W.Frag) (f : OV → Mem → R MO) : List V → Hp → VK → Prop := fun vs H Q => ∃ v, vs = [v] ∧ ∃ g m a, Rs K g m H ∧ RO K g H a v ∧ PostF K g H (f a m) Q
theorem cb_list : CallR X (.type "list") (tB1F X.K toListF) := by
  refine call_list_of.weaken ?_
  rintro xs H Q ⟨v, rfl, g, m, a, rs, ra, p⟩
  unfold toListF at p
  split at p
  · rename_i ys e
    obtain ⟨b, zs, rfl, q, r⟩ := contO_ok rs ra e
    exact ⟨b, zs, rfl, .inl q, newF rs r p⟩
  · rename_i ys e
    obtain ⟨b, zs, rfl, q, r⟩ := contO_ok rs ra e
    exact ⟨b, zs, rfl, .inr q, newF rs r p⟩
  · exact p.elim
theorem tF_N1 {K : PySem.W.Frag} {σ : St} {H : Hp} {Q : VK} {fa : Sl → Mem → R OV} {f1 : OV → Mem → R MO} (h : tF K (fun s m => (fa s m).bind fun x m => f1 x m) σ H Q) : tCB (tB1F K f1) (tCons (tE K fa) tNil) σ H Q := by
  obtain ⟨g, s, m, rs, rl, p⟩ := h
  exact ⟨g, s, m, rs, rl, (PostF.bind p).imp fun v H1 ⟨x, g1, m1, rs1, st1, r1, p1⟩ => ⟨v, rfl, g1, m1, x, rs1, r1, p1⟩⟩

/-! ### subscripts, slices, join -/
theorem atI_ok {K : PySem.W.Frag} {g : G} {xs : List MV} {vs : List V} {i : Int} {x : MV} (r : RVs K g xs vs) (e : atI xs i = some x) : ∃ v, atI vs i = some v ∧ RV K g x v := by
  unfold atI at e ⊢
  rw [← r.length]
  cases q : ixN xs.length i with
  | none => rw [q] at e; cases e
  | some j =>
    rw [q] at e
    exact r.get (show xs[j]? = some x from e)
theorem ix_all : IxR X (t2 X.K ixF) := by
  have w : ∀ x y H Q, t2 X.K ixF x y H Q → rIx X.K x y H Q := by
    rintro x y H Q ⟨g, m, a, b, rs, ra, rb, p⟩
    unfold ixF at p
    split at p
    · rename_i k
      cases rb
      split at p
      · rename_i xs e
        obtain ⟨c, ys, rfl, q, r⟩ := contO_ok rs ra e
        split at p
        · rename_i z e2
          obtain ⟨u, e3, r3⟩ := atI_ok r e2
          exact .inl ⟨c, ys, k, u, rfl, rfl, q, e3, post_val rs p r3⟩
        · exact p.elim
      · rename_i xs e
        obtain ⟨c, ys, rfl, q, r⟩ := contO_ok rs ra e
        split at p
        · rename_i z e2
          obtain ⟨u, e3, r3⟩ := atI_ok r e2
          exact .inr (.inl ⟨c, ys, k, u, rfl, rfl, q, e3, post_val rs p r3⟩)
        · exact p.elim
      · rename_i z e
        obtain rfl := contO_ok rs ra e
        split at p
        · split at p
          · exact .inr (.inr ⟨z, k, _, rfl, rfl, by assumption, by assumption, post_val rs p rfl⟩)
          · exact p.elim
        · exact p.elim
      · exact p.elim
    · exact p.elim
  intro value slice pins s σ H x y v u Q I rx ry h hs
  exact ix_seq value slice pins s σ H x y v u Q I rx ry (w _ _ _ _ h) hs
theorem cut_ok {K : PySem.W.Frag} {g : G} {xs : List MV} {vs : List V} (r : RVs K g xs vs) (lo hi : Option Int) : RVs K g (cutM xs lo hi) (cutV vs lo hi) := by
  unfold cutM cutV
  rw [← r.length]
  exact (r.drop _).take _
def t3 (K : PySem.W.Frag) (f : OV → Option Int → Option Int → Mem → R OV) : V → Option Int → Option Int → Hp → VK → Prop := fun x lo hi H Q => ∃ g m a, Rs K g m H ∧ RO K g H a x ∧ PostO K g H (f a lo hi m) Q
theorem sl_all : SlR X (t3 X.K slF) := by
  have w : ∀ x lo hi H Q, t3 X.K slF x lo hi H Q → rSlL X.K x lo hi H Q ∨ (rSlT X.K x lo hi H Q ∨ rSlS x lo hi H Q) := by
    rintro x lo hi H Q ⟨g, m, a, rs, ra, p⟩
    unfold slF at p
    split at p
    · rename_i xs e
      obtain ⟨c, ys, rfl, q, r⟩ := contO_ok rs ra e
      exact .inl ⟨c, ys, rfl, q, post_new rs p (cut_ok r lo hi)⟩
    · rename_i xs e
      obtain ⟨c, ys, rfl, q, r⟩ := contO_ok rs ra e
      split at p
      · exact p.elim
      · rename_i hw
        exact .inr (.inl ⟨c, ys, rfl, q, by rw [← r.length]; exact hw, post_tup rs p (cut_ok r lo hi)⟩)
    · rename_i z e
      obtain rfl := contO_ok rs ra e
      split at p
      · exact .inr (.inr ⟨z, rfl, by assumption, post_val rs p rfl⟩)
      · exact p.elim
    · exact p.elim
  intro pins s σ H x v vl vu lo hi sl Q I rx hs pl pu h
  exact (sl_list.or (sl_tup.or sl_str)) pins s σ H x v vl vu lo hi sl Q I rx hs pl pu (w _ _ _ _ _ h)
abbrev PostP (K : PySem.W.Frag) : G → Hp → R (Option Int) → (Option Int → Hp → Prop) → Prop := Post K fun _ _ x v => x = v
def tP (K : PySem.W.Frag) (f : Sl → Mem → R (Option Int)) : TO := fun σ H Q => ∃ g s m, Rs K g m H ∧ RSl K g s σ H ∧ PostP K g H (f s m) Q
theorem _root_.L2.PO.weaken {e : Option Expr} {t t' : TO} (h : PO X e t) (w : ∀ σ H Q, t' σ H Q → t σ H Q) : PO X e t' := ⟨fun pins s σ H Q I q => h.run pins s σ H Q I (w σ H Q q)⟩
theorem tP_none {K : PySem.W.Frag} {σ : St} {H : Hp} {Q : Option Int → Hp → Prop} (h : tP K (fun s m => .ok none m) σ H Q) : tNoPart σ H Q := by
  obtain ⟨g, s, m, rs, rl, p⟩ := h
  exact p g none H rs (Stp.refl _ _) rfl
theorem tP_some {K : PySem.W.Frag} {σ : St} {H : Hp} {Q : Option Int → Hp → Prop} {fe : Sl → Mem → R OV} (h : tP K (fun s m => (fe s m).bind fun x m => match x with
    | .v (.int i) => .ok (some i) m
    | _ => .stuck) σ H Q) : tPart (tE K fe) σ H Q := by
  obtain ⟨g, s, m, rs, rl, p⟩ := h
  refine ⟨g, s, m, rs, rl, (Post.bind p).imp fun v H1 ⟨x, g1, m1, rs1, st1, r1, p1⟩ => ?_⟩
  split at p1
  · cases r1
    exact ⟨_, rfl, p1 g1 _ H1 rs1 (Stp.refl _ _) rfl⟩
  · exact p1.elim
theorem tE_sl {K : PySem.W.Frag} {σ : St} {H : Hp} {Q : VK} {fa : Sl → Mem → R OV} {fl fh : Sl → Mem → R (Option Int)} {f : OV → Option Int → Option Int → Mem → R OV}
    (h : tE K (fun s m => (fa s m).bind fun x m => (fl s m).bind fun l m => (fh s m).bind fun h m => f x l h m) σ H Q) : tSl (t3 K f) (tE K fa) (tP K fl) (tP K fh) σ H Q := by
  obtain ⟨g, s, m, rs, rl, p⟩ := h
  exact ⟨g, s, m, rs, rl, (Post.bind p).imp fun v H1 ⟨x, g1, m1, rs1, st1, r1, p1⟩ => ⟨g1, s, m1, rs1, rl.st st1, (Post.bind p1).imp fun l H2 ⟨lo, g2, m2, rs2, st2, r2, p2⟩ =>
    ⟨g2, s, m2, rs2, (rl.st st1).st st2, (Post.bind p2).imp fun u H3 ⟨hi, g3, m3, rs3, st3, r3, p3⟩ => by subst r2; subst r3; exact ⟨g3, m3, x, rs3, RO.st (RO.st r1 st2) st3, p3⟩⟩⟩⟩
theorem join_w {K : PySem.W.Frag} (x : V) (xs : List V) (H : Hp) (Q : VK) (h : ∃ y, xs = [y] ∧ t2 K joinF x y H Q) : ∃ a p, ∃ ys : List Str, x = .str a ∧ xs = [.ref p] ∧ (SqL K H p (ys.map V.str) ∨ SqT K H p (ys.map V.str)) ∧
    (ys.map (·.length)).sum + ys.length * a.length ≤ 16777216 ∧ Q (.str (Txt.join a ys)) H := by
  obtain ⟨y, rfl, g, m, a, b, rs, ra, rb, p⟩ := h
  unfold joinF at p
  split at p
  · rename_i z xs e
    obtain ⟨c, ys, rfl, q, r⟩ := contO_ok rs rb e
    cases ra
    split at p
    · rename_i ws e2
      rw [strsOf_ok e2 r] at q
      split at p
      · exact ⟨z, c, ws, rfl, rfl, .inl q, by assumption, post_val rs p rfl⟩
      · exact p.elim
    · exact p.elim
  · exact p.elim

/-! ### isinstance -/
def Ty.s : Ty → String
  | .int => "int" | .str => "str" | .bool => "bool" | .list => "list" | .tuple => "tuple"
/-- the name of a value's type -/
def tyS : MV → Option String
  | .non => some "NoneType"
  | .bl _ => some "bool"
  | .int _ => some "int"
  | .str _ => some "str"
  | .tup _ => some "tuple"
  | .lst _ => some "list"
  | _ => none
theorem tyS_ok {K : PySem.W.Frag} {g : G} {m : Mem} {H : Hp} {x : MV} {v : V} {t : String} (rs : Rs K g m H) (r : RV K g x v) (e : tyS x = some t) : TyX K H v (.type t) := by
  cases x with
  | non => cases e; cases r; exact .base .non
  | bl b => cases e; cases r; exact .base (.bl b)
  | int b => cases e; cases r; exact .base (.int b)
  | str b => cases e; cases r; exact .base (.str b)
  | tup xs =>
    cases e
    obtain ⟨a, ys, rfl, q, _⟩ := r
    rcases q with (q | ⟨o, q⟩) | ⟨o, its, n, q, c, _⟩
    · exact .base (.tup (rs.sub _ _ q))
    · exact .fTuple (rs.sub _ _ q)
    · exact .kTuple q c
  | lst xs =>
    cases e
    obtain ⟨a, ys, rfl, q, _⟩ := r
    exact .base (.lst (rs.sub _ _ q))
  | _ => cases e
theorem kit1 {K : PySem.W.Frag} {x : MV} {t : Ty} {b : Bool} (e : isiB x t = some b) : ∃ s, tyS x = some s ∧ PySem.W.kitOne K (.type s) (.type t.s) = some b := by
  cases x with
  | non => exact ⟨"NoneType", rfl, kit_ty (by cases t <;> (cases e; decide +kernel))⟩
  | bl x => exact ⟨"bool", rfl, kit_ty (by cases t <;> (cases e; decide +kernel))⟩
  | int x => exact ⟨"int", rfl, kit_ty (by cases t <;> (cases e; decide +kernel))⟩
  | str x => exact ⟨"str", rfl, kit_ty (by cases t <;> (cases e; decide +kernel))⟩
  | tup x => exact ⟨"tuple", rfl, kit_ty (by cases t <;> (cases e; decide +kernel))⟩
  | lst x => exact ⟨"list", rfl, kit_ty (by cases t <;> (cases e; decide +kernel))⟩
  | kl x => cases t <;> cases e
  | ref x => cases t <;> cases e
theorem kitA {K : PySem.W.Frag} {x : MV} : ∀ {ts : List Ty} {b : Bool}, isiAny x ts = some b → ts ≠ [] → ∃ s, tyS x = some s ∧ PySem.W.kitAny K (.type s) (ts.map fun t => .type t.s) = some b
  | [], _, _, h => absurd rfl h
  | t :: ts, b, e, _ => by
    unfold isiAny at e
    split at e
    · rename_i e1
      cases e
      obtain ⟨s, h1, h2⟩ := kit1 (K := K) e1
      exact ⟨s, h1, kitAny_cons h2 (fun z => by cases z) fun _ => rfl⟩
    · rename_i e1
      obtain ⟨s, h1, h2⟩ := kit1 (K := K) e1
      refine ⟨s, h1, kitAny_cons h2 (fun _ => ?_) fun z => by cases z⟩
      by_cases hn : ts = []
      · subst hn; cases e; rfl
      · obtain ⟨s', h3, h4⟩ := kitA (K := K) e hn
        rw [h1] at h3; cases h3
        exact h4
    · cases e
end
end Rc

set_option Elab.async false
set_option linter.all false
set_option maxRecDepth 100000
set_option maxHeartbeats 4000000
namespace Rc
open PySem PySem.Spec L2
open PyProof.Rows hiding St

def Fle (g g' : G) : Prop := (∀ a o, g.F a = some o → g'.F a = some o) ∧ ∀ n a, g.r n = some a → g'.r n = some a
theorem Fle.refl (g : G) : Fle g g := ⟨fun _ _ e => e, fun _ _ e => e⟩
theorem Fle.trans {a b c : G} (h : Fle a b) (q : Fle b c) : Fle a c := ⟨fun x o e => q.1 x o (h.1 x o e), fun x o e => q.2 x o (h.2 x o e)⟩
theorem Stp.fle {g g' : G} {H H' : Hp} (t : Stp g H g' H') : Fle g g' := ⟨t.F, t.r⟩
theorem RV.fle {K : PySem.W.Frag} {g g' : G} {x : MV} {v : V} (h : RV K g x v) (t : Fle g g') : RV K g' x v := RV.mono t.1 t.2 x h
theorem RVs.fle {K : PySem.W.Frag} {g g' : G} {x : List MV} {v : List V} (h : RVs K g x v) (t : Fle g g') : RVs K g' x v := RVs.mono t.1 t.2 x h

/-- what is walked gives these items, while what was frozen stays -/
def WkM (K : PySem.W.Frag) (J : It) (items : List MV) (g : G) : Prop :=
  ∃ (n : Nat) (Gd : Hp → Prop) (Y : Nat → Hp → V → Hp → Prop), Walk J n Gd Y ∧ n = items.length ∧
    (∀ g' m' H', Rs K g' m' H' → Fle g g' → Gd H') ∧
    ∀ i H1 x H2 g1 m1, i < n → Y i H1 x H2 → Rs K g1 m1 H1 → Fle g g1 → ∃ g2 it, Rs K g2 m1 H2 ∧ Stp g1 H1 g2 H2 ∧ items[i]? = some it ∧ RV K g2 it x
abbrev PostI (K : PySem.W.Frag) : G → Hp → R (List MV) → (It → Hp → Prop) → Prop := Post K fun g _ items J => WkM K J items g
def tI (K : PySem.W.Frag) (f : Sl → Mem → R (List MV)) : TI := fun σ H Q => ∃ g s m, Rs K g m H ∧ RSl K g s σ H ∧ PostI K g H (f s m) Q
theorem _root_.L2.PI.weaken {X : Cx} {tg e : Expr} {t t' : TI} (h : PI X tg e t) (w : ∀ σ H Q, t' σ H Q → t σ H Q) : PI X tg e t' := ⟨fun pins s σ H Q I q => h.run pins s σ H Q I (w σ H Q q)⟩

section
variable {K : PySem.W.Frag} {g : G} {H : Hp} {m : Mem} {σ : St} {R' : It → Hp → Prop}
theorem wk_seq {J : It} {xs : List MV} {ys : List V} {Gd : Hp → Prop} (w : Walk J ys.length Gd (YAt ys)) (r : RVs K g xs ys) (hG : ∀ g' m' H', Rs K g' m' H' → Fle g g' → Gd H') : WkM K J xs g := by
  refine ⟨ys.length, Gd, YAt ys, w, r.length.symm, hG, fun i H1 x H2 g1 m1 hi hy rs fl => ?_⟩
  obtain ⟨rfl, e⟩ := hy
  obtain ⟨it, e1, e2⟩ := r.get' e
  exact ⟨g1, it, rs, Stp.refl _ _, e1, e2.fle fl⟩
theorem tI_list {fa : Sl → Mem → R OV} (h : tI K (fun s m => (fa s m).bind fun x m => seqL m x) σ H R') : iList K (tE K fa) σ H R' := by
  obtain ⟨g, s, m, rs, rl, p⟩ := h
  refine ⟨g, s, m, rs, rl, (Post.bind p).imp fun v H1 ⟨x, g1, m1, rs1, st1, r1, p1⟩ => ?_⟩
  unfold seqL at p1
  split at p1
  · obtain ⟨a, ys, rfl, q, r⟩ := r1
    exact ⟨a, rfl, ⟨ys, .of (rs1.sub _ _ q)⟩, p1 g1 _ H1 rs1 (Stp.refl _ _) (wk_seq walk_list r fun g' m' H' rs' fl => .of (rs'.sub _ _ (fl.1 _ _ q)))⟩
  · obtain ⟨a, ys, rfl, q, r⟩ := r1
    exact ⟨a, rfl, ⟨ys, SqL.monoF rs1.sub q⟩, p1 g1 _ H1 rs1 (Stp.refl _ _) (wk_seq walk_list r fun g' m' H' rs' fl => SqL.monoF rs'.sub (SqL.monoF fl.1 q))⟩
  · exact p1.elim
theorem tI_tup {fa : Sl → Mem → R OV} (h : tI K (fun s m => (fa s m).bind fun x m => seqT m x) σ H R') : iTup K (tE K fa) σ H R' := by
  obtain ⟨g, s, m, rs, rl, p⟩ := h
  refine ⟨g, s, m, rs, rl, (Post.bind p).imp fun v H1 ⟨x, g1, m1, rs1, st1, r1, p1⟩ => ?_⟩
  unfold seqT at p1
  split at p1
  · obtain ⟨a, ys, rfl, q, r⟩ := r1
    exact ⟨a, rfl, ⟨ys, SqT.monoF rs1.sub q⟩, p1 g1 _ H1 rs1 (Stp.refl _ _) (wk_seq walk_tup r fun g' m' H' rs' fl => SqT.monoF rs'.sub (SqT.monoF fl.1 q))⟩
  · exact p1.elim
theorem tI_str {fa : Sl → Mem → R OV} (h : tI K (fun s m => (fa s m).bind fun x m => match x with
    | .v (.str z) => .ok (signs z) m
    | _ => .stuck) σ H R') : iStr (tE K fa) σ H R' := by
  obtain ⟨g, s, m, rs, rl, p⟩ := h
  refine ⟨g, s, m, rs, rl, (Post.bind p).imp fun v H1 ⟨x, g1, m1, rs1, st1, r1, p1⟩ => ?_⟩
  split at p1
  · rename_i z
    cases r1
    refine ⟨z, rfl, p1 g1 _ H1 rs1 (Stp.refl _ _) ⟨_, _, _, walk_str, by simp [signs], fun _ _ _ _ _ => trivial, fun i H1 x H2 g1 m1 hi hy rs fl => ?_⟩⟩
    obtain ⟨rfl, c, e1, rfl⟩ := hy
    exact ⟨g1, .str ⟨#[c]⟩, rs, Stp.refl _ _, by simp [signs, e1], rfl⟩
  · exact p1.elim
theorem tI_seq {fa : Sl → Mem → R OV} (h : tI K (fun s m => (fa s m).bind fun x m => seqA m x) σ H R') : iList K (tE K fa) σ H R' ∨ iTup K (tE K fa) σ H R' ∨ iStr (tE K fa) σ H R' := by
  obtain ⟨g, s, m, rs, rl, p⟩ := h
  have p : PostI K g H ((fa s m).bind fun x m => seqA m x) R' := p
  cases e : fa s m with
  | stuck => rw [e] at p; exact p.elim
  | exc c fs m' => rw [e] at p; exact p.elim
  | ok x m1 =>
    rw [e] at p
    have p : PostI K g H (seqA m1 x) R' := p
    unfold seqA at p
    split at p
    · exact .inl (tI_list ⟨g, s, m, rs, rl, by dsimp only; rw [e]; exact p⟩)
    · exact .inl (tI_list ⟨g, s, m, rs, rl, by dsimp only; rw [e]; exact p⟩)
    · exact .inr (.inl (tI_tup ⟨g, s, m, rs, rl, by dsimp only; rw [e]; exact p⟩))
    · exact .inr (.inr (tI_str ⟨g, s, m, rs, rl, by dsimp only; rw [e]; exact p⟩))
    · exact p.elim
theorem _root_.L2.PI.or {X : Cx} {tg e : Expr} {t t' : TI} (h : PI X tg e t) (h' : PI X tg e t') : PI X tg e (fun σ H R => t σ H R ∨ t' σ H R) := ⟨fun pins s σ H R I q => q.elim (h.run pins s σ H R I) (h'.run pins s σ H R I)⟩
theorem wk_range {lo : Int} {n : Nat} : WkM K (Itr lo n) (rangeM lo n) g := by
  refine ⟨n, _, _, walk_range, by simp [rangeM], fun _ _ _ _ _ => trivial, fun i H1 x H2 g1 m1 hi hy rs fl => ?_⟩
  obtain ⟨rfl, rfl⟩ := hy
  exact ⟨g1, .int (lo + i), rs, Stp.refl _ _, by simp [rangeM, hi], rfl⟩
theorem tI_range1 {fa : Sl → Mem → R OV} (h : tI K (fun s m => (fa s m).bind fun x m => match x with
    | .v (.int j) => if -(2 ^ 62) ≤ j ∧ j < 2 ^ 62 then .ok (rangeM 0 j.toNat) m else .stuck
    | _ => .stuck) σ H R') : iRng1 (tCons (tE K fa) tNil) σ H R' := by
  obtain ⟨g, s, m, rs, rl, p⟩ := h
  refine ⟨g, s, m, rs, rl, (Post.bind p).imp fun v H1 ⟨x, g1, m1, rs1, st1, r1, p1⟩ => ?_⟩
  split at p1
  · cases r1
    split at p1
    · rename_i hb
      exact ⟨_, rfl, hb.1, hb.2, p1 g1 _ H1 rs1 (Stp.refl _ _) wk_range⟩
    · exact p1.elim
  · exact p1.elim
theorem tI_range2 {fa fb : Sl → Mem → R OV} (h : tI K (fun s m => (fa s m).bind fun x m => (fb s m).bind fun y m => match x, y with
    | .v (.int i), .v (.int j) => if -(2 ^ 62) ≤ i ∧ i < 2 ^ 62 ∧ -(2 ^ 62) ≤ j ∧ j < 2 ^ 62 then .ok (rangeM i (j - i).toNat) m else .stuck
    | _, _ => .stuck) σ H R') : iRng2 (tCons (tE K fa) (tCons (tE K fb) tNil)) σ H R' := by
  obtain ⟨g, s, m, rs, rl, p⟩ := h
  refine ⟨g, s, m, rs, rl, (Post.bind p).imp fun v H1 ⟨x, g1, m1, rs1, st1, r1, p1⟩ => ⟨g1, s, m1, rs1, rl.st st1, (Post.bind p1).imp fun w H2 ⟨y, g2, m2, rs2, st2, r2, p2⟩ => ?_⟩⟩
  split at p2
  · cases r1; cases r2
    split at p2
    · rename_i hb
      exact ⟨_, _, rfl, hb, p2 g2 _ H2 rs2 (Stp.refl _ _) wk_range⟩
    · exact p2.elim
  · exact p2.elim
theorem walk_zipT {a b : Addr} {xs ys : List V} {n : Nat} (hn : n = min xs.length ys.length) : Walk (RZ.ItzT K a b) n (fun H => SqT K H a xs ∧ SqT K H b ys) (YPair (fun i => xs[i]?) (fun i => ys[i]?)) := by
  subst hn
  refine ⟨fun i _ hi q => ?_, fun _ q => ⟨xs, ys, q.1, q.2, by omega⟩, fun i H v H' _ q y => ?_⟩
  · have h1 : i < xs.length := by omega
    have h2 : i < ys.length := by omega
    exact ⟨xs, ys, xs[i], ys[i], q.1, q.2, by simp [h1], by simp [h2]⟩
  · obtain ⟨T, x, z, h1, h2, h3, h4, h5⟩ := y
    exact ⟨T, x, z, h1, h2, h3, h4 xs q.1, h5 ys q.2⟩
theorem zipM_get : ∀ {xs ys : List MV} {i : Nat} {x y : MV}, xs[i]? = some x → ys[i]? = some y → (zipM xs ys)[i]? = some (.tup [x, y])
  | [], _, _, _, _, h, _ => by simp at h
  | _ :: _, [], _, _, _, _, h => by simp at h
  | a :: xs, b :: ys, 0, x, y, h1, h2 => by simp at h1 h2; subst h1; subst h2; rfl
  | a :: xs, b :: ys, i + 1, x, y, h1, h2 => by
    show (zipM xs ys)[i]? = _
    exact zipM_get (by simpa using h1) (by simpa using h2)
theorem wk_pair {J : It} {xs ys : List MV} {us vs : List V} {Gd : Hp → Prop} (w : Walk J (min us.length vs.length) Gd (YPair (fun i => us[i]?) (fun i => vs[i]?))) (r1 : RVs K g xs us) (r2 : RVs K g ys vs)
    (hG : ∀ g' m' H', Rs K g' m' H' → Fle g g' → Gd H') : WkM K J (zipM xs ys) g := by
  refine ⟨_, Gd, _, w, by simp [zipM, r1.length, r2.length], hG, fun i H1 x H2 g1 m1 hi hy rs fl => ?_⟩
  obtain ⟨T, u, v, rfl, hT, rfl, e1, e2⟩ := hy
  obtain ⟨a, h1, h2⟩ := r1.get' e1
  obtain ⟨b, h3, h4⟩ := r2.get' e2
  obtain ⟨rs2, st2⟩ := rs.freeze (o := .tup [u, v]) hT
  exact ⟨_, .tup [a, b], rs2, st2, zipM_get h1 h3, T, [u, v], rfl, .of upd_same, u, [v], rfl, (h2.fle fl).st st2, v, [], rfl, (h4.fle fl).st st2, rfl⟩
theorem tI_zip {fa fb : Sl → Mem → R OV} (h : tI K (fun s m => (fa s m).bind fun x m => (fb s m).bind fun y m => seqZ m x y) σ H R') : RZ.iZipA K (tCons (tE K fa) (tCons (tE K fb) tNil)) σ H R' := by
  obtain ⟨g, s, m, rs, rl, p⟩ := h
  refine ⟨g, s, m, rs, rl, (Post.bind p).imp fun v H1 ⟨x, g1, m1, rs1, st1, r1, p1⟩ => ⟨g1, s, m1, rs1, rl.st st1, (Post.bind p1).imp fun w H2 ⟨y, g2, m2, rs2, st2, r2, p2⟩ => ?_⟩⟩
  have r1 := RO.st r1 st2
  unfold seqZ at p2
  split at p2
  · obtain ⟨a, us, rfl, q1, w1⟩ := r1
    obtain ⟨b, vs, rfl, q2, w2⟩ := r2
    exact ⟨a, b, us, vs, rfl, .inl ⟨.of (rs2.sub _ _ q1), .of (rs2.sub _ _ q2), p2 g2 _ H2 rs2 (Stp.refl _ _) (wk_pair (walk_zip rfl) w1 w2 fun g' m' H' rs' fl => ⟨.of (rs'.sub _ _ (fl.1 _ _ q1)), .of (rs'.sub _ _ (fl.1 _ _ q2))⟩)⟩⟩
  · obtain ⟨a, us, rfl, q1, w1⟩ := r1
    obtain ⟨b, vs, rfl, q2, w2⟩ := r2
    exact ⟨a, b, us, vs, rfl, .inr ⟨SqT.monoF rs2.sub q1, SqT.monoF rs2.sub q2, p2 g2 _ H2 rs2 (Stp.refl _ _) (wk_pair (walk_zipT rfl) w1 w2 fun g' m' H' rs' fl => ⟨SqT.monoF rs'.sub (SqT.monoF fl.1 q1), SqT.monoF rs'.sub (SqT.monoF fl.1 q2)⟩)⟩⟩
  · exact p2.elim
end

/-! ### targets -/
def gNames : List Nat → TGs
  | [] => gNil
  | i :: is => gCons (gName i) (gNames is)
def gM (K : PySem.W.Frag) : MG → TG
  | .name i => gName i
  | .tup is => gTup K is.length (gNames is)
def MG.slots : MG → List Nat
  | .name i => [i]
  | .tup is => is
def setV (σ : St) : List Nat → List V → St
  | i :: is, v :: vs => setV (σ.set i (some v)) is vs
  | _, _ => σ
section
variable {K : PySem.W.Frag} {g : G} {H : Hp} {m : Mem} {s s2 : Sl} {σ : St}
theorem RSl.set {i : Nat} {x : MV} {v : V} (h : RSl K g s σ H) (r : RV K g x v) : RSl K g (s.set i (some (.v x))) (σ.set i (some v)) H := by
  have hl := h.len
  refine ⟨fun j y e => ?_, fun j o e => ?_, fun j k o u a e1 e2 e3 e4 => ?_, by simp [hl]⟩
  · by_cases q : i = j
    · subst q
      by_cases hi : i < s.length
      · rw [List.getElem?_set_self hi] at e; cases e
        exact ⟨v, by rw [List.getElem?_set_self (by omega)], r⟩
      · rw [List.getElem?_eq_none (by simpa using hi)] at e; cases e
    · rw [List.getElem?_set_ne q] at e
      obtain ⟨w, e1, e2⟩ := h.val j y e
      exact ⟨w, by rw [List.getElem?_set_ne q]; exact e1, e2⟩
  · by_cases q : i = j
    · subst q
      by_cases hi : i < s.length
      · rw [List.getElem?_set_self hi] at e; cases e
      · rw [List.getElem?_eq_none (by simpa using hi)] at e; cases e
    · rw [List.getElem?_set_ne q] at e
      obtain ⟨w, e1, e2⟩ := h.own j o e
      exact ⟨w, by rw [List.getElem?_set_ne q]; exact e1, e2⟩
  · have n1 : i ≠ j := fun q => by
      subst q
      by_cases hi : i < s.length
      · rw [List.getElem?_set_self hi] at e1; cases e1
      · rw [List.getElem?_eq_none (by simpa using hi)] at e1; cases e1
    have n2 : i ≠ k := fun q => by
      subst q
      by_cases hi : i < s.length
      · rw [List.getElem?_set_self hi] at e2; cases e2
      · rw [List.getElem?_eq_none (by simpa using hi)] at e2; cases e2
    rw [List.getElem?_set_ne n1] at e1 e3
    rw [List.getElem?_set_ne n2] at e2 e4
    exact h.dis j k o u a e1 e2 e3 e4
theorem RSl.unset {i : Nat} {w : Option V} (h : RSl K g s σ H) : RSl K g (s.set i none) (σ.set i w) H := by
  have hl := h.len
  have ne : ∀ {j : Nat} {y : SV}, (s.set i none)[j]? = some (some y) → i ≠ j := fun {j y} e q => by
    subst q
    by_cases hi : i < s.length
    · rw [List.getElem?_set_self hi] at e; cases e
    · rw [List.getElem?_eq_none (by simpa using hi)] at e; cases e
  refine ⟨fun j y e => ?_, fun j o e => ?_, fun j k o u a e1 e2 e3 e4 => ?_, by simp [hl]⟩
  · have q := ne e
    rw [List.getElem?_set_ne q] at e
    obtain ⟨w, e1, e2⟩ := h.val j y e
    exact ⟨w, by rw [List.getElem?_set_ne q]; exact e1, e2⟩
  · have q := ne e
    rw [List.getElem?_set_ne q] at e
    obtain ⟨w, e1, e2⟩ := h.own j o e
    exact ⟨w, by rw [List.getElem?_set_ne q]; exact e1, e2⟩
  · have n1 := ne e1
    have n2 := ne e2
    rw [List.getElem?_set_ne n1] at e1 e3
    rw [List.getElem?_set_ne n2] at e2 e4
    exact h.dis j k o u a e1 e2 e3 e4
theorem RSl.wipe (h : RSl K g s σ H) : ∀ vs : List Nat, RSl K g (wipeS s vs) (wipe σ vs) H
  | [] => h
  | v :: vs => RSl.unset (RSl.wipe h vs)
/-- what value stores keep -/
def VSet (I : Sl → St → Prop) : Prop := ∀ s σ i x v, I s σ → I (s.set i (some (.v x))) (σ.set i (some v))
theorem names_ok {I : Sl → St → Prop} (hI : VSet I) : ∀ {is : List Nat} {xs : List MV} {vs : List V} {s s2 : Sl} {σ : St} {Q : St → Hp → Prop}, setAll s is xs = some s2 → RVs K g xs vs → RSl K g s σ H → I s σ → (RSl K g s2 (setV σ is vs) H → I s2 (setV σ is vs) → Q (setV σ is vs) H) → gNames is vs σ H Q
  | [], [], _, s, s2, σ, Q, e, r, rl, i0, q => by cases e; cases (show _ = [] from r); exact ⟨rfl, q rl i0⟩
  | i :: is, x :: xs, _, s, s2, σ, Q, e, ⟨v, r, e1, h, t⟩, rl, i0, q => by
    subst e1
    exact ⟨v, r, rfl, names_ok hI (show setAll (s.set i (some (.v x))) is xs = some s2 from e) t (rl.set h) (hI _ _ _ _ _ i0) q⟩
  | [], _ :: _, _, _, _, _, _, e, _, _, _, _ => by cases e
  | _ :: _, [], _, _, _, _, _, e, _, _, _, _ => by cases e
theorem setAll_len : ∀ {is : List Nat} {xs : List MV} {s s2 : Sl}, setAll s is xs = some s2 → is.length = xs.length
  | [], [], _, _, _ => rfl
  | _ :: is, _ :: xs, s, s2, e => by
    have := setAll_len (show setAll (s.set _ _) is xs = some s2 from e)
    simp [this]
  | [], _ :: _, _, _, e => by cases e
  | _ :: _, [], _, _, e => by cases e
/-- a target takes its value -/
theorem gM_ok {I : Sl → St → Prop} (hI : VSet I) {tg : MG} {x : MV} {v : V} {Q : St → Hp → Prop} (rs : Rs K g m H) (e : assignG tg x s = some s2) (r : RV K g x v) (rl : RSl K g s σ H) (i0 : I s σ)
    (q : ∀ vs, RSl K g s2 (setV σ tg.slots vs) H → I s2 (setV σ tg.slots vs) → Q (setV σ tg.slots vs) H) : gM K tg v σ H Q := by
  cases tg with
  | name i =>
    cases e
    exact q [v] (rl.set r) (hI _ _ _ _ _ i0)
  | tup is =>
    unfold assignG at e
    dsimp only at e
    split at e
    · obtain ⟨a, ys, rfl, h, t⟩ := r
      exact ⟨a, ys, rfl, SqT.monoF rs.sub h, by rw [setAll_len e, t.length], names_ok hI e t rl i0 (q ys)⟩
    · cases e
theorem set_wipe {i : Nat} {w : Option V} : ∀ {vs : List Nat} {σ : St}, i ∈ vs → wipe (σ.set i w) vs = wipe σ vs
  | v :: vs, σ, h => by
    by_cases hm : i ∈ vs
    · show (wipe (σ.set i w) vs).set v none = (wipe σ vs).set v none
      rw [set_wipe hm]
    · have e : i = v := by
        rcases List.mem_cons.mp h with q | q
        · exact q
        · exact absurd q hm
      subst e
      show (wipe (σ.set i w) vs).set i none = (wipe σ vs).set i none
      have : ∀ (vs : List Nat) (σ : St), i ∉ vs → wipe (σ.set i w) vs = (wipe σ vs).set i w := by
        intro vs
        induction vs with
        | nil => intro σ _; rfl
        | cons u us ih =>
          intro σ hn
          have n1 : i ≠ u := fun q => hn (by rw [q]; exact List.mem_cons_self)
          show (wipe (σ.set i w) us).set u none = ((wipe σ us).set u none).set i w
          rw [ih σ fun q => hn (List.mem_cons_of_mem _ q), List.set_comm _ _ n1]
      rw [this vs σ hm, List.set_set]
theorem setV_wipe : ∀ {is : List Nat} {ws : List V} {vs : List Nat} {σ : St}, (∀ i ∈ is, i ∈ vs) → wipe (setV σ is ws) vs = wipe σ vs
  | [], _, _, _, _ => rfl
  | i :: is, [], _, _, _ => rfl
  | i :: is, w :: ws, vs, σ, h => by
    show wipe (setV (σ.set i (some w)) is ws) vs = _
    rw [setV_wipe fun j hj => h j (List.mem_cons_of_mem _ hj), set_wipe (h i List.mem_cons_self)]
theorem wipe_idem {vs : List Nat} {σ : St} : wipe (wipe σ vs) vs = wipe σ vs := by
  have h : ∀ (us : List Nat) (σ : St), (∀ i ∈ us, i ∈ vs) → wipe (wipe σ us) vs = wipe σ vs := by
    intro us
    induction us with
    | nil => intro σ _; rfl
    | cons u us ih =>
      intro σ hu
      show wipe ((wipe σ us).set u none) vs = _
      rw [set_wipe (hu u List.mem_cons_self), ih σ fun j hj => hu j (List.mem_cons_of_mem _ hj)]
  exact h vs σ fun _ h => h
end

/-! ### comprehensions -/
section
variable {K : PySem.W.Frag} {σ : St} {H : Hp} {Q : VK}
theorem tF_comp {own : List Nat} {tg : MG} {fi : Sl → Mem → R (List MV)} {ft : Sl → Mem → R Bool} {fe : Sl → Mem → R OV} (hs : ∀ i ∈ tg.slots, i ∈ own)
    (h : tF K (fun s m => (fi s m).bind fun xs m => (compM (compTurnF own tg ft fe s) xs [] m).bind fun ys m => .ok (.lst ys) m) σ H Q) : tLc (tI K fi) (gM K tg) (tT K ft) (tE K fe) own σ H Q := by
  obtain ⟨g, s, m, rs, rl, p⟩ := h
  refine ⟨g, s, m, rs, rl, (PostF.bind p).imp fun J H1 ⟨items, g1, m1, rs1, st1, wk, p1⟩ D hD => ?_⟩
  obtain ⟨n, Gd, Y, w, hn, hG, hY⟩ := wk
  have rl1 := rl.st st1
  obtain ⟨hDF, hDr⟩ := rs1.free hD
  obtain ⟨rs2, st2⟩ := rs1.grow (o := .lst []) hD
  refine lc_it w (Pv := fun i H2 => ∃ g2 m2 acc ys, Rs K g2 m2 H2 ∧ Stp g1 H1 g2 H2 ∧ H2 D = some (.lst ys) ∧ RVs K g2 acc ys ∧ g2.F D = none ∧ (∀ k, g2.r k ≠ some D) ∧ PostF K g1 H1 ((compM (compTurnF own tg ft fe s) (items.drop i) acc m2).bind fun ys m => .ok (.lst ys) m) Q)
    ⟨g1, m1, [], [], rs2, st2, upd_same, rfl, hDF, hDr, by simpa using p1⟩ (fun i H2 _ ⟨g2, m2, acc, ys, r2, t2, _⟩ => hG g2 m2 H2 r2 t2.fle) ?_ ?_
  · rintro i x H2 H3 hi ⟨g2, m2, acc, ys, r2, t2, hDl, ra, hF2, hr2, pq⟩ hy
    obtain ⟨g3, it, r3, t3, e3, rx⟩ := hY i H2 x H3 g2 m2 hi hy r2 t2.fle
    have t13 := t2.trans t3
    have hitem : items.drop i = it :: items.drop (i + 1) := by
      obtain ⟨hlt, e4⟩ := List.getElem?_eq_some_iff.mp e3
      rw [List.drop_eq_getElem_cons hlt, e4]
    rw [hitem] at pq
    have ob3 := own_st (o := .lst acc) ⟨ys, hDl, ra⟩ hF2 hr2 t3
    have pq : PostF K g1 H1 (((compTurnF own tg ft fe s it m2).bind fun y m => match y with
      | some y => if acc.length < sizeLine then compM (compTurnF own tg ft fe s) (items.drop (i + 1)) (acc ++ [y]) m else .stuck
      | none => compM (compTurnF own tg ft fe s) (items.drop (i + 1)) acc m).bind fun ys m => .ok (.lst ys) m) Q := pq
    unfold compTurnF at pq
    cases ea : assignG tg it (wipeS s own) with
    | none => rw [ea] at pq; exact pq.elim
    | some s2 =>
      rw [ea] at pq
      have rl3 := ((rl1.st t13).wipe own)
      refine gM_ok (I := fun _ _ => True) (fun _ _ _ _ _ _ => trivial) r3 ea rx rl3 trivial fun vs rl4 _ => ⟨by rw [setV_wipe hs, wipe_idem], g3, s2, m2, r3, rl4, ?_⟩
      -- the test
      have pq : PostF K g1 H1 ((((ft s2 m2).bind fun k m => if k = true then (fe s2 m).bind fun y m => (match valO y with
        | some y => .ok (some y) m
        | none => .stuck) else .ok none m).bind fun y m => match y with
        | some y => if acc.length < sizeLine then compM (compTurnF own tg ft fe s) (items.drop (i + 1)) (acc ++ [y]) m else .stuck
        | none => compM (compTurnF own tg ft fe s) (items.drop (i + 1)) acc m).bind fun ys m => .ok (.lst ys) m) Q := pq
      cases et : ft s2 m2 with
      | stuck => rw [et] at pq; exact pq.elim
      | exc c fs m' => rw [et] at pq; exact pq.elim
      | ok k m4 =>
        rw [et] at pq
        intro g4 b H4 r4 t4 eb
        subst eb
        have ob4 := own_st ob3.1 ob3.2.1 ob3.2.2 t4
        cases k with
        | false =>
          obtain ⟨⟨zs, hz, rz⟩, h6, h7⟩ := ob4
          exact iteF ⟨g4, m4, acc, zs, r4, t13.trans t4, hz, rz, h6, h7, pq⟩
        | true =>
          refine iteT ⟨g4, s2, m4, r4, rl4.st t4, ?_⟩
          have pq : PostF K g1 H1 ((((fe s2 m4).bind fun y m => (match valO y with
            | some y => .ok (some y) m
            | none => .stuck)).bind fun y m => match y with
            | some y => if acc.length < sizeLine then compM (compTurnF own tg ft fe s) (items.drop (i + 1)) (acc ++ [y]) m else .stuck
            | none => compM (compTurnF own tg ft fe s) (items.drop (i + 1)) acc m).bind fun ys m => .ok (.lst ys) m) Q := pq
          cases ee : fe s2 m4 with
          | stuck => rw [ee] at pq; exact pq.elim
          | exc c fs m' => rw [ee] at pq; exact pq.elim
          | ok y m5 =>
            rw [ee] at pq
            intro g5 yv H5 r5 t5 ry
            obtain ⟨⟨zs, hz, rz⟩, h6, h7⟩ := own_st ob4.1 ob4.2.1 ob4.2.2 t5
            cases y with
            | b o => exact pq.elim
            | v y =>
              have pq : PostF K g1 H1 ((if acc.length < sizeLine then compM (compTurnF own tg ft fe s) (items.drop (i + 1)) (acc ++ [y]) m5 else .stuck).bind fun ys m => .ok (.lst ys) m) Q := pq
              by_cases hl : acc.length < sizeLine
              · rw [if_pos hl] at pq
                refine ⟨zs, hz, by rw [← rz.length]; exact hl, g5, m5, acc ++ [y], zs ++ [yv], r5.own h6 h7, ((t13.trans t4).trans t5).own hD, upd_same, rz.append (.one ry), h6, h7, pq⟩
              · rw [if_neg hl] at pq; exact pq.elim
  · rintro H2 ⟨g2, m2, acc, ys, r2, t2, hDl, ra, hF2, hr2, pq⟩
    rw [hn, List.drop_length] at pq
    exact pq g2 D H2 r2 t2 hD hF2 hr2 ⟨ys, hDl, ra⟩
end
end Rc

set_option Elab.async false
set_option linter.all false
set_option maxRecDepth 100000
set_option maxHeartbeats 4000000
namespace Rc
open PySem PySem.Spec L2
open PyProof.Rows hiding St

/-! ### what a def promises: its mirror -/
def PostR (K : PySem.W.Frag) (g : G) (H : Hp) (r : FR) (Q : VK) : Prop := match r with
  | .ok x m' => ∀ g' v H', Rs K g' m' H' → Stp g H g' H' → RV K g' x v → Q v H'
  | .new o m' => ∀ g' p H', Rs K g' m' H' → Stp g H g' H' → H p = none → g'.F p = none → (∀ n, g'.r n ≠ some p) → ObjR K g' o H' p → Q (.ref p) H'
  | _ => False
def spM (K : PySem.W.Frag) (n : Nat) (M : Mir) : Sp := fun vs H Q _ => ∃ g m as, Rs K g m H ∧ RVs K g as vs ∧ as.length = n ∧ PostR K g H (M as m) Q
theorem PostR.shift {K : PySem.W.Frag} {g g' : G} {H H' : Hp} {r : FR} {Q : VK} (t : Stp g H g' H') (h : PostR K g H r Q) : PostR K g' H' r Q := by
  cases r with
  | ok x m' => exact fun g2 v H2 a b c => h g2 v H2 a (t.trans b) c
  | new o m' => exact fun g2 p H2 a b c d e f => h g2 p H2 a (t.trans b) (t.free c) d e f
  | _ => exact h
structure CallOk (P : Program) (w : World) (K : PySem.W.Frag) (mg : Str → Option Value) (base : Heap) (k : Nat) (F : Fn) : Prop where
  ex : ∃ f fd, mg F.name = some (.ref f) ∧ FnOk P w K mg base CX0 k f fd F.ps (spM K F.ps.length F.M) ∧ PySem.W.keepIn K (.ref f) = true ∧ Binds K fd F.ps [] ∧
    ∀ ks ∈ F.kws, ∀ (s : Shared) (ws : List Value), ws.length = ks.length → BindsTo s fd ⟨[], ks.zip ws⟩ (F.ps.zip (spreadV .none F.ps ks ws))
theorem CallOk.mono {P : Program} {w : World} {K : PySem.W.Frag} {mg : Str → Option Value} {base : Heap} {j k : Nat} {F : Fn} (c : CallOk P w K mg base j F) (h : j ≤ k) : CallOk P w K mg base k F := by
  obtain ⟨f, fd, h1, h2, h3, h4, h5⟩ := c.ex
  exact ⟨f, fd, h1, h2.mono h, h3, h4, h5⟩
section
variable {K : PySem.W.Frag} {g : G} {H : Hp} {m : Mem} {σ : St} {Q : VK}
theorem post_call {M : Mir} {xs : List MV} (h : PostO K g H (match M xs m with
    | .ok x m' => R.ok (OV.v x) m'
    | .new o m' => .ok (.v (frz o)) m'
    | .exc c fs m' => .exc c fs m'
    | .stuck => .stuck) Q) : PostR K g H (M xs m) Q := by
  cases e : M xs m with
  | ok x m' => rw [e] at h; exact h
  | new o m' =>
    rw [e] at h
    intro g' q H' rs' st hq hF hr ob
    cases o with
    | lst xs =>
      obtain ⟨ys, e1, r⟩ := ob
      exact h { g' with F := upd g'.F q (.lst ys) } _ H' (rs'.freezeAt e1 hr hF) (st.frz hq hF) ⟨q, ys, rfl, upd_same, RVs.mono (g := g') (g' := { g' with F := upd g'.F q (.lst ys) }) (fun b u e => by
        show upd g'.F q _ b = some u; rw [upd_ne (fun z => by rw [z, hF] at e; cases e)]; exact e) (fun _ _ e => e) xs r⟩
  | exc c fs m' => rw [e] at h; exact h
  | stuck => rw [e] at h; exact h
theorem tE_call {M : Mir} {n : Nat} {fs : Sl → Mem → R (List OV)} (hn : ∀ s m xs m', fs s m = .ok xs m' → xs.length = n) (h : tE K (fun s m => (fs s m).bind fun xs m => callV M xs m) σ H Q) : tCall (spM K n M) [] E0 (tA K fs) σ H Q := by
  obtain ⟨g, s, m, rs, rl, p⟩ := h
  refine ⟨g, s, m, rs, rl, ?_⟩
  have p : PostO K g H ((fs s m).bind fun xs m => callV M xs m) Q := p
  cases e : fs s m with
  | stuck => rw [e] at p; exact p
  | exc c fs m' => rw [e] at p; exact p
  | ok xs m1 =>
    rw [e] at p
    intro g1 vs H1 rs1 st1 r1
    have p1 := Post.shift st1 (show PostO K g H (callV M xs m1) Q from p)
    unfold callV at p1
    split at p1
    · rename_i ys e2
      have r := vals_ok r1 e2
      refine ⟨g1, m1, ys, rs1, by rw [List.append_nil]; exact r, ?_, post_call p1⟩
      rw [r.length, ← Paired.length r1, hn s m xs m1 e]
    · exact p1.elim
theorem Rs.adopt {o : MO} {p : Addr} (rs : Rs K g m H) (hF : g.F p = none) (hr : ∀ n, g.r n ≠ some p) (ob : ObjR K g o H p) : Rs K { g with r := fun n => if n = m.length then some p else g.r n } (m ++ [some o]) H := by
  have mono : ∀ (n : Nat) a, g.r n = some a → (if n = m.length then some p else g.r n) = some a := fun n a e => by
    have := (rs.rb n a e).1
    rw [if_neg (by omega)]; exact e
  have ob' : ∀ {u : MO} {a : Addr}, ObjR K g u H a → ObjR K { g with r := fun n => if n = m.length then some p else g.r n } u H a := fun {u a} h => by
    cases u with
    | lst xs => obtain ⟨ys, q, r⟩ := h; exact ⟨ys, q, RVs.mono (g := g) (g' := { g with r := fun n => if n = m.length then some p else g.r n }) (fun _ _ e => e) mono xs r⟩
  refine ⟨rs.sub, fun n u e => ?_, fun n a e => ?_, fun n k a e1 e2 => ?_⟩
  · by_cases hn : n = m.length
    · subst hn
      rw [List.getElem?_append_right (Nat.le_refl _)] at e
      simp at e
      subst e
      exact ⟨p, by simp, hF, ob' ob⟩
    · have hl : n < m.length := by
        have := (List.getElem?_eq_some_iff.mp e).1
        simp at this
        omega
      rw [List.getElem?_append_left hl] at e
      obtain ⟨a, e1, e2, e3⟩ := rs.gr n u e
      exact ⟨a, mono n a e1, e2, ob' e3⟩
  · have e : (if n = m.length then some p else g.r n) = some a := e
    by_cases hn : n = m.length
    · rw [if_pos hn] at e; cases e
      obtain ⟨u, q⟩ := ob.some
      exact ⟨by simp [hn], by rw [q]; simp⟩
    · rw [if_neg hn] at e
      obtain ⟨h1, h2⟩ := rs.rb n a e
      exact ⟨by simp; omega, h2⟩
  · have e1 : (if n = m.length then some p else g.r n) = some a := e1
    have e2 : (if k = m.length then some p else g.r k) = some a := e2
    by_cases hn : n = m.length <;> by_cases hk : k = m.length
    · omega
    · rw [if_pos hn] at e1; rw [if_neg hk] at e2; cases e1; exact absurd e2 (hr k)
    · rw [if_neg hn] at e1; rw [if_pos hk] at e2; cases e2; exact absurd e1 (hr n)
    · rw [if_neg hn] at e1; rw [if_neg hk] at e2; exact rs.rj n k a e1 e2
theorem tE_callN {M : Mir} {n : Nat} {fs : Sl → Mem → R (List OV)} (hn : ∀ s m xs m', fs s m = .ok xs m' → xs.length = n) (h : tE K (fun s m => (fs s m).bind fun xs m => callN M xs m) σ H Q) : tCall (spM K n M) [] E0 (tA K fs) σ H Q := by
  obtain ⟨g, s, m, rs, rl, p⟩ := h
  refine ⟨g, s, m, rs, rl, ?_⟩
  have p : PostO K g H ((fs s m).bind fun xs m => callN M xs m) Q := p
  cases e : fs s m with
  | stuck => rw [e] at p; exact p
  | exc c fs m' => rw [e] at p; exact p
  | ok xs m1 =>
    rw [e] at p
    intro g1 vs H1 rs1 st1 r1
    have p1 := Post.shift st1 (show PostO K g H (callN M xs m1) Q from p)
    unfold callN at p1
    split at p1
    · rename_i ys e2
      have r := vals_ok r1 e2
      refine ⟨g1, m1, ys, rs1, by rw [List.append_nil]; exact r, by rw [r.length, ← Paired.length r1, hn s m xs m1 e], ?_⟩
      split at p1
      · rename_i o m2 e3
        rw [e3]
        intro g' q H' rs' st hq hF hr ob
        refine p1 _ _ H' (rs'.adopt hF hr ob) ⟨st.F, fun k a e => ?_, st.keep, st.dom, st.Fn, fun k b e => ?_⟩ ⟨q, rfl, by simp⟩
        · have e := st.r k a e
          have := (rs'.rb k a e).1
          show (if k = m2.length then some q else g'.r k) = some a
          rw [if_neg (by omega)]; exact e
        · have e : (if k = m2.length then some q else g'.r k) = some b := e
          by_cases hk : k = m2.length
          · rw [if_pos hk] at e; cases e; exact .inr hq
          · rw [if_neg hk] at e; exact st.rn k b e
      · exact p1.elim
    · exact p1.elim

theorem RVs.getD {xs : List MV} {vs : List V} (r : RVs K g xs vs) (i : Nat) : RV K g (xs.getD i .non) (vs.getD i .non) := by
  by_cases h : i < xs.length
  · obtain ⟨v, h1, h2⟩ := r.get (i := i) (x := xs[i]) (by simp [h])
    rw [List.getD_eq_getElem?_getD, List.getD_eq_getElem?_getD, h1, List.getElem?_eq_getElem h]
    exact h2
  · rw [List.getD_eq_getElem?_getD, List.getD_eq_getElem?_getD, List.getElem?_eq_none (by omega), List.getElem?_eq_none (by rw [← r.length]; omega)]
    exact rfl
theorem RVs.map {α : Type} {f : α → MV} {h : α → V} (e : ∀ x, RV K g (f x) (h x)) : ∀ ps : List α, RVs K g (ps.map f) (ps.map h)
  | [] => rfl
  | p :: ps => ⟨_, _, rfl, e p, RVs.map e ps⟩
theorem RVs.spread {xs : List MV} {vs : List V} (r : RVs K g xs vs) (ps ks : List Str) : RVs K g (spreadV .non ps ks xs) (spreadV .non ps ks vs) := RVs.map (fun x => r.getD _) ps
theorem Vals.getD {vs : List V} {us : List Value} (r : Vals vs us) (i : Nat) : RelV (vs.getD i .non) (us.getD i .none) := by
  by_cases h : i < vs.length
  · obtain ⟨u, h1, h2⟩ := r.get (i := i) (x := vs[i]) (by simp [h])
    rw [List.getD_eq_getElem?_getD, List.getD_eq_getElem?_getD, h1, List.getElem?_eq_getElem h]
    exact h2
  · rw [List.getD_eq_getElem?_getD, List.getD_eq_getElem?_getD, List.getElem?_eq_none (by omega), List.getElem?_eq_none (by rw [← r.length]; omega)]
    exact rfl
theorem Vals.mapV {α : Type} {f : α → V} {h : α → Value} (e : ∀ x, RelV (f x) (h x)) : ∀ ps : List α, Vals (ps.map f) (ps.map h)
  | [] => .nil
  | p :: ps => .cons (e p) (Vals.mapV e ps)
end
/-! ### a call by keywords alone -/
section
variable {X : Cx}
def tCallK0 (sp : Sp) (n : Nat) (ps ks : List Str) (t : TA) : TE := fun σ H Q => t σ H fun zs H1 => zs.length = n ∧ sp (spreadV .non ps ks zs) H1 Q E0
theorem pe_callK0 {k : Nat} {f : Addr} {fd : FuncData} {ps ks : List Str} {sp : Sp} {x : Str} {p pos : Pos} {kws : List Keyword} {t : TA} (F : FnOk X.prog X.w X.K X.mg X.base CX0 k f fd ps sp) (hr : Room k X.A) (hg : Gl X x) (hm : X.mg x = some (.ref f)) (hk : PySem.W.keepIn X.K (.ref f) = true)
    (hb : ∀ (s : Shared) (ws : List Value), ws.length = ks.length → BindsTo s fd ⟨[], ks.zip ws⟩ (ps.zip (spreadV .none ps ks ws))) (hkw : PK X kws t)
    (hall : (backToKw pos (keywordEach kws X.env)).all (·.1.isSome) = true) (hks : (backToKw pos (keywordEach kws X.env)).filterMap (·.1) = ks) (hdb : (x == ("__debug__" : Str)) = false)
    (hpl : ((backTo pos (starEach [] X.env)).any (·.1) || (backToKw pos (keywordEach kws X.env)).any (·.1.isNone)) = false) :
    PE X (.Call (.Name x p) [] kws pos) (tCallK0 sp ks.length ps ks t) := by
  refine ⟨fun pins s σ H Q I h => ?_⟩
  refine wpAny_Call_Name_kw (ld_glob I hg hm ?_ hdb)
  refine PySem.W.callWith_KW0 (h₀ := X.base) I.ok.mod.kin hk hall (thn (hkw.run pos pins s σ H _ I h) fun ws s2 ⟨zs, H2, I2, rz, hl, q2⟩ => ⟨I2.kIn, ?_⟩) hpl
  rw [hks]
  have r2 : Vals (spreadV .non ps ks zs) (spreadV .none ps ks ws) := Vals.mapV (fun x => Vals.getD rz _) ps
  refine wpAny_call (codeAny_mono (F.run X.A X.stack s2 H2 ⟨[], ks.zip ws⟩ _ _ Q E0 hr I2.env0 (hb s2 ws (rz.length ▸ hl)) r2 q2) fun r s' hq => ?_)
  cases r with
  | error e => exact False.elim hq
  | ok fl =>
    cases fl with
    | ret u => exact I2.after hq
    | next => exact False.elim hq
    | brk => exact False.elim hq
    | cont => exact False.elim hq
theorem tE_callK {K : PySem.W.Frag} {M : Mir} {ps ks : List Str} {fs : Sl → Mem → R (List OV)} {σ : St} {H : Hp} {Q : VK} (hn : ∀ s m xs m', fs s m = .ok xs m' → xs.length = ks.length)
    (h : tE K (fun s m => (fs s m).bind fun xs m => match vals xs with
      | some ys => callV M ((spreadV .non ps ks ys).map OV.v) m
      | none => .stuck) σ H Q) : tCallK0 (spM K ps.length M) ks.length ps ks (tA K fs) σ H Q := by
  obtain ⟨g, s, m, rs, rl, p⟩ := h
  refine ⟨g, s, m, rs, rl, ?_⟩
  have p : PostO K g H ((fs s m).bind fun xs m => match vals xs with
      | some ys => callV M ((spreadV .non ps ks ys).map OV.v) m
      | none => .stuck) Q := p
  cases e : fs s m with
  | stuck => rw [e] at p; exact p
  | exc c fs m' => rw [e] at p; exact p
  | ok xs m1 =>
    rw [e] at p
    intro g1 vs H1 rs1 st1 r1
    have p1 := Post.shift st1 (show PostO K g H (match vals xs with
      | some ys => callV M ((spreadV .non ps ks ys).map OV.v) m1
      | none => .stuck) Q from p)
    split at p1
    · rename_i ys e2
      have r := vals_ok r1 e2
      have r3 := RVs.spread r ps ks
      have hv : ∀ zs : List MV, vals (zs.map OV.v) = some zs := fun zs => by
        induction zs with
        | nil => rfl
        | cons z zs ih => show (vals (zs.map OV.v)).map (z :: ·) = _; rw [ih]; rfl
      unfold callV at p1
      rw [hv] at p1
      exact ⟨(Paired.length r1).symm.trans (hn s m xs m1 e), g1, m1, _, rs1, r3, by simp [spreadV], post_call p1⟩
    · exact p1.elim
end
end Rc

set_option Elab.async false
set_option linter.all false
set_option maxRecDepth 100000
set_option maxHeartbeats 4000000
namespace Rc
open PySem PySem.Spec L2
open PyProof.Rows hiding St

/-! ### statements -/
mutual
inductive MS where
  | set (i : Nat) (e : ME)
  | setOwn (i : Nat) (f : MF)
  | par (i j : Nat) (a b : ME)
  | tupSet (is : List Nat) (e : ME)
  | ixSet (o i e : ME)
  | ifs (t : MT) (a b : MSs)
  | ret (e : ME)
  | retN
  | retF (f : MF)
  | retOwn (i : Nat)
  | loop (tg : MG) (it : MI) (body : MSs)
  | brk
  | cont
  | pass
  | expr (e : ME)
  | app (i : Nat) (e : ME)
inductive MSs where
  | nil
  | cons (a : MS) (r : MSs)
end
inductive SR where
  | nx (s : Sl) (m : Mem)
  | bk (s : Sl) (m : Mem)
  | ct (s : Sl) (m : Mem)
  | rt (r : FR)
  | stuck
def R.toS {α : Type} (r : R α) (k : α → Mem → SR) : SR := match r with
  | .ok a m => k a m
  | .exc c fs m => .rt (.exc c fs m)
  | .stuck => .stuck
def SR.seq (r : SR) (k : Sl → Mem → SR) : SR := match r with
  | .nx s m => k s m
  | r => r
def toV (x : OV) (m : Mem) : R MV := match x with
  | .v x => .ok x m
  | .b _ => .stuck
/-- o[i] = x, o a live list -/
def ixSetF (o i : OV) (x : MV) (m : Mem) : Option Mem := match o, i with
  | .v (.ref n), .v (.int k) => (match memL m n with
    | some xs => (match ixN xs.length k with
      | some j => some (m.set n (some (.lst (xs.set j x))))
      | none => none)
    | none => none)
  | _, _ => none
def forS (f : MV → Sl → Mem → SR) : List MV → Sl → Mem → SR
  | [], s, m => .nx s m
  | x :: xs, s, m => match f x s m with
    | .nx s m => forS f xs s m
    | .ct s m => forS f xs s m
    | .bk s m => .nx s m
    | .rt r => .rt r
    | .stuck => .stuck
section
variable (Fs : List Fn)
mutual
def ex : MS → Sl → Mem → SR
  | .set i e, s, m => (ev Fs e s m).toS fun x m => (toV x m).toS fun x m => .nx (s.set i (some (.v x))) m
  | .setOwn i f, s, m => (evF Fs f s m).toS fun o m => if i < s.length then .nx (s.set i (some (.own o))) m else .stuck
  | .par i j a b, s, m => (ev Fs a s m).toS fun x m => (ev Fs b s m).toS fun y m => (toV x m).toS fun x m => (toV y m).toS fun y m => .nx ((s.set i (some (.v x))).set j (some (.v y))) m
  | .tupSet is e, s, m => (ev Fs e s m).toS fun x m => (toV x m).toS fun x m => match assignG (.tup is) x s with
    | some s => .nx s m
    | none => .stuck
  | .ixSet o i e, s, m => (ev Fs e s m).toS fun x m => (ev Fs o s m).toS fun o m => (ev Fs i s m).toS fun i m => (toV x m).toS fun x m => match ixSetF o i x m with
    | some m => .nx s m
    | none => .stuck
  | .ifs t a b, s, m => (evT Fs t s m).toS fun k m => if k = true then exs a s m else exs b s m
  | .ret e, s, m => (ev Fs e s m).toS fun x m => (toV x m).toS fun x m => .rt (.ok x m)
  | .retN, _, m => .rt (.ok .non m)
  | .retF f, s, m => (evF Fs f s m).toS fun o m => .rt (.new o m)
  | .retOwn i, s, m => (match s[i]? with
    | some (some (.own o)) => .rt (.new o m)
    | _ => .stuck)
  | .loop tg it body, s, m => (evI Fs it s m).toS fun xs m => forS (fun x s m => match assignG tg x s with
    | some s => exs body s m
    | none => .stuck) xs s m
  | .brk, s, m => .bk s m
  | .cont, s, m => .ct s m
  | .pass, s, m => .nx s m
  | .expr e, s, m => (ev Fs e s m).toS fun _ m => .nx s m
  | .app i e, s, m => (match s[i]? with
    | some (some (.own (.lst xs))) => (ev Fs e s m).toS fun x m => (toV x m).toS fun x m => if xs.length < sizeLine then .nx (s.set i (some (.own (.lst (xs ++ [x]))))) m else .stuck
    | _ => .stuck)
def exs : MSs → Sl → Mem → SR
  | .nil, s, m => .nx s m
  | .cons a r, s, m => (ex a s m).seq fun s m => exs r s m
end
/-- a def: what it gives back at its arguments -/
def runD (n : Nat) (body : MSs) : Mir := fun as m => match exs Fs body (as.map (fun x => some (SV.v x)) ++ List.replicate (n - as.length) none) m with
  | .nx _ m => .ok .non m
  | .rt r => r
  | _ => .stuck
end

/-! ### the frame's state between two statements -/
structure SRel (K : PySem.W.Frag) (g0 : G) (H0 : Hp) (g : G) (s : Sl) (m : Mem) (σ : St) (H : Hp) : Prop where
  rs : Rs K g m H
  rl : RSl K g s σ H
  st : Stp g0 H0 g H
  o0 : ∀ (i : Nat) o a, s[i]? = some (some (.own o)) → σ[i]? = some (some (.ref a)) → H0 a = none
def PostS (K : PySem.W.Frag) (g0 : G) (H0 : Hp) (g : G) (r : SR) (D : Ends) : Prop := match r with
  | .nx s m => ∀ g' σ' H', SRel K g0 H0 g' s m σ' H' → Fle g g' → D.nx σ' H'
  | .bk s m => ∀ g' σ' H', SRel K g0 H0 g' s m σ' H' → Fle g g' → D.bk σ' H'
  | .ct s m => ∀ g' σ' H', SRel K g0 H0 g' s m σ' H' → Fle g g' → D.ct σ' H'
  | .rt r => PostR K g0 H0 r D.rt
  | .stuck => False
def tS (K : PySem.W.Frag) (g0 : G) (H0 : Hp) (f : Sl → Mem → SR) : TS := fun D σ H => ∃ g s m, SRel K g0 H0 g s m σ H ∧ PostS K g0 H0 g (f s m) D

section
variable {α β : Type} {K : PySem.W.Frag} {g0 g g' : G} {H0 H H' : Hp} {s s2 : Sl} {m m' : Mem} {σ : St} {D : Ends}
theorem SRel.step (h : SRel K g0 H0 g s m σ H) (rs : Rs K g' m' H') (t : Stp g H g' H') : SRel K g0 H0 g' s m' σ H' := ⟨rs, h.rl.st t, h.st.trans t, h.o0⟩
theorem PostS.fle {r : SR} (h : PostS K g0 H0 g r D) (f : Fle g g') : PostS K g0 H0 g' r D := by
  cases r with
  | nx s m => exact fun g2 σ' H' a b => h g2 σ' H' a (f.trans b)
  | bk s m => exact fun g2 σ' H' a b => h g2 σ' H' a (f.trans b)
  | ct s m => exact fun g2 σ' H' a b => h g2 σ' H' a (f.trans b)
  | _ => exact h
/-- an expression ahead -/
theorem PostS.bind {R1 : G → Hp → α → β → Prop} {r : R α} {k : α → Mem → SR} (h : PostS K g0 H0 g (r.toS k) D) :
    Post K R1 g H r fun v H1 => ∃ x g1 m1, Rs K g1 m1 H1 ∧ Stp g H g1 H1 ∧ R1 g1 H1 x v ∧ PostS K g0 H0 g1 (k x m1) D := by
  cases r with
  | ok x m' => exact fun g1 v H1 a b c => ⟨x, g1, m', a, b, c, PostS.fle h b.fle⟩
  | exc c fs m' => exact h
  | stuck => exact h
theorem PostS.bindF {r : R MO} {k : MO → Mem → SR} (h : PostS K g0 H0 g (r.toS k) D) :
    PostF K g H r fun v H1 => ∃ o g1 m1 p, v = .ref p ∧ Rs K g1 m1 H1 ∧ Stp g H g1 H1 ∧ H p = none ∧ g1.F p = none ∧ (∀ n, g1.r n ≠ some p) ∧ ObjR K g1 o H1 p ∧ PostS K g0 H0 g1 (k o m1) D := by
  cases r with
  | ok x m' => exact fun g1 p H1 a b c d e f => ⟨x, g1, m', p, rfl, a, b, c, d, e, f, PostS.fle h b.fle⟩
  | exc c fs m' => exact h
  | stuck => exact h
theorem toV_ok {x : OV} {v : V} {k : MV → Mem → SR} (r : RO K g H x v) (h : PostS K g0 H0 g ((toV x m).toS k) D) : ∃ y, x = .v y ∧ RV K g y v ∧ PostS K g0 H0 g (k y m) D := by
  cases x with
  | v y => exact ⟨y, rfl, r, h⟩
  | b o => exact h.elim
theorem own0_set : VSet fun s σ => ∀ (i : Nat) o a, s[i]? = some (some (SV.own o)) → σ[i]? = some (some (V.ref a)) → H0 a = none := by
  intro s σ i x v h j o a e1 e2
  by_cases q : i = j
  · subst q
    by_cases hi : i < s.length
    · rw [List.getElem?_set_self hi] at e1; cases e1
    · rw [List.getElem?_eq_none (by simpa using hi)] at e1; cases e1
  · rw [List.getElem?_set_ne q] at e1 e2
    exact h j o a e1 e2
theorem SRel.set {i : Nat} {x : MV} {v : V} (h : SRel K g0 H0 g s m σ H) (r : RV K g x v) : SRel K g0 H0 g (s.set i (some (.v x))) m (σ.set i (some v)) H := ⟨h.rs, h.rl.set r, h.st, own0_set s σ i x v h.o0⟩
/-- a slot takes a new own object -/
theorem SRel.setOwn {i : Nat} {o : MO} {p : Addr} (h : SRel K g0 H0 g s m σ H) (hi : i < s.length) (hF : g.F p = none) (hr : ∀ n, g.r n ≠ some p) (ob : ObjR K g o H p) (h0 : H0 p = none)
    (nw : ∀ (j : Nat) u, s[j]? = some (some (.own u)) → σ[j]? ≠ some (some (.ref p))) : SRel K g0 H0 g (s.set i (some (.own o))) m (σ.set i (some (.ref p))) H := by
  have hl := h.rl.len
  refine ⟨h.rs, ⟨fun j y e => ?_, fun j u e => ?_, fun j k u w a e1 e2 e3 e4 => ?_, by simp [hl]⟩, h.st, fun j u a e1 e2 => ?_⟩
  · by_cases q : i = j
    · subst q; rw [List.getElem?_set_self hi] at e; cases e
    · rw [List.getElem?_set_ne q] at e
      obtain ⟨w, e1, e2⟩ := h.rl.val j y e
      exact ⟨w, by rw [List.getElem?_set_ne q]; exact e1, e2⟩
  · by_cases q : i = j
    · subst q; rw [List.getElem?_set_self hi] at e; cases e
      exact ⟨p, by rw [List.getElem?_set_self (by omega)], ob, hF, hr⟩
    · rw [List.getElem?_set_ne q] at e
      obtain ⟨w, e1, e2⟩ := h.rl.own j u e
      exact ⟨w, by rw [List.getElem?_set_ne q]; exact e1, e2⟩
  · by_cases q : i = j
    · subst q
      by_cases q2 : i = k
      · exact q2
      · rw [List.getElem?_set_ne q2] at e2 e4
        rw [List.getElem?_set_self (by omega)] at e3; cases e3
        exact absurd e4 (nw k _ e2)
    · by_cases q2 : i = k
      · subst q2
        rw [List.getElem?_set_ne q] at e1 e3
        rw [List.getElem?_set_self (by omega)] at e4; cases e4
        exact absurd e3 (nw j _ e1)
      · rw [List.getElem?_set_ne q] at e1 e3
        rw [List.getElem?_set_ne q2] at e2 e4
        exact h.rl.dis j k _ _ a e1 e2 e3 e4
  · by_cases q : i = j
    · subst q; rw [List.getElem?_set_self (by omega)] at e2; cases e2; exact h0
    · rw [List.getElem?_set_ne q] at e1 e2
      exact h.o0 j u a e1 e2
end
end Rc

set_option Elab.async false
set_option linter.all false
set_option maxRecDepth 100000
set_option maxHeartbeats 4000000
namespace Rc
open PySem PySem.Spec L2
open PyProof.Rows hiding St

section
variable {α β : Type} {K : PySem.W.Frag} {g0 g g' : G} {H0 H H' : Hp} {s s2 : Sl} {m m' : Mem} {σ : St} {D : Ends}
theorem tS_next (h : tS K g0 H0 (fun s m => .nx s m) D σ H) : tNext D σ H := by
  obtain ⟨g, s, m, R, p⟩ := h
  exact p g σ H R (Fle.refl _)
theorem tS_brk (h : tS K g0 H0 (fun s m => .bk s m) D σ H) : tBreak D σ H := by
  obtain ⟨g, s, m, R, p⟩ := h
  exact p g σ H R (Fle.refl _)
theorem tS_cont (h : tS K g0 H0 (fun s m => .ct s m) D σ H) : tCont D σ H := by
  obtain ⟨g, s, m, R, p⟩ := h
  exact p g σ H R (Fle.refl _)
theorem tS_seq {f k : Sl → Mem → SR} (h : tS K g0 H0 (fun s m => (f s m).seq k) D σ H) : tSeq (tS K g0 H0 f) (tS K g0 H0 k) D σ H := by
  obtain ⟨g, s, m, R, p⟩ := h
  refine ⟨g, s, m, R, ?_⟩
  have p : PostS K g0 H0 g ((f s m).seq k) D := p
  cases e : f s m with
  | nx s' m' => rw [e] at p; exact fun g' σ' H' R' fl => ⟨g', s', m', R', PostS.fle p fl⟩
  | bk s' m' => rw [e] at p; exact p
  | ct s' m' => rw [e] at p; exact p
  | rt r => rw [e] at p; exact p
  | stuck => rw [e] at p; exact p.elim
theorem tS_if {ft : Sl → Mem → R Bool} {fa fb : Sl → Mem → SR} (h : tS K g0 H0 (fun s m => (ft s m).toS fun k m => if k = true then fa s m else fb s m) D σ H) : tIfS (tT K ft) (tS K g0 H0 fa) (tS K g0 H0 fb) D σ H := by
  obtain ⟨g, s, m, R, p⟩ := h
  refine ⟨g, s, m, R.rs, R.rl, (PostS.bind (R1 := fun _ _ x v => x = v) p).imp fun b H1 ⟨x, g1, m1, rs1, st1, r1, p1⟩ => ?_⟩
  subst r1
  cases x with
  | true => exact iteT ⟨g1, s, m1, R.step rs1 st1, p1⟩
  | false => exact iteF ⟨g1, s, m1, R.step rs1 st1, p1⟩
theorem tS_set {i : Nat} {fe : Sl → Mem → R OV} (h : tS K g0 H0 (fun s m => (fe s m).toS fun x m => (toV x m).toS fun x m => .nx (s.set i (some (.v x))) m) D σ H) : tAsg (tE K fe) (gName i) D σ H := by
  obtain ⟨g, s, m, R, p⟩ := h
  refine ⟨g, s, m, R.rs, R.rl, (PostS.bind p).imp fun v H1 ⟨x, g1, m1, rs1, st1, r1, p1⟩ => ?_⟩
  obtain ⟨y, rfl, r2, p2⟩ := toV_ok r1 p1
  exact p2 g1 _ H1 ((R.step rs1 st1).set r2) (Fle.refl _)
/-- what a target keeps of the state -/
theorem SRel.assign {tg : MG} {x : MV} {v : V} {Q : St → Hp → Prop} (R : SRel K g0 H0 g s m σ H) (e : assignG tg x s = some s2) (r : RV K g x v) (q : ∀ σ', SRel K g0 H0 g s2 m σ' H → Q σ' H) : gM K tg v σ H Q :=
  gM_ok (I := fun s σ => ∀ (i : Nat) o a, s[i]? = some (some (SV.own o)) → σ[i]? = some (some (V.ref a)) → H0 a = none) own0_set R.rs e r R.rl R.o0 fun vs rl o0 => q _ ⟨R.rs, rl, R.st, o0⟩
theorem tS_tup {is : List Nat} {fe : Sl → Mem → R OV} (h : tS K g0 H0 (fun s m => (fe s m).toS fun x m => (toV x m).toS fun x m => match assignG (.tup is) x s with
    | some s => .nx s m
    | none => .stuck) D σ H) : tAsg (tE K fe) (gM K (.tup is)) D σ H := by
  obtain ⟨g, s, m, R, p⟩ := h
  refine ⟨g, s, m, R.rs, R.rl, (PostS.bind p).imp fun v H1 ⟨x, g1, m1, rs1, st1, r1, p1⟩ => ?_⟩
  obtain ⟨y, rfl, r2, p2⟩ := toV_ok r1 p1
  split at p2
  · rename_i s2 e
    exact (R.step rs1 st1).assign e r2 fun σ' R' => p2 g1 σ' H1 R' (Fle.refl _)
  · exact p2.elim
theorem tS_setOwn {i : Nat} {f : Sl → Mem → R MO} (h : tS K g0 H0 (fun s m => (f s m).toS fun o m => if i < s.length then .nx (s.set i (some (.own o))) m else .stuck) D σ H) : tAsg (tF K f) (gName i) D σ H := by
  obtain ⟨g, s, m, R, p⟩ := h
  refine ⟨g, s, m, R.rs, R.rl, (PostS.bindF p).imp fun v H1 ⟨o, g1, m1, q, e, rs1, st1, hq, hF, hr, ob, p1⟩ => ?_⟩
  subst e
  split at p1
  case isFalse => exact p1.elim
  rename_i hl
  refine p1 g1 _ H1 ((R.step rs1 st1).setOwn hl hF hr ob (R.st.free hq) fun j u e1 e2 => ?_) (Fle.refl _)
  obtain ⟨a, e3, e4, _⟩ := R.rl.own j u e1
  rw [e2] at e3; cases e3
  obtain ⟨w, e5⟩ := e4.some
  rw [hq] at e5; cases e5
theorem tS_ret {fe : Sl → Mem → R OV} (h : tS K g0 H0 (fun s m => (fe s m).toS fun x m => (toV x m).toS fun x m => .rt (.ok x m)) D σ H) : tRet (tE K fe) D σ H := by
  obtain ⟨g, s, m, R, p⟩ := h
  refine ⟨g, s, m, R.rs, R.rl, (PostS.bind p).imp fun v H1 ⟨x, g1, m1, rs1, st1, r1, p1⟩ => ?_⟩
  obtain ⟨y, rfl, r2, p2⟩ := toV_ok r1 p1
  exact p2 g1 v H1 rs1 (R.st.trans st1) r2
theorem tS_retN (h : tS K g0 H0 (fun s m => .rt (.ok .non m)) D σ H) : tRetN D σ H := by
  obtain ⟨g, s, m, R, p⟩ := h
  exact p g .non H R.rs R.st rfl
theorem tS_retF {f : Sl → Mem → R MO} (h : tS K g0 H0 (fun s m => (f s m).toS fun o m => .rt (.new o m)) D σ H) : tRet (tF K f) D σ H := by
  obtain ⟨g, s, m, R, p⟩ := h
  refine ⟨g, s, m, R.rs, R.rl, (PostS.bindF p).imp fun v H1 ⟨o, g1, m1, q, e, rs1, st1, hq, hF, hr, ob, p1⟩ => ?_⟩
  subst e
  exact p1 g1 q H1 rs1 (R.st.trans st1) (R.st.free hq) hF hr ob
theorem tS_retOwn {i : Nat} (h : tS K g0 H0 (fun s m => (match s[i]? with
    | some (some (.own o)) => .rt (.new o m)
    | _ => .stuck)) D σ H) : tRet (tVar i) D σ H := by
  obtain ⟨g, s, m, R, p⟩ := h
  dsimp only at p
  split at p
  · rename_i o e
    obtain ⟨a, e1, ob, hF, hr⟩ := R.rl.own i o e
    exact ⟨_, e1, p g a H R.rs R.st (R.o0 i o a e e1) hF hr ob⟩
  · exact p.elim
theorem tS_drop {fe : Sl → Mem → R OV} (h : tS K g0 H0 (fun s m => (fe s m).toS fun _ m => .nx s m) D σ H) : tDrop (tE K fe) D σ H := by
  obtain ⟨g, s, m, R, p⟩ := h
  refine ⟨g, s, m, R.rs, R.rl, (PostS.bind p).imp fun v H1 ⟨x, g1, m1, rs1, st1, r1, p1⟩ => ?_⟩
  exact p1 g1 _ H1 (R.step rs1 st1) (Fle.refl _)
theorem tS_par {i j : Nat} {fa fb : Sl → Mem → R OV} (h : tS K g0 H0 (fun s m => (fa s m).toS fun x m => (fb s m).toS fun y m => (toV x m).toS fun x m => (toV y m).toS fun y m => .nx ((s.set i (some (.v x))).set j (some (.v y))) m) D σ H) :
    tPar i j (tCons (tE K fa) (tCons (tE K fb) tNil)) D σ H := by
  obtain ⟨g, s, m, R, p⟩ := h
  refine ⟨g, s, m, R.rs, R.rl, (PostS.bind p).imp fun v H1 ⟨x, g1, m1, rs1, st1, r1, p1⟩ => ⟨g1, s, m1, rs1, R.rl.st st1, (PostS.bind p1).imp fun w H2 ⟨y, g2, m2, rs2, st2, r2, p2⟩ => ?_⟩⟩
  obtain ⟨x', rfl, r3, p3⟩ := toV_ok (RO.st r1 st2) p2
  obtain ⟨y', rfl, r4, p4⟩ := toV_ok r2 p3
  exact ⟨v, w, rfl, p4 g2 _ H2 ((((R.step rs1 st1).step rs2 st2).set r3).set r4) (Fle.refl _)⟩
/-- a live list is written -/
theorem Rs.setRef {n : Nat} {a : Addr} {xs : List MV} {ys : List V} (rs : Rs K g m H) (hn : g.r n = some a) (hF : g.F a = none) (r : RVs K g xs ys) :
    Rs K g (m.set n (some (.lst xs))) (upd H a (.lst ys)) ∧ Stp g H g (upd H a (.lst ys)) := by
  have hlt := (rs.rb n a hn).1
  refine ⟨⟨fun b u e => ?_, fun k u e => ?_, fun k b e => ?_, rs.rj⟩, ⟨fun _ _ e => e, fun _ _ e => e, fun b u e hb => ?_, fun b e => ?_, fun b e => .inl e, fun k b e => .inl e⟩⟩
  · rw [upd_ne (fun z => by rw [z, hF] at e; cases e)]; exact rs.sub b u e
  · by_cases q : n = k
    · subst q
      rw [List.getElem?_set_self hlt] at e; cases e
      exact ⟨a, hn, hF, ys, upd_same, r⟩
    · rw [List.getElem?_set_ne q] at e
      obtain ⟨b, e1, e2, e3⟩ := rs.gr k u e
      have ne : b ≠ a := fun z => q (rs.rj n k a hn (z ▸ e1))
      refine ⟨b, e1, e2, ?_⟩
      cases u with
      | lst zs => obtain ⟨ws, q1, q2⟩ := e3; exact ⟨ws, (upd_ne ne).trans q1, q2⟩
  · obtain ⟨h1, h2⟩ := rs.rb k b e
    refine ⟨by simpa using h1, ?_⟩
    by_cases z : b = a
    · subst z; rw [upd_same]; simp
    · rw [upd_ne z]; exact h2
  · rw [upd_ne (fun z => hb n (by rw [z]; exact hn))]; exact e
  · by_cases z : b = a
    · subst z; rw [upd_same]; simp
    · rw [upd_ne z]; exact e
theorem memL_ok {n : Nat} {xs : List MV} {a : Addr} (rs : Rs K g m H) (hn : g.r n = some a) (e : memL m n = some xs) : ∃ ys, H a = some (.lst ys) ∧ RVs K g xs ys ∧ g.F a = none := by
  unfold memL at e
  split at e
  · rename_i zs e2
    cases e
    obtain ⟨b, e3, e4, ys, e5, e6⟩ := rs.gr n _ e2
    rw [hn] at e3; cases e3
    exact ⟨ys, e5, e6, e4⟩
  · cases e
theorem tS_ixSet {fe fo fi : Sl → Mem → R OV} (h : tS K g0 H0 (fun s m => (fe s m).toS fun x m => (fo s m).toS fun o m => (fi s m).toS fun i m => (toV x m).toS fun x m => match ixSetF o i x m with
    | some m => .nx s m
    | none => .stuck) D σ H) : tAsg (tE K fe) (gSub (tE K fo) (tE K fi) rSetL) D σ H := by
  obtain ⟨g, s, m, R, p⟩ := h
  refine ⟨g, s, m, R.rs, R.rl, (PostS.bind p).imp fun v H1 ⟨x, g1, m1, rs1, st1, r1, p1⟩ => ⟨g1, s, m1, rs1, R.rl.st st1, (PostS.bind p1).imp fun w H2 ⟨y, g2, m2, rs2, st2, r2, p2⟩ =>
    ⟨g2, s, m2, rs2, (R.rl.st st1).st st2, (PostS.bind p2).imp fun u H3 ⟨z, g3, m3, rs3, st3, r3, p3⟩ => ?_⟩⟩⟩
  obtain ⟨x', rfl, rx, p4⟩ := toV_ok (RO.st (RO.st r1 st2) st3) p3
  have ry := RO.st r2 st3
  split at p4
  · rename_i m4 e
    unfold ixSetF at e
    split at e
    · rename_i n k _
      obtain ⟨a, rfl, hn⟩ := ry
      cases r3
      split at e
      · rename_i xs e2
        obtain ⟨ys, q1, q2, q3⟩ := memL_ok rs3 hn e2
        split at e
        · rename_i j e3
          cases e
          obtain ⟨rs4, st4⟩ := rs3.setRef hn q3 (q2.set rx j)
          exact ⟨a, ys, k, j, rfl, rfl, q1, by rw [← q2.length]; exact e3, p4 g3 σ _ ((((R.step rs1 st1).step rs2 st2).step rs3 st3).step rs4 st4) (Fle.refl _)⟩
        · cases e
      · cases e
    · cases e
  · exact p4.elim
/-- an own object of the frame is written -/
theorem SRel.setObj {i : Nat} {xs ys : List MV} {a : Addr} {zs : List V} (R : SRel K g0 H0 g s m σ H) (e : s[i]? = some (some (.own (.lst ys)))) (ea : σ[i]? = some (some (.ref a))) (r : RVs K g xs zs) :
    SRel K g0 H0 g (s.set i (some (.own (.lst xs)))) m σ (upd H a (.lst zs)) := by
  obtain ⟨b, e1, ob, hF, hr⟩ := R.rl.own i _ e
  rw [ea] at e1; cases e1
  have hi : i < s.length := (List.getElem?_eq_some_iff.mp e).1
  have h0 := R.o0 i _ a e ea
  refine ⟨R.rs.own hF hr, ⟨fun j x q => ?_, fun j o q => ?_, fun j k o u c q1 q2 q3 q4 => ?_, by simp [R.rl.len]⟩, R.st.own h0, fun j o c q1 q2 => ?_⟩
  · by_cases z : i = j
    · subst z; rw [List.getElem?_set_self hi] at q; cases q
    · rw [List.getElem?_set_ne z] at q; exact R.rl.val j x q
  · by_cases z : i = j
    · subst z; rw [List.getElem?_set_self hi] at q; cases q
      exact ⟨a, ea, ⟨zs, upd_same, r⟩, hF, hr⟩
    · rw [List.getElem?_set_ne z] at q
      obtain ⟨c, q1, q2, q3, q4⟩ := R.rl.own j o q
      have ne : c ≠ a := fun w => z (R.rl.dis i j _ _ a e q ea (w ▸ q1))
      refine ⟨c, q1, ?_, q3, q4⟩
      cases o with
      | lst ws => obtain ⟨us, h1, h2⟩ := q2; exact ⟨us, (upd_ne ne).trans h1, h2⟩
  · have f : ∀ {l : Nat} {o : MO}, (s.set i (some (.own (.lst xs))))[l]? = some (some (.own o)) → ∃ o', s[l]? = some (some (.own o')) := fun {l o} q => by
      by_cases z : i = l
      · subst z; exact ⟨_, e⟩
      · rw [List.getElem?_set_ne z] at q; exact ⟨o, q⟩
    obtain ⟨o', q1⟩ := f q1
    obtain ⟨u', q2⟩ := f q2
    exact R.rl.dis j k o' u' c q1 q2 q3 q4
  · by_cases z : i = j
    · subst z; rw [ea] at q2; cases q2; exact h0
    · rw [List.getElem?_set_ne z] at q1; exact R.o0 j o c q1 q2
theorem getD_of {i : Nat} {x : SV} (h : s[i]? = some (some x)) : s[i]? = some (some x) := h
/-- xs.append(e), xs an own list of the frame -/
theorem tS_app {i : Nat} {fe : Sl → Mem → R OV} (h : tS K g0 H0 (fun s m => (match s[i]? with
    | some (some (.own (.lst xs))) => (fe s m).toS fun x m => (toV x m).toS fun x m => if xs.length < sizeLine then .nx (s.set i (some (.own (.lst (xs ++ [x]))))) m else .stuck
    | _ => .stuck)) D σ H) : tDrop (tBM K "list" rAppend (tVar i) (tCons (tE K fe) tNil)) D σ H := by
  obtain ⟨g, s, m, R, p⟩ := h
  dsimp only at p
  split at p
  · rename_i xs e
    obtain ⟨a, ea, ob, hF, hr⟩ := R.rl.own i _ e
    obtain ⟨ys, e1, r1⟩ := ob
    refine ⟨_, ea, .inl ⟨rfl, ys, .of e1⟩, g, s, m, R.rs, R.rl, (PostS.bind p).imp fun v H1 ⟨x, g1, m1, rs1, st1, r2, p1⟩ => ?_⟩
    obtain ⟨x', rfl, rx, p2⟩ := toV_ok r2 p1
    split at p2
    · rename_i hl
      have R1 := R.step rs1 st1
      obtain ⟨b, eb, ⟨zs, e2, r3⟩, _⟩ := R1.rl.own i _ e
      rw [ea] at eb; cases eb
      exact ⟨a, zs, v, rfl, rfl, e2, by rw [← r3.length]; exact hl, p2 g1 σ _ (R1.setObj e ea (r3.append (.one rx))) (Fle.refl _)⟩
    · exact p2.elim
  · exact p.elim
/-- for -/
theorem tS_loop {tg : MG} {fi : Sl → Mem → R (List MV)} {fb : Sl → Mem → SR} (h : tS K g0 H0 (fun s m => (fi s m).toS fun xs m => forS (fun x s m => match assignG tg x s with
    | some s => fb s m
    | none => .stuck) xs s m) D σ H) : tFor (tI K fi) (gM K tg) (tS K g0 H0 fb) D σ H := by
  obtain ⟨g, s, m, R, p⟩ := h
  refine ⟨g, s, m, R.rs, R.rl, (PostS.bind p).imp fun J H1 ⟨items, g1, m1, rs1, st1, wk, p1⟩ => ?_⟩
  obtain ⟨n, Gd, Y, w, hn, hG, hY⟩ := wk
  refine for_it w (Pv := fun i σ2 H2 => ∃ g2 s2 m2, SRel K g0 H0 g2 s2 m2 σ2 H2 ∧ Fle g1 g2 ∧ PostS K g0 H0 g2 (forS (fun x s m => match assignG tg x s with
    | some s => fb s m
    | none => .stuck) (items.drop i) s2 m2) D) ⟨g1, s, m1, R.step rs1 st1, Fle.refl _, by simpa using p1⟩ (fun i σ2 H2 _ ⟨g2, s2, m2, R2, fl, _⟩ => hG g2 m2 H2 R2.rs fl) ?_ ?_
  · rintro i x σ2 H2 H3 hi ⟨g2, s2, m2, R2, fl, pq⟩ hy
    obtain ⟨g3, it, r3, t3, e3, rx⟩ := hY i H2 x H3 g2 m2 hi hy R2.rs fl
    have hitem : items.drop i = it :: items.drop (i + 1) := by
      obtain ⟨hlt, e4⟩ := List.getElem?_eq_some_iff.mp e3
      rw [List.drop_eq_getElem_cons hlt, e4]
    rw [hitem] at pq
    unfold forS at pq
    cases ea : assignG tg it s2 with
    | none => rw [ea] at pq; exact pq.elim
    | some s3 =>
      rw [ea] at pq
      refine (R2.step r3 t3).assign ea rx fun σ3 R3 => ⟨g3, s3, m2, R3, ?_⟩
      have pq := PostS.fle pq t3.fle
      dsimp only at pq
      have fl3 := fl.trans t3.fle
      cases eb : fb s3 m2 with
      | nx s4 m4 => rw [eb] at pq; exact fun g4 σ4 H4 R4 f4 => ⟨g4, s4, m4, R4, fl3.trans f4, PostS.fle pq f4⟩
      | ct s4 m4 => rw [eb] at pq; exact fun g4 σ4 H4 R4 f4 => ⟨g4, s4, m4, R4, fl3.trans f4, PostS.fle pq f4⟩
      | bk s4 m4 => rw [eb] at pq; exact pq
      | rt r => rw [eb] at pq; exact pq
      | stuck => rw [eb] at pq; exact pq.elim
  · rintro σ2 H2 ⟨g2, s2, m2, R2, fl, pq⟩
    rw [hn, List.drop_length] at pq
    exact pq g2 σ2 H2 R2 (Fle.refl _)
end
end Rc

set_option Elab.async false
set_option linter.all false
set_option maxRecDepth 100000
set_option maxHeartbeats 4000000
namespace Rc
open PySem PySem.Spec L2
open PyProof.Rows hiding St

/-! ### the program's code read as the small language -/
structure Cfg where
  N : List Str
  sc : Scope
  blts : List Str
  cst : List (Str × MV)
  top : Bool := true
def Cfg.blk (c : Cfg) (scope : Scope) : Cfg := { c with sc := relS scope c.sc, top := false }

mutual
def eqMV : MV → MV → Bool
  | .non, .non => true
  | .bl a, .bl b => a == b
  | .int a, .int b => decide (a = b)
  | .str a, .str b => decide (a = b)
  | .tup xs, .tup ys => eqMVs xs ys
  | .kl xs, .kl ys => eqMVs xs ys
  | _, _ => false
def eqMVs : List MV → List MV → Bool
  | [], [] => true
  | x :: xs, y :: ys => eqMV x y && eqMVs xs ys
  | _, _ => false
end
mutual
theorem eqMV_ok : ∀ (a b : MV), eqMV a b = true → a = b
  | .non, .non, _ => rfl
  | .bl a, .bl b, h => by unfold eqMV at h; rw [beq_iff_eq.mp h]
  | .int a, .int b, h => by unfold eqMV at h; rw [of_decide_eq_true h]
  | .str a, .str b, h => by unfold eqMV at h; rw [of_decide_eq_true h]
  | .tup xs, .tup ys, h => by unfold eqMV at h; rw [eqMVs_ok xs ys h]
  | .kl xs, .kl ys, h => by unfold eqMV at h; rw [eqMVs_ok xs ys h]
  | .lst _, .lst _, h => by cases h
  | .ref _, .ref _, h => by cases h
  | .non, .bl _, h | .non, .int _, h | .non, .str _, h | .non, .tup _, h | .non, .lst _, h | .non, .kl _, h | .non, .ref _, h => by cases h
  | .bl _, .non, h | .bl _, .int _, h | .bl _, .str _, h | .bl _, .tup _, h | .bl _, .lst _, h | .bl _, .kl _, h | .bl _, .ref _, h => by cases h
  | .int _, .non, h | .int _, .bl _, h | .int _, .str _, h | .int _, .tup _, h | .int _, .lst _, h | .int _, .kl _, h | .int _, .ref _, h => by cases h
  | .str _, .non, h | .str _, .bl _, h | .str _, .int _, h | .str _, .tup _, h | .str _, .lst _, h | .str _, .kl _, h | .str _, .ref _, h => by cases h
  | .tup _, .non, h | .tup _, .bl _, h | .tup _, .int _, h | .tup _, .str _, h | .tup _, .lst _, h | .tup _, .kl _, h | .tup _, .ref _, h => by cases h
  | .lst _, .non, h | .lst _, .bl _, h | .lst _, .int _, h | .lst _, .str _, h | .lst _, .tup _, h | .lst _, .kl _, h | .lst _, .ref _, h => by cases h
  | .kl _, .non, h | .kl _, .bl _, h | .kl _, .int _, h | .kl _, .str _, h | .kl _, .tup _, h | .kl _, .lst _, h | .kl _, .ref _, h => by cases h
  | .ref _, .non, h | .ref _, .bl _, h | .ref _, .int _, h | .ref _, .str _, h | .ref _, .tup _, h | .ref _, .lst _, h | .ref _, .kl _, h => by cases h
theorem eqMVs_ok : ∀ (a b : List MV), eqMVs a b = true → a = b
  | [], [], _ => rfl
  | x :: xs, y :: ys, h => by
    unfold eqMVs at h
    rw [Bool.and_eq_true] at h
    rw [eqMV_ok x y h.1, eqMVs_ok xs ys h.2]
  | [], _ :: _, h => by cases h
  | _ :: _, [], h => by cases h
end

def visB (sc : Scope) (x : Str) : Bool := match sc.names.lookup x with
  | some .local => true
  | some .cell => true
  | some .free => true
  | _ => false
def lclB (sc : Scope) (x : Str) : Bool := match sc.names.lookup x with
  | some .local => true
  | _ => false
def celB (sc : Scope) (x : Str) : Bool := match sc.names.lookup x with
  | some .cell => true
  | _ => false
def glbB (sc : Scope) (x : Str) : Bool := match sc.names.lookup x with
  | some .globalImplicit => true
  | _ => false
def plainNm (x : Str) : Bool := !(x == ("__debug__" : Str)) && !(x == ("__classdict__" : Str)) && decide (x ≠ ("__name__" : Str))
def slB (c : Cfg) (i : Nat) (x : Str) : Bool := decide (c.N[i]? = some x) && plainNm x && visB c.sc x
def gbB (c : Cfg) (x : Str) : Bool := plainNm x && glbB c.sc x
def btB (c : Cfg) (x : Str) : Bool := gbB c x && decide (x ∈ c.blts)
/-- a target's slot -/
def tgB (c : Cfg) (i : Nat) (x : Str) : Bool := decide (c.N[i]? = some x) && (lclB c.sc x || (c.top && celB c.sc x))
def o2B : O2 → Operator → Bool
  | .add, .Add => true | .sub, .Sub => true | .mul, .Mult => true | .fdiv, .FloorDiv => true | .mod, .Mod => true | .pow, .Pow => true
  | _, _ => false
def c2B : C2 → CmpOp → Bool
  | .eq, .Eq => true | .ne, .NotEq => true | .lt, .Lt => true | .le, .LtE => true | .gt, .Gt => true | .ge, .GtE => true | .is_, .Is => true | .isnt, .IsNot => true | .in_, .In => true | .notin, .NotIn => true
  | _, _ => false
def BI.nm : BI → String
  | .len => "len" | .int => "int" | .abs => "abs" | .all => "all" | .list => "list" | .tuple => "tuple" | .sum => "sum" | .bool => "bool" | .str => "str"
def biB : BI → Bool
  | .len => true | .int => true | .abs => true | .all => true | .sum => true | .tuple => true | _ => false
def plainIx : Expr → Bool
  | .Slice .. => false
  | _ => true
def plainT : Expr → Bool
  | .UnaryOp .Not _ _ => false
  | .BoolOp .. => false
  | .IfExp .. => false
  | .Compare .. => false
  | _ => true
def plainE : Expr → Bool
  | .Starred .. => false
  | _ => true
def tyB : List Ty → List Expr → Cfg → Bool
  | [], [], _ => true
  | t :: ts, .Name x _ :: es, c => decide (x = Str.ofString t.s) && btB c x && tyB ts es c
  | _, _, _ => false
def mGs (c : Cfg) : List Nat → List Expr → Bool
  | [], [] => true
  | i :: is, .Name x _ :: es => tgB c i x && mGs c is es
  | _, _ => false
def mG (c : Cfg) : MG → Expr → Bool
  | .name i, .Name x _ => tgB c i x
  | .tup is, .Tuple es _ _ => mGs c is es
  | _, _ => false
def ownN (c : Cfg) (own : List Nat) : List (Str × Nat) := own.map fun i => (c.N.getD i ⟨#[]⟩, i)
def kwB : List Str → List Keyword → Bool
  | [], [] => true
  | k :: ks, ⟨some x, _, _⟩ :: r => decide (k = x) && kwB ks r
  | _, _ => false
def notSet : Expr → Bool
  | .Set .. => false
  | _ => true
section
variable (Fs : List Fn)
mutual
def mE : ME → Cfg → Expr → Bool
  | .slot i, c, e => (match e with
    | .Name x _ => slB c i x
    | _ => false)
  | .cN, _, e => (match e with
    | .Constant .none _ _ => true
    | _ => false)
  | .cB b, _, e => (match e with
    | .Constant (.bool b') _ _ => b == b'
    | _ => false)
  | .cI i, _, e => (match e with
    | .Constant (.int j) _ _ => decide (i = j)
    | _ => false)
  | .cS x, _, e => (match e with
    | .Constant (.str y) _ _ => decide (x = y)
    | _ => false)
  | .glob x v, c, e => (match e with
    | .Name y _ => decide (x = y) && gbB c x && c.cst.any fun p => decide (p.1 = x) && eqMV p.2 v
    | _ => false)
  | .bin op a b, c, e => (match e with
    | .BinOp l o r _ => o2B op o && mE a c l && mE b c r
    | _ => false)
  | .neg a, c, e => (match e with
    | .UnaryOp .USub l _ => mE a c l
    | _ => false)
  | .cmp op a b, c, e => (match e with
    | .Compare l [o] [r] _ => c2B op o && !behindInMarks o r && mE a c l && mE b c r
    | _ => false)
  | .chain op op' a b d, c, e => (match e with
    | .Compare l [o, o'] [r, r'] _ => c2B op o && c2B op' o' && !lastMarks [o, o'] [r, r'] && mE a c l && mE b c r && mE d c r'
    | _ => false)
  | .andV a b, c, e => (match e with
    | .BoolOp .And (x :: y :: rest) p => mE a c x && (match rest with
    | [] => mE b c y
    | z :: rest => mE b c (.BoolOp .And (y :: z :: rest) p))
    | _ => false)
  | .orV a b, c, e => (match e with
    | .BoolOp .Or (x :: y :: rest) p => mE a c x && (match rest with
    | [] => mE b c y
    | z :: rest => mE b c (.BoolOp .Or (y :: z :: rest) p))
    | _ => false)
  | .notV a, c, e => (match e with
    | .UnaryOp .Not l _ => mE a c l
    | _ => false)
  | .ite t a b, c, e => (match e with
    | .IfExp u x y _ => mT t c u && mE a c x && mE b c y
    | _ => false)
  | .tup es, c, e => (match e with
    | .Tuple xs _ _ => mEs es c xs
    | _ => false)
  | .fr f, c, e => mF f c e
  | .ix a i, c, e => (match e with
    | .Subscript x y _ => plainIx y && mE a c x && mE i c y
    | _ => false)
  | .sl a lo hi, c, e => (match e with
    | .Subscript x (.Slice l h none _) _ => mE a c x && mP lo c l && mP hi c h
    | _ => false)
  | .call i es, c, e => (match e with
    | .Call (.Name x _) args [] _ => decide (i < Fs.length) && decide ((Fs.getD i default).name = x) && decide (args.length = (Fs.getD i default).ps.length) && gbB c x && mEs es c args
    | _ => false)
  | .callN i es, c, e => (match e with
    | .Call (.Name x _) args [] _ => decide (i < Fs.length) && decide ((Fs.getD i default).name = x) && decide (args.length = (Fs.getD i default).ps.length) && gbB c x && mEs es c args
    | _ => false)
  | .callK i ks es, c, e => (match e with
    | .Call (.Name x _) [] kws _ => decide (i < Fs.length) && decide ((Fs.getD i default).name = x) && decide (ks ∈ (Fs.getD i default).kws) && gbB c x && kwB ks kws && mKs es c kws
    | _ => false)
  | .bi b e, c, ex => (match ex with
    | .Call (.Name x _) [a] [] _ => decide (x = Str.ofString b.nm) && btB c x && plainE a && biB b && mE e c a
    | _ => false)
  | .join o e, c, ex => (match ex with
    | .Call (.Attribute u a ap) [z] [] p => decide (a = ("join" : Str)) && (ap.endLine == p.line) && plainE z && (match u with
    | .Call .. => false
    | _ => true) && mE o c u && mE e c z
    | _ => false)
  | .isi a ts true, c, e => (match e with
    | .Call (.Name x _) [u, .Name y _] [] _ => decide (x = ("isinstance" : Str)) && btB c x && plainE u && (match ts with
    | [t] => decide (y = Str.ofString t.s) && btB c y
    | _ => false) && mE a c u
    | _ => false)
  | .isi a ts false, c, e => (match e with
    | .Call (.Name x _) [u, .Tuple es _ _] [] _ => decide (x = ("isinstance" : Str)) && btB c x && plainE u && decide (ts.length ≤ 100) && !ts.isEmpty && tyB ts es c && mE a c u
    | _ => false)
def mEs : MEs → Cfg → List Expr → Bool
  | .nil, _, [] => true
  | .cons e es, c, x :: xs => plainE x && mE e c x && mEs es c xs
  | _, _, _ => false
def mKs : MEs → Cfg → List Keyword → Bool
  | .nil, _, [] => true
  | .cons e es, c, ⟨_, x, _⟩ :: xs => mE e c x && mKs es c xs
  | _, _, _ => false
def mP : MP → Cfg → Option Expr → Bool
  | .none, _, .none => true
  | .some e, c, .some x => mE e c x
  | _, _, _ => false
def mT : MT → Cfg → Expr → Bool
  | .val e, c, x => plainT x && mE e c x
  | .cmp op a b, c, e => (match e with
    | .Compare l [o] [r] _ => c2B op o && !behindInMarks o r && mE a c l && mE b c r
    | _ => false)
  | .chain op op' a b d, c, e => (match e with
    | .Compare l [o, o'] [r, r'] _ => c2B op o && c2B op' o' && !lastMarks [o, o'] [r, r'] && mE a c l && mE b c r && mE d c r'
    | _ => false)
  | .and a b, c, e => (match e with
    | .BoolOp .And (x :: y :: rest) p => mT a c x && (match rest with
    | [] => mT b c y
    | z :: rest => mT b c (.BoolOp .And (y :: z :: rest) p))
    | _ => false)
  | .or a b, c, e => (match e with
    | .BoolOp .Or (x :: y :: rest) p => mT a c x && (match rest with
    | [] => mT b c y
    | z :: rest => mT b c (.BoolOp .Or (y :: z :: rest) p))
    | _ => false)
  | .not a, c, e => (match e with
    | .UnaryOp .Not l _ => mT a c l
    | _ => false)
def mF : MF → Cfg → Expr → Bool
  | .lst es, c, e => (match e with
    | .List xs _ => mEs es c xs
    | _ => false)
  | .comp own tg it ifs e, c, ex => (match ex with
    | .ListComp elt [⟨t, iter, is, 0⟩] scope _ => blkC c.N c.sc scope (ownN c own) && (tg.slots.all fun i => decide (i ∈ own)) && notSet iter && mI it c t iter && mG (c.blk scope) tg t && mTs ifs (c.blk scope) is && mE e (c.blk scope) elt
    | _ => false)
  | .toList e, c, ex => (match ex with
    | .Call (.Name x _) [a] [] _ => decide (x = ("list" : Str)) && btB c x && plainE a && mE e c a
    | _ => false)
def mI : MI → Cfg → Expr → Expr → Bool
  | .seq e, c, _, x => mE e c x
  | .range1 a, c, _, e => (match e with
    | .Call (.Name x _) [u] [] _ => decide (x = ("range" : Str)) && btB c x && plainE u && mE a c u
    | _ => false)
  | .range2 a b, c, _, e => (match e with
    | .Call (.Name x _) [u, w] [] _ => decide (x = ("range" : Str)) && btB c x && plainE u && plainE w && mE a c u && mE b c w
    | _ => false)
  | .zip a b, c, t, e => (match t, e with
    | .Tuple _ _ _, .Call (.Name x _) [u, w] [] _ => decide (x = ("zip" : Str)) && btB c x && plainE u && plainE w && mE a c u && mE b c w
    | _, _ => false)
def mTs : MTs → Cfg → List Expr → Bool
  | .nil, _, [] => true
  | .one t, c, [x] => mT t c x
  | _, _, _ => false
end
end

structure CtxOk (Fs : List Fn) (k : Nat) (c : Cfg) (X : Cx) : Prop where
  sc : X.env.scope = c.sc
  N : X.N = c.N
  nd : X.N.Nodup
  calm : X.calm = true
  blt : ∀ x ∈ c.blts, X.mg x = none
  cst : ∀ x v, (x, v) ∈ c.cst → ∃ u w, X.mg x = some u ∧ RelV w u ∧ ∀ g, RV X.K g v w
  room : Room k X.A
  fns : ∀ F ∈ Fs, CallOk X.prog X.w X.K X.mg X.base k F
  top : c.top = true → ∀ x, X.fn x = true
  wish : c.top = true → PassesOwn (model X.prog X.w) X.A X.env X.xe
end Rc

set_option Elab.async false
set_option linter.all false
set_option maxRecDepth 100000
set_option maxHeartbeats 4000000
namespace Rc
open PySem PySem.Spec L2
open PyProof.Rows hiding St

section
variable {env : Env} {e : Expr} {es : List Expr} {pos : Pos}
theorem starP (h : plainE e = true) : starEach (e :: es) env = (false, eval e env) :: starEach es env := by
  cases e <;> first | rfl | cases h
theorem isTrueP (h : plainT e = true) (whole : Sem Value) : isTrue e env whole = (do let v ← whole; standAt e.pos; holding [v] (truthy v)) := by
  cases e with
  | UnaryOp op x p => cases op <;> first | rfl | cases h
  | BoolOp _ _ _ => cases h
  | IfExp _ _ _ _ => cases h
  | Compare _ _ _ _ => cases h
  | _ => rfl
theorem plainIxP (h : plainIx e = true) : PlainIx e := by
  intro o i
  cases e <;> first | rfl | cases h
theorem foldP (h : notSet e = true) (x : Value) : foldedSetIterable e env x = pure x := by
  cases e <;> first | rfl | cases h
theorem assignP {x : Str} {p : Pos} : assignEach (.Name x p :: es) env = (false, assign (.Name x p) env) :: assignEach es env := rfl
end
section
variable {Fs : List Fn} {k : Nat} {c : Cfg} {X : Cx} (ok : CtxOk Fs k c X)
include ok
theorem CtxOk.slot {i : Nat} {x : Str} {p : Pos} (h : slB c i x = true) : PE X (.Name x p) (tVar i) := by
  unfold slB plainNm at h
  simp only [Bool.and_eq_true, Bool.not_eq_true', decide_eq_true_eq] at h
  obtain ⟨⟨h1, ⟨h2, h3⟩, h4⟩, h5⟩ := h
  refine pe_var (by rw [ok.N]; exact h1) ?_ h2 h3
  unfold visB at h5
  unfold Vis
  rw [ok.sc]
  split at h5 <;> first | (simp_all; done) | cases h5
theorem CtxOk.gl {x : Str} (h : gbB c x = true) : Gl X x ∧ (x == ("__debug__" : Str)) = false ∧ x ≠ ("__name__" : Str) := by
  unfold gbB plainNm at h
  simp only [Bool.and_eq_true, Bool.not_eq_true', decide_eq_true_eq] at h
  obtain ⟨⟨⟨h2, h3⟩, h4⟩, h5⟩ := h
  refine ⟨?_, h2, h4⟩
  unfold glbB at h5
  unfold Gl Env.kindOf
  rw [ok.sc]
  split at h5
  · assumption
  · cases h5
theorem CtxOk.bt {x : Str} (h : btB c x = true) : Gl X x ∧ X.mg x = none ∧ (x == ("__debug__" : Str)) = false ∧ x ≠ ("__name__" : Str) := by
  unfold btB at h
  rw [Bool.and_eq_true] at h
  obtain ⟨h1, h2, h3⟩ := ok.gl h.1
  exact ⟨h1, ok.blt x (of_decide_eq_true h.2), h2, h3⟩
theorem CtxOk.tg {i : Nat} {x : Str} (h : tgB c i x = true) : X.N[i]? = some x ∧ Loc X.env.scope x ∧ (X.fn x = true ∨ X.env.scope.names.lookup x = some .local) := by
  unfold tgB at h
  simp only [Bool.and_eq_true, Bool.or_eq_true, decide_eq_true_eq] at h
  obtain ⟨h1, h2⟩ := h
  refine ⟨by rw [ok.N]; exact h1, ?_⟩
  rw [ok.sc]
  rcases h2 with h2 | ⟨h2, h3⟩
  · unfold lclB at h2
    split at h2
    · rename_i e
      exact ⟨.inl e, .inr e⟩
    · cases h2
  · unfold celB at h3
    split at h3
    · rename_i e
      exact ⟨.inr e, .inl (ok.top h2 x)⟩
    · cases h3
theorem CtxOk.mgs : ∀ {is : List Nat} {es : List Expr}, mGs c is es = true → PGs X es (gNames is) ∧ (assignEach es X.env).length = is.length ∧ (assignEach es X.env).findIdx? (·.1) = none
  | [], [], _ => ⟨pgs_nil, rfl, rfl⟩
  | i :: is, e :: es, h => by
    cases e with
    | Name x p =>
      have h : (tgB c i x && mGs c is es) = true := h
      rw [Bool.and_eq_true] at h
      obtain ⟨h1, h2, h3⟩ := ok.tg h.1
      obtain ⟨g1, g2, g3⟩ := CtxOk.mgs h.2
      refine ⟨pgs_cons (pg_name ok.nd h1 h2 h3) g1 rfl, by rw [assignP]; simp [g2], ?_⟩
      rw [assignP, List.findIdx?_cons, g3]
      rfl
    | _ => cases h
  | [], _ :: _, h => by cases h
  | _ :: _, [], h => by cases h
theorem CtxOk.mg {tg : MG} {e : Expr} (h : mG c tg e = true) : PG X e (gM X.K tg) := by
  unfold mG at h
  split at h
  · obtain ⟨h1, h2, h3⟩ := ok.tg h
    exact pg_name ok.nd h1 h2 h3
  · obtain ⟨g1, g2, g3⟩ := ok.mgs h
    exact pg_tup ok.calm g1 g2 g3
  · cases h
theorem CtxOk.blk {s : Shared} {H : Hp} {scope : Scope} {C : Addr} {cl : List (Str × Addr)} {fp : List Addr} : CtxOk Fs k (c.blk scope) (X.blk s H scope (compEnvC scope cl C X.env) fp) where
  sc := by show relS scope X.env.scope = _; rw [ok.sc]; rfl
  N := ok.N
  nd := ok.nd
  calm := ok.calm
  blt := ok.blt
  cst := ok.cst
  room := ok.room
  fns := ok.fns
  top := fun h => by cases h
  wish := fun h => by cases h
theorem CtxOk.fn {i : Nat} (h : decide (i < Fs.length) = true) : CallOk X.prog X.w X.K X.mg X.base k (Fs.getD i default) := by
  have h := of_decide_eq_true h
  rw [List.getD_eq_getElem?_getD, List.getElem?_eq_getElem h]
  exact ok.fns _ (List.getElem_mem h)
end
/-! ### readings of names -/
section
variable {K : PySem.W.Frag} {σ : St} {H : Hp} {Q : VK} {g : G}
theorem tE_var {Fs : List Fn} {i : Nat} (h : tE K (ev Fs (.slot i)) σ H Q) : tVar i σ H Q := by
  obtain ⟨g, s, m, rs, rl, p⟩ := h
  have p : PostO K g H (match s[i]? with
    | some (some (.v x)) => .ok (.v x) m
    | some (some (.own o)) => .ok (.b o) m
    | _ => .stuck) Q := p
  split at p
  · rename_i x e
    obtain ⟨v, e1, r⟩ := rl.val i x e
    exact ⟨v, e1, p g v H rs (Stp.refl _ _) r⟩
  · rename_i o e
    obtain ⟨a, e1, ob, hF, hr⟩ := rl.own i o e
    exact ⟨_, e1, p g _ H rs (Stp.refl _ _) ⟨a, rfl, ob, hF, hr⟩⟩
  · exact p.elim
theorem tE_con {x : MV} {v : V} (r : ∀ g, RV K g x v) (h : tE K (fun _ m => .ok (.v x) m) σ H Q) : tC v σ H Q := by
  obtain ⟨g, s, m, rs, rl, p⟩ := h
  exact p g v H rs (Stp.refl _ _) (r g)
/-! ### tests -/
theorem tT_val {fe : Sl → Mem → R OV} {R' : Bool → Hp → Prop} (h : tT K (fun s m => (fe s m).bind fun x m => truR x m) σ H R') : tE K fe σ H fun x H' => ∃ b, TruV K x H' b ∧ R' b H' := by
  obtain ⟨g, s, m, rs, rl, p⟩ := h
  refine ⟨g, s, m, rs, rl, (Post.bind p).imp fun v H1 ⟨x, g1, m1, rs1, st1, r1, p1⟩ => ?_⟩
  unfold truR at p1
  split at p1
  · rename_i b e
    refine ⟨b, ?_, p1 g1 b H1 rs1 (Stp.refl _ _) rfl⟩
    have go : ∀ {y : OV}, RO K g1 H1 y v → (match contO m1 y with
      | some (.l xs) => some (!xs.isEmpty)
      | some (.t xs) => some (!xs.isEmpty)
      | _ => none) = some b → TruV K v H1 b := fun {y} ry e => by
      split at e
      · rename_i xs e2
        cases e
        obtain ⟨a, ys, rfl, q, r⟩ := contO_ok rs1 ry e2
        refine .inl ⟨ys, q, ?_⟩
        cases xs with
        | nil => cases (show ys = [] from r); rfl
        | cons x xs => obtain ⟨_, _, rfl, _⟩ := r; rfl
      · rename_i xs e2
        cases e
        obtain ⟨a, ys, rfl, q, r⟩ := contO_ok rs1 ry e2
        refine .inr (.inl ⟨ys, q, ?_⟩)
        cases xs with
        | nil => cases (show ys = [] from r); rfl
        | cons x xs => obtain ⟨_, _, rfl, _⟩ := r; rfl
      · cases e
    unfold truO at e
    split at e
    · cases r1; cases e; rfl
    · cases r1; cases e; rfl
    · cases r1; cases e; rfl
    · cases r1
      split at e
      · cases e; exact ⟨by assumption, rfl⟩
      · cases e
    · exact go r1 e
  · exact p1.elim
theorem tT_cmp {fa fb : Sl → Mem → R OV} {f : OV → OV → Mem → R OV} {R' : Bool → Hp → Prop} (h : tT K (fun s m => (fa s m).bind fun x m => (fb s m).bind fun y m => (f x y m).bind fun z m => asBl z m) σ H R') : tTest (tOp (t2 K f) (tE K fa) (tE K fb)) σ H R' := by
  obtain ⟨g, s, m, rs, rl, p⟩ := h
  refine ⟨g, s, m, rs, rl, (Post.bind p).imp fun v H1 ⟨x, g1, m1, rs1, st1, r1, p1⟩ => ⟨g1, s, m1, rs1, rl.st st1, (Post.bind p1).imp fun w H2 ⟨y, g2, m2, rs2, st2, r2, p2⟩ => ⟨g2, m2, x, y, rs2, RO.st r1 st2, r2, (Post.bind p2).imp fun z H3 ⟨zo, g3, m3, rs3, st3, r3, p3⟩ => ?_⟩⟩⟩
  unfold asBl at p3
  split at p3
  · cases r3
    exact ⟨_, rfl, p3 g3 _ H3 rs3 (Stp.refl _ _) rfl⟩
  · exact p3.elim
theorem tT_chain {fa fb fc : Sl → Mem → R OV} {f f' : OV → OV → Mem → R OV} {R' : Bool → Hp → Prop} (h : tT K (fun s m => (fa s m).bind fun x m => (fb s m).bind fun y m => (f x y m).bind fun z m => (asBl z m).bind fun k m =>
      if k = true then (fc s m).bind fun w m => (f' y w m).bind fun z m => asBl z m else .ok false m) σ H R') : tTest (tChain (t2 K f) (t2 K f') (tE K fa) (tE K fb) (tE K fc)) σ H R' := by
  obtain ⟨g, s, m, rs, rl, p⟩ := h
  refine ⟨g, s, m, rs, rl, (Post.bind p).imp fun v H1 ⟨x, g1, m1, rs1, st1, r1, p1⟩ => ⟨g1, s, m1, rs1, rl.st st1, (Post.bind p1).imp fun w H2 ⟨y, g2, m2, rs2, st2, r2, p2⟩ => ⟨g2, m2, x, y, rs2, RO.st r1 st2, r2, (Post.bind p2).imp fun z H3 ⟨zo, g3, m3, rs3, st3, r3, p3⟩ => ?_⟩⟩⟩
  obtain ⟨k, e, p4⟩ := asBl_ok r3 p3
  refine ⟨k, e, ?_⟩
  cases k with
  | false => exact iteF ⟨false, rfl, p4 g3 _ H3 rs3 (Stp.refl _ _) rfl⟩
  | true =>
    refine iteT ⟨g3, s, m3, rs3, (rl.st st1).st st2 |>.st st3, (Post.bind p4).imp fun w' H4 ⟨u, g4, m4, rs4, st4, r4, p5⟩ => ⟨g4, m4, y, u, rs4, RO.st (RO.st r2 st3) st4, r4, (Post.bind p5).imp fun z' H5 ⟨zo', g5, m5, rs5, st5, r5, p6⟩ => ?_⟩⟩
    unfold asBl at p6
    split at p6
    · cases r5
      exact ⟨_, rfl, p6 g5 _ H5 rs5 (Stp.refl _ _) rfl⟩
    · exact p6.elim
theorem tT_and {fa fb : Sl → Mem → R Bool} {R' : Bool → Hp → Prop} (h : tT K (fun s m => (fa s m).bind fun k m => if k = true then fb s m else .ok false m) σ H R') : tAnd (tT K fa) (tT K fb) σ H R' := by
  obtain ⟨g, s, m, rs, rl, p⟩ := h
  refine ⟨g, s, m, rs, rl, (Post.bind p).imp fun v H1 ⟨x, g1, m1, rs1, st1, r1, p1⟩ => ?_⟩
  subst r1
  cases x with
  | true => exact iteT ⟨g1, s, m1, rs1, rl.st st1, p1⟩
  | false => exact iteF (p1 g1 _ H1 rs1 (Stp.refl _ _) rfl)
theorem tT_or {fa fb : Sl → Mem → R Bool} {R' : Bool → Hp → Prop} (h : tT K (fun s m => (fa s m).bind fun k m => if k = true then .ok true m else fb s m) σ H R') : tOr (tT K fa) (tT K fb) σ H R' := by
  obtain ⟨g, s, m, rs, rl, p⟩ := h
  refine ⟨g, s, m, rs, rl, (Post.bind p).imp fun v H1 ⟨x, g1, m1, rs1, st1, r1, p1⟩ => ?_⟩
  subst r1
  cases x with
  | true => exact iteT (p1 g1 _ H1 rs1 (Stp.refl _ _) rfl)
  | false => exact iteF ⟨g1, s, m1, rs1, rl.st st1, p1⟩
theorem tT_not {fa : Sl → Mem → R Bool} {R' : Bool → Hp → Prop} (h : tT K (fun s m => (fa s m).bind fun k m => .ok (!k) m) σ H R') : tNot (tT K fa) σ H R' := by
  obtain ⟨g, s, m, rs, rl, p⟩ := h
  refine ⟨g, s, m, rs, rl, (Post.bind p).imp fun v H1 ⟨x, g1, m1, rs1, st1, r1, p1⟩ => ?_⟩
  subst r1
  exact p1 g1 _ H1 rs1 (Stp.refl _ _) rfl
theorem tT_yes {R' : Bool → Hp → Prop} (h : tT K (fun _ m => .ok true m) σ H R') : tYes σ H R' := by
  obtain ⟨g, s, m, rs, rl, p⟩ := h
  exact p g _ H rs (Stp.refl _ _) rfl
theorem tE_join {fo fe : Sl → Mem → R OV} {r : V → List V → Hp → VK → Prop} (w : ∀ x y H Q, t2 K joinF x y H Q → r x [y] H Q) (h : tE K (fun s m => (fo s m).bind fun x m => (fe s m).bind fun y m => joinF x y m) σ H Q) : tM1 r (tE K fo) (tE K fe) σ H Q := by
  obtain ⟨g, s, m, rs, rl, p⟩ := h
  refine ⟨g, s, m, rs, rl, ?_⟩
  have p : PostO K g H ((fo s m).bind fun x m => (fe s m).bind fun y m => joinF x y m) Q := p
  cases e : fo s m with
  | stuck => rw [e] at p; exact p
  | exc c fs m' => rw [e] at p; exact p
  | ok x m1 =>
    rw [e] at p
    intro g1 v H1 rs1 st1 r1
    have p := Post.shift st1 p
    have p : PostO K g1 H1 ((fe s m1).bind fun y m => joinF x y m) Q := p
    have hs : ∃ z, x = .v (.str z) := by
      cases e2 : fe s m1 with
      | stuck => rw [e2] at p; exact p.elim
      | exc c fs m' => rw [e2] at p; exact p.elim
      | ok y m2 =>
        rw [e2] at p
        have p : PostO K g1 H1 (joinF x y m2) Q := p
        unfold joinF at p
        split at p
        · exact ⟨_, rfl⟩
        · exact p.elim
    obtain ⟨z, rfl⟩ := hs
    refine ⟨⟨z, r1⟩, g1, s, m1, rs1, rl.st st1, (Post.bind p).imp fun w' H2 ⟨y, g2, m2, rs2, st2, r2, p2⟩ => w _ _ _ _ ⟨g2, m2, _, y, rs2, RO.st r1 st2, r2, p2⟩⟩
end
end Rc

set_option Elab.async false
set_option linter.all false
set_option maxRecDepth 100000
set_option maxHeartbeats 8000000
namespace Rc
open PySem PySem.Spec L2
open PyProof.Rows hiding St

section
variable {Fs : List Fn} {k : Nat}
def MEs.len : MEs → Nat
  | .nil => 0
  | .cons _ es => es.len + 1
theorem evs_len : ∀ (es : MEs) {s : Sl} {m m' : Mem} {xs : List OV}, evs Fs es s m = .ok xs m' → xs.length = es.len
  | .nil, s, m, m', xs, h => by
    have h : (R.ok [] m : R (List OV)) = .ok xs m' := h
    cases h; rfl
  | .cons e es, s, m, m', xs, h => by
    have h : ((ev Fs e s m).bind fun x m => (evs Fs es s m).bind fun xs m => .ok (x :: xs) m) = R.ok xs m' := h
    cases e1 : ev Fs e s m with
    | stuck => rw [e1] at h; cases h
    | exc c fs m1 => rw [e1] at h; cases h
    | ok x m1 =>
      rw [e1] at h
      have h : ((evs Fs es s m1).bind fun xs m => .ok (x :: xs) m) = R.ok xs m' := h
      cases e2 : evs Fs es s m1 with
      | stuck => rw [e2] at h; cases h
      | exc c fs m2 => rw [e2] at h; cases h
      | ok ys m2 =>
        rw [e2] at h
        have h : R.ok (x :: ys) m2 = R.ok xs m' := h
        cases h
        simp [MEs.len, evs_len es e2]
theorem mEs_len : ∀ (es : MEs) {c : Cfg} {args : List Expr}, mEs Fs es c args = true → es.len = args.length
  | .nil, c, [], _ => rfl
  | .nil, c, _ :: _, h => by cases h
  | .cons e es, c, [], h => by cases h
  | .cons e es, c, x :: xs, h => by
    have h : (plainE x && mE Fs e c x && mEs Fs es c xs) = true := h
    rw [Bool.and_eq_true] at h
    simp [MEs.len, mEs_len es h.2]
theorem mEs_plain {pos : Pos} {env : Env} : ∀ (es : MEs) {c : Cfg} {args : List Expr}, mEs Fs es c args = true → (backTo pos (starEach args env)).any (·.1) = false
  | .nil, c, [], _ => rfl
  | .nil, c, _ :: _, h => by cases h
  | .cons e es, c, [], h => by cases h
  | .cons e es, c, x :: xs, h => by
    have h : (plainE x && mE Fs e c x && mEs Fs es c xs) = true := h
    simp only [Bool.and_eq_true] at h
    rw [starP h.1.1]
    show (false || (backTo pos (starEach xs env)).any (·.1)) = false
    rw [mEs_plain es h.2]
    rfl
theorem mKs_len : ∀ (es : MEs) {c : Cfg} {kws : List Keyword}, mKs Fs es c kws = true → es.len = kws.length
  | .nil, c, [], _ => rfl
  | .nil, c, _ :: _, h => by cases h
  | .cons e es, c, [], h => by cases h
  | .cons e es, c, ⟨n, x, p⟩ :: xs, h => by
    have h : (mE Fs e c x && mKs Fs es c xs) = true := h
    rw [Bool.and_eq_true] at h
    simp [MEs.len, mKs_len es h.2]
theorem kwB_ok {pos : Pos} {env : Env} : ∀ {ks : List Str} {kws : List Keyword}, kwB ks kws = true → (backToKw pos (keywordEach kws env)).all (·.1.isSome) = true ∧ (backToKw pos (keywordEach kws env)).filterMap (·.1) = ks ∧ ks.length = kws.length ∧ (backToKw pos (keywordEach kws env)).any (·.1.isNone) = false
  | [], [], _ => ⟨rfl, rfl, rfl, rfl⟩
  | [], _ :: _, h => by cases h
  | k :: ks, [], h => by cases h
  | k :: ks, ⟨none, _, _⟩ :: r, h => by cases h
  | k :: ks, ⟨some x, e, p⟩ :: r, h => by
    have h : (decide (k = x) && kwB ks r) = true := h
    rw [Bool.and_eq_true] at h
    obtain ⟨h1, h2, h3, h4⟩ := kwB_ok (pos := pos) (env := env) h.2
    have e : k = x := of_decide_eq_true h.1
    subst e
    refine ⟨?_, ?_, by simp [h3], ?_⟩
    · show (true && (backToKw pos (keywordEach r env)).all (·.1.isSome)) = true
      rw [h1]; rfl
    · show k :: (backToKw pos (keywordEach r env)).filterMap (·.1) = k :: ks
      rw [h2]
    · show (false || (backToKw pos (keywordEach r env)).any (·.1.isNone)) = false
      rw [h4]; rfl
theorem B_len : bootBuiltins "len" = some (.builtin "len") := boot_len
theorem B_int : bootBuiltins "int" = some (.type "int") := boot_int
theorem B_str : bootBuiltins "str" = some (.type "str") := boot_str
theorem B_bool : bootBuiltins "bool" = some (.type "bool") := boot_bool
theorem B_list : bootBuiltins "list" = some (.type "list") := boot_list
theorem B_tuple : bootBuiltins "tuple" = some (.type "tuple") := boot_tuple
theorem B_abs : bootBuiltins "abs" = some (.builtin "abs") := boot_abs
theorem B_all : bootBuiltins "all" = some (.builtin "all") := boot_all
theorem B_sum : bootBuiltins "sum" = some (.builtin "sum") := boot_sum
theorem B_isinstance : bootBuiltins "isinstance" = some (.builtin "isinstance") := boot_isinstance
theorem op_ok {X : Cx} {op : O2} {o : Operator} (h : o2B op o = true) : OpR X (binaryOp o) (t2 X.K (bopF op)) := by
  cases op <;> cases o <;> try (cases h; done)
  · exact op_addO
  · exact op_subO
  · exact op_mulO
  · exact op_fdivO
  · exact op_modO
  · exact op_powO
theorem cmp_ok {X : Cx} {op : C2} {o : CmpOp} (h : c2B op o = true) : OpR X (compareOp o) (t2 X.K (cmpF op)) := by
  cases op <;> cases o <;> try (cases h; done)
  · exact op_eqO
  · exact op_neO
  · exact op_cmpI op_lt
  · exact op_cmpI op_le
  · exact op_cmpI op_gt
  · exact op_cmpI op_ge
  · exact op_isO
  · exact op_isntO
  · exact op_inO
  · exact op_notinO
theorem bi_cB {X : Cx} {b : BI} {id : String} {x : Str} {a : Expr} {p pos : Pos} {fe : Sl → Mem → R OV} (hc : CallR X (.builtin id) (tB1 X.K (biF b))) (hv : bootBuiltins x = some (.builtin id)) (hg : Gl X x) (hm : X.mg x = none)
    (hp : plainE a = true) (hn : x ≠ ("__name__" : Str)) (hd : (x == ("__debug__" : Str)) = false) (ha : PE X a (tE X.K fe)) : PE X (.Call (.Name x p) [a] [] pos) (tE X.K fun s m => (fe s m).bind fun y m => biF b y m) :=
  (pe_callB hc hg hm hv (pa_cons ha pa_nil (starP hp)) hn hd (starP hp) rfl).weaken fun σ H Q h => tE_tN1 h
theorem bi_cT {X : Cx} {b : BI} {T : String} {x : Str} {a : Expr} {p pos : Pos} {fe : Sl → Mem → R OV} (hc : CallR X (.type T) (tB1 X.K (biF b))) (hv : bootBuiltins x = some (.type T)) (hg : Gl X x) (hm : X.mg x = none)
    (hp : plainE a = true) (hn : x ≠ ("__name__" : Str)) (hd : (x == ("__debug__" : Str)) = false) (ha : PE X a (tE X.K fe)) : PE X (.Call (.Name x p) [a] [] pos) (tE X.K fun s m => (fe s m).bind fun y m => biF b y m) :=
  (pe_callTy hc hg hm hv (pa_cons ha pa_nil (starP hp)) hn hd (starP hp) rfl).weaken fun σ H Q h => tE_tN1 h
theorem bi_ok {X : Cx} {b : BI} {x : Str} {a : Expr} {p pos : Pos} {fe : Sl → Mem → R OV} (hc : X.calm = true) (hx : x = Str.ofString b.nm) (hg : Gl X x) (hm : X.mg x = none) (hb : biB b = true) (hp : plainE a = true) (hn : x ≠ ("__name__" : Str)) (hd : (x == ("__debug__" : Str)) = false) (ha : PE X a (tE X.K fe)) :
    PE X (.Call (.Name x p) [a] [] pos) (tE X.K fun s m => (fe s m).bind fun y m => biF b y m) := by
  cases b with
  | len => exact bi_cB (b := .len) cb_len (by rw [hx]; exact B_len) hg hm hp hn hd ha
  | int => exact bi_cT (b := .int) cb_int (by rw [hx]; exact B_int) hg hm hp hn hd ha
  | abs => exact bi_cB (b := .abs) cb_abs (by rw [hx]; exact B_abs) hg hm hp hn hd ha
  | all => exact bi_cB (b := .all) (cb_all hc) (by rw [hx]; exact B_all) hg hm hp hn hd ha
  | sum => exact bi_cB (b := .sum) (cb_sum hc) (by rw [hx]; exact B_sum) hg hm hp hn hd ha
  | tuple => exact bi_cT (b := .tuple) cb_tuple (by rw [hx]; exact B_tuple) hg hm hp hn hd ha
  | _ => cases hb
theorem boot_ty (t : Ty) : bootBuiltins (Str.ofString t.s) = some (.type t.s) := by
  cases t
  · exact B_int
  · exact B_str
  · exact B_bool
  · exact B_list
  · exact B_tuple
theorem ty_nm (t : Ty) : Str.ofString t.s ≠ ("__name__" : Str) ∧ (Str.ofString t.s == ("__debug__" : Str)) = false := by cases t <;> exact ⟨by decide, by decide⟩
theorem isi_one {X : Cx} {fe : Sl → Mem → R OV} {t : Ty} {σ : St} {H : Hp} {Q : VK} (h : tE X.K (fun s m => (fe s m).bind fun x m => isiF [t] x m) σ H Q) : tCB (rIsi X.K) (tCons (tE X.K fe) (tCons (tC (.ty t.s)) tNil)) σ H Q := by
  obtain ⟨g, s, m, rs, rl, p⟩ := h
  refine ⟨g, s, m, rs, rl, (Post.bind p).imp fun v H1 ⟨x, g1, m1, rs1, st1, r1, p1⟩ => ?_⟩
  unfold isiF at p1
  split at p1
  · rename_i y
    unfold blO at p1
    split at p1
    · rename_i b e
      obtain ⟨w, e1, e2⟩ := kitA (K := X.K) e (by simp)
      unfold isiAny at e
      refine ⟨v, .ty t.s, .type w, .type t.s, b, rfl, .ty _, tyS_ok rs1 r1 e1, ?_, post_val rs1 p1 rfl⟩
      split at e
      · rename_i e3
        cases e
        obtain ⟨w', e4, e5⟩ := kit1 (K := X.K) e3
        rw [e1] at e4; cases e4; exact e5
      · rename_i e3
        cases e
        obtain ⟨w', e4, e5⟩ := kit1 (K := X.K) e3
        rw [e1] at e4; cases e4; exact e5
      · cases e
    · exact p1.elim
  · exact p1.elim
def tTys : List Ty → TA
  | [] => tNil
  | t :: ts => tCons (tC (.ty t.s)) (tTys ts)
theorem pa_tys {c : Cfg} {X : Cx} (ok : CtxOk Fs k c X) : ∀ {ts : List Ty} {es : List Expr}, tyB ts es c = true → PA X es (tTys ts)
  | [], [], _ => pa_nil
  | [], _ :: _, h => by cases h
  | t :: ts, [], h => by cases h
  | t :: ts, e :: es, h => by
    cases e with
    | Name x p =>
      have h : (decide (x = Str.ofString t.s) && btB c x && tyB ts es c) = true := h
      simp only [Bool.and_eq_true, decide_eq_true_eq] at h
      obtain ⟨⟨rfl, h2⟩, h3⟩ := h
      obtain ⟨g1, g2, g3, g4⟩ := ok.bt h2
      exact pa_cons (pe_bltn g1 g2 (boot_ty t) rfl g4 g3) (pa_tys ok h3) rfl
    | _ => cases h
theorem tTys_ok {ts : List Ty} {σ : St} {H : Hp} {Q : List V → Hp → Prop} (q : Q (ts.map fun t => V.ty t.s) H) : tTys ts σ H Q := by
  induction ts generalizing Q with
  | nil => exact q
  | cons t ts ih => exact ih (Q := fun vs H => Q (V.ty t.s :: vs) H) q
theorem clsAll : ∀ ts : List Ty, Paired ClsV (ts.map fun t => V.ty t.s) (ts.map fun t => Value.type t.s)
  | [] => .nil
  | t :: ts => .cons (.ty _) (clsAll ts)
theorem mEs_nil {c : Cfg} {args : List Expr} (h : mEs Fs .nil c args = true) : args = [] := by
  cases args with
  | nil => rfl
  | cons _ _ => cases h
theorem mEs_cons {c : Cfg} {e : ME} {es : MEs} {args : List Expr} (h : mEs Fs (.cons e es) c args = true) : ∃ x xs, args = x :: xs ∧ plainE x = true ∧ mEs Fs es c xs = true := by
  cases args with
  | nil => cases h
  | cons x xs =>
    have h : (plainE x && mE Fs e c x && mEs Fs es c xs) = true := h
    simp only [Bool.and_eq_true] at h
    exact ⟨x, xs, rfl, h.1.1, h.2⟩
theorem attrP {o : Expr} {a : Str} {env : Env} {w : Sem Value} (h : (match o with
    | .Call .. => false
    | _ => true) = true) : attributeBase o a env w = w := by
  cases o <;> first | rfl | cases h
theorem _root_.L2.PK.weaken {X : Cx} {es : List Keyword} {t t' : TA} (h : PK X es t) (w : ∀ σ H Q, t' σ H Q → t σ H Q) : PK X es t' := ⟨fun pos pins s σ H Q I q => h.run pos pins s σ H Q I (w σ H Q q)⟩
theorem _root_.L2.PTs.weaken {X : Cx} {e : List Expr} {t t' : TT} (h : PTs X e t) (w : ∀ σ H Q, t' σ H Q → t σ H Q) : PTs X e t' := ⟨fun pins s σ H Q I q => h.run pins s σ H Q I (w σ H Q q)⟩
def isBool : Expr → Bool
  | .BoolOp .. => true
  | _ => false
def PTW (X : Cx) (e : Expr) (t : TT) : Prop := PT X e t ∧ (isBool e = true → PW X e t)
theorem PTW.of {X : Cx} {e : Expr} {t : TT} (h : PT X e t) (n : isBool e = false) : PTW X e t := ⟨h, fun z => by rw [n] at z; cases z⟩
theorem PTW.pw {X : Cx} {e : Expr} {t : TT} (h : PW X e t) : PTW X e t := ⟨h.pt, fun _ => h⟩
theorem isi_many {X : Cx} {fe : Sl → Mem → R OV} {ts : List Ty} (ht : ts ≠ []) (hz : ts.length ≤ sizeLine) {σ : St} {H : Hp} {Q : VK} (h : tE X.K (fun s m => (fe s m).bind fun x m => isiF ts x m) σ H Q) : tCB (rIsiT X.K) (tCons (tE X.K fe) (tCons (tTup (tTys ts)) tNil)) σ H Q := by
  obtain ⟨g, s, m, rs, rl, p⟩ := h
  refine ⟨g, s, m, rs, rl, (Post.bind p).imp fun v H1 ⟨x, g1, m1, rs1, st1, r1, p1⟩ => tTys_ok ⟨by simpa using hz, fun tp htp => ?_⟩⟩
  obtain ⟨rs2, st2⟩ := rs1.grow (o := .tup (ts.map fun t => V.ty t.s)) htp
  have r1 := RO.st r1 st2
  unfold isiF at p1
  split at p1
  · rename_i y
    unfold blO at p1
    split at p1
    · rename_i b e
      obtain ⟨w, e1, e2⟩ := kitA (K := X.K) e ht
      refine ⟨v, tp, ts.map fun t => V.ty t.s, .type w, ts.map fun t => .type t.s, b, rfl, upd_same, ?_, tyS_ok rs2 r1 e1, e2, p1 g1 _ _ rs2 st2 rfl⟩
      exact clsAll ts
    · exact p1.elim
  · exact p1.elim
end

section
variable {Fs : List Fn} {k : Nat}
mutual
theorem mE_ok : ∀ (me : ME) {c : Cfg} {e : Expr} {X : Cx}, CtxOk Fs k c X → mE Fs me c e = true → PE X e (tE X.K (ev Fs me))
  | .slot i, c, e, X, ok, h => by
    unfold mE at h
    split at h <;> try contradiction
    exact (ok.slot h).weaken fun σ H Q q => tE_var q
  | .cN, c, e, X, ok, h => by
    unfold mE at h
    split at h <;> try contradiction
    exact pe_non.weaken fun σ H Q q => tE_con (x := .non) (v := .non) (fun _ => rfl) q
  | .cB b, c, e, X, ok, h => by
    unfold mE at h
    split at h <;> try contradiction
    cases beq_iff_eq.mp h
    exact pe_bl.weaken fun σ H Q q => tE_con (x := .bl b) (v := .bl b) (fun _ => rfl) q
  | .cI i, c, e, X, ok, h => by
    unfold mE at h
    split at h <;> try contradiction
    cases of_decide_eq_true h
    exact pe_int.weaken fun σ H Q q => tE_con (x := .int i) (v := .int i) (fun _ => rfl) q
  | .cS x, c, e, X, ok, h => by
    unfold mE at h
    split at h <;> try contradiction
    cases of_decide_eq_true h
    exact pe_str.weaken fun σ H Q q => tE_con (x := .str x) (v := .str x) (fun _ => rfl) q
  | .glob x v, c, e, X, ok, h => by
    unfold mE at h
    split at h <;> try contradiction
    simp only [Bool.and_eq_true, decide_eq_true_eq, List.any_eq_true] at h
    obtain ⟨⟨rfl, h2⟩, p, hp, rfl, h4⟩ := h
    obtain ⟨p1, p2⟩ := p
    cases eqMV_ok _ _ h4
    obtain ⟨g1, g2, g3⟩ := ok.gl h2
    obtain ⟨u, w, e1, e2, e3⟩ := ok.cst _ _ hp
    exact (pe_glob g1 e1 e2 g2).weaken fun σ H Q q => tE_con e3 q
  | .bin op a b, c, e, X, ok, h => by
    unfold mE at h
    split at h <;> try contradiction
    simp only [Bool.and_eq_true] at h
    exact (pe_op (op_ok h.1.1) (mE_ok a ok h.1.2) (mE_ok b ok h.2)).weaken fun σ H Q q => tE_bin q
  | .neg a, c, e, X, ok, h => by
    unfold mE at h
    split at h <;> try contradiction
    exact (pe_un un_negO (mE_ok a ok h)).weaken fun σ H Q q => tE_un q
  | .cmp op a b, c, e, X, ok, h => by
    unfold mE at h
    split at h <;> try contradiction
    simp only [Bool.and_eq_true, Bool.not_eq_true'] at h
    exact (pe_cmpR (cmp_ok h.1.1.1) (mE_ok a ok h.1.2) (mE_ok b ok h.2) h.1.1.2).weaken fun σ H Q q => tE_bin q
  | .chain op op' a b d, c, e, X, ok, h => by
    unfold mE at h
    split at h <;> try contradiction
    simp only [Bool.and_eq_true, Bool.not_eq_true'] at h
    exact (pe_chain (cmp_ok h.1.1.1.1.1) (cmp_ok h.1.1.1.1.2) (mE_ok a ok h.1.1.2) (mE_ok b ok h.1.2) (mE_ok d ok h.2) h.1.1.1.2).weaken fun σ H Q q => tE_chain q
  | .andV a b, c, e, X, ok, h => by
    unfold mE at h
    split at h <;> try contradiction
    rw [Bool.and_eq_true] at h
    obtain ⟨h1, h2⟩ := h
    have ha := mE_ok a ok h1
    split at h2
    · exact (pe_and ha (pe_one (mE_ok b ok h2))).weaken fun σ H Q q => tE_and q
    · exact (pe_and ha (mE_ok b ok h2)).weaken fun σ H Q q => tE_and q
  | .orV a b, c, e, X, ok, h => by
    unfold mE at h
    split at h <;> try contradiction
    rw [Bool.and_eq_true] at h
    obtain ⟨h1, h2⟩ := h
    have ha := mE_ok a ok h1
    split at h2
    · exact (pe_or ha (pe_one (mE_ok b ok h2))).weaken fun σ H Q q => tE_or q
    · exact (pe_or ha (mE_ok b ok h2)).weaken fun σ H Q q => tE_or q
  | .notV a, c, e, X, ok, h => by
    unfold mE at h
    split at h <;> try contradiction
    exact (pe_not (mE_ok a ok h)).weaken fun σ H Q q => tE_not q
  | .ite t a b, c, e, X, ok, h => by
    unfold mE at h
    split at h <;> try contradiction
    simp only [Bool.and_eq_true] at h
    exact (pe_ifExp (mT_ok t ok h.1.1).1 (mE_ok a ok h.1.2) (mE_ok b ok h.2)).weaken fun σ H Q q => tE_ite q
  | .tup es, c, e, X, ok, h => by
    unfold mE at h
    split at h <;> try contradiction
    exact (pe_tup (mEs_ok es ok h)).weaken fun σ H Q q => tE_tup q
  | .fr f, c, e, X, ok, h => by
    unfold mE at h
    exact (mF_ok f ok h).weaken fun σ H Q q => tE_fr q
  | .ix a i, c, e, X, ok, h => by
    unfold mE at h
    split at h <;> try contradiction
    simp only [Bool.and_eq_true] at h
    exact (pe_ix ix_all (mE_ok a ok h.1.2) (mE_ok i ok h.2) (plainIxP h.1.1)).weaken fun σ H Q q => tE_bin q
  | .sl a lo hi, c, e, X, ok, h => by
    unfold mE at h
    split at h <;> try contradiction
    simp only [Bool.and_eq_true] at h
    exact (pe_slice sl_all (mE_ok a ok h.1.1) (mP_ok lo ok h.1.2) (mP_ok hi ok h.2)).weaken fun σ H Q q => tE_sl q
  | .call i es, c, e, X, ok, h => by
    unfold mE at h
    split at h <;> try contradiction
    simp only [Bool.and_eq_true] at h
    obtain ⟨⟨⟨⟨h1, h2⟩, h3⟩, h4⟩, h5⟩ := h
    have h2 := of_decide_eq_true h2
    have h3 := of_decide_eq_true h3
    obtain ⟨g1, g2, g3⟩ := ok.gl h4
    obtain ⟨f, fd, e1, F, e3, e4, e5⟩ := (ok.fn h1).ex
    rw [h2] at e1
    have hn : ∀ s m xs m', evs Fs es s m = .ok xs m' → xs.length = (Fs.getD i default).ps.length := fun s m xs m' q => by rw [evs_len es q, mEs_len es h5, h3]
    have pa := mEs_ok es ok h5
    cases es with
    | nil =>
      cases mEs_nil h5
      exact (pe_call0 (dvs := []) F ok.room g1 e1 e3 e4 .nil pass0 g2).weaken fun σ H Q q => tA_nil (tE_call hn q)
    | cons e0 es0 =>
      obtain ⟨z, zs, rfl, hz, hz2⟩ := mEs_cons h5
      exact (pe_call F ok.room g1 e1 e3 e4 .nil pass0 pa g2 (starP hz) (mEs_plain _ hz2)).weaken fun σ H Q q => tE_call hn q
  | .callN i es, c, e, X, ok, h => by
    unfold mE at h
    split at h <;> try contradiction
    simp only [Bool.and_eq_true] at h
    obtain ⟨⟨⟨⟨h1, h2⟩, h3⟩, h4⟩, h5⟩ := h
    have h2 := of_decide_eq_true h2
    have h3 := of_decide_eq_true h3
    obtain ⟨g1, g2, g3⟩ := ok.gl h4
    obtain ⟨f, fd, e1, F, e3, e4, e5⟩ := (ok.fn h1).ex
    rw [h2] at e1
    have hn : ∀ s m xs m', evs Fs es s m = .ok xs m' → xs.length = (Fs.getD i default).ps.length := fun s m xs m' q => by rw [evs_len es q, mEs_len es h5, h3]
    have pa := mEs_ok es ok h5
    cases es with
    | nil =>
      cases mEs_nil h5
      exact (pe_call0 (dvs := []) F ok.room g1 e1 e3 e4 .nil pass0 g2).weaken fun σ H Q q => tA_nil (tE_callN hn q)
    | cons e0 es0 =>
      obtain ⟨z, zs, rfl, hz, hz2⟩ := mEs_cons h5
      exact (pe_call F ok.room g1 e1 e3 e4 .nil pass0 pa g2 (starP hz) (mEs_plain _ hz2)).weaken fun σ H Q q => tE_callN hn q
  | .callK i ks es, c, e, X, ok, h => by
    unfold mE at h
    split at h <;> try contradiction
    simp only [Bool.and_eq_true] at h
    obtain ⟨⟨⟨⟨⟨h1, h2⟩, h3⟩, h4⟩, h5⟩, h6⟩ := h
    have h2 := of_decide_eq_true h2
    have h3 := of_decide_eq_true h3
    obtain ⟨g1, g2, g3⟩ := ok.gl h4
    obtain ⟨f, fd, e1, F, e3, e4, e5⟩ := (ok.fn h1).ex
    rw [h2] at e1
    obtain ⟨k1, k2, k3, k4⟩ := kwB_ok (env := X.env) h5
    have hn : ∀ s m xs m', evs Fs es s m = .ok xs m' → xs.length = ks.length := fun s m xs m' q => by rw [evs_len es q, mKs_len es h6, k3]
    exact (pe_callK0 F ok.room g1 e1 e3 (e5 ks h3) (mKs_ok es ok h6) k1 k2 g2 (by rw [k4]; rfl)).weaken fun σ H Q q => tE_callK hn q
  | .bi b a, c, e, X, ok, h => by
    unfold mE at h
    split at h <;> try contradiction
    rw [Bool.and_eq_true, Bool.and_eq_true, Bool.and_eq_true, Bool.and_eq_true] at h
    obtain ⟨⟨⟨⟨h1, h2⟩, h3⟩, h4⟩, h5⟩ := h
    obtain ⟨g1, g2, g3, g4⟩ := ok.bt h2
    exact bi_ok ok.calm (of_decide_eq_true h1) g1 g2 h4 h3 g4 g3 (mE_ok a ok h5)
  | .join o a, c, e, X, ok, h => by
    unfold mE at h
    split at h <;> try contradiction
    rw [Bool.and_eq_true, Bool.and_eq_true, Bool.and_eq_true, Bool.and_eq_true, Bool.and_eq_true] at h
    obtain ⟨⟨⟨⟨⟨h1, h2⟩, h3⟩, h4⟩, h5⟩, h6⟩ := h
    cases of_decide_eq_true h1
    exact (pe_join (mE_ok o ok h5) (mE_ok a ok h6) (starP h3) (attrP h4) h2).weaken fun σ H Q q => tE_join (fun x y H Q q => join_w x [y] H Q ⟨y, rfl, q⟩) q
  | .isi a ts true, c, e, X, ok, h => by
    unfold mE at h
    split at h <;> try contradiction
    rw [Bool.and_eq_true, Bool.and_eq_true, Bool.and_eq_true, Bool.and_eq_true] at h
    obtain ⟨⟨⟨⟨h1, h2⟩, h3⟩, h4⟩, h5⟩ := h
    cases of_decide_eq_true h1
    obtain ⟨g1, g2, g3, g4⟩ := ok.bt h2
    split at h4
    · rename_i t
      simp only [Bool.and_eq_true, decide_eq_true_eq] at h4
      obtain ⟨rfl, h4⟩ := h4
      obtain ⟨k1, k2, k3, k4⟩ := ok.bt h4
      exact (pe_callB call_isi g1 g2 B_isinstance (pa_cons (mE_ok a ok h5) (pa_cons (pe_bltn (v := .ty t.s) k1 k2 (boot_ty t) rfl k4 k3) pa_nil rfl) (starP h3)) g4 g3 (starP h3) rfl).weaken fun σ H Q q => isi_one q
    · cases h4
  | .isi a ts false, c, e, X, ok, h => by
    unfold mE at h
    split at h <;> try contradiction
    rw [Bool.and_eq_true, Bool.and_eq_true, Bool.and_eq_true, Bool.and_eq_true, Bool.and_eq_true, Bool.and_eq_true] at h
    obtain ⟨⟨⟨⟨⟨⟨h1, h2⟩, h3⟩, h7⟩, h4⟩, h5⟩, h6⟩ := h
    cases of_decide_eq_true h1
    obtain ⟨g1, g2, g3, g4⟩ := ok.bt h2
    exact (pe_callB call_isiT g1 g2 B_isinstance (pa_cons (mE_ok a ok h6) (pa_cons (pe_tup (pa_tys ok h5)) pa_nil rfl) (starP h3)) g4 g3 (starP h3) rfl).weaken fun σ H Q q => isi_many (by rintro rfl; cases h4) (by rw [sizeLine_eq]; have := of_decide_eq_true h7; omega) q
theorem mEs_ok : ∀ (es : MEs) {c : Cfg} {xs : List Expr} {X : Cx}, CtxOk Fs k c X → mEs Fs es c xs = true → PA X xs (tA X.K (evs Fs es))
  | .nil, c, [], X, ok, h => pa_nil.weaken fun σ H Q q => tA_nil q
  | .nil, c, _ :: _, X, ok, h => by cases h
  | .cons e es, c, [], X, ok, h => by cases h
  | .cons e es, c, x :: xs, X, ok, h => by
    have h : (plainE x && mE Fs e c x && mEs Fs es c xs) = true := h
    simp only [Bool.and_eq_true] at h
    exact (pa_cons (mE_ok e ok h.1.2) (mEs_ok es ok h.2) (starP h.1.1)).weaken fun σ H Q q => tA_cons q
theorem mKs_ok : ∀ (es : MEs) {c : Cfg} {xs : List Keyword} {X : Cx}, CtxOk Fs k c X → mKs Fs es c xs = true → PK X xs (tA X.K (evs Fs es))
  | .nil, c, [], X, ok, h => pk_nil.weaken fun σ H Q q => tA_nil q
  | .nil, c, _ :: _, X, ok, h => by cases h
  | .cons e es, c, [], X, ok, h => by cases h
  | .cons e es, c, ⟨n, x, p⟩ :: xs, X, ok, h => by
    have h : (mE Fs e c x && mKs Fs es c xs) = true := h
    simp only [Bool.and_eq_true] at h
    exact (pk_cons (mE_ok e ok h.1) (mKs_ok es ok h.2)).weaken fun σ H Q q => tA_cons q
theorem mP_ok : ∀ (p : MP) {c : Cfg} {e : Option Expr} {X : Cx}, CtxOk Fs k c X → mP Fs p c e = true → PO X e (tP X.K (evP Fs p))
  | .none, c, .none, X, ok, h => po_none.weaken fun σ H Q q => tP_none q
  | .none, c, .some _, X, ok, h => by cases h
  | .some e, c, .none, X, ok, h => by cases h
  | .some e, c, .some x, X, ok, h => (po_some (mE_ok e ok h)).weaken fun σ H Q q => tP_some q
theorem mT_ok : ∀ (t : MT) {c : Cfg} {e : Expr} {X : Cx}, CtxOk Fs k c X → mT Fs t c e = true → PTW X e (tT X.K (evT Fs t))
  | .val a, c, e, X, ok, h => by
    have h : (plainT e && mE Fs a c e) = true := h
    rw [Bool.and_eq_true] at h
    exact .of ((pt_truth (mE_ok a ok h.2) (isTrueP h.1)).weaken fun σ H Q q => tT_val q) (by cases e <;> first | rfl | (cases h.1; done))
  | .cmp op a b, c, e, X, ok, h => by
    unfold mT at h
    split at h <;> try contradiction
    simp only [Bool.and_eq_true, Bool.not_eq_true'] at h
    exact .of ((pt_cmpR (cmp_ok h.1.1.1) (mE_ok a ok h.1.2) (mE_ok b ok h.2) h.1.1.2).weaken fun σ H Q q => tT_cmp q) rfl
  | .chain op op' a b d, c, e, X, ok, h => by
    unfold mT at h
    split at h <;> try contradiction
    simp only [Bool.and_eq_true, Bool.not_eq_true'] at h
    exact .of ((pt_chain (cmp_ok h.1.1.1.1.1) (cmp_ok h.1.1.1.1.2) (mE_ok a ok h.1.1.2) (mE_ok b ok h.1.2) (mE_ok d ok h.2) h.1.1.1.2).weaken fun σ H Q q => tT_chain q) rfl
  | .and a b, c, e, X, ok, h => by
    unfold mT at h
    split at h <;> try contradiction
    rw [Bool.and_eq_true] at h
    obtain ⟨h1, h2⟩ := h
    have ha := (mT_ok a ok h1).1
    split at h2
    · exact .pw ((pw_and ha (pw_and1 (mT_ok b ok h2).1)).weaken fun σ H Q q => tT_and q)
    · exact .pw ((pw_and ha ((mT_ok b ok h2).2 rfl)).weaken fun σ H Q q => tT_and q)
  | .or a b, c, e, X, ok, h => by
    unfold mT at h
    split at h <;> try contradiction
    rw [Bool.and_eq_true] at h
    obtain ⟨h1, h2⟩ := h
    have ha := (mT_ok a ok h1).1
    split at h2
    · exact .pw ((pw_or ha (pw_or1 (mT_ok b ok h2).1)).weaken fun σ H Q q => tT_or q)
    · exact .pw ((pw_or ha ((mT_ok b ok h2).2 rfl)).weaken fun σ H Q q => tT_or q)
  | .not a, c, e, X, ok, h => by
    unfold mT at h
    split at h <;> try contradiction
    exact .of ((pt_not (mT_ok a ok h).1).weaken fun σ H Q q => tT_not q) rfl
theorem mF_ok : ∀ (f : MF) {c : Cfg} {e : Expr} {X : Cx}, CtxOk Fs k c X → mF Fs f c e = true → PE X e (tF X.K (evF Fs f))
  | .lst es, c, e, X, ok, h => by
    unfold mF at h
    split at h <;> try contradiction
    exact (pe_lst (mEs_ok es ok h)).weaken fun σ H Q q => tF_lst q
  | .comp own tg it ifs a, c, e, X, ok, h => by
    unfold mF at h
    split at h <;> try contradiction
    simp only [Bool.and_eq_true] at h
    obtain ⟨⟨⟨⟨⟨⟨h1, h2⟩, h3⟩, h4⟩, h5⟩, h6⟩, h7⟩ := h
    have hown : ∀ c : Cfg, (ownN c own).map (·.2) = own := fun c => by
      unfold ownN; rw [List.map_map]; exact List.map_id _
    rename_i pp
    have p := pe_lc (pos := pp) (own := ownN _ own) (tt := tT X.K (evTs Fs ifs)) (te := tE X.K (ev Fs a)) (g := gM X.K tg) ok.calm ok.nd (mI_ok it ok h4) (by rw [ok.N, ok.sc]; exact blkOk_by h1) (fun s H C cl fp => ok.blk.mg h5) (fun s H C cl fp => mTs_ok ifs ok.blk h6) (fun s H C cl fp => mE_ok a ok.blk h7) (fun x => foldP h3 x)
    rw [hown] at p
    exact p.weaken fun σ H Q q => tF_comp (fun i hi => by
      have := List.all_eq_true.mp h2 i hi
      exact of_decide_eq_true this) q
  | .toList a, c, e, X, ok, h => by
    unfold mF at h
    split at h <;> try contradiction
    rw [Bool.and_eq_true, Bool.and_eq_true, Bool.and_eq_true] at h
    obtain ⟨⟨⟨h1, h2⟩, h3⟩, h4⟩ := h
    cases of_decide_eq_true h1
    obtain ⟨g1, g2, g3, g4⟩ := ok.bt h2
    exact (pe_callTy cb_list g1 g2 B_list (pa_cons (mE_ok a ok h4) pa_nil (starP h3)) g4 g3 (starP h3) rfl).weaken fun σ H Q q => tF_N1 q
theorem mI_ok : ∀ (i : MI) {c : Cfg} {tg e : Expr} {X : Cx}, CtxOk Fs k c X → mI Fs i c tg e = true → PI X tg e (tI X.K (evI Fs i))
  | .seq a, c, tg, e, X, ok, h => (((pi_list (mE_ok a ok h)).or ((pi_tup (mE_ok a ok h)).or (pi_str (mE_ok a ok h))))).weaken fun σ H Q q => tI_seq q
  | .range1 a, c, tg, e, X, ok, h => by
    unfold mI at h
    split at h <;> try contradiction
    rw [Bool.and_eq_true, Bool.and_eq_true, Bool.and_eq_true] at h
    obtain ⟨⟨⟨h1, h2⟩, h3⟩, h4⟩ := h
    cases of_decide_eq_true h1
    obtain ⟨g1, g2, g3, g4⟩ := ok.bt h2
    exact (pi_range1 g1 g2 (pa_cons (mE_ok a ok h4) pa_nil (starP h3)) (starP h3)).weaken fun σ H Q q => tI_range1 q
  | .range2 a b, c, tg, e, X, ok, h => by
    unfold mI at h
    split at h <;> try contradiction
    rw [Bool.and_eq_true, Bool.and_eq_true, Bool.and_eq_true, Bool.and_eq_true, Bool.and_eq_true] at h
    obtain ⟨⟨⟨⟨⟨h1, h2⟩, h3⟩, h4⟩, h5⟩, h6⟩ := h
    cases of_decide_eq_true h1
    obtain ⟨g1, g2, g3, g4⟩ := ok.bt h2
    exact (pi_range2 g1 g2 (pa_cons (mE_ok a ok h5) (pa_cons (mE_ok b ok h6) pa_nil (starP h4)) (starP h3)) (by rw [starP h3, starP h4]; rfl) (starP h4)).weaken fun σ H Q q => tI_range2 q
  | .zip a b, c, tg, e, X, ok, h => by
    unfold mI at h
    split at h <;> try contradiction
    rw [Bool.and_eq_true, Bool.and_eq_true, Bool.and_eq_true, Bool.and_eq_true, Bool.and_eq_true] at h
    obtain ⟨⟨⟨⟨⟨h1, h2⟩, h3⟩, h4⟩, h5⟩, h6⟩ := h
    cases of_decide_eq_true h1
    obtain ⟨g1, g2, g3, g4⟩ := ok.bt h2
    exact (RZ.pi_zipA g1 g2 (pa_cons (mE_ok a ok h5) (pa_cons (mE_ok b ok h6) pa_nil (starP h4)) (starP h3)) (starP h3) (by rw [starP h4]; rfl)).weaken fun σ H Q q => tI_zip q
theorem mTs_ok : ∀ (t : MTs) {c : Cfg} {es : List Expr} {X : Cx}, CtxOk Fs k c X → mTs Fs t c es = true → PTs X es (tT X.K (evTs Fs t))
  | .nil, c, [], X, ok, h => pts_nil.weaken fun σ H Q q => tT_yes q
  | .nil, c, _ :: _, X, ok, h => by cases h
  | .one t, c, [], X, ok, h => by cases h
  | .one t, c, [x], X, ok, h => pts_one (mT_ok t ok h).1
  | .one t, c, _ :: _ :: _, X, ok, h => by cases h
end
end
end Rc

set_option Elab.async false
set_option linter.all false
set_option maxRecDepth 100000
set_option maxHeartbeats 8000000
namespace Rc
open PySem PySem.Spec L2
open PyProof.Rows hiding St

/-! ### statements -/
def notComp : Expr → Bool
  | .ListComp .. => false
  | .SetComp .. => false
  | .DictComp .. => false
  | _ => true
/-- x = [..] on one line, x a local -/
def swT (c : Cfg) (x : Str) (px : Pos) : Expr → Bool
  | .ListComp _ _ scope p => lclB c.sc x && (px.line == p.line) && !(scope.names.any fun (n, k) => n == x && (k == .local || k == .cell))
  | _ => false
def swF (c : Cfg) (x : Str) : Expr → Bool
  | .ListComp _ _ scope p => celB c.sc x
  | .SetComp .. => false
  | .DictComp .. => false
  | _ => true
def notTup : Expr → Bool
  | .Tuple .. => false
  | _ => true
def parB (c : Cfg) (x y : Str) (px py : Pos) (a b : Expr) : Bool := lclB c.sc x && lclB c.sc y && (py.line == px.line) && decide (x ≠ y) && plainE a && plainE b && !([a, b].all (foldedForSure 8)) && !([a, b].all (constantsAlone 8))
section
variable (Fs : List Fn)
mutual
def mS : MS → Cfg → Stmt → Bool
  | .set i e, c, st => (match st with
    | .Assign [.Name x px] v _ => tgB c i x && (match e with
      | .fr (.comp own tg it ifs a) => swT c x px v || swF c x v
      | _ => notComp v) && mE Fs e c v
    | _ => false)
  | .setOwn i f, c, st => (match st with
    | .Assign [.Name x px] v _ => tgB c i x && (match f with
      | .comp own tg it ifs a => swT c x px v || swF c x v
      | _ => notComp v) && mF Fs f c v
    | _ => false)
  | .par i j a b, c, st => (match st with
    | .Assign [.Tuple [.Name x px, .Name y py] _ _] (.Tuple [u, v] _ _) _ => decide (c.N[i]? = some x) && decide (c.N[j]? = some y) && decide (i ≠ j) && parB c x y px py u v && mE Fs a c u && mE Fs b c v
    | _ => false)
  | .tupSet is e, c, st => (match st with
    | .Assign [.Tuple es k p] v _ => mG c (.tup is) (.Tuple es k p) && notTup v && mE Fs e c v
    | _ => false)
  | .ixSet o i e, c, st => (match st with
    | .Assign [.Subscript a b _] v _ => plainIx b && mE Fs o c a && mE Fs i c b && mE Fs e c v
    | _ => false)
  | .ifs t a b, c, st => (match st with
    | .If u x y _ => mT Fs t c u && mSs a c x && mSs b c y
    | _ => false)
  | .ret e, c, st => (match st with
    | .Return (some v) _ => mE Fs e c v
    | _ => false)
  | .retN, _, st => (match st with
    | .Return none _ => true
    | _ => false)
  | .retF f, c, st => (match st with
    | .Return (some v) _ => mF Fs f c v
    | _ => false)
  | .retOwn i, c, st => (match st with
    | .Return (some (.Name x _)) _ => slB c i x
    | _ => false)
  | .loop tg it body, c, st => (match st with
    | .For t iter b [] _ => notSet iter && mI Fs it c t iter && mG c tg t && mSs body c b
    | _ => false)
  | .brk, _, st => (match st with
    | .Break _ => true
    | _ => false)
  | .cont, _, st => (match st with
    | .Continue _ => true
    | _ => false)
  | .pass, _, st => (match st with
    | .Pass _ => true
    | .Expr (.Constant (.str _) _ _) _ => true
    | _ => false)
  | .expr e, c, st => (match st with
    | .Expr v _ => notComp v && mE Fs e c v
    | _ => false)
  | .app i e, c, st => (match st with
    | .Expr (.Call (.Attribute (.Name x _) m ap) [v] [] p) _ => decide (m = ("append" : Str)) && (ap.endLine == p.line) && slB c i x && plainE v && mE Fs e c v
    | _ => false)
def mSs : MSs → Cfg → List Stmt → Bool
  | .nil, _, [] => true
  | .cons a r, c, st :: sts => mS a c st && mSs r c sts
  | _, _, _ => false
end
end

theorem swP {v : Expr} {x : Str} {px : Pos} {l : Nat} {env : Env} (h : notComp v = true) : swapsWith v (some (.Name x px)) l env = pure false := by
  cases v <;> first | rfl | cases h
theorem swN {v : Expr} {l : Nat} {env : Env} (h : notComp v = true) : swapsWith v none l env = pure false := by
  cases v <;> first | rfl | cases h
theorem swTup {v : Expr} {es : List Expr} {k : Nat} {p : Pos} {l : Nat} {env : Env} : swapsWithSole [.Tuple es k p] v l env = pure false := by
  cases v <;> rfl
theorem swSub {v a b : Expr} {p : Pos} {l : Nat} {env : Env} : swapsWithSole [.Subscript a b p] v l env = pure false := by
  cases v <;> rfl
theorem stTup {v : Expr} {es : List Expr} {k : Nat} {p : Pos} {env : Env} (h : notTup v = true) : swappedStores [.Tuple es k p] v env = pure none := by
  cases v <;> first | rfl | cases h
theorem stSub {v a b : Expr} {p : Pos} {env : Env} : swappedStores [.Subscript a b p] v env = pure none := by
  cases v <;> rfl
theorem asgSub {a b : Expr} {p : Pos} {env : Env} (h : plainIx b = true) (v : Value) : assign (.Subscript a b p) env v = (do
      let ov ← holding [v] (eval a env)
      let iv ← holding [v, ov] (eval b env)
      standAt p
      holding [v, ov, iv] (setItem ov iv v)
      release [v, ov, iv] []) := by
  cases b <;> first | rfl | cases h
theorem lclB_ok {sc : Scope} {x : Str} (h : lclB sc x = true) : sc.names.lookup x = some .local := by
  unfold lclB at h
  split at h
  · assumption
  · cases h
theorem celB_ok {sc : Scope} {x : Str} (h : celB sc x = true) : sc.names.lookup x = some .cell := by
  unfold celB at h
  split at h
  · assumption
  · cases h
section
variable {Fs : List Fn} {k : Nat} {c : Cfg} {X : Cx}
theorem par_st {x y : Str} {px py pt pt2 : Pos} {kt k2 : Nat} {a b : Expr} (ok : CtxOk Fs k c X) (hk : X.env.scope.kind = .function) (h : parB c x y px py a b = true) :
    X.env.scope.names.lookup x = some .local ∧ X.env.scope.names.lookup y = some .local ∧ swappedStores [.Tuple [.Name x px, .Name y py] kt pt] (.Tuple [a, b] k2 pt2) X.env = pure (some [x, y]) := by
  unfold parB at h
  simp only [Bool.and_eq_true, Bool.not_eq_true', decide_eq_true_eq] at h
  obtain ⟨⟨⟨⟨⟨⟨⟨h1, h2⟩, h3⟩, h4⟩, h5⟩, h6⟩, h7⟩, h8⟩ := h
  have e1 := lclB_ok h1
  have e2 := lclB_ok h2
  rw [← ok.sc] at e1 e2
  refine ⟨e1, e2, ?_⟩
  have k1 : X.env.kindOf x = some .local := e1
  have k2' : X.env.kindOf y = some .local := e2
  have hb : X.env.blockKind = .function := by unfold Env.blockKind; rw [hk]; rfl
  unfold swappedStores
  simp only [hb, k1, k2', h3, h7, h8, List.length_cons, List.length_nil, List.head?_cons, Option.map_some, Option.getD_some, Expr.pos]
  refine (if_neg (by simp)).trans ((if_neg (fun hh => ?_)).trans ?_)
  · simp only [List.any_cons, List.any_nil, Bool.or_false, Bool.or_eq_true] at hh
    rcases hh with hh | hh
    · split at hh
      · cases h5
      · cases hh
    · split at hh
      · cases h6
      · cases hh
  · have h3' : py.line = px.line := by simpa using h3
    have n1 : (x == y) = false := by simpa using h4
    have n2 : (y == x) = false := by simpa using Ne.symm h4
    simp [List.filterMap_cons, List.filterMap_nil, k1, k2', h3', h7, h8, h4, n1, n2, List.eraseDups_cons, Ne.symm h4, Expr.pos]
theorem parB_plain {x y : Str} {px py : Pos} {a b : Expr} (h : parB c x y px py a b = true) : plainE a = true ∧ plainE b = true := by
  unfold parB at h
  simp only [Bool.and_eq_true] at h
  exact ⟨h.1.1.1.2, h.1.1.2⟩
theorem asg_ok {i : Nat} {x : Str} {px pos : Pos} {v : Expr} {f : MF} (ok : CtxOk Fs k c X) (hk : X.env.scope.kind = .function) (h1 : tgB c i x = true) (h2 : (match f with
      | .comp own tg it ifs a => swT c x px v || swF c x v
      | _ => notComp v) = true) (h3 : mF Fs f c v = true) : PS X (.Assign [.Name x px] v pos) (tAsg (tF X.K (evF Fs f)) (gName i)) := by
  obtain ⟨g1, g2, g3⟩ := ok.tg h1
  cases f with
  | lst es => exact ps_set ok.nd g1 g2 (mF_ok _ ok h3) (swP h2) g3
  | toList e => exact ps_set ok.nd g1 g2 (mF_ok _ ok h3) (swP h2) g3
  | comp own tg it ifs a =>
    have h2 : (swT c x px v || swF c x v) = true := h2
    rw [Bool.or_eq_true] at h2
    rcases h2 with h2 | h2
    · unfold mF at h3
      split at h3 <;> try contradiction
      simp only [Bool.and_eq_true] at h3
      obtain ⟨⟨⟨⟨⟨⟨e1, e2⟩, e3⟩, e4⟩, e5⟩, e6⟩, e7⟩ := h3
      have hown : ∀ c : Cfg, (ownN c own).map (·.2) = own := fun c => by
        unfold ownN; rw [List.map_map]; exact List.map_id _
      rename_i scope pp _
      have h2 : (lclB c.sc x && (px.line == pp.line) && !(scope.names.any fun (n, k) => n == x && (k == .local || k == .cell))) = true := h2
      simp only [Bool.and_eq_true, Bool.not_eq_true'] at h2
      obtain ⟨⟨s1, s2⟩, s3⟩ := h2
      have hl := lclB_ok s1
      rw [← ok.sc] at hl
      have p := ps_setLc (py := px) (spos := pos) (pos := pp) (own := ownN _ own) (tt := tT X.K (evTs Fs ifs)) (te := tE X.K (ev Fs a)) (g := gM X.K tg) ok.calm ok.nd g1 hl (sw_true hk hl s2 s3) (mI_ok it ok e4) (by rw [ok.N, ok.sc]; exact blkOk_by e1) (fun s H C cl fp => ok.blk.mg e5) (fun s H C cl fp => mTs_ok ifs ok.blk e6) (fun s H C cl fp => mE_ok a ok.blk e7) (fun x => foldP e3 x)
      rw [hown] at p
      exact p.weaken fun D σ H q => tF_comp (fun i hi => of_decide_eq_true (List.all_eq_true.mp e2 i hi)) q
    · have hs : swapsWith v (some (.Name x px)) pos.line X.env = pure false := by
        cases v with
        | ListComp elt gs scope pp =>
          have h2 : celB c.sc x = true := h2
          have hl := celB_ok h2
          rw [← ok.sc] at hl
          have k1 : X.env.kindOf x = some .cell := hl
          have hb : X.env.blockKind = .function := by unfold Env.blockKind; rw [hk]; rfl
          unfold swapsWith
          simp only [hb, k1]
          rfl
        | SetComp _ _ _ _ => cases h2
        | DictComp _ _ _ _ _ => cases h2
        | _ => rfl
      exact ps_set ok.nd g1 g2 (mF_ok _ ok h3) hs g3
mutual
theorem mS_ok {g0 : G} {H0 : Hp} : ∀ (st : MS) {c : Cfg} {e : Stmt} {X : Cx}, CtxOk Fs k c X → c.top = true → X.env.scope.kind = .function → mS Fs st c e = true → PS X e (tS X.K g0 H0 (ex Fs st))
  | .set i a, c, e, X, ok, ht, hk, h => by
    unfold mS at h
    split at h <;> try contradiction
    rw [Bool.and_eq_true, Bool.and_eq_true] at h
    obtain ⟨⟨h1, h2⟩, h3⟩ := h
    obtain ⟨g1, g2, g3⟩ := ok.tg h1
    by_cases hf : ∃ own tg it ifs b, a = .fr (.comp own tg it ifs b)
    · obtain ⟨own, tg, it, ifs, b, rfl⟩ := hf
      exact (asg_ok ok hk h1 (f := .comp own tg it ifs b) h2 h3).weaken fun D σ H q => tE_fr (tS_set q)
    · refine (ps_set ok.nd g1 g2 (mE_ok a ok h3) (swP ?_) g3).weaken fun D σ H q => tS_set q
      split at h2
      · exact absurd ⟨_, _, _, _, _, rfl⟩ hf
      · exact h2
  | .setOwn i f, c, e, X, ok, ht, hk, h => by
    unfold mS at h
    split at h <;> try contradiction
    rw [Bool.and_eq_true, Bool.and_eq_true] at h
    obtain ⟨⟨h1, h2⟩, h3⟩ := h
    exact (asg_ok ok hk h1 h2 h3).weaken fun D σ H q => tS_setOwn q
  | .par i j a b, c, e, X, ok, ht, hk, h => by
    unfold mS at h
    split at h <;> try contradiction
    simp only [Bool.and_eq_true, decide_eq_true_eq] at h
    obtain ⟨⟨⟨⟨⟨h1, h2⟩, h3⟩, h4⟩, h5⟩, h6⟩ := h
    obtain ⟨e1, e2, e3⟩ := par_st ok hk h4
    have hp := parB_plain h4
    exact (ps_par ok.calm ok.nd (by rw [ok.N]; exact h1) (by rw [ok.N]; exact h2) h3 e1 e2 (pa_cons (mE_ok a ok h5) (pa_cons (mE_ok b ok h6) pa_nil (starP hp.2)) (starP hp.1)) e3 swTup).weaken fun D σ H q => tS_par q
  | .tupSet is a, c, e, X, ok, ht, hk, h => by
    unfold mS at h
    split at h <;> try contradiction
    simp only [Bool.and_eq_true] at h
    exact (ps_asg (mE_ok a ok h.2) (ok.mg h.1.1) swTup (stTup h.1.2) rfl).weaken fun D σ H q => tS_tup q
  | .ixSet o i a, c, e, X, ok, ht, hk, h => by
    unfold mS at h
    split at h <;> try contradiction
    simp only [Bool.and_eq_true] at h
    obtain ⟨⟨⟨h1, h2⟩, h3⟩, h4⟩ := h
    exact (ps_asg (mE_ok a ok h4) (pg_sub (mE_ok o ok h2) (mE_ok i ok h3) set_list (asgSub h1)) swSub stSub rfl).weaken fun D σ H q => tS_ixSet q
  | .ifs t a b, c, e, X, ok, ht, hk, h => by
    unfold mS at h
    split at h <;> try contradiction
    simp only [Bool.and_eq_true] at h
    exact (ps_if (mT_ok t ok h.1.1).1 (mSs_ok a ok ht hk h.1.2) (mSs_ok b ok ht hk h.2)).weaken fun D σ H q => tS_if q
  | .ret a, c, e, X, ok, ht, hk, h => by
    unfold mS at h
    split at h <;> try contradiction
    exact (ps_ret (mE_ok a ok h)).weaken fun D σ H q => tS_ret q
  | .retN, c, e, X, ok, ht, hk, h => by
    unfold mS at h
    split at h <;> try contradiction
    exact ps_retN.weaken fun D σ H q => tS_retN q
  | .retF f, c, e, X, ok, ht, hk, h => by
    unfold mS at h
    split at h <;> try contradiction
    exact (ps_ret (mF_ok f ok h)).weaken fun D σ H q => tS_retF q
  | .retOwn i, c, e, X, ok, ht, hk, h => by
    unfold mS at h
    split at h <;> try contradiction
    exact (ps_ret (ok.slot h)).weaken fun D σ H q => tS_retOwn q
  | .loop tg it body, c, e, X, ok, ht, hk, h => by
    unfold mS at h
    split at h <;> try contradiction
    simp only [Bool.and_eq_true] at h
    exact (ps_for (ok.wish ht) ok.calm (mI_ok it ok h.1.1.2) (ok.mg h.1.2) (mSs_ok body ok ht hk h.2) (fun x => foldP h.1.1.1 x)).weaken fun D σ H q => tS_loop q
  | .brk, c, e, X, ok, ht, hk, h => by
    unfold mS at h
    split at h <;> try contradiction
    exact ps_break.weaken fun D σ H q => tS_brk q
  | .cont, c, e, X, ok, ht, hk, h => by
    unfold mS at h
    split at h <;> try contradiction
    exact ps_continue.weaken fun D σ H q => tS_cont q
  | .pass, c, e, X, ok, ht, hk, h => by
    unfold mS at h
    split at h <;> try contradiction
    · exact ps_pass.weaken fun D σ H q => tS_next q
    · exact ps_doc.weaken fun D σ H q => tS_next q
  | .expr a, c, e, X, ok, ht, hk, h => by
    unfold mS at h
    split at h <;> try contradiction
    simp only [Bool.and_eq_true] at h
    exact (ps_expr (mE_ok a ok h.2) (swN h.1)).weaken fun D σ H q => tS_drop q
  | .app i a, c, e, X, ok, ht, hk, h => by
    unfold mS at h
    split at h <;> try contradiction
    simp only [Bool.and_eq_true, decide_eq_true_eq] at h
    obtain ⟨⟨⟨⟨rfl, h2⟩, h3⟩, h4⟩, h5⟩ := h
    exact (ps_expr (pe_bm F.plainAttrs_list F.slot_list_append F.type_list_append mt_append (ok.slot h3) (pa_cons (mE_ok a ok h5) pa_nil (starP h4)) rfl (by rw [starP h4]; rfl) h2 (starP h4) rfl) rfl).weaken fun D σ H q => tS_app q
theorem mSs_ok {g0 : G} {H0 : Hp} : ∀ (st : MSs) {c : Cfg} {e : List Stmt} {X : Cx}, CtxOk Fs k c X → c.top = true → X.env.scope.kind = .function → mSs Fs st c e = true → PSs X e (tS X.K g0 H0 (exs Fs st))
  | .nil, c, [], X, ok, ht, hk, h => pss_nil.weaken fun D σ H q => tS_next q
  | .nil, c, _ :: _, X, ok, ht, hk, h => by cases h
  | .cons a r, c, [], X, ok, ht, hk, h => by cases h
  | .cons a r, c, st :: sts, X, ok, ht, hk, h => by
    have h : (mS Fs a c st && mSs Fs r c sts) = true := h
    rw [Bool.and_eq_true] at h
    exact (pss_cons (mS_ok a ok ht hk h.1) (mSs_ok r ok ht hk h.2)).weaken fun D σ H q => tS_seq q
end
end
end Rc

set_option Elab.async false
set_option linter.all false
set_option maxRecDepth 100000
set_option maxHeartbeats 4000000
namespace Rc
open PySem PySem.Spec L2
open PyProof.Rows hiding St

/-- what the module holds beside its defs -/
structure ModOk (K : PySem.W.Frag) (mg : Str → Option Value) (blts : List Str) (cst : List (Str × MV)) : Prop where
  blt : ∀ x ∈ blts, mg x = none
  cst : ∀ x v, (x, v) ∈ cst → ∃ u w, mg x = some u ∧ RelV w u ∧ ∀ g, RV K g v w
theorem start_rsl {K : PySem.W.Frag} {g : G} {H : Hp} {N : List Str} {as : List MV} {vs : List V} (r : RVs K g as vs) : RSl K g (as.map (fun x => some (SV.v x)) ++ List.replicate (N.length - as.length) none) (start N vs) H := by
  have hl := r.length
  have noown : ∀ (i : Nat) o, (as.map (fun x => some (SV.v x)) ++ List.replicate (N.length - as.length) none)[i]? ≠ some (some (SV.own o)) := fun i o e => by
    by_cases hi : i < as.length
    · rw [List.getElem?_append_left (by simpa using hi)] at e
      simp [hi] at e
    · rw [List.getElem?_append_right (by simpa using hi)] at e
      simp [List.getElem?_replicate] at e
  refine ⟨fun i x e => ?_, fun i o e => absurd e (noown i o), fun i j o u a e => absurd e (noown i o), by simp [L2.start, hl]⟩
  by_cases hi : i < as.length
  · rw [List.getElem?_append_left (by simpa using hi)] at e
    have e2 : as[i]? = some x := by
      rw [List.getElem?_map] at e
      cases q : as[i]? with
      | none => rw [q] at e; cases e
      | some y => rw [q] at e; cases e; rfl
    obtain ⟨v, h1, h2⟩ := r.get e2
    refine ⟨v, ?_, h2⟩
    unfold L2.start
    rw [List.getElem?_append_left (by simpa using hl ▸ hi), List.getElem?_map, h1]
    rfl
  · rw [List.getElem?_append_right (by simpa using hi)] at e
    simp [List.getElem?_replicate] at e
section
variable {P : Program} {w : World} {K : PySem.W.Frag} {mg : Str → Option Value} {base : Heap} {k : Nat} {f : Addr} {fd : FuncData} {qual : Str} {params : Arguments} {body : List Stmt} {scope : Scope} {kwd : List (Str × V)} {N : List Str} {Fs : List Fn} {blts : List Str} {cst : List (Str × MV)} {x : Str}
theorem DefOk (F : Fn) (FD : FunD K x qual params body scope [] kwd f fd) (S : FnScope N F.ps scope) (mo : ModOk K mg blts cst) (fns : ∀ G ∈ Fs, CallOk P w K mg base k G) (B : MSs)
    (hB : mSs Fs B ⟨N, scope, blts, cst, true⟩ body = true) (hM : ∀ as m, as.length = F.ps.length → F.M as m ≠ .stuck → runD Fs N.length B as m = F.M as m) :
    FnOk P w K mg base CX0 (k + 1) f fd F.ps (spM K F.ps.length F.M) := by
  refine FD.ok S (fun vs H Q E h => ?_) (fun cdv A outer s H vs Q E hr h => ?_)
  · obtain ⟨g, m, as, _, r, hl, _⟩ := h
    rw [← r.length, hl]
  · obtain ⟨g, m, as, rs, r, hl, p⟩ := h
    refine ⟨tS K g H (exs Fs B), PSs.nox (mSs_ok B (c := ⟨N, scope, blts, cst, true⟩) ⟨rfl, rfl, S.nd, rfl, mo.blt, mo.cst, hr, fns, fun _ _ => rfl, fun _ => ?_⟩ rfl S.kind hB), g, _, m, ⟨rs, start_rsl r, Stp.refl _ _, fun i o a e => ?_⟩, ?_⟩
    · passes_own
    · obtain ⟨_, _⟩ := (start_rsl (N := N) (H := H) r).own i o e
      exfalso
      by_cases hi : i < as.length
      · rw [List.getElem?_append_left (by simpa using hi)] at e
        simp [hi] at e
      · rw [List.getElem?_append_right (by simpa using hi)] at e
        simp [List.getElem?_replicate] at e
    · have hs : F.M as m ≠ .stuck := fun z => by rw [z] at p; exact p
      have e := hM as m hl hs
      unfold runD at e
      rw [← e] at p
      cases q : exs Fs B (as.map (fun x => some (SV.v x)) ++ List.replicate (N.length - as.length) none) m with
      | nx s' m' =>
        rw [q] at p
        exact fun g' σ' H' R _ => p g' .non H' R.rs R.st rfl
      | bk s' m' => rw [q] at p; exact p.elim
      | ct s' m' => rw [q] at p; exact p.elim
      | rt r => rw [q] at p; exact p
      | stuck => rw [q] at p; exact p.elim
theorem CallOk.of (F : Fn) (FD : FunD K F.name qual params body scope [] kwd f fd) (S : FnScope N F.ps scope) (mo : ModOk K mg blts cst) (hm : mg F.name = some (.ref f)) (hb : Binds K fd F.ps [])
    (hk : ∀ ks ∈ F.kws, ∀ (s : Shared) (ws : List Value), ws.length = ks.length → BindsTo s fd ⟨[], ks.zip ws⟩ (F.ps.zip (spreadV .none F.ps ks ws)))
    (fns : ∀ G ∈ Fs, CallOk P w K mg base k G) (B : MSs)
    (hB : mSs Fs B ⟨N, scope, blts, cst, true⟩ body = true) (hM : ∀ as m, as.length = F.ps.length → F.M as m ≠ .stuck → runD Fs N.length B as m = F.M as m) : CallOk P w K mg base (k + 1) F :=
  ⟨f, fd, hm, DefOk F FD S mo fns B hB hM, FD.kp, hb, hk⟩
/-- a promise of nothing -/
theorem CallOk.none {name : Str} {ps : List Str} {kws : List (List Str)} (FD : FunD K name qual params body scope [] kwd f fd) (hm : mg name = some (.ref f)) (hb : Binds K fd ps [])
    (hk : ∀ ks ∈ kws, ∀ (s : Shared) (ws : List Value), ws.length = ks.length → BindsTo s fd ⟨[], ks.zip ws⟩ (ps.zip (spreadV .none ps ks ws))) : CallOk P w K mg base k ⟨name, ps, fun _ _ => .stuck, kws⟩ :=
  ⟨f, fd, hm, ⟨fun vs H Q E ⟨_, _, _, _, _, _, p⟩ => p.elim, fun A outer s H args us vs Q E _ _ _ _ ⟨_, _, _, _, _, _, p⟩ => p.elim⟩, FD.kp, hb, hk⟩
end
end Rc
namespace Rc
open PySem PySem.Spec L2
open PyProof.Rows hiding St
theorem law_end {K : PySem.W.Frag} {H : Hp} {a : Addr} {ns : List Int} {M : Mir} (hS : SqL K H a (ns.map V.int)) (h : ∃ m', M [.kl (ns.map MV.int)] [] = .ok (.bl true) m') : spM K 1 M [.ref a] H (fun v _ => v = .bl true) fun _ _ _ => False := by
  obtain ⟨m', e⟩ := h
  refine ⟨⟨H, fun _ => none⟩, [], [.kl (ns.map MV.int)], ⟨fun _ _ e => e, fun n o e => by simp at e, (fun n a e => by cases e), (fun n k a e => by cases e)⟩, ⟨.ref a, [], rfl, ⟨a, ns.map V.int, rfl, hS, ?_⟩, rfl⟩, rfl, ?_⟩
  · exact RVs.map (f := MV.int) (h := V.int) (fun x => rfl) ns
  · rw [e]
    intro g' v H' _ _ r
    exact r
section
variable {K : PySem.W.Frag} {x qual : Str} {params : Arguments} {body : List Stmt} {scope : Scope} {kws : List (Str × V)} {f : Addr} {fd : FuncData}
theorem _root_.L2.FunD.kwBinds (FD : FunD K x qual params body scope [] kws f fd) {ks : List (Str × Value)} (bs : List (Str × Value))
    (h : ∀ (kV doc pm : Value) (an : Option Addr) (cdv ct : Value), bindArgs (PySem.W.fnOf x qual params body scope .none kV doc pm an cdv ct) ⟨[], ks⟩ = pure bs) (s : Shared) : BindsTo s fd ⟨[], ks⟩ bs := by
  obtain ⟨oc, od, dV, kV, doc, pm, an, cdv, ct, osl, rfl, lk, hcd, hD, hK⟩ := FD.ex
  rcases hD with ⟨_, rfl⟩ | ⟨e, _⟩
  · exact .of_eq (h kV doc pm an cdv ct)
  · exact absurd rfl e
end
end Rc

set_option Elab.async false
set_option linter.all false
set_option maxRecDepth 100000
set_option maxHeartbeats 4000000
namespace Rc
open PySem PySem.Spec L2
open PyProof.Rows hiding St

/-! ### running a mirror by simp -/
section
variable {α β : Type}
structure Tg {X : Type} (x : X) : Type where
def R.bd {α β : Type} (r : R α) (k : α → Mem → R β) (_ : Tg k := ⟨⟩) : R β := r.bind k
def R.ts {α : Type} (r : R α) (k : α → Mem → SR) (_ : Tg k := ⟨⟩) : SR := r.toS k
def SR.sq (r : SR) (k : Sl → Mem → SR) (_ : Tg k := ⟨⟩) : SR := r.seq k
@[simp] theorem bind_ok (a : α) (m : Mem) (k : α → Mem → R β) (t : Tg k) : (R.ok a m).bd k t = k a m := id rfl
@[simp] theorem bind_stuck (k : α → Mem → R β) (t : Tg k) : (R.stuck : R α).bd k t = .stuck := id rfl
@[simp] theorem toS_ok (a : α) (m : Mem) (k : α → Mem → SR) (t : Tg k) : (R.ok a m).ts k t = k a m := id rfl
@[simp] theorem toS_stuck (k : α → Mem → SR) (t : Tg k) : (R.stuck : R α).ts k t = .stuck := id rfl
@[simp] theorem seq_nx (s : Sl) (m : Mem) (k : Sl → Mem → SR) (t : Tg k) : (SR.nx s m).sq k t = k s m := id rfl
@[simp] theorem seq_rt (r : FR) (k : Sl → Mem → SR) (t : Tg k) : (SR.rt r).sq k t = .rt r := id rfl
@[simp] theorem seq_bk (s : Sl) (m : Mem) (k : Sl → Mem → SR) (t : Tg k) : (SR.bk s m).sq k t = .bk s m := id rfl
@[simp] theorem seq_ct (s : Sl) (m : Mem) (k : Sl → Mem → SR) (t : Tg k) : (SR.ct s m).sq k t = .ct s m := id rfl
@[simp] theorem seq_stuck (k : Sl → Mem → SR) (t : Tg k) : SR.stuck.sq k t = .stuck := id rfl
@[simp] theorem bind_ite {c : Prop} [Decidable c] (a b : R α) (k : α → Mem → R β) (t : Tg k) : (if c then a else b).bd k t = if c then a.bd k t else b.bd k t := by split <;> rfl
@[simp] theorem toS_ite {c : Prop} [Decidable c] (a b : R α) (k : α → Mem → SR) (t : Tg k) : (if c then a else b).ts k t = if c then a.ts k t else b.ts k t := by split <;> rfl
@[simp] theorem seq_ite {c : Prop} [Decidable c] (a b : SR) (k : Sl → Mem → SR) (t : Tg k) : (if c then a else b).sq k t = if c then a.sq k t else b.sq k t := by split <;> rfl
end
def slotR (o : Option (Option SV)) (m : Mem) : R OV := match o with
  | some (some (.v x)) => .ok (.v x) m
  | some (some (.own o)) => .ok (.b o) m
  | _ => .stuck
@[simp] theorem slotR_v (x : MV) (m : Mem) : slotR (some (some (.v x))) m = .ok (.v x) m := id rfl
@[simp] theorem slotR_o (x : MO) (m : Mem) : slotR (some (some (.own x))) m = .ok (.b x) m := id rfl
def retR (r : FR) : R OV := match r with
  | .ok x m' => .ok (.v x) m'
  | .new o m' => .ok (.v (frz o)) m'
  | .exc c fs m' => .exc c fs m'
  | .stuck => .stuck
@[simp] theorem retR_ok (x : MV) (m : Mem) : retR (.ok x m) = .ok (.v x) m := id rfl
@[simp] theorem retR_new (x : MO) (m : Mem) : retR (.new x m) = .ok (.v (frz x)) m := id rfl
@[simp] theorem frz_lst (xs : List MV) : frz (.lst xs) = .lst xs := id rfl
def newR (r : FR) : R OV := match r with
  | .new o m' => .ok (.v (.ref m'.length)) (m' ++ [some o])
  | _ => .stuck
@[simp] theorem newR_new (x : MO) (m : Mem) : newR (.new x m) = .ok (.v (.ref m.length)) (m ++ [some x]) := id rfl
@[simp] theorem vals_nil : vals [] = some [] := id rfl
@[simp] theorem vals_cons (x : MV) (r : List OV) : vals (.v x :: r) = (vals r).map (x :: ·) := id rfl
def cvR (M : Mir) (o : Option (List MV)) (m : Mem) : R OV := match o with
  | some xs => retR (M xs m)
  | none => .stuck
@[simp] theorem cvR_s (M : Mir) (xs : List MV) (m : Mem) : cvR M (some xs) m = retR (M xs m) := id rfl
@[simp] theorem callV_eq (M : Mir) (as : List OV) (m : Mem) : callV M as m = cvR M (vals as) m := by
  unfold callV cvR
  cases vals as with
  | none => rfl
  | some xs => dsimp only; unfold retR; cases M xs m <;> rfl
def cvK (M : Mir) (ixs : List Nat) (o : Option (List MV)) (m : Mem) : R OV := match o with
  | some xs => retR (M (ixs.map fun i => xs.getD i .non) m)
  | none => .stuck
@[simp] theorem cvK_s (M : Mir) (ixs : List Nat) (xs : List MV) (m : Mem) : cvK M ixs (some xs) m = retR (M (ixs.map fun i => xs.getD i .non) m) := id rfl
def cnR (M : Mir) (o : Option (List MV)) (m : Mem) : R OV := match o with
  | some xs => newR (M xs m)
  | none => .stuck
@[simp] theorem cnR_s (M : Mir) (xs : List MV) (m : Mem) : cnR M (some xs) m = newR (M xs m) := id rfl
@[simp] theorem callN_eq (M : Mir) (as : List OV) (m : Mem) : callN M as m = cnR M (vals as) m := by
  unfold callN cnR
  cases vals as with
  | none => rfl
  | some xs => dsimp only; unfold newR; cases M xs m <;> rfl
section
variable (Fs : List Fn) (s : Sl) (m : Mem)
@[simp] theorem ev_slot (i : Nat) : ev Fs (.slot i) s m = slotR s[i]? m := id rfl
@[simp] theorem ev_cN : ev Fs .cN s m = .ok (.v .non) m := id rfl
@[simp] theorem ev_cB (b : Bool) : ev Fs (.cB b) s m = .ok (.v (.bl b)) m := id rfl
@[simp] theorem ev_cI (b : Int) : ev Fs (.cI b) s m = .ok (.v (.int b)) m := id rfl
@[simp] theorem ev_cS (b : Str) : ev Fs (.cS b) s m = .ok (.v (.str b)) m := id rfl
@[simp] theorem ev_glob (x : Str) (v : MV) : ev Fs (.glob x v) s m = .ok (.v v) m := id rfl
@[simp] theorem ev_bin (op : O2) (a b : ME) : ev Fs (.bin op a b) s m = (ev Fs a s m).bd fun x m => (ev Fs b s m).bd fun y m => bopF op x y m := id rfl
@[simp] theorem ev_neg (a : ME) : ev Fs (.neg a) s m = (ev Fs a s m).bd fun x m => negO x m := id rfl
@[simp] theorem ev_cmp (op : C2) (a b : ME) : ev Fs (.cmp op a b) s m = (ev Fs a s m).bd fun x m => (ev Fs b s m).bd fun y m => cmpF op x y m := id rfl
@[simp] theorem ev_chain (op op' : C2) (a b c : ME) : ev Fs (.chain op op' a b c) s m = (ev Fs a s m).bd fun x m => (ev Fs b s m).bd fun y m => (cmpF op x y m).bd fun z m => (asBl z m).bd fun k m =>
      if k = true then (ev Fs c s m).bd fun w m => cmpF op' y w m else .ok (.v (.bl false)) m := id rfl
@[simp] theorem ev_andV (a b : ME) : ev Fs (.andV a b) s m = (ev Fs a s m).bd fun x m => (asBl x m).bd fun k m => if k = true then ev Fs b s m else .ok (.v (.bl false)) m := id rfl
@[simp] theorem ev_orV (a b : ME) : ev Fs (.orV a b) s m = (ev Fs a s m).bd fun x m => (asBl x m).bd fun k m => if k = true then .ok (.v (.bl true)) m else ev Fs b s m := id rfl
@[simp] theorem ev_notV (a : ME) : ev Fs (.notV a) s m = (ev Fs a s m).bd fun x m => (asBl x m).bd fun k m => .ok (.v (.bl (!k))) m := id rfl
@[simp] theorem ev_ite (t : MT) (a b : ME) : ev Fs (.ite t a b) s m = (evT Fs t s m).bd fun k m => if k = true then ev Fs a s m else ev Fs b s m := id rfl
@[simp] theorem ev_tup (es : MEs) : ev Fs (.tup es) s m = (evs Fs es s m).bd fun xs m => match vals xs with
    | some ys => if ys.length ≤ sizeLine then .ok (.v (.tup ys)) m else .stuck
    | none => .stuck := id rfl
@[simp] theorem ev_fr (f : MF) : ev Fs (.fr f) s m = (evF Fs f s m).bd fun o m => .ok (.v (frz o)) m := id rfl
@[simp] theorem ev_ix (a i : ME) : ev Fs (.ix a i) s m = (ev Fs a s m).bd fun x m => (ev Fs i s m).bd fun y m => ixF x y m := id rfl
@[simp] theorem ev_sl (a : ME) (lo hi : MP) : ev Fs (.sl a lo hi) s m = (ev Fs a s m).bd fun x m => (evP Fs lo s m).bd fun l m => (evP Fs hi s m).bd fun h m => slF x l h m := id rfl
@[simp] theorem ev_bi (b : BI) (e : ME) : ev Fs (.bi b e) s m = (ev Fs e s m).bd fun x m => biF b x m := id rfl
@[simp] theorem ev_join (o e : ME) : ev Fs (.join o e) s m = (ev Fs o s m).bd fun x m => (ev Fs e s m).bd fun y m => joinF x y m := id rfl
@[simp] theorem ev_isi (a : ME) (ts : List Ty) (o : Bool) : ev Fs (.isi a ts o) s m = (ev Fs a s m).bd fun x m => isiF ts x m := id rfl
@[simp] theorem evs_nil : evs Fs .nil s m = .ok [] m := id rfl
@[simp] theorem evs_cons (e : ME) (es : MEs) : evs Fs (.cons e es) s m = (ev Fs e s m).bd fun x m => (evs Fs es s m).bd fun xs m => .ok (x :: xs) m := id rfl
@[simp] theorem evP_none : evP Fs .none s m = .ok none m := id rfl
def pI (x : OV) (m : Mem) : R (Option Int) := match x with
    | .v (.int i) => .ok (some i) m
    | _ => .stuck
@[simp] theorem pI_i (i : Int) : pI (.v (.int i)) m = .ok (some i) m := id rfl
@[simp] theorem evP_some (e : ME) : evP Fs (.some e) s m = (ev Fs e s m).bd fun x m => pI x m := id rfl
@[simp] theorem evT_val (e : ME) : evT Fs (.val e) s m = (ev Fs e s m).bd fun x m => truR x m := id rfl
@[simp] theorem evT_cmp (op : C2) (a b : ME) : evT Fs (.cmp op a b) s m = (ev Fs a s m).bd fun x m => (ev Fs b s m).bd fun y m => (cmpF op x y m).bd fun z m => asBl z m := id rfl
@[simp] theorem evT_chain (op op' : C2) (a b c : ME) : evT Fs (.chain op op' a b c) s m = (ev Fs a s m).bd fun x m => (ev Fs b s m).bd fun y m => (cmpF op x y m).bd fun z m => (asBl z m).bd fun k m =>
      if k = true then (ev Fs c s m).bd fun w m => (cmpF op' y w m).bd fun z m => asBl z m else .ok false m := id rfl
@[simp] theorem evT_and (a b : MT) : evT Fs (.and a b) s m = (evT Fs a s m).bd fun k m => if k = true then evT Fs b s m else .ok false m := id rfl
@[simp] theorem evT_or (a b : MT) : evT Fs (.or a b) s m = (evT Fs a s m).bd fun k m => if k = true then .ok true m else evT Fs b s m := id rfl
@[simp] theorem evT_not (a : MT) : evT Fs (.not a) s m = (evT Fs a s m).bd fun k m => .ok (!k) m := id rfl
@[simp] theorem evF_lst (es : MEs) : evF Fs (.lst es) s m = (evs Fs es s m).bd fun xs m => match vals xs with
    | some ys => if ys.length ≤ sizeLine then .ok (.lst ys) m else .stuck
    | none => .stuck := id rfl
@[simp] theorem evF_comp (own : List Nat) (tg : MG) (it : MI) (ifs : MTs) (e : ME) : evF Fs (.comp own tg it ifs e) s m = (evI Fs it s m).bd fun xs m =>
      (compM (compTurnF own tg (evTs Fs ifs) (ev Fs e) s) xs [] m).bd fun ys m => .ok (.lst ys) m := id rfl
@[simp] theorem evF_toList (e : ME) : evF Fs (.toList e) s m = (ev Fs e s m).bd fun x m => toListF x m := id rfl
@[simp] theorem evI_seq (e : ME) : evI Fs (.seq e) s m = (ev Fs e s m).bd fun x m => seqA m x := id rfl
def rg1 (x : OV) (m : Mem) : R (List MV) := match x with
    | .v (.int j) => if -(2 ^ 62) ≤ j ∧ j < 2 ^ 62 then .ok (rangeM 0 j.toNat) m else .stuck
    | _ => .stuck
def rg2 (x y : OV) (m : Mem) : R (List MV) := match x, y with
    | .v (.int i), .v (.int j) => if -(2 ^ 62) ≤ i ∧ i < 2 ^ 62 ∧ -(2 ^ 62) ≤ j ∧ j < 2 ^ 62 then .ok (rangeM i (j - i).toNat) m else .stuck
    | _, _ => .stuck
@[simp] theorem rg1_i (j : Int) : rg1 (.v (.int j)) m = if -(2 ^ 62) ≤ j ∧ j < 2 ^ 62 then .ok (rangeM 0 j.toNat) m else .stuck := id rfl
@[simp] theorem rg2_i (i j : Int) : rg2 (.v (.int i)) (.v (.int j)) m = if -(2 ^ 62) ≤ i ∧ i < 2 ^ 62 ∧ -(2 ^ 62) ≤ j ∧ j < 2 ^ 62 then .ok (rangeM i (j - i).toNat) m else .stuck := id rfl
@[simp] theorem evI_range1 (e : ME) : evI Fs (.range1 e) s m = (ev Fs e s m).bd fun x m => rg1 x m := id rfl
@[simp] theorem evI_range2 (a b : ME) : evI Fs (.range2 a b) s m = (ev Fs a s m).bd fun x m => (ev Fs b s m).bd fun y m => rg2 x y m := id rfl
@[simp] theorem evI_zip (a b : ME) : evI Fs (.zip a b) s m = (ev Fs a s m).bd fun x m => (ev Fs b s m).bd fun y m => seqZ m x y := id rfl
@[simp] theorem evTs_nil : evTs Fs .nil s m = .ok true m := id rfl
@[simp] theorem evTs_one (t : MT) : evTs Fs (.one t) s m = evT Fs t s m := id rfl
/-! statements -/
@[simp] theorem toV_v (x : MV) : toV (.v x) m = .ok x m := id rfl
@[simp] theorem ex_set (i : Nat) (e : ME) : ex Fs (.set i e) s m = (ev Fs e s m).ts fun x m => (toV x m).ts fun x m => .nx (s.set i (some (.v x))) m := id rfl
@[simp] theorem ex_setOwn (i : Nat) (f : MF) : ex Fs (.setOwn i f) s m = (evF Fs f s m).ts fun o m => if i < s.length then .nx (s.set i (some (.own o))) m else .stuck := id rfl
@[simp] theorem ex_par (i j : Nat) (a b : ME) : ex Fs (.par i j a b) s m = (ev Fs a s m).ts fun x m => (ev Fs b s m).ts fun y m => (toV x m).ts fun x m => (toV y m).ts fun y m => .nx ((s.set i (some (.v x))).set j (some (.v y))) m := id rfl
def nxO (o : Option Sl) (m : Mem) : SR := match o with
  | some s => .nx s m
  | none => .stuck
@[simp] theorem nxO_s (s : Sl) : nxO (some s) m = .nx s m := id rfl
@[simp] theorem ex_tupSet (is : List Nat) (e : ME) : ex Fs (.tupSet is e) s m = (ev Fs e s m).ts fun x m => (toV x m).ts fun x m => nxO (assignG (.tup is) x s) m := by
  show _ = (ev Fs e s m).ts fun x m => (toV x m).ts fun x m => match assignG (.tup is) x s with
    | some s => .nx s m
    | none => .stuck
  rfl
def nxM (o : Option Mem) (s : Sl) : SR := match o with
  | some m => .nx s m
  | none => .stuck
@[simp] theorem nxM_s (m : Mem) : nxM (some m) s = .nx s m := id rfl
@[simp] theorem ex_ixSet (o i e : ME) : ex Fs (.ixSet o i e) s m = (ev Fs e s m).ts fun x m => (ev Fs o s m).ts fun o m => (ev Fs i s m).ts fun i m => (toV x m).ts fun x m => nxM (ixSetF o i x m) s := id rfl
@[simp] theorem ex_ifs (t : MT) (a b : MSs) : ex Fs (.ifs t a b) s m = (evT Fs t s m).ts fun k m => if k = true then exs Fs a s m else exs Fs b s m := id rfl
@[simp] theorem ex_ret (e : ME) : ex Fs (.ret e) s m = (ev Fs e s m).ts fun x m => (toV x m).ts fun x m => .rt (.ok x m) := id rfl
@[simp] theorem ex_retN : ex Fs .retN s m = .rt (.ok .non m) := id rfl
@[simp] theorem ex_retF (f : MF) : ex Fs (.retF f) s m = (evF Fs f s m).ts fun o m => .rt (.new o m) := id rfl
def retO (o : Option (Option SV)) (m : Mem) : SR := match o with
    | some (some (.own o)) => .rt (.new o m)
    | _ => .stuck
@[simp] theorem retO_o (o : MO) : retO (some (some (.own o))) m = .rt (.new o m) := id rfl
@[simp] theorem ex_retOwn (i : Nat) : ex Fs (.retOwn i) s m = retO s[i]? m := id rfl
def turnS (tg : MG) (body : MSs) : MV → Sl → Mem → SR := fun x s m => match assignG tg x s with
    | some s => exs Fs body s m
    | none => .stuck
def asR (o : Option Sl) (k : Sl → SR) (_ : Tg k := ⟨⟩) : SR := match o with
  | some s => k s
  | none => .stuck
@[simp] theorem asR_s (k : Sl → SR) (t : Tg k) : asR (some s) k t = k s := id rfl
@[simp] theorem turnS_eq (tg : MG) (body : MSs) (x : MV) : turnS Fs tg body x s m = asR (assignG tg x s) fun s => exs Fs body s m := id rfl
@[simp] theorem ex_loop (tg : MG) (it : MI) (body : MSs) : ex Fs (.loop tg it body) s m = (evI Fs it s m).ts fun xs m => forS (turnS Fs tg body) xs s m := id rfl
@[simp] theorem ex_brk : ex Fs .brk s m = .bk s m := id rfl
@[simp] theorem ex_cont : ex Fs .cont s m = .ct s m := id rfl
@[simp] theorem ex_pass : ex Fs .pass s m = .nx s m := id rfl
@[simp] theorem ex_expr (e : ME) : ex Fs (.expr e) s m = (ev Fs e s m).ts fun _ m => .nx s m := id rfl
def ownL (o : Option (Option SV)) : Option (List MV) := match o with
  | some (some (.own (.lst xs))) => some xs
  | _ => none
@[simp] theorem ownL_o (xs : List MV) : ownL (some (some (.own (.lst xs)))) = some xs := id rfl
@[simp] theorem ex_app (i : Nat) (e : ME) : ex Fs (.app i e) s m = match ownL s[i]? with
    | some xs => (ev Fs e s m).ts fun x m => (toV x m).ts fun x m => if xs.length < sizeLine then .nx (s.set i (some (.own (.lst (xs ++ [x]))))) m else .stuck
    | none => .stuck := by
  show (match s[i]? with
    | some (some (.own (.lst xs))) => (ev Fs e s m).ts fun x m => (toV x m).ts fun x m => if xs.length < sizeLine then .nx (s.set i (some (.own (.lst (xs ++ [x]))))) m else .stuck
    | _ => .stuck) = _
  unfold ownL
  split
  · rfl
  · rename_i h
    split
    · rename_i e2
      cases e2
    · rfl
@[simp] theorem exs_nil : exs Fs .nil s m = .nx s m := id rfl
@[simp] theorem exs_cons (a : MS) (r : MSs) : exs Fs (.cons a r) s m = (ex Fs a s m).sq fun s m => exs Fs r s m := id rfl
theorem ev_call (i : Nat) (es : MEs) : ev Fs (.call i es) s m = (evs Fs es s m).bd fun xs m => callV (Fs.getD i default).M xs m := id rfl
end
/-! operations -/
section
variable (m : Mem)
@[simp] theorem addO_i (i j : Int) : addO (.v (.int i)) (.v (.int j)) m = .ok (.v (.int (i + j))) m := id rfl
@[simp] theorem addO_s (x y : Str) : addO (.v (.str x)) (.v (.str y)) m = if x.length + y.length ≤ sizeLine then .ok (.v (.str (x ++ y))) m else .stuck := id rfl
@[simp] theorem addO_l (xs ys : List MV) : addO (.v (.lst xs)) (.v (.lst ys)) m = if xs.length + ys.length ≤ sizeLine then .ok (.v (.lst (xs ++ ys))) m else .stuck := id rfl
@[simp] theorem subO_i (i j : Int) : subO (.v (.int i)) (.v (.int j)) m = .ok (.v (.int (i - j))) m := id rfl
@[simp] theorem mulO_i (i j : Int) : mulO (.v (.int i)) (.v (.int j)) m = if (-(2 ^ 64) < i ∧ i < 2 ^ 64) ∨ (-(2 ^ 64) < j ∧ j < 2 ^ 64) then .ok (.v (.int (i * j))) m else .stuck := id rfl
theorem fdivO_i (i j : Int) : fdivO (.v (.int i)) (.v (.int j)) m = if 0 < j ∧ j.natAbs.log2 < 9000 then .ok (.v (.int (i / j))) m else .stuck := rfl
@[simp] theorem fdivO_64 (i j : Int) (h : 0 < j ∧ j < 2 ^ 64) : fdivO (.v (.int i)) (.v (.int j)) m = .ok (.v (.int (i / j))) m := by
  rw [fdivO_i, if_pos]
  refine ⟨h.1, ?_⟩
  have h3 : j.natAbs < 2 ^ 64 := by omega
  have := Nat.log2_lt (n := j.natAbs) (k := 64) (by omega) |>.mpr h3
  omega
@[simp] theorem modO_i (i j : Int) : modO (.v (.int i)) (.v (.int j)) m = if 0 < j then .ok (.v (.int (i % j))) m else .stuck := id rfl
@[simp] theorem powO_i (i j : Int) : powO (.v (.int i)) (.v (.int j)) m = if 0 ≤ j ∧ j ≤ 1000000 ∧ i.natAbs < 2 ^ 64 then .ok (.v (.int (i ^ j.toNat))) m else .stuck := id rfl
@[simp] theorem negO_i (i : Int) : negO (.v (.int i)) m = .ok (.v (.int (-i))) m := id rfl
@[simp] theorem blO_s (b : Bool) : blO m (some b) = .ok (.v (.bl b)) m := id rfl
@[simp] theorem eqO_v (x y : MV) : eqO (.v x) (.v y) m = blO m (eqS x y) := id rfl
@[simp] theorem neO_v (x y : MV) : neO (.v x) (.v y) m = blO m ((eqS x y).map (!·)) := id rfl
@[simp] theorem eqS_ii (i j : Int) : eqS (.int i) (.int j) = some (decide (i = j)) := id rfl
@[simp] theorem eqS_bb (i j : Bool) : eqS (.bl i) (.bl j) = some (i == j) := id rfl
@[simp] theorem eqS_ss (i j : Str) : eqS (.str i) (.str j) = some (decide (i = j)) := id rfl
@[simp] theorem ltO_i (i j : Int) : ltO (.v (.int i)) (.v (.int j)) m = .ok (.v (.bl (decide (i < j)))) m := id rfl
@[simp] theorem leO_i (i j : Int) : leO (.v (.int i)) (.v (.int j)) m = .ok (.v (.bl (decide (i ≤ j)))) m := id rfl
@[simp] theorem gtO_i (i j : Int) : gtO (.v (.int i)) (.v (.int j)) m = .ok (.v (.bl (decide (j < i)))) m := id rfl
@[simp] theorem geO_i (i j : Int) : geO (.v (.int i)) (.v (.int j)) m = .ok (.v (.bl (decide (j ≤ i)))) m := id rfl
@[simp] theorem isO_n (a : OV) : isO a (.v .non) m = blO m (isN a) := id rfl
@[simp] theorem isO_b (c d : Bool) : isO (.v (.bl d)) (.v (.bl c)) m = .ok (.v (.bl (d == c))) m := id rfl
@[simp] theorem isntO_n (a : OV) : isntO a (.v .non) m = blO m ((isN a).map (!·)) := id rfl
@[simp] theorem isntO_b (c d : Bool) : isntO (.v (.bl d)) (.v (.bl c)) m = .ok (.v (.bl (!(d == c)))) m := id rfl
@[simp] theorem inO_e (a b : OV) : inO a b m = blO m (inB m a b) := id rfl
@[simp] theorem notinO_e (a b : OV) : notinO a b m = blO m ((inB m a b).map (!·)) := id rfl
@[simp] theorem asBl_b (b : Bool) : asBl (.v (.bl b)) m = .ok b m := id rfl
@[simp] theorem bopF_add : bopF .add = addO := id rfl
@[simp] theorem bopF_sub : bopF .sub = subO := id rfl
@[simp] theorem bopF_mul : bopF .mul = mulO := id rfl
@[simp] theorem bopF_fdiv : bopF .fdiv = fdivO := id rfl
@[simp] theorem bopF_mod : bopF .mod = modO := id rfl
@[simp] theorem bopF_pow : bopF .pow = powO := id rfl
@[simp] theorem cmpF_eq : cmpF .eq = eqO := id rfl
@[simp] theorem cmpF_ne : cmpF .ne = neO := id rfl
@[simp] theorem cmpF_lt : cmpF .lt = ltO := id rfl
@[simp] theorem cmpF_le : cmpF .le = leO := id rfl
@[simp] theorem cmpF_gt : cmpF .gt = gtO := id rfl
@[simp] theorem cmpF_ge : cmpF .ge = geO := id rfl
@[simp] theorem cmpF_is : cmpF .is_ = isO := id rfl
@[simp] theorem cmpF_isnt : cmpF .isnt = isntO := id rfl
@[simp] theorem cmpF_in : cmpF .in_ = inO := id rfl
@[simp] theorem cmpF_notin : cmpF .notin = notinO := id rfl
@[simp] theorem memL_z (xs : List MV) (r : Mem) : memL (some (.lst xs) :: r) 0 = some xs := id rfl
@[simp] theorem memL_s (o : Option MO) (r : Mem) (n : Nat) : memL (o :: r) (n + 1) = memL r n := by simp [memL]
def ixL (o : Option MV) (m : Mem) : R OV := match o with
  | some x => .ok (.v x) m
  | none => .stuck
@[simp] theorem ixL_s (x : MV) : ixL (some x) m = .ok (.v x) m := id rfl
@[simp] theorem ixL_n : ixL none m = .stuck := id rfl
def ixRef (o : Option (List MV)) (k : Int) (m : Mem) : R OV := match o with
  | some xs => ixL (atI xs k) m
  | none => .stuck
@[simp] theorem ixRef_s (xs : List MV) (k : Int) : ixRef (some xs) k m = ixL (atI xs k) m := id rfl
@[simp] theorem ixF_lst (xs : List MV) (k : Int) : ixF (.v (.lst xs)) (.v (.int k)) m = ixL (atI xs k) m := id rfl
@[simp] theorem ixF_kl (xs : List MV) (k : Int) : ixF (.v (.kl xs)) (.v (.int k)) m = ixL (atI xs k) m := id rfl
@[simp] theorem ixF_tup (xs : List MV) (k : Int) : ixF (.v (.tup xs)) (.v (.int k)) m = ixL (atI xs k) m := id rfl
@[simp] theorem ixF_b (xs : List MV) (k : Int) : ixF (.b (.lst xs)) (.v (.int k)) m = ixL (atI xs k) m := id rfl
@[simp] theorem ixF_str (z : Str) (k : Int) : ixF (.v (.str z)) (.v (.int k)) m = if z.length ≤ sizeLine then ixL ((atI z.cps.toList k).map fun c => .str ⟨#[c]⟩) m else .stuck := by
  show (if z.length ≤ sizeLine then (match atI z.cps.toList k with
      | some c => R.ok (OV.v (.str ⟨#[c]⟩)) m
      | none => .stuck) else .stuck) = _
  cases atI z.cps.toList k <;> rfl
@[simp] theorem ixF_ref (n : Nat) (k : Int) : ixF (.v (.ref n)) (.v (.int k)) m = ixRef (memL m n) k m := by
  show (match (memL m n).map Sq.l with
    | some (.l xs) => (match atI xs k with
      | some x => R.ok (OV.v x) m
      | none => .stuck)
    | some (.t xs) => (match atI xs k with
      | some x => .ok (.v x) m
      | none => .stuck)
    | some (.s z) => if z.length ≤ sizeLine then (match atI z.cps.toList k with
      | some c => .ok (.v (.str ⟨#[c]⟩)) m
      | none => .stuck) else .stuck
    | none => .stuck) = _
  cases memL m n <;> rfl
theorem atI_nat {α : Type} (xs : List α) (n : Nat) : atI xs (n : Int) = xs[n]? := by
  unfold atI ixN
  by_cases h : n < xs.length
  · simp [h]
  · simp [h, List.getElem?_eq_none (Nat.not_lt.mp h)]
@[simp] theorem atI_cast {α : Type} (xs : List α) (n : Nat) : atI xs (n : Int) = xs[n]? := atI_nat xs n
@[simp] theorem atI_lit {α : Type} (xs : List α) (n : Nat) : atI xs (no_index (OfNat.ofNat n) : Int) = xs[n]? := atI_nat xs n
@[simp] theorem ixN_lit (k n : Nat) : ixN k (no_index (OfNat.ofNat n) : Int) = if n < k then some n else none := by
  show ixN k ((n : Nat) : Int) = _
  unfold ixN
  simp
def setM (o : Option (List MV)) (n : Nat) (k : Int) (x : MV) (m : Mem) : Option Mem := match o with
  | some xs => (match ixN xs.length k with
    | some j => some (m.set n (some (.lst (xs.set j x))))
    | none => none)
  | none => none
@[simp] theorem setM_s (xs : List MV) (n : Nat) (k : Int) (x : MV) : setM (some xs) n k x m = (ixN xs.length k).map fun j => m.set n (some (.lst (xs.set j x))) := by
  unfold setM
  dsimp only
  cases ixN xs.length k <;> rfl
@[simp] theorem ixSetF_r (n : Nat) (k : Int) (x : MV) : ixSetF (.v (.ref n)) (.v (.int k)) x m = setM (memL m n) n k x m := by
  show (match memL m n with
    | some xs => (match ixN xs.length k with
      | some j => some (m.set n (some (.lst (xs.set j x))))
      | none => none)
    | none => none) = _
  cases memL m n <;> rfl
@[simp] theorem len_lst (xs : List MV) : biF .len (.v (.lst xs)) m = .ok (.v (.int xs.length)) m := id rfl
@[simp] theorem len_kl (xs : List MV) : biF .len (.v (.kl xs)) m = .ok (.v (.int xs.length)) m := id rfl
@[simp] theorem len_tup (xs : List MV) : biF .len (.v (.tup xs)) m = .ok (.v (.int xs.length)) m := id rfl
@[simp] theorem len_b (xs : List MV) : biF .len (.b (.lst xs)) m = .ok (.v (.int xs.length)) m := id rfl
@[simp] theorem len_str (z : Str) : biF .len (.v (.str z)) m = if z.length ≤ sizeLine then .ok (.v (.int z.length)) m else .stuck := id rfl
@[simp] theorem int_i (i : Int) : biF .int (.v (.int i)) m = .ok (.v (.int i)) m := id rfl
@[simp] theorem abs_i (i : Int) : biF .abs (.v (.int i)) m = .ok (.v (.int (if i < 0 then -i else i))) m := id rfl
def allR (o : Option (List Bool)) (m : Mem) : R OV := match o with
  | some bs => .ok (.v (.bl (bs.all id))) m
  | none => .stuck
@[simp] theorem allR_s (bs : List Bool) : allR (some bs) m = .ok (.v (.bl (bs.all id))) m := id rfl
@[simp] theorem all_l (xs : List MV) : biF .all (.v (.lst xs)) m = allR (blsM xs) m := id rfl
def sumR (o : Option (List Int)) (m : Mem) : R OV := match o with
  | some bs => .ok (.v (.int bs.sum)) m
  | none => .stuck
@[simp] theorem sumR_s (bs : List Int) : sumR (some bs) m = .ok (.v (.int bs.sum)) m := id rfl
@[simp] theorem sum_l (xs : List MV) : biF .sum (.v (.lst xs)) m = sumR (intsM xs) m := id rfl
@[simp] theorem tuple_l (xs : List MV) : biF .tuple (.v (.lst xs)) m = .ok (.v (.tup xs)) m := id rfl
@[simp] theorem toListF_l (xs : List MV) : toListF (.v (.lst xs)) m = .ok (.lst xs) m := id rfl
@[simp] theorem toListF_k (xs : List MV) : toListF (.v (.kl xs)) m = .ok (.lst xs) m := id rfl
@[simp] theorem toListF_t (xs : List MV) : toListF (.v (.tup xs)) m = .ok (.lst xs) m := id rfl
@[simp] theorem slF_l (xs : List MV) (lo hi : Option Int) : slF (.v (.lst xs)) lo hi m = .ok (.v (.lst (cutM xs lo hi))) m := id rfl
@[simp] theorem slF_k (xs : List MV) (lo hi : Option Int) : slF (.v (.kl xs)) lo hi m = .ok (.v (.lst (cutM xs lo hi))) m := id rfl
@[simp] theorem seqA_l (xs : List MV) : seqA m (.v (.lst xs)) = .ok xs m := id rfl
@[simp] theorem seqA_k (xs : List MV) : seqA m (.v (.kl xs)) = .ok xs m := id rfl
@[simp] theorem seqA_t (xs : List MV) : seqA m (.v (.tup xs)) = .ok xs m := id rfl
@[simp] theorem seqA_s (z : Str) : seqA m (.v (.str z)) = .ok (signs z) m := id rfl
@[simp] theorem seqZ_l (xs ys : List MV) : seqZ m (.v (.lst xs)) (.v (.lst ys)) = .ok (zipM xs ys) m := id rfl
@[simp] theorem seqZ_t (xs ys : List MV) : seqZ m (.v (.tup xs)) (.v (.tup ys)) = .ok (zipM xs ys) m := id rfl
@[simp] theorem truR_n : truR (.v .non) m = .ok false m := id rfl
@[simp] theorem truR_b (b : Bool) : truR (.v (.bl b)) m = .ok b m := id rfl
@[simp] theorem truR_i (b : Int) : truR (.v (.int b)) m = .ok (b != 0) m := id rfl
@[simp] theorem truR_l (xs : List MV) : truR (.v (.lst xs)) m = .ok (!xs.isEmpty) m := id rfl
@[simp] theorem truR_t (xs : List MV) : truR (.v (.tup xs)) m = .ok (!xs.isEmpty) m := id rfl
@[simp] theorem isiF_v (ts : List Ty) (x : MV) : isiF ts (.v x) m = blO m (isiAny x ts) := id rfl
@[simp] theorem assignG_n (i : Nat) (x : MV) (s : Sl) : assignG (.name i) x s = some (s.set i (some (.v x))) := id rfl
@[simp] theorem assignG_t (is : List Nat) (xs : List MV) (s : Sl) : assignG (.tup is) (.tup xs) s = setAll s is xs := id rfl
@[simp] theorem setAll_n (s : Sl) : setAll s [] [] = some s := id rfl
@[simp] theorem setAll_c (s : Sl) (i : Nat) (is : List Nat) (x : MV) (xs : List MV) : setAll s (i :: is) (x :: xs) = setAll (s.set i (some (.v x))) is xs := id rfl
@[simp] theorem wipeS_n (s : Sl) : wipeS s [] = s := id rfl
@[simp] theorem wipeS_c (s : Sl) (v : Nat) (vs : List Nat) : wipeS s (v :: vs) = (wipeS s vs).set v none := id rfl
end
def asC (o : Option Sl) (k : Sl → R (Option MV)) (_ : Tg k := ⟨⟩) : R (Option MV) := match o with
  | some s => k s
  | none => .stuck
@[simp] theorem asC_s (s : Sl) (k : Sl → R (Option MV)) (t : Tg k) : asC (some s) k t = k s := id rfl
def vlR (y : OV) (m : Mem) : R (Option MV) := match valO y with
    | some y => .ok (some y) m
    | none => .stuck
@[simp] theorem vlR_v (y : MV) (m : Mem) : vlR (.v y) m = .ok (some y) m := id rfl
@[simp] theorem compTurnF_eq (own : List Nat) (tg : MG) (ft : Sl → Mem → R Bool) (fe : Sl → Mem → R OV) (s : Sl) (x : MV) (m : Mem) : compTurnF own tg ft fe s x m = asC (assignG tg x (wipeS s own)) fun s2 => (ft s2 m).bd fun k m => if k = true then (fe s2 m).bd fun y m => vlR y m else .ok none m := id rfl
/-- a comprehension that changes nothing -/
theorem compM_map {f : MV → Mem → R (Option MV)} {h : MV → MV} {m : Mem} : ∀ {xs acc : List MV}, (∀ x ∈ xs, f x m = .ok (some (h x)) m) → acc.length + xs.length ≤ sizeLine → compM f xs acc m = .ok (acc ++ xs.map h) m
  | [], acc, _, _ => by simp [compM]
  | x :: xs, acc, hf, hl => by
    unfold compM
    rw [hf x List.mem_cons_self]
    show (if acc.length < sizeLine then compM f xs (acc ++ [h x]) m else .stuck) = _
    rw [List.length_cons] at hl
    rw [if_pos (by omega), compM_map (fun y hy => hf y (List.mem_cons_of_mem _ hy)) (by simp; omega)]
    simp
/-- what a def's mirror gives -/
def runR (r : SR) : FR := match r with
  | .nx _ m => .ok .non m
  | .rt r => r
  | _ => .stuck
@[simp] theorem runR_rt (r : FR) : runR (.rt r) = r := id rfl
@[simp] theorem runR_nx (s : Sl) (m : Mem) : runR (.nx s m) = .ok .non m := id rfl
@[simp] theorem runR_ite {c : Prop} [Decidable c] (a b : SR) : runR (if c then a else b) = if c then runR a else runR b := by split <;> rfl
theorem runD_eq (Fs : List Fn) (n : Nat) (B : MSs) (as : List MV) (m : Mem) : runD Fs n B as m = runR (exs Fs B (as.map (fun x => some (SV.v x)) ++ List.replicate (n - as.length) none) m) := rfl
end Rc

set_option Elab.async false
set_option linter.all false
set_option maxRecDepth 100000
set_option maxHeartbeats 4000000
namespace Rc
open PySem PySem.Spec L2
open PyProof.Rows hiding St

/-! ### the laws' bag of numbers -/
structure Bag where
  cells : List Int
  at_ : Nat
  big : Int
  mixed : Int
  cnt : Int
  b0 : 0 ≤ big
  m0 : 0 ≤ mixed
  m1 : mixed < 2147483648
def Bag.cont (b : Bag) : List MV := [.lst (b.cells.map .int), .int b.at_, .int b.big, .int b.mixed, .int b.cnt]
def B_draw : MSs := (.cons (.ixSet (.slot 0) (.cI 4) (.bin .add (.ix (.slot 0) (.cI 4)) (.cI 1))) (.cons (.ifs (.and (.cmp .eq (.ix (.slot 0) (.cI 2)) (.cI 0)) (.cmp .lt (.ix (.slot 0) (.cI 1)) (.bi .len (.ix (.slot 0) (.cI 0))))) (.cons (.set 4 (.ix (.ix (.slot 0) (.cI 0)) (.ix (.slot 0) (.cI 1)))) (.cons (.ixSet (.slot 0) (.cI 1) (.bin .add (.ix (.slot 0) (.cI 1)) (.cI 1))) (.cons (.ifs (.cmp .ge (.bi .abs (.slot 4)) (.bin .pow (.cI 10) (.cI 18))) (.cons (.ixSet (.slot 0) (.cI 2) (.bi .abs (.slot 4))) .nil) (.cons (.set 6 (.bin .add (.bin .mul (.bin .mod (.bi .int (.slot 4)) (.cI 1000211)) (.cI 761)) (.cI 43))) (.cons (.ixSet (.slot 0) (.cI 3) (.bin .mod (.bi .int (.bin .add (.bin .mul (.ix (.slot 0) (.cI 3)) (.cI 41521)) (.slot 6))) (.cI 2147483629))) .nil))) .nil))) .nil) (.cons (.ifs (.cmp .gt (.ix (.slot 0) (.cI 2)) (.cI 0)) (.cons (.set 5 (.bin .mod (.bi .int (.ix (.slot 0) (.cI 2))) (.slot 1))) (.cons (.ixSet (.slot 0) (.cI 2) (.bin .fdiv (.ix (.slot 0) (.cI 2)) (.slot 1))) (.cons (.ret (.slot 5)) .nil))) .nil) (.cons (.set 2 (.ix (.slot 0) (.cI 3))) (.cons (.set 3 (.bin .add (.bin .add (.bin .mul (.slot 2) (.cI 47713)) (.bin .mul (.ix (.slot 0) (.cI 4)) (.cI 110017))) (.cI 60013))) (.cons (.ixSet (.slot 0) (.cI 3) (.bin .mod (.bi .int (.bin .add (.bin .mul (.bin .mul (.slot 2) (.slot 2)) (.cI 13)) (.slot 3))) (.cI 2147483587))) (.cons (.ret (.bin .mod (.bi .int (.bin .add (.bin .fdiv (.ix (.slot 0) (.cI 3)) (.cI 71)) (.bin .mul (.bin .mod (.bi .int (.ix (.slot 0) (.cI 3))) (.cI 8017)) (.cI 59)))) (.slot 1))) .nil)))))))
theorem draw_ex (b : Bag) {n : Int} (h1 : 1 ≤ n) (h2 : n < 2^64) : ∃ p : Int × Bag, 0 ≤ p.1 ∧ p.1 < n ∧ ∀ rest, runD [] 7 B_draw [.ref 0, .int n] (some (.lst b.cont) :: rest) = .ok (.int p.1) (some (.lst p.2.cont) :: rest) := by
  obtain ⟨cells, at_, big, mixed, cnt, b0, m0, m1⟩ := b
  have hn : 0 < n := by omega
  have hn2 : 0 < n ∧ n < 18446744073709551616 := ⟨hn, h2⟩
  have step : ∀ (mixed cnt : Int), 0 ≤ (mixed * mixed * 13 + (mixed * 47713 + (cnt + 1) * 110017 + 60013)) % 2147483587 ∧ (mixed * mixed * 13 + (mixed * 47713 + (cnt + 1) * 110017 + 60013)) % 2147483587 < 2147483648 := fun mixed cnt => by
    have z1 := Int.emod_nonneg (mixed * mixed * 13 + (mixed * 47713 + (cnt + 1) * 110017 + 60013)) (b := 2147483587) (by decide)
    have z2 := Int.emod_lt_of_pos (mixed * mixed * 13 + (mixed * 47713 + (cnt + 1) * 110017 + 60013)) (b := 2147483587) (by decide)
    omega
  by_cases hA : big = 0 ∧ at_ < cells.length
  · obtain ⟨rfl, hlt⟩ := hA
    obtain ⟨c, hc⟩ : ∃ c, cells[at_] = c := ⟨_, rfl⟩
    obtain ⟨d, hd⟩ : ∃ d, (if c < 0 then -c else c) = d := ⟨_, rfl⟩
    by_cases hb : 1000000000000000000 ≤ d
    · have hp : 0 < d := by omega
      refine ⟨(d % n, ⟨cells, at_ + 1, d / n, mixed, cnt + 1, Int.ediv_nonneg (by omega) (by omega), m0, m1⟩), Int.emod_nonneg _ (by omega), Int.emod_lt_of_pos _ hn, fun rest => ?_⟩
      rw [runD_eq]
      unfold B_draw
      simp [Bag.cont, hn, hn2, hlt, hc, hd, hb, hp]
    · have hm := Int.emod_nonneg (mixed * 41521 + (c % 1000211 * 761 + 43)) (b := 2147483629) (by decide)
      have hm2 := Int.emod_lt_of_pos (mixed * 41521 + (c % 1000211 * 761 + 43)) (b := 2147483629) (by decide)
      generalize hM : (mixed * 41521 + (c % 1000211 * 761 + 43)) % 2147483629 = M at hm hm2
      have hM64 : -18446744073709551616 < M ∧ M < 18446744073709551616 := by omega
      refine ⟨(((M * M * 13 + (M * 47713 + (cnt + 1) * 110017 + 60013)) % 2147483587 / 71 + (M * M * 13 + (M * 47713 + (cnt + 1) * 110017 + 60013)) % 2147483587 % 8017 * 59) % n,
        ⟨cells, at_ + 1, 0, (M * M * 13 + (M * 47713 + (cnt + 1) * 110017 + 60013)) % 2147483587, cnt + 1, by omega, (step _ _).1, (step _ _).2⟩), Int.emod_nonneg _ (by omega), Int.emod_lt_of_pos _ hn, fun rest => ?_⟩
      rw [runD_eq]
      unfold B_draw
      simp [Bag.cont, hn, hn2, hlt, hc, hd, hb, hM, hM64]
  · by_cases hB : 0 < big
    · have hz : ¬ big = 0 := by omega
      refine ⟨(big % n, ⟨cells, at_, big / n, mixed, cnt + 1, Int.ediv_nonneg b0 (by omega), m0, m1⟩), Int.emod_nonneg _ (by omega), Int.emod_lt_of_pos _ hn, fun rest => ?_⟩
      rw [runD_eq]
      unfold B_draw
      simp [Bag.cont, hn, hn2, hz, hB]
    · have hz : big = 0 := by omega
      subst hz
      have hlt : ¬ at_ < cells.length := fun h => hA ⟨rfl, h⟩
      have hM64 : -18446744073709551616 < mixed ∧ mixed < 18446744073709551616 := by omega
      refine ⟨(((mixed * mixed * 13 + (mixed * 47713 + (cnt + 1) * 110017 + 60013)) % 2147483587 / 71 + (mixed * mixed * 13 + (mixed * 47713 + (cnt + 1) * 110017 + 60013)) % 2147483587 % 8017 * 59) % n,
        ⟨cells, at_, 0, (mixed * mixed * 13 + (mixed * 47713 + (cnt + 1) * 110017 + 60013)) % 2147483587, cnt + 1, by omega, (step _ _).1, (step _ _).2⟩), Int.emod_nonneg _ (by omega), Int.emod_lt_of_pos _ hn, fun rest => ?_⟩
      rw [runD_eq]
      unfold B_draw
      simp [Bag.cont, hn, hn2, hlt, hM64]
/-- a drawn number, the bag behind -/
noncomputable def dr (b : Bag) (n : Int) : Int × Bag := if h : 1 ≤ n ∧ n < 2^64 then Classical.choose (draw_ex b h.1 h.2) else (0, b)
theorem dr_lo (b : Bag) {n : Int} (h : 1 ≤ n ∧ n < 2^64) : 0 ≤ (dr b n).1 := by
  unfold dr; rw [dif_pos h]; exact (Classical.choose_spec (draw_ex b h.1 h.2)).1
theorem dr_hi (b : Bag) {n : Int} (h : 1 ≤ n ∧ n < 2^64) : (dr b n).1 < n := by
  unfold dr; rw [dif_pos h]; exact (Classical.choose_spec (draw_ex b h.1 h.2)).2.1
theorem dr_eq (b : Bag) {n : Int} (h : 1 ≤ n ∧ n < 2^64) (rest : Mem) : runD [] 7 B_draw [.ref 0, .int n] (some (.lst b.cont) :: rest) = .ok (.int (dr b n).1) (some (.lst (dr b n).2.cont) :: rest) := by
  unfold dr; rw [dif_pos h]; exact (Classical.choose_spec (draw_ex b h.1 h.2)).2.2 rest
end Rc

set_option Elab.async false
set_option linter.all false
set_option maxRecDepth 100000
set_option maxHeartbeats 4000000
namespace Rc
open PySem PySem.Spec L2
open PyProof.Rows hiding St

def B_open : MSs := (.cons (.set 1 (.cI 49310)) (.cons (.loop (.name 2) (.seq (.sl (.slot 0) .none (.some (.cI 63)))) (.cons (.set 1 (.bin .mod (.bi .int (.bin .add (.bin .add (.bin .mul (.slot 1) (.cI 50021)) (.bin .mul (.bin .mod (.bi .int (.slot 2)) (.cI 1000211)) (.cI 883))) (.cI 31))) (.cI 2147483587))) .nil)) (.cons (.retF (.lst (.cons (.fr (.toList (.sl (.slot 0) .none (.some (.cI 63))))) (.cons (.cI 0) (.cons (.cI 0) (.cons (.slot 1) (.cons (.cI 0) .nil))))))) .nil)))
def B_of : MSs := (.cons (.ret (.ix (.slot 1) (.call 0 (.cons (.slot 0) (.cons (.bi .len (.slot 1)) .nil))))) .nil)
def B_same : MSs := (.cons (.ifs (.or (.cmp .is_ (.slot 1) .cN) (.cmp .is_ (.slot 0) .cN)) (.cons (.ret (.andV (.cmp .is_ (.slot 1) .cN) (.cmp .is_ (.slot 0) .cN))) .nil) .nil) (.cons (.ifs (.val (.isi (.slot 1) [.list, .tuple] false)) (.cons (.ifs (.or (.cmp .ne (.isi (.slot 0) [.list] true) (.isi (.slot 1) [.list] true)) (.cmp .ne (.isi (.slot 0) [.tuple] true) (.isi (.slot 1) [.tuple] true))) (.cons (.ret (.cB false)) .nil) .nil) (.cons (.ret (.andV (.cmp .eq (.bi .len (.slot 0)) (.bi .len (.slot 1))) (.bi .all (.fr (.comp [2, 3] (.tup [2, 3]) (.zip (.slot 0) (.slot 1)) .nil (.call 0 (.cons (.slot 2) (.cons (.slot 3) .nil)))))))) .nil)) .nil) (.cons (.ifs (.or (.cmp .ne (.isi (.slot 1) [.bool] true) (.isi (.slot 0) [.bool] true)) (.cmp .ne (.isi (.slot 1) [.int] true) (.isi (.slot 0) [.int] true))) (.cons (.ret (.cB false)) .nil) .nil) (.cons (.ret (.andV (.cmp .eq (.isi (.slot 1) [.str] true) (.isi (.slot 0) [.str] true)) (.cmp .eq (.slot 0) (.slot 1)))) .nil))))
theorem cutM_take (xs : List MV) (k : Nat) : cutM xs none (some (k : Int)) = xs.take k := by
  unfold cutM
  rw [HT.sIx_none, HT.sIx_nat]
  simp only [List.drop_zero, Nat.sub_zero]
  by_cases h : k ≤ xs.length
  · rw [Nat.min_eq_left h]
  · rw [Nat.min_eq_right (by omega), List.take_of_length_le (Nat.le_refl _), List.take_of_length_le (by omega)]
@[simp] theorem cutM_lit (xs : List MV) (k : Nat) : cutM xs none (some (no_index (OfNat.ofNat k) : Int)) = xs.take k := cutM_take xs k
theorem open_loop {f : MV → Sl → Mem → SR} (hf : ∀ (i mx : Int) (x c : Option SV) (m : Mem), f (.int i) [x, some (.v (.int mx)), c] m = .nx [x, some (.v (.int ((mx * 50021 + i % 1000211 * 883 + 31) % 2147483587))), some (.v (.int i))] m) :
    ∀ (ns : List Int) (mx : Int) (x c : Option SV) (m : Mem), 0 ≤ mx ∧ mx < 2147483648 → ∃ mx' c', (0 ≤ mx' ∧ mx' < 2147483648) ∧ forS f (ns.map .int) [x, some (.v (.int mx)), c] m = .nx [x, some (.v (.int mx')), c'] m
  | [], mx, x, c, m, h => ⟨mx, c, h, rfl⟩
  | i :: ns, mx, x, c, m, h => by
    have z1 := Int.emod_nonneg (mx * 50021 + i % 1000211 * 883 + 31) (b := 2147483587) (by decide)
    have z2 := Int.emod_lt_of_pos (mx * 50021 + i % 1000211 * 883 + 31) (b := 2147483587) (by decide)
    obtain ⟨mx', c', h1, h2⟩ := open_loop hf ns ((mx * 50021 + i % 1000211 * 883 + 31) % 2147483587) x (some (.v (.int i))) m ⟨z1, by omega⟩
    refine ⟨mx', c', h1, ?_⟩
    rw [List.map_cons]
    unfold forS
    rw [hf]
    exact h2
theorem open_ex (ns : List Int) (m : Mem) : ∃ b : Bag, runD [] 3 B_open [.kl (ns.map .int)] m = .new (.lst b.cont) m := by
  obtain ⟨mx', c', ⟨h1, h2⟩, h3⟩ := open_loop (f := turnS [] (.name 2) (.cons (.set 1 (.bin .mod (.bi .int (.bin .add (.bin .add (.bin .mul (.slot 1) (.cI 50021)) (.bin .mul (.bin .mod (.bi .int (.slot 2)) (.cI 1000211)) (.cI 883))) (.cI 31))) (.cI 2147483587))) .nil)) (fun i mx x c m => by simp) (ns.take 63) 49310 (some (.v (.kl (ns.map .int)))) none m (by decide)
  refine ⟨⟨ns.take 63, 0, 0, mx', 0, by decide, h1, h2⟩, ?_⟩
  rw [runD_eq]
  unfold B_open
  rw [List.map_take] at h3
  simp [Bag.cont]
  rw [h3]
  simp [sizeLine_eq]

theorem atI_pos {α : Type} {xs : List α} {i : Int} (h : 0 ≤ i) (h2 : i.toNat < xs.length) : atI xs i = some xs[i.toNat] := by
  have e : ((i.toNat : Nat) : Int) = i := Int.toNat_of_nonneg h
  have := atI_nat xs i.toNat
  rw [e] at this
  rw [this, List.getElem?_eq_getElem h2]
section
variable {Fs : List Fn}
theorem of_lst (hF : (Fs.getD 0 default).M = runD [] 7 B_draw) (b : Bag) (xs : List MV) (h : 1 ≤ xs.length ∧ xs.length < 2 ^ 64) (rest : Mem) :
    runD Fs 2 B_of [.ref 0, .lst xs] (some (.lst b.cont) :: rest) = .ok (xs.getD (dr b xs.length).1.toNat .non) (some (.lst (dr b xs.length).2.cont) :: rest) := by
  have hd : (1 : Int) ≤ (xs.length : Int) ∧ (xs.length : Int) < 2 ^ 64 := by omega
  have h1 := dr_lo b hd
  have h2 := dr_hi b hd
  have h3 : ((dr b xs.length).1.toNat : Int) = (dr b xs.length).1 := Int.toNat_of_nonneg h1
  have h4 : (dr b xs.length).1.toNat < xs.length := by omega
  rw [runD_eq]
  unfold B_of
  simp [ev_call, -List.getD_eq_getElem?_getD, hF, dr_eq b hd]
  rw [atI_pos h1 h4]
  simp [h4]
theorem of_str (hF : (Fs.getD 0 default).M = runD [] 7 B_draw) (b : Bag) (z : Str) (h : 1 ≤ z.length ∧ z.length ≤ sizeLine) (rest : Mem) :
    runD Fs 2 B_of [.ref 0, .str z] (some (.lst b.cont) :: rest) = .ok (.str ⟨#[z.cps.toList.getD (dr b z.length).1.toNat 0]⟩) (some (.lst (dr b z.length).2.cont) :: rest) := by
  have hs := sizeLine_eq
  have hd : (1 : Int) ≤ (z.length : Int) ∧ (z.length : Int) < 2 ^ 64 := by omega
  have h1 := dr_lo b hd
  have h2 := dr_hi b hd
  have h3 : ((dr b z.length).1.toNat : Int) = (dr b z.length).1 := Int.toNat_of_nonneg h1
  have h4 : (dr b z.length).1.toNat < z.cps.toList.length := by
    have : z.cps.toList.length = z.length := by simp [Str.length]
    omega
  rw [runD_eq]
  unfold B_of
  simp [ev_call, -List.getD_eq_getElem?_getD, hF, dr_eq b hd, h.2]
  rw [atI_pos h1 h4]
  simp at h4
  simp [h4]
end
/-- values that are written out, not deeper than that -/
def pl : Nat → MV → Bool
  | 0, _ => false
  | n + 1, x => match x with
    | .non => true
    | .bl _ => true
    | .int _ => true
    | .str _ => true
    | .tup xs => decide (xs.length ≤ sizeLine) && xs.all (pl n)
    | .lst xs => decide (xs.length ≤ sizeLine) && xs.all (pl n)
    | _ => false
theorem blsM_rep {α : Type} (xs : List α) : blsM (xs.map fun _ => MV.bl true) = some (xs.map fun _ => true) := by
  induction xs with
  | nil => rfl
  | cons x xs ih => simp [blsM, ih]
theorem zipM_self : ∀ {xs : List MV} {y : MV}, y ∈ zipM xs xs → ∃ x ∈ xs, y = .tup [x, x]
  | x :: xs, y, h => by
    rcases List.mem_cons.mp (show y ∈ MV.tup [x, x] :: zipM xs xs from h) with e | h
    · exact ⟨x, List.mem_cons_self, e⟩
    · obtain ⟨z, hz, e⟩ := zipM_self h
      exact ⟨z, List.mem_cons_of_mem _ hz, e⟩
theorem zipM_len (xs : List MV) : (zipM xs xs).length = xs.length := by simp [zipM]
theorem same_refl {M : Nat → Mir} (hM : ∀ n, ∃ Fs : List Fn, (Fs.getD 0 default).M = M n ∧ M (n + 1) = runD Fs 4 B_same) : ∀ n x m, pl n x = true → M n [x, x] m = .ok (.bl true) m := by
  intro n
  induction n with
  | zero => intro x m h; cases h
  | succ n ih =>
    intro x m h
    obtain ⟨Fs, hF, e⟩ := hM n
    rw [e, runD_eq]
    unfold B_same
    cases x with
    | non => simp [isN]
    | bl b => simp [isN, isiAny, isiB]
    | int i => simp [isN, isiAny, isiB]
    | str s => simp [isN, isiAny, isiB]
    | kl xs => cases h
    | ref k => cases h
    | tup xs =>
      have h : (decide (xs.length ≤ sizeLine) && xs.all (pl n)) = true := h
      simp only [Bool.and_eq_true, decide_eq_true_eq, List.all_eq_true] at h
      have hc := compM_map (f := compTurnF [2, 3] (.tup [2, 3]) (evTs Fs .nil) (ev Fs (.call 0 (.cons (.slot 2) (.cons (.slot 3) .nil)))) [some (SV.v (.tup xs)), some (SV.v (.tup xs)), none, none]) (h := fun _ => .bl true) (m := m) (xs := zipM xs xs) (acc := []) (fun y hy => by
        obtain ⟨z, hz, rfl⟩ := zipM_self hy
        simp [ev_call, -List.getD_eq_getElem?_getD, hF, ih z m (h.2 z hz)]) (by simp [zipM_len]; exact h.1)
      simp [isN, isiAny, isiB, hc, blsM_rep]
    | lst xs =>
      have h : (decide (xs.length ≤ sizeLine) && xs.all (pl n)) = true := h
      simp only [Bool.and_eq_true, decide_eq_true_eq, List.all_eq_true] at h
      have hc := compM_map (f := compTurnF [2, 3] (.tup [2, 3]) (evTs Fs .nil) (ev Fs (.call 0 (.cons (.slot 2) (.cons (.slot 3) .nil)))) [some (SV.v (.lst xs)), some (SV.v (.lst xs)), none, none]) (h := fun _ => .bl true) (m := m) (xs := zipM xs xs) (acc := []) (fun y hy => by
        obtain ⟨z, hz, rfl⟩ := zipM_self hy
        simp [ev_call, -List.getD_eq_getElem?_getD, hF, ih z m (h.2 z hz)]) (by simp [zipM_len]; exact h.1)
      simp [isN, isiAny, isiB, hc, blsM_rep]

/-! ### loops, comprehensions by invariants -/
theorem forS_inv {f : MV → Sl → Mem → SR} (I : Sl → Mem → Prop) : ∀ {xs : List MV} {s : Sl} {m : Mem}, (∀ x ∈ xs, ∀ s m, I s m → ∃ s' m', f x s m = .nx s' m' ∧ I s' m') → I s m → ∃ s' m', forS f xs s m = .nx s' m' ∧ I s' m'
  | [], s, m, _, h => ⟨s, m, rfl, h⟩
  | x :: xs, s, m, hf, h => by
    obtain ⟨s1, m1, e, h1⟩ := hf x List.mem_cons_self s m h
    obtain ⟨s2, m2, e2, h2⟩ := forS_inv I (fun y hy => hf y (List.mem_cons_of_mem _ hy)) h1
    refine ⟨s2, m2, ?_, h2⟩
    unfold forS
    rw [e]
    exact e2
theorem compM_inv {f : MV → Mem → R (Option MV)} (J : Mem → Prop) (P : MV → Prop) : ∀ {xs acc : List MV} {m : Mem}, (∀ x ∈ xs, ∀ m, J m → ∃ y m', f x m = .ok (some y) m' ∧ J m' ∧ P y) → J m → acc.length + xs.length ≤ sizeLine →
    ∃ ys m', compM f xs acc m = .ok (acc ++ ys) m' ∧ J m' ∧ (∀ y ∈ ys, P y) ∧ ys.length = xs.length
  | [], acc, m, _, h, _ => ⟨[], m, by simp [compM], h, by simp, rfl⟩
  | x :: xs, acc, m, hf, h, hl => by
    rw [List.length_cons] at hl
    obtain ⟨y, m1, e, h1, hy⟩ := hf x List.mem_cons_self m h
    obtain ⟨ys, m2, e2, h2, hys, hn⟩ := compM_inv (acc := acc ++ [y]) J P (fun z hz => hf z (List.mem_cons_of_mem _ hz)) h1 (by simp; omega)
    refine ⟨y :: ys, m2, ?_, h2, fun z hz => ?_, by simp [hn]⟩
    · unfold compM
      rw [e]
      show (if acc.length < sizeLine then compM f xs (acc ++ [y]) m1 else .stuck) = _
      rw [if_pos (by omega), e2]
      simp
    · rcases List.mem_cons.mp hz with rfl | hz
      · exact hy
      · exact hys z hz
/-- one sign -/
def isSign : MV → Prop := fun y => ∃ c, y = .str ⟨#[c]⟩
theorem join_signs {ys : List MV} (h : ∀ y ∈ ys, isSign y) (hl : ys.length ≤ 100) (m : Mem) : ∃ z : Str, joinF (.v (.str ("" : Str))) (.v (.lst ys)) m = .ok (.v (.str z)) m ∧ z.length = ys.length := by
  have h2 : ∃ zs : List Str, strsOf ys = some zs ∧ (zs.map (·.length)).sum = ys.length := by
    clear hl
    induction ys with
    | nil => exact ⟨[], rfl, rfl⟩
    | cons y ys ih =>
      obtain ⟨c, rfl⟩ := h y List.mem_cons_self
      obtain ⟨zs, e1, e2⟩ := ih fun z hz => h z (List.mem_cons_of_mem _ hz)
      refine ⟨⟨#[c]⟩ :: zs, by simp [strsOf, e1], ?_⟩
      rw [List.map_cons, List.sum_cons, e2, List.length_cons]
      show 1 + _ = _
      omega
  obtain ⟨zs, e1, e2⟩ := h2
  have h0 : ("" : Str).length = 0 := by decide
  refine ⟨Txt.join ("" : Str) zs, ?_, ?_⟩
  · have e3 : contO m (.v (.lst ys)) = some (.l ys) := rfl
    unfold joinF
    rw [e3]
    dsimp only
    rw [e1]
    dsimp only
    rw [if_pos]
    rw [e2, h0]
    omega
  · unfold Txt.join
    rw [size_glued, e2, h0]
    omega
end Rc

set_option Elab.async false
set_option linter.all false
set_option maxRecDepth 100000
set_option maxHeartbeats 4000000
namespace K02
open PySem PySem.Spec L2 Rc
open PyProof.Rows hiding St

def N_law_open : List Str := ["_law_script", "_law_mixed", "_law_cell"]
def B_law_open : MSs := (.cons (.set 1 (.cI 49310)) (.cons (.loop (.name 2) (.seq (.sl (.slot 0) .none (.some (.cI 63)))) (.cons (.set 1 (.bin .mod (.bi .int (.bin .add (.bin .add (.bin .mul (.slot 1) (.cI 50021)) (.bin .mul (.bin .mod (.bi .int (.slot 2)) (.cI 1000211)) (.cI 883))) (.cI 31))) (.cI 2147483587))) .nil)) (.cons (.retF (.lst (.cons (.fr (.toList (.sl (.slot 0) .none (.some (.cI 63))))) (.cons (.cI 0) (.cons (.cI 0) (.cons (.slot 1) (.cons (.cI 0) .nil))))))) .nil)))
def Fs_law_open : List Fn := []
def M_law_open : Mir := runD Fs_law_open 3 B_law_open
def F_law_open : Fn := ⟨"_law_open", ["_law_script"], M_law_open, []⟩
def N_law_draw : List Str := ["_law_bag", "_law_sides", "_law_seed", "_law_step", "_law_cell", "_law_digit", "_law_small"]
def B_law_draw : MSs := (.cons (.ixSet (.slot 0) (.cI 4) (.bin .add (.ix (.slot 0) (.cI 4)) (.cI 1))) (.cons (.ifs (.and (.cmp .eq (.ix (.slot 0) (.cI 2)) (.cI 0)) (.cmp .lt (.ix (.slot 0) (.cI 1)) (.bi .len (.ix (.slot 0) (.cI 0))))) (.cons (.set 4 (.ix (.ix (.slot 0) (.cI 0)) (.ix (.slot 0) (.cI 1)))) (.cons (.ixSet (.slot 0) (.cI 1) (.bin .add (.ix (.slot 0) (.cI 1)) (.cI 1))) (.cons (.ifs (.cmp .ge (.bi .abs (.slot 4)) (.bin .pow (.cI 10) (.cI 18))) (.cons (.ixSet (.slot 0) (.cI 2) (.bi .abs (.slot 4))) .nil) (.cons (.set 6 (.bin .add (.bin .mul (.bin .mod (.bi .int (.slot 4)) (.cI 1000211)) (.cI 761)) (.cI 43))) (.cons (.ixSet (.slot 0) (.cI 3) (.bin .mod (.bi .int (.bin .add (.bin .mul (.ix (.slot 0) (.cI 3)) (.cI 41521)) (.slot 6))) (.cI 2147483629))) .nil))) .nil))) .nil) (.cons (.ifs (.cmp .gt (.ix (.slot 0) (.cI 2)) (.cI 0)) (.cons (.set 5 (.bin .mod (.bi .int (.ix (.slot 0) (.cI 2))) (.slot 1))) (.cons (.ixSet (.slot 0) (.cI 2) (.bin .fdiv (.ix (.slot 0) (.cI 2)) (.slot 1))) (.cons (.ret (.slot 5)) .nil))) .nil) (.cons (.set 2 (.ix (.slot 0) (.cI 3))) (.cons (.set 3 (.bin .add (.bin .add (.bin .mul (.slot 2) (.cI 47713)) (.bin .mul (.ix (.slot 0) (.cI 4)) (.cI 110017))) (.cI 60013))) (.cons (.ixSet (.slot 0) (.cI 3) (.bin .mod (.bi .int (.bin .add (.bin .mul (.bin .mul (.slot 2) (.slot 2)) (.cI 13)) (.slot 3))) (.cI 2147483587))) (.cons (.ret (.bin .mod (.bi .int (.bin .add (.bin .fdiv (.ix (.slot 0) (.cI 3)) (.cI 71)) (.bin .mul (.bin .mod (.bi .int (.ix (.slot 0) (.cI 3))) (.cI 8017)) (.cI 59)))) (.slot 1))) .nil)))))))
def Fs_law_draw : List Fn := []
def M_law_draw : Mir := runD Fs_law_draw 7 B_law_draw
def F_law_draw : Fn := ⟨"_law_draw", ["_law_bag", "_law_sides"], M_law_draw, []⟩
def N_law_of : List Str := ["_law_bag", "_law_things"]
def B_law_of : MSs := (.cons (.ret (.ix (.slot 1) (.call 0 (.cons (.slot 0) (.cons (.bi .len (.slot 1)) .nil))))) .nil)
def Fs_law_of : List Fn := [F_law_draw]
def M_law_of : Mir := runD Fs_law_of 2 B_law_of
def F_law_of : Fn := ⟨"_law_of", ["_law_bag", "_law_things"], M_law_of, []⟩
def N_law_odd : List Str := ["_law_bag", "_law_more"]
def B_law_odd : MSs := (.cons (.ret (.call 0 (.cons (.slot 0) (.cons (.bin .add (.fr (.lst (.cons .cN (.cons (.cB true) (.cons (.cB false) (.cons (.cI 3) (.cons (.neg (.cI 1)) (.cons (.cS "") (.cons (.cS "A") (.cons (.cS "seventh") (.cons (.cS "a1") (.cons (.tup .nil) (.cons (.fr (.lst .nil)) (.cons (.tup (.cons (.cS "a") .nil)) (.cons (.fr (.lst (.cons (.cS "a") .nil))) (.cons (.tup (.cons (.tup (.cons (.cI 1) (.cons (.cS "a") .nil))) .nil)) .nil)))))))))))))))) (.slot 1)) .nil)))) .nil)
def Fs_law_odd : List Fn := [F_law_of]
def M_law_odd : Mir := runD Fs_law_odd 2 B_law_odd
def F_law_odd : Fn := ⟨"_law_odd", ["_law_bag", "_law_more"], M_law_odd, []⟩
def N_law_name_so : List Str := ["_law_one", "_law_top", "_law_sign"]
def B_law_name_so : MSs := (.cons (.ifs (.or (.not (.val (.isi (.slot 0) [.str] true))) (.not (.chain .le .le (.cI 1) (.bi .len (.slot 0)) (.slot 1)))) (.cons (.ret (.cB false)) .nil) .nil) (.cons (.ret (.bi .all (.fr (.comp [2] (.name 2) (.seq (.slot 0)) .nil (.cmp .in_ (.slot 2) (.cS "abcdefghijklmnopqrstuvwxyz")))))) .nil))
def Fs_law_name_so : List Fn := []
def M_law_name_so : Mir := runD Fs_law_name_so 3 B_law_name_so
def F_law_name_so : Fn := ⟨"_law_name_so", ["_law_one", "_law_top"], M_law_name_so, []⟩
def N_is_name : List Str := ["value", "sign"]
def B_is_name : MSs := (.cons (.ifs (.or (.not (.val (.isi (.slot 0) [.str] true))) (.not (.chain .le .le (.cI 1) (.bi .len (.slot 0)) (.cI 6)))) (.cons (.ret (.cB false)) .nil) .nil) (.cons (.ret (.bi .all (.fr (.comp [1] (.name 1) (.seq (.slot 0)) .nil (.cmp .in_ (.slot 1) (.glob "LETTERS" (.str "abcdefghijklmnopqrstuvwxyz"))))))) .nil))
def Fs_is_name : List Fn := []
def M_is_name : Mir := runD Fs_is_name 2 B_is_name
def F_is_name : Fn := ⟨"is_name", ["value"], M_is_name, [["value"]]⟩
def N_is_word : List Str := ["value"]
def B_is_word : MSs := (.cons (.ret (.andV (.call 0 (.cons (.slot 0) .nil)) (.cmp .notin (.slot 0) (.tup (.cons (.cS "quiet") (.cons (.cS "noise") .nil)))))) .nil)
def Fs_is_word : List Fn := [F_is_name]
def M_is_word : Mir := runD Fs_is_word 1 B_is_word
def F_is_word : Fn := ⟨"is_word", ["value"], M_is_word, [["value"]]⟩
def N_law_same : List Str := ["_law_found", "_law_due", "_law_a", "_law_b"]
def B_law_same : MSs := (.cons (.ifs (.or (.cmp .is_ (.slot 1) .cN) (.cmp .is_ (.slot 0) .cN)) (.cons (.ret (.andV (.cmp .is_ (.slot 1) .cN) (.cmp .is_ (.slot 0) .cN))) .nil) .nil) (.cons (.ifs (.val (.isi (.slot 1) [.list, .tuple] false)) (.cons (.ifs (.or (.cmp .ne (.isi (.slot 0) [.list] true) (.isi (.slot 1) [.list] true)) (.cmp .ne (.isi (.slot 0) [.tuple] true) (.isi (.slot 1) [.tuple] true))) (.cons (.ret (.cB false)) .nil) .nil) (.cons (.ret (.andV (.cmp .eq (.bi .len (.slot 0)) (.bi .len (.slot 1))) (.bi .all (.fr (.comp [2, 3] (.tup [2, 3]) (.zip (.slot 0) (.slot 1)) .nil (.call 0 (.cons (.slot 2) (.cons (.slot 3) .nil)))))))) .nil)) .nil) (.cons (.ifs (.or (.cmp .ne (.isi (.slot 1) [.bool] true) (.isi (.slot 0) [.bool] true)) (.cmp .ne (.isi (.slot 1) [.int] true) (.isi (.slot 0) [.int] true))) (.cons (.ret (.cB false)) .nil) .nil) (.cons (.ret (.andV (.cmp .eq (.isi (.slot 1) [.str] true) (.isi (.slot 0) [.str] true)) (.cmp .eq (.slot 0) (.slot 1)))) .nil))))
def Fs_law_same (M : Mir) : List Fn := [⟨"_law_same", ["_law_found", "_law_due"], M, []⟩]
def M_law_same : Nat → Mir
  | 0 => fun _ _ => .stuck
  | n + 1 => runD (Fs_law_same (M_law_same n)) 4 B_law_same
def F_law_same (n : Nat) : Fn := ⟨"_law_same", ["_law_found", "_law_due"], M_law_same n, []⟩
def N_is_number : List Str := ["value", "least", "most"]
def B_is_number : MSs := (.cons (.ret (.andV (.isi (.slot 0) [.int] true) (.andV (.notV (.isi (.slot 0) [.bool] true)) (.chain .le .le (.slot 1) (.slot 0) (.slot 2))))) .nil)
def Fs_is_number : List Fn := []
def M_is_number : Mir := runD Fs_is_number 3 B_is_number
def F_is_number : Fn := ⟨"is_number", ["value", "least", "most"], M_is_number, [["most", "value", "least"]]⟩
def N_law : List Str := ["_law_script", "_law_bag", "_law_turn", "_law_text", "_law_plain", "_law_odd_here", "_law_one", "_law_number", "_law_bad", "_law_good", "_law_found", "_law_due", "_law_low", "_law_size", "_law_k"]
def B_law : MSs := (.cons (.set 1 (.callN 0 (.cons (.slot 0) .nil))) (.cons (.loop (.name 2) (.range1 (.cI 6)) (.cons (.set 3 (.join (.cS "") (.fr (.comp [14] (.name 14) (.range1 (.call 1 (.cons (.slot 1) (.cons (.cI 10) .nil)))) .nil (.call 2 (.cons (.slot 1) (.cons (.cS "abmyzqAZ0_ -") .nil))))))) (.cons (.set 4 (.join (.cS "") (.fr (.comp [14] (.name 14) (.range1 (.call 1 (.cons (.slot 1) (.cons (.cI 10) .nil)))) .nil (.call 2 (.cons (.slot 1) (.cons (.cS "abcxyz") .nil))))))) (.cons (.set 5 (.call 3 (.cons (.slot 1) (.cons (.fr (.lst (.cons (.cS "quiet") (.cons (.cS "noise") (.cons (.cS "noises") (.cons (.cS "quie") (.cons (.cS "a\n") .nil))))))) .nil)))) (.cons (.loop (.name 6) (.seq (.fr (.lst (.cons (.slot 3) (.cons (.slot 4) (.cons (.slot 5) .nil)))))) (.cons (.set 9 (.call 4 (.cons (.slot 6) (.cons (.cI 6) .nil)))) (.cons (.set 10 (.fr (.lst (.cons (.call 5 (.cons (.slot 6) .nil)) (.cons (.callK 5 ["value"] (.cons (.slot 6) .nil)) (.cons (.call 6 (.cons (.slot 6) .nil)) (.cons (.callK 6 ["value"] (.cons (.slot 6) .nil)) .nil))))))) (.cons (.set 11 (.andV (.slot 9) (.andV (.cmp .ne (.slot 6) (.cS "quiet")) (.cmp .ne (.slot 6) (.cS "noise"))))) (.cons (.ifs (.not (.val (.call 7 (.cons (.slot 10) (.cons (.fr (.lst (.cons (.slot 9) (.cons (.slot 9) (.cons (.slot 11) (.cons (.slot 11) .nil)))))) .nil))))) (.cons (.ret (.cB false)) .nil) .nil) .nil))))) (.cons (.par 12 13 (.bin .sub (.call 1 (.cons (.slot 1) (.cons (.cI 9) .nil))) (.cI 4)) (.call 1 (.cons (.slot 1) (.cons (.cI 3) .nil)))) (.cons (.loop (.name 7) (.range2 (.bin .sub (.slot 12) (.cI 2)) (.bin .add (.bin .add (.slot 12) (.slot 13)) (.cI 3))) (.cons (.set 11 (.chain .le .le (.slot 12) (.slot 7) (.bin .add (.slot 12) (.slot 13)))) (.cons (.ifs (.not (.val (.call 7 (.cons (.fr (.lst (.cons (.call 8 (.cons (.slot 7) (.cons (.slot 12) (.cons (.bin .add (.slot 12) (.slot 13)) .nil)))) (.cons (.callK 8 ["most", "value", "least"] (.cons (.bin .add (.slot 12) (.slot 13)) (.cons (.slot 7) (.cons (.slot 12) .nil)))) .nil)))) (.cons (.fr (.lst (.cons (.slot 11) (.cons (.slot 11) .nil)))) .nil))))) (.cons (.ret (.cB false)) .nil) .nil) .nil))) (.cons (.set 8 (.call 2 (.cons (.slot 1) (.cons (.fr (.lst (.cons .cN (.cons (.cB true) (.cons (.cB false) (.cons (.cS "0") (.cons (.tup (.cons (.cI 0) .nil)) (.cons (.fr (.lst (.cons (.cI 0) .nil))) .nil)))))))) .nil)))) (.cons (.ifs (.cmp .isnt (.call 8 (.cons (.slot 8) (.cons (.neg (.bin .pow (.cI 10) (.cI 17))) (.cons (.bin .pow (.cI 10) (.cI 17)) .nil)))) (.cB false)) (.cons (.ret (.cB false)) .nil) .nil) .nil))))))))) (.cons (.ret (.cmp .eq (.glob "MOST_DEVICES" (.int 1000000000000)) (.bin .pow (.cI 10) (.cI 12)))) .nil)))
def Fs_law : List Fn := [F_law_open, F_law_draw, F_law_of, F_law_odd, F_law_name_so, F_is_name, F_is_word, F_law_same 6, F_is_number]
def M_law : Mir := runD Fs_law 15 B_law
def F_law : Fn := ⟨"law", ["_law_script"], M_law, []⟩
@[simp] theorem ec_law_of_0 (es : MEs) (s : Sl) (m : Mem) : ev Fs_law_of (.call 0 es) s m = (evs Fs_law_of es s m).bd fun xs m => callV M_law_draw xs m := by kernel_rfl
@[simp] theorem en_law_of_0 (es : MEs) (s : Sl) (m : Mem) : ev Fs_law_of (.callN 0 es) s m = (evs Fs_law_of es s m).bd fun xs m => callN M_law_draw xs m := by kernel_rfl
@[simp] theorem ec_law_odd_0 (es : MEs) (s : Sl) (m : Mem) : ev Fs_law_odd (.call 0 es) s m = (evs Fs_law_odd es s m).bd fun xs m => callV M_law_of xs m := by kernel_rfl
@[simp] theorem en_law_odd_0 (es : MEs) (s : Sl) (m : Mem) : ev Fs_law_odd (.callN 0 es) s m = (evs Fs_law_odd es s m).bd fun xs m => callN M_law_of xs m := by kernel_rfl
@[simp] theorem ec_is_word_0 (es : MEs) (s : Sl) (m : Mem) : ev Fs_is_word (.call 0 es) s m = (evs Fs_is_word es s m).bd fun xs m => callV M_is_name xs m := by kernel_rfl
@[simp] theorem en_is_word_0 (es : MEs) (s : Sl) (m : Mem) : ev Fs_is_word (.callN 0 es) s m = (evs Fs_is_word es s m).bd fun xs m => callN M_is_name xs m := by kernel_rfl
@[simp] theorem ec_law_same_0 (M : Mir) (es : MEs) (s : Sl) (m : Mem) : ev (Fs_law_same M) (.call 0 es) s m = (evs (Fs_law_same M) es s m).bd fun xs m => callV M xs m := by kernel_rfl
@[simp] theorem en_law_same_0 (M : Mir) (es : MEs) (s : Sl) (m : Mem) : ev (Fs_law_same M) (.callN 0 es) s m = (evs (Fs_law_same M) es s m).bd fun xs m => callN M xs m := by kernel_rfl
@[simp] theorem ec_law_0 (es : MEs) (s : Sl) (m : Mem) : ev Fs_law (.call 0 es) s m = (evs Fs_law es s m).bd fun xs m => callV M_law_open xs m := by kernel_rfl
@[simp] theorem en_law_0 (es : MEs) (s : Sl) (m : Mem) : ev Fs_law (.callN 0 es) s m = (evs Fs_law es s m).bd fun xs m => callN M_law_open xs m := by kernel_rfl
@[simp] theorem ec_law_1 (es : MEs) (s : Sl) (m : Mem) : ev Fs_law (.call 1 es) s m = (evs Fs_law es s m).bd fun xs m => callV M_law_draw xs m := by kernel_rfl
@[simp] theorem en_law_1 (es : MEs) (s : Sl) (m : Mem) : ev Fs_law (.callN 1 es) s m = (evs Fs_law es s m).bd fun xs m => callN M_law_draw xs m := by kernel_rfl
@[simp] theorem ec_law_2 (es : MEs) (s : Sl) (m : Mem) : ev Fs_law (.call 2 es) s m = (evs Fs_law es s m).bd fun xs m => callV M_law_of xs m := by kernel_rfl
@[simp] theorem en_law_2 (es : MEs) (s : Sl) (m : Mem) : ev Fs_law (.callN 2 es) s m = (evs Fs_law es s m).bd fun xs m => callN M_law_of xs m := by kernel_rfl
@[simp] theorem ec_law_3 (es : MEs) (s : Sl) (m : Mem) : ev Fs_law (.call 3 es) s m = (evs Fs_law es s m).bd fun xs m => callV M_law_odd xs m := by kernel_rfl
@[simp] theorem en_law_3 (es : MEs) (s : Sl) (m : Mem) : ev Fs_law (.callN 3 es) s m = (evs Fs_law es s m).bd fun xs m => callN M_law_odd xs m := by kernel_rfl
@[simp] theorem ec_law_4 (es : MEs) (s : Sl) (m : Mem) : ev Fs_law (.call 4 es) s m = (evs Fs_law es s m).bd fun xs m => callV M_law_name_so xs m := by kernel_rfl
@[simp] theorem en_law_4 (es : MEs) (s : Sl) (m : Mem) : ev Fs_law (.callN 4 es) s m = (evs Fs_law es s m).bd fun xs m => callN M_law_name_so xs m := by kernel_rfl
@[simp] theorem ec_law_5 (es : MEs) (s : Sl) (m : Mem) : ev Fs_law (.call 5 es) s m = (evs Fs_law es s m).bd fun xs m => callV M_is_name xs m := by kernel_rfl
@[simp] theorem en_law_5 (es : MEs) (s : Sl) (m : Mem) : ev Fs_law (.callN 5 es) s m = (evs Fs_law es s m).bd fun xs m => callN M_is_name xs m := by kernel_rfl
@[simp] theorem ek_law_5_0 (es : MEs) (s : Sl) (m : Mem) : ev Fs_law (.callK 5 ["value"] es) s m = (evs Fs_law es s m).bd fun xs m => cvK M_is_name [0] (vals xs) m := by kernel_rfl
@[simp] theorem ec_law_6 (es : MEs) (s : Sl) (m : Mem) : ev Fs_law (.call 6 es) s m = (evs Fs_law es s m).bd fun xs m => callV M_is_word xs m := by kernel_rfl
@[simp] theorem en_law_6 (es : MEs) (s : Sl) (m : Mem) : ev Fs_law (.callN 6 es) s m = (evs Fs_law es s m).bd fun xs m => callN M_is_word xs m := by kernel_rfl
@[simp] theorem ek_law_6_0 (es : MEs) (s : Sl) (m : Mem) : ev Fs_law (.callK 6 ["value"] es) s m = (evs Fs_law es s m).bd fun xs m => cvK M_is_word [0] (vals xs) m := by kernel_rfl
@[simp] theorem ec_law_7 (es : MEs) (s : Sl) (m : Mem) : ev Fs_law (.call 7 es) s m = (evs Fs_law es s m).bd fun xs m => callV (M_law_same 6) xs m := by kernel_rfl
@[simp] theorem en_law_7 (es : MEs) (s : Sl) (m : Mem) : ev Fs_law (.callN 7 es) s m = (evs Fs_law es s m).bd fun xs m => callN (M_law_same 6) xs m := by kernel_rfl
@[simp] theorem ec_law_8 (es : MEs) (s : Sl) (m : Mem) : ev Fs_law (.call 8 es) s m = (evs Fs_law es s m).bd fun xs m => callV M_is_number xs m := by kernel_rfl
@[simp] theorem en_law_8 (es : MEs) (s : Sl) (m : Mem) : ev Fs_law (.callN 8 es) s m = (evs Fs_law es s m).bd fun xs m => callN M_is_number xs m := by kernel_rfl
@[simp] theorem ek_law_8_0 (es : MEs) (s : Sl) (m : Mem) : ev Fs_law (.callK 8 ["most", "value", "least"] es) s m = (evs Fs_law es s m).bd fun xs m => cvK M_is_number [1, 2, 0] (vals xs) m := by kernel_rfl
end K02

set_option Elab.async false
set_option linter.all false
set_option maxRecDepth 100000
set_option maxHeartbeats 4000000
namespace K02
open PySem PySem.Spec L2 Rc
open PyProof.Rows hiding St signs
abbrev bg (b : Bag) : Mem := [some (.lst b.cont)]
theorem open_eq (ns : List Int) (m : Mem) : ∃ b : Bag, M_law_open [.kl (ns.map .int)] m = .new (.lst b.cont) m := open_ex ns m
@[simp] theorem draw_eq (b : Bag) (n : Int) (h : 1 ≤ n ∧ n < 2 ^ 64) : M_law_draw [.ref 0, .int n] (bg b) = .ok (.int (dr b n).1) (bg (dr b n).2) := dr_eq b h []
@[simp] theorem of_l (b : Bag) (xs : List MV) (h : 1 ≤ xs.length ∧ xs.length < 2 ^ 64) : M_law_of [.ref 0, .lst xs] (bg b) = .ok (xs.getD (dr b xs.length).1.toNat .non) (bg (dr b xs.length).2) := of_lst rfl b xs h []
@[simp] theorem of_s (b : Bag) (z : Str) (h : 1 ≤ z.length ∧ z.length ≤ sizeLine) : M_law_of [.ref 0, .str z] (bg b) = .ok (.str ⟨#[z.cps.toList.getD (dr b z.length).1.toNat 0]⟩) (bg (dr b z.length).2) := of_str rfl b z h []
@[simp] theorem same_eq (x : MV) (m : Mem) (h : pl 6 x = true) : M_law_same 6 [x, x] m = .ok (.bl true) m :=
  same_refl (M := M_law_same) (fun n => ⟨Fs_law_same (M_law_same n), rfl, rfl⟩) 6 x m h
/-- a value drawn -/
def gd (x : MV) : Prop := pl 5 x = true ∧ ∀ z, x = .str z → z.length ≤ sizeLine
def letters : Str := "abcdefghijklmnopqrstuvwxyz"
def sgB (x : MV) : Bool := (inB [] (.v x) (.v (.str letters))).getD false
def nameB : MV → Bool
  | .str z => decide (1 ≤ z.length) && decide (z.length ≤ 6) && (signs z).all sgB
  | _ => false
theorem blsM_map {α : Type} (f : α → Bool) (xs : List α) : blsM (xs.map fun x => MV.bl (f x)) = some (xs.map f) := by
  induction xs with
  | nil => rfl
  | cons x xs ih => simp [blsM, ih]
theorem sg_mem {z : Str} {x : MV} (h : x ∈ signs z) : ∃ c, x = .str ⟨#[c]⟩ := by
  unfold signs at h
  obtain ⟨c, _, rfl⟩ := List.mem_map.mp h
  exact ⟨c, rfl⟩
theorem sg_in (c : Nat) (m : Mem) : inB m (.v (.str ⟨#[c]⟩)) (.v (.str letters)) = some (sgB (.str ⟨#[c]⟩)) := rfl
theorem all_map (xs : List MV) : (xs.map sgB).all id = xs.all sgB := by
  induction xs with
  | nil => rfl
  | cons x xs ih => simp [ih]
theorem name_so (x : MV) (m : Mem) (h : gd x) : M_law_name_so [x, .int 6] m = .ok (.bl (nameB x)) m := by
  unfold M_law_name_so
  rw [runD_eq]
  unfold B_law_name_so
  cases x with
  | str z =>
    have hz := h.2 z rfl
    have hc := compM_map (f := compTurnF [2] (.name 2) (evTs Fs_law_name_so .nil) (ev Fs_law_name_so (.cmp .in_ (.slot 2) (.cS "abcdefghijklmnopqrstuvwxyz"))) [some (SV.v (.str z)), some (SV.v (.int 6)), none]) (h := fun x => .bl (sgB x)) (m := m) (xs := signs z) (acc := []) (fun y hy => by
        obtain ⟨c, rfl⟩ := sg_mem hy
        simp [show ∀ m, inB m (.v (.str ⟨#[c]⟩)) (.v (.str "abcdefghijklmnopqrstuvwxyz")) = some (sgB (.str ⟨#[c]⟩)) from fun m => sg_in c m]) (by
        have : (signs z).length = z.length := by simp [signs, Str.length]
        simpa [this] using hz)
    by_cases h1 : 1 ≤ z.length
    · by_cases h2 : z.length ≤ 6
      · have h1' : (1 : Int) ≤ z.length := by omega
        have h2' : (z.length : Int) ≤ 6 := by omega
        simp [isiAny, isiB, hz, h1, h2, h1', h2', hc, blsM_map, nameB, all_map]
      · have h1' : (1 : Int) ≤ z.length := by omega
        have h2' : ¬ (z.length : Int) ≤ 6 := by omega
        simp [isiAny, isiB, hz, h1, h2, h1', h2', nameB]
    · have h1' : ¬ (1 : Int) ≤ z.length := by omega
      simp [isiAny, isiB, hz, h1, h1', nameB]
  | kl xs => cases h.1
  | ref k => cases h.1
  | non => simp [isiAny, isiB, nameB]
  | bl b => simp [isiAny, isiB, nameB]
  | int b => simp [isiAny, isiB, nameB]
  | tup b => simp [isiAny, isiB, nameB]
  | lst b => simp [isiAny, isiB, nameB]
theorem is_name (x : MV) (m : Mem) (h : gd x) : M_is_name [x] m = .ok (.bl (nameB x)) m := by
  unfold M_is_name
  rw [runD_eq]
  unfold B_is_name
  cases x with
  | str z =>
    have hz := h.2 z rfl
    have hc := compM_map (f := compTurnF [1] (.name 1) (evTs Fs_is_name .nil) (ev Fs_is_name (.cmp .in_ (.slot 1) (.glob "LETTERS" (.str "abcdefghijklmnopqrstuvwxyz")))) [some (SV.v (.str z)), none]) (h := fun x => .bl (sgB x)) (m := m) (xs := signs z) (acc := []) (fun y hy => by
        obtain ⟨c, rfl⟩ := sg_mem hy
        simp [show ∀ m, inB m (.v (.str ⟨#[c]⟩)) (.v (.str "abcdefghijklmnopqrstuvwxyz")) = some (sgB (.str ⟨#[c]⟩)) from fun m => sg_in c m]) (by
        have : (signs z).length = z.length := by simp [signs, Str.length]
        simpa [this] using hz)
    by_cases h1 : 1 ≤ z.length
    · by_cases h2 : z.length ≤ 6
      · have h1' : (1 : Int) ≤ z.length := by omega
        have h2' : (z.length : Int) ≤ 6 := by omega
        simp [isiAny, isiB, hz, h1, h2, h1', h2', hc, blsM_map, nameB, all_map]
      · have h1' : (1 : Int) ≤ z.length := by omega
        have h2' : ¬ (z.length : Int) ≤ 6 := by omega
        simp [isiAny, isiB, hz, h1, h2, h1', h2', nameB]
    · have h1' : ¬ (1 : Int) ≤ z.length := by omega
      simp [isiAny, isiB, hz, h1, h1', nameB]
  | kl xs => cases h.1
  | ref k => cases h.1
  | non => simp [isiAny, isiB, nameB]
  | bl b => simp [isiAny, isiB, nameB]
  | int b => simp [isiAny, isiB, nameB]
  | tup b => simp [isiAny, isiB, nameB]
  | lst b => simp [isiAny, isiB, nameB]
def dueB : MV → Bool
  | .str z => nameB (.str z) && !decide (z = ("quiet" : Str)) && !decide (z = ("noise" : Str))
  | _ => false
theorem is_word (x : MV) (m : Mem) (h : gd x) : M_is_word [x] m = .ok (.bl (dueB x)) m := by
  unfold M_is_word
  rw [runD_eq]
  unfold B_is_word
  cases x with
  | str z =>
    by_cases hn : nameB (.str z) = true
    · have e : ∀ q : Str, (q == z) = decide (z = q) := fun q => by
        by_cases h : z = q
        · subst h; simp
        · have h2 : q ≠ z := fun w => h w.symm
          simp [h, h2]
      simp [is_name _ _ h, hn, sizeLine_eq, inB, contO, flatM, eqF, dueB, e]
    · have hn : nameB (.str z) = false := by simpa using hn
      simp [is_name _ _ h, hn, dueB]
  | kl xs => cases h.1
  | ref k => cases h.1
  | non => simp [is_name _ _ h, nameB, dueB]
  | bl b => simp [is_name _ _ h, nameB, dueB]
  | int b => simp [is_name _ _ h, nameB, dueB]
  | tup b => simp [is_name _ _ h, nameB, dueB]
  | lst b => simp [is_name _ _ h, nameB, dueB]
def numB : MV → Int → Int → Bool
  | .int i, lo, hi => decide (lo ≤ i) && decide (i ≤ hi)
  | _, _, _ => false
theorem is_number (x : MV) (lo hi : Int) (m : Mem) (h : pl 5 x = true) : M_is_number [x, .int lo, .int hi] m = .ok (.bl (numB x lo hi)) m := by
  unfold M_is_number
  rw [runD_eq]
  unfold B_is_number
  cases x with
  | kl xs => cases h
  | ref k => cases h
  | int i =>
    by_cases h1 : lo ≤ i
    · simp [isiAny, isiB, numB, h1]
    · simp [isiAny, isiB, numB, h1]
  | non => simp [isiAny, isiB, numB]
  | bl b => simp [isiAny, isiB, numB]
  | str b => simp [isiAny, isiB, numB]
  | tup b => simp [isiAny, isiB, numB]
  | lst b => simp [isiAny, isiB, numB]
/-! texts -/
theorem text_ex (L : Str) (s : Sl) (b : Bag) (xs : List MV) (h : (1 ≤ L.length ∧ L.length ≤ sizeLine) ∧ s[1]? = some (some (.v (.ref 0))) ∧ s.length = 15 ∧ xs.length ≤ 100) :
    ∃ p : List MV × Bag, compM (compTurnF [14] (.name 14) (evTs Fs_law .nil) (ev Fs_law (.call 2 (.cons (.slot 1) (.cons (.cS L) .nil)))) s) xs [] (bg b) = .ok p.1 (bg p.2) ∧ (∀ y ∈ p.1, isSign y) ∧ p.1.length ≤ 100 := by
  obtain ⟨ys, m', e, ⟨b', rfl⟩, h1, h2⟩ := compM_inv (f := compTurnF [14] (.name 14) (evTs Fs_law .nil) (ev Fs_law (.call 2 (.cons (.slot 1) (.cons (.cS L) .nil)))) s) (fun m => ∃ b, m = bg b) isSign (xs := xs) (acc := []) (m := bg b)
    (fun x hx m hm => by
      obtain ⟨b, rfl⟩ := hm
      refine ⟨.str ⟨#[L.cps.toList.getD (dr b L.length).1.toNat 0]⟩, bg (dr b L.length).2, ?_, ⟨_, rfl⟩, _, rfl⟩
      simp [-List.getD_eq_getElem?_getD, h.2.1, h.1]) ⟨b, rfl⟩ (by have := sizeLine_eq; simp; omega)
  exact ⟨(ys, b'), by simpa using e, h1, by simp [h2]; omega⟩
open Classical in
noncomputable def txt (L : Str) (s : Sl) (b : Bag) (xs : List MV) : List MV × Bag := if h : (1 ≤ L.length ∧ L.length ≤ sizeLine) ∧ s[1]? = some (some (.v (.ref 0))) ∧ s.length = 15 ∧ xs.length ≤ 100 then Classical.choose (text_ex L s b xs h) else ([], b)
theorem txt_spec {L : Str} {s : Sl} {b : Bag} {xs : List MV} (h : (1 ≤ L.length ∧ L.length ≤ sizeLine) ∧ s[1]? = some (some (.v (.ref 0))) ∧ s.length = 15 ∧ xs.length ≤ 100) :
    compM (compTurnF [14] (.name 14) (evTs Fs_law .nil) (ev Fs_law (.call 2 (.cons (.slot 1) (.cons (.cS L) .nil)))) s) xs [] (bg b) = .ok (txt L s b xs).1 (bg (txt L s b xs).2) ∧ (∀ y ∈ (txt L s b xs).1, isSign y) ∧ (txt L s b xs).1.length ≤ 100 := by
  unfold txt; rw [dif_pos h]; exact Classical.choose_spec (text_ex L s b xs h)
@[simp] theorem txt_eq {L : Str} {s : Sl} {b : Bag} {xs : List MV} (h : (1 ≤ L.length ∧ L.length ≤ sizeLine) ∧ s[1]? = some (some (.v (.ref 0))) ∧ s.length = 15 ∧ xs.length ≤ 100) :
    compM (compTurnF [14] (.name 14) (evTs Fs_law .nil) (ev Fs_law (.call 2 (.cons (.slot 1) (.cons (.cS L) .nil)))) s) xs [] (bg b) = .ok (txt L s b xs).1 (bg (txt L s b xs).2) := (txt_spec h).1
theorem jn_ex (L : Str) (s : Sl) (b : Bag) (xs : List MV) : ∃ z : Str, z.length ≤ 100 ∧ ∀ m, joinF (.v (.str ("" : Str))) (.v (.lst (txt L s b xs).1)) m = .ok (.v (.str z)) m := by
  by_cases h : (1 ≤ L.length ∧ L.length ≤ sizeLine) ∧ s[1]? = some (some (.v (.ref 0))) ∧ s.length = 15 ∧ xs.length ≤ 100
  · obtain ⟨_, h2, h3⟩ := txt_spec (b := b) h
    obtain ⟨z, _, e2⟩ := join_signs h2 h3 []
    refine ⟨z, by omega, fun m => ?_⟩
    obtain ⟨z', e3, e4⟩ := join_signs h2 h3 m
    have : z' = z := by
      rename_i e1
      unfold joinF at e1 e3
      dsimp only [contO] at e1 e3
      cases q : strsOf (txt L s b xs).1 with
      | none => rw [q] at e1; cases e1
      | some ws =>
        rw [q] at e1 e3
        dsimp only at e1 e3
        split at e1
        · rename_i hh
          rw [if_pos hh] at e3
          cases e1
          cases e3
          rfl
        · cases e1
    rw [← this]
    exact e3
  · refine ⟨Txt.join "" [], ?_, fun m => ?_⟩
    · decide
    · unfold txt
      rw [dif_neg h]
      rfl
noncomputable def jn (L : Str) (s : Sl) (b : Bag) (xs : List MV) : Str := Classical.choose (jn_ex L s b xs)
theorem jn_len (L : Str) (s : Sl) (b : Bag) (xs : List MV) : (jn L s b xs).length ≤ 100 := (Classical.choose_spec (jn_ex L s b xs)).1
@[simp] theorem jn_eq (L : Str) (s : Sl) (b : Bag) (xs : List MV) (m : Mem) : joinF (.v (.str ("" : Str))) (.v (.lst (txt L s b xs).1)) m = .ok (.v (.str (jn L s b xs))) m := (Classical.choose_spec (jn_ex L s b xs)).2 m
def okS (I : Sl → Mem → Prop) (r : SR) : Prop := ∃ s' m', r = .nx s' m' ∧ I s' m'
theorem okS_sq {I I2 : Sl → Mem → Prop} {r : SR} {k : Sl → Mem → SR} {t : Tg k} (h : okS I2 r) (hk : ∀ s m, I2 s m → okS I (k s m)) : okS I (r.sq k t) := by
  obtain ⟨s, m, rfl, h⟩ := h
  exact hk s m h
theorem okS_for {I : Sl → Mem → Prop} {f : MV → Sl → Mem → SR} {xs : List MV} {s : Sl} {m : Mem} (hf : ∀ x ∈ xs, ∀ s m, I s m → okS I (f x s m)) (h : I s m) : okS I (forS f xs s m) := forS_inv I hf h
theorem rangeM_len (lo : Int) (n : Nat) : (rangeM lo n).length = n := by simp [rangeM]
theorem dr10 (b : Bag) : (dr b 10).1.toNat ≤ 100 := by
  have := dr_hi b (n := 10) (by decide)
  omega
theorem drA (b : Bag) (n : Int) (h : 1 ≤ n ∧ n < 2 ^ 20) : -4611686018427387904 ≤ (dr b n).1 ∧ (dr b n).1 < 4611686018427387904 := by
  have h1 := dr_lo b (n := n) (by omega)
  have h2 := dr_hi b (n := n) (by omega)
  omega
def Iv (X : MV) (s : Sl) (m : Mem) : Prop := ∃ a2 a3 a4 a5 a6 a7 a8 a9 a10 a11 a12 a13 a14, s = [some (.v X), some (.v (.ref 0)), a2, a3, a4, a5, a6, a7, a8, a9, a10, a11, a12, a13, a14] ∧ ∃ b, m = bg b
def Iw (X : MV) (lo sz : Int) (s : Sl) (m : Mem) : Prop := ∃ a2 a3 a4 a5 a6 a7 a8 a9 a10 a11 a14, s = [some (.v X), some (.v (.ref 0)), a2, a3, a4, a5, a6, a7, a8, a9, a10, a11, some (.v (.int lo)), some (.v (.int sz)), a14] ∧ ∃ b, m = bg b
theorem fin_for {I : Sl → Mem → Prop} {f : MV → Sl → Mem → SR} {xs : List MV} {s : Sl} {m : Mem} {k : Sl → Mem → SR} {t : Tg k} (hf : ∀ x ∈ xs, ∀ s m, I s m → okS I (f x s m)) (h : I s m) (hk : ∀ s m, I s m → ∃ m', runR (k s m) = .ok (.bl true) m') :
    ∃ m', runR ((forS f xs s m).sq k t) = .ok (.bl true) m' := by
  obtain ⟨s', m', e, h'⟩ := okS_for hf h
  rw [e]
  exact hk s' m' h'
def oddC : List MV := [.non, .bl true, .bl false, .int 3, .int (-1), .str "", .str "A", .str "seventh", .str "a1", .tup [], .lst [], .tup [.str "a"], .lst [.str "a"], .tup [.tup [.int 1, .str "a"]]]
theorem odd_eq (b : Bag) (ys : List MV) (h : ys.length ≤ 100) : M_law_odd [.ref 0, .lst ys] (bg b) = .ok ((oddC ++ ys).getD (dr b (oddC ++ ys).length).1.toNat .non) (bg (dr b (oddC ++ ys).length).2) := by
  have e : (oddC ++ ys).length = 14 + ys.length := by simp [oddC]; omega
  have h2 : 14 + ys.length ≤ sizeLine := by rw [sizeLine_eq]; omega
  have h3 := of_l b (oddC ++ ys) (by rw [e]; omega)
  unfold M_law_odd
  rw [runD_eq]
  unfold B_law_odd
  unfold oddC at h3 e ⊢
  rw [e] at h3 ⊢
  have s0 : (0 : Nat) ≤ sizeLine := by omega
  have s1 : (1 : Nat) ≤ sizeLine := by rw [sizeLine_eq]; omega
  have s2 : (2 : Nat) ≤ sizeLine := by rw [sizeLine_eq]; omega
  have s14 : (14 : Nat) ≤ sizeLine := by rw [sizeLine_eq]; omega
  simp [-List.getD_eq_getElem?_getD, -of_l, s0, s1, s2, s14, h2]
  rw [show ([MV.non, .bl true, .bl false, .int 3, .int (-1), .str "", .str "A", .str "seventh", .str "a1", .tup [], .lst [], .tup [.str "a"], .lst [.str "a"], .tup [.tup [.int 1, .str "a"]]] ++ ys : List MV) = MV.non :: .bl true :: .bl false :: .int 3 :: .int (-1) :: .str "" :: .str "A" :: .str "seventh" :: .str "a1" :: .tup [] :: .lst [] :: .tup [.str "a"] :: .lst [.str "a"] :: .tup [.tup [.int 1, .str "a"]] :: ys from rfl] at h3
  rw [h3]
  rfl
theorem getD_all {P : MV → Prop} {xs : List MV} (h : ∀ x ∈ xs, P x) (h0 : P .non) (i : Nat) : P (xs.getD i .non) := by
  by_cases hi : i < xs.length
  · rw [List.getD_eq_getElem?_getD, List.getElem?_eq_getElem hi]
    exact h _ (List.getElem_mem hi)
  · rw [List.getD_eq_getElem?_getD, List.getElem?_eq_none (by omega)]
    exact h0
def shB : MV → Bool
  | .str z => decide (z.length ≤ 1000)
  | _ => true
theorem gd_by {x : MV} (h : pl 5 x = true) (h2 : shB x = true) : gd x := by
  refine ⟨h, fun z e => ?_⟩
  subst e
  have := of_decide_eq_true h2
  rw [sizeLine_eq]
  omega
theorem gd_all {xs : List MV} (h : (xs.all fun x => pl 5 x && shB x) = true) : ∀ x ∈ xs, gd x := fun x hx => by
  have := List.all_eq_true.mp h x hx
  rw [Bool.and_eq_true] at this
  exact gd_by this.1 this.2
theorem nameB_str {x : MV} (h : nameB x = true) : ∃ z, x = .str z := by
  cases x with
  | str z => exact ⟨z, rfl⟩
  | _ => cases h
theorem bl4 (a b c d : Bool) : pl 6 (.lst [.bl a, .bl b, .bl c, .bl d]) = true := by
  simp [pl, sizeLine_eq]
theorem bl2 (a b : Bool) : pl 6 (.lst [.bl a, .bl b]) = true := by
  simp [pl, sizeLine_eq]
def pB (x : MV) : Prop := pl 5 x = true ∧ ∀ lo hi, numB x lo hi = false
theorem law_true (ns : List Int) (hl : ns.length ≤ 63) : ∃ m', M_law [.kl (ns.map MV.int)] [] = .ok (.bl true) m' := by
  generalize hX : ns.map MV.int = X
  obtain ⟨b, hb⟩ := open_eq ns []
  rw [hX] at hb
  have s3 : (3 : Nat) ≤ sizeLine := by rw [sizeLine_eq]; omega
  have s1 : (1 : Nat) ≤ sizeLine := by rw [sizeLine_eq]; omega
  have s4 : (4 : Nat) ≤ sizeLine := by rw [sizeLine_eq]; omega
  have s2 : (2 : Nat) ≤ sizeLine := by rw [sizeLine_eq]; omega
  have s5 : (5 : Nat) ≤ sizeLine := by rw [sizeLine_eq]; omega
  have s6 : (6 : Nat) ≤ sizeLine := by rw [sizeLine_eq]; omega
  have tA := fun (s : Sl) (b : Bag) (xs : List MV) h => txt_eq (L := "abmyzqAZ0_ -") (s := s) (b := b) (xs := xs) ⟨by rw [sizeLine_eq]; decide, h⟩
  have tB := fun (s : Sl) (b : Bag) (xs : List MV) h => txt_eq (L := "abcxyz") (s := s) (b := b) (xs := xs) ⟨by rw [sizeLine_eq]; decide, h⟩
  have d100 : ∀ b : Bag, (dr b 10).1 ≤ 100 := fun b => by
    have := dr_hi b (n := 10) (by decide)
    omega
  have d10 := fun b => (drA b 10 (by decide)).1
  have d10' := fun b => (drA b 10 (by decide)).2
  unfold M_law
  rw [runD_eq]
  unfold B_law
  simp [hb]
  refine fin_for (I := Iv (.kl X)) (fun x hx s m hI => ?_) ⟨_, _, _, _, _, _, _, _, _, _, _, _, _, rfl, _, rfl⟩ (fun s m hI => ?_)
  · obtain ⟨a2, a3, a4, a5, a6, a7, a8, a9, a10, a11, a12, a13, a14, rfl, b, rfl⟩ := hI
    simp [-List.getD_eq_getElem?_getD, tA, tB, d100, d10, d10', rangeM_len, dr10, odd_eq, s3, s5]
    refine okS_sq (I2 := Iv (.kl X)) (okS_for (fun y hy s m hI => ?_) ⟨_, _, _, _, _, _, _, _, _, _, _, _, _, rfl, _, rfl⟩) (fun s m hI => ?_)
    · have hg : gd y := by
        simp only [List.mem_cons, List.not_mem_nil, or_false] at hy
        rcases hy with rfl | rfl | rfl
        · refine ⟨rfl, fun z e => ?_⟩
          cases e
          have := jn_len
          rw [sizeLine_eq]
          exact Nat.le_trans (jn_len _ _ _ _) (by decide)
        · refine ⟨rfl, fun z e => ?_⟩
          cases e
          rw [sizeLine_eq]
          exact Nat.le_trans (jn_len _ _ _ _) (by decide)
        · exact getD_all (P := gd) (gd_all (by simp [oddC, pl, shB, sizeLine_eq]; decide)) (gd_by rfl rfl) _
      obtain ⟨a2, a3, a4, a5, a6, a7, a8, a9, a10, a11, a12, a13, a14, rfl, b, rfl⟩ := hI
      by_cases hn : nameB y = true
      · obtain ⟨z, rfl⟩ := nameB_str hn
        by_cases hq : z = ("quiet" : Str)
        · have hd : dueB (.str z) = false := by simp [dueB, hq]
          simp [name_so _ _ hg, is_name _ _ hg, is_word _ _ hg, hn, hd, s4, hq, bl4]
          exact ⟨_, _, rfl, ⟨_, _, _, _, _, _, _, _, _, _, _, _, _, rfl, _, rfl⟩⟩
        · by_cases ho : z = ("noise" : Str)
          · have hd : dueB (.str z) = false := by simp [dueB, ho]
            simp [name_so _ _ hg, is_name _ _ hg, is_word _ _ hg, hn, hd, s4, hq, ho, bl4]
            exact ⟨_, _, rfl, ⟨_, _, _, _, _, _, _, _, _, _, _, _, _, rfl, _, rfl⟩⟩
          · have hd : dueB (.str z) = true := by simp [dueB, hn, hq, ho]
            simp [name_so _ _ hg, is_name _ _ hg, is_word _ _ hg, hn, hd, s4, hq, ho, bl4]
            exact ⟨_, _, rfl, ⟨_, _, _, _, _, _, _, _, _, _, _, _, _, rfl, _, rfl⟩⟩
      · have hn : nameB y = false := by simpa using hn
        have hd : dueB y = false := by
          cases y with
          | str z => simp [dueB, hn]
          | _ => rfl
        simp [name_so _ _ hg, is_name _ _ hg, is_word _ _ hg, hn, hd, s4, bl4]
        exact ⟨_, _, rfl, ⟨_, _, _, _, _, _, _, _, _, _, _, _, _, rfl, _, rfl⟩⟩
    · obtain ⟨a2, a3, a4, a5, a6, a7, a8, a9, a10, a11, a12, a13, a14, rfl, b, rfl⟩ := hI
      have z1 := dr_lo b (n := 9) (by decide)
      have z2 := dr_hi b (n := 9) (by decide)
      have z3 := dr_lo (dr b 9).2 (n := 3) (by decide)
      have z4 := dr_hi (dr b 9).2 (n := 3) (by decide)
      simp
      rw [if_pos (by omega)]
      generalize (dr b 9).1 - 4 = lo
      generalize (dr (dr b 9).2 3).1 = sz
      refine okS_sq (I2 := Iw (.kl X) lo sz) (okS_for (fun y hy s m hI => ?_) ⟨_, _, _, _, _, _, _, _, _, _, _, rfl, _, rfl⟩) (fun s m hI => ?_)
      · obtain ⟨i, rfl⟩ : ∃ i, y = .int i := by
          unfold rangeM at hy
          obtain ⟨j, _, rfl⟩ := List.mem_map.mp hy
          exact ⟨_, rfl⟩
        obtain ⟨a2, a3, a4, a5, a6, a7, a8, a9, a10, a11, a14, rfl, b, rfl⟩ := hI
        have hnum := fun m => is_number (.int i) lo (lo + sz) m rfl
        by_cases h1 : lo ≤ i
        · simp [hnum, numB, h1, s2, bl2]
          exact ⟨_, _, rfl, ⟨_, _, _, _, _, _, _, _, _, _, _, rfl, _, rfl⟩⟩
        · simp [hnum, numB, h1, s2, bl2]
          exact ⟨_, _, rfl, ⟨_, _, _, _, _, _, _, _, _, _, _, rfl, _, rfl⟩⟩
      · obtain ⟨a2, a3, a4, a5, a6, a7, a8, a9, a10, a11, a14, rfl, b, rfl⟩ := hI
        have hP : ∀ k, pB (([.non, .bl true, .bl false, .str "0", .tup [.int 0], .lst [.int 0]] : List MV).getD k .non) := fun k => getD_all (P := pB) (fun x hx => by
          rcases List.mem_cons.mp hx with rfl | hx
          · exact ⟨rfl, fun _ _ => rfl⟩
          rcases List.mem_cons.mp hx with rfl | hx
          · exact ⟨rfl, fun _ _ => rfl⟩
          rcases List.mem_cons.mp hx with rfl | hx
          · exact ⟨rfl, fun _ _ => rfl⟩
          rcases List.mem_cons.mp hx with rfl | hx
          · exact ⟨rfl, fun _ _ => rfl⟩
          rcases List.mem_cons.mp hx with rfl | hx
          · exact ⟨by simp [pl, sizeLine_eq], fun _ _ => rfl⟩
          rcases List.mem_cons.mp hx with rfl | hx
          · exact ⟨by simp [pl, sizeLine_eq], fun _ _ => rfl⟩
          cases hx) ⟨rfl, fun _ _ => rfl⟩ k
        have hN := fun k lo hi m => (is_number _ lo hi m (hP k).1).trans (by rw [(hP k).2])
        simp [-List.getD_eq_getElem?_getD, s1, s6, hN]
        exact ⟨_, _, rfl, ⟨_, _, _, _, _, _, _, _, _, _, _, _, _, rfl, _, rfl⟩⟩
  · obtain ⟨a2, a3, a4, a5, a6, a7, a8, a9, a10, a11, a12, a13, a14, rfl, b, rfl⟩ := hI
    simp
end K02

set_option Elab.async false
set_option linter.all false
set_option maxRecDepth 100000
set_option maxHeartbeats 0
namespace K02
open PySem PySem.Spec L2 Rc
open PyProof.Rows hiding St
def top (i : Nat) : Stmt := PySem.Challenge.pw_roomofcalls_k02_names_words_and_numbers.main.body.getD i (.Pass ⟨0, 0, 0, 0⟩)
def d_law_open : He.DefD := ⟨("_law_open", none), "_law_open", "_law_open", defArgs (top 7), defBody (top 7), defScope (top 7), [], []⟩
def d_law_draw : He.DefD := ⟨("_law_draw", none), "_law_draw", "_law_draw", defArgs (top 8), defBody (top 8), defScope (top 8), [], []⟩
def d_law_of : He.DefD := ⟨("_law_of", none), "_law_of", "_law_of", defArgs (top 9), defBody (top 9), defScope (top 9), [], []⟩
def d_law_odd : He.DefD := ⟨("_law_odd", none), "_law_odd", "_law_odd", defArgs (top 11), defBody (top 11), defScope (top 11), [], []⟩
def d_law_name_so : He.DefD := ⟨("_law_name_so", none), "_law_name_so", "_law_name_so", defArgs (top 12), defBody (top 12), defScope (top 12), [], []⟩
def d_is_name : He.DefD := ⟨("is_name", none), "is_name", "is_name", defArgs (top 3), defBody (top 3), defScope (top 3), [], []⟩
def d_is_word : He.DefD := ⟨("is_word", none), "is_word", "is_word", defArgs (top 4), defBody (top 4), defScope (top 4), [], []⟩
def d_law_same : He.DefD := ⟨("_law_same", none), "_law_same", "_law_same", defArgs (top 10), defBody (top 10), defScope (top 10), [], []⟩
def d_is_number : He.DefD := ⟨("is_number", none), "is_number", "is_number", defArgs (top 5), defBody (top 5), defScope (top 5), [], []⟩
def d_law : He.DefD := ⟨("law", none), "law", "law", defArgs (top 13), defBody (top 13), defScope (top 13), [], []⟩
def fn : List He.DefD := [d_law_open, d_law_draw, d_law_of, d_law_odd, d_law_name_so, d_is_name, d_is_word, d_law_same, d_is_number, d_law]
def fa : List He.Fa := [.glo "_law_open", .glo "_law_draw", .glo "_law_of", .glo "_law_odd", .glo "_law_name_so", .glo "is_name", .glo "is_word", .glo "_law_same", .glo "is_number", .glo "law", .free "abs", .free "all", .free "bool", .free "int", .free "isinstance", .free "len", .free "list", .free "range", .free "str", .free "tuple", .free "zip", .str "LETTERS" "abcdefghijklmnopqrstuvwxyz", .int "MOST_DEVICES" (1000000000000)]
abbrev RR : PySem.W.OpenRow := PySem.W.OpenLaw.row PySem.Challenge.rw_roomofcalls_k02_names_words_and_numbers
abbrev hk : PySem.W.Hook := He.hookD 4 fa fn
def ob (s : PySem.W.SharedT) : He.AlD := He.obsDG 4 fa fn (HandSHeadRun.getT s)
theorem ob_eq (s : PySem.W.SharedT) : ob s = hk.obs s.abs := He.obsDG_eq (HandSHeadRun.getT_eq s)
def nms : List PySem.Str := (["MOST_DEVICES", "LETTERS", "is_name", "is_word", "is_number", "_law_open", "_law_draw", "_law_of", "_law_same", "_law_odd", "_law_name_so"] : List PySem.Str)
theorem run (w : World) : HandSHeadRun.RunEq RR (PySem.W.view RR.prog [13]) hk ob 30000 nms w := by
  intro os
  kernel_rfl
def blts : List Str := ["abs", "all", "bool", "int", "isinstance", "len", "list", "range", "str", "tuple", "zip"]
def cst : List (Str × MV) := [("LETTERS", (.str "abcdefghijklmnopqrstuvwxyz")), ("MOST_DEVICES", (.int 1000000000000))]
theorem mt_law_open : mSs Fs_law_open B_law_open ⟨N_law_open, defScope (top 7), blts, cst, true⟩ (defBody (top 7)) = true := by
  kernel_rfl
theorem sc_law_open : FnScope N_law_open ["_law_script"] (defScope (top 7)) := ⟨by kernel_rfl, by kernel_rfl, by kernel_rfl, by decide +kernel, by kernel_rfl, by decide +kernel, by decide +kernel⟩
theorem mt_law_draw : mSs Fs_law_draw B_law_draw ⟨N_law_draw, defScope (top 8), blts, cst, true⟩ (defBody (top 8)) = true := by
  kernel_rfl
theorem sc_law_draw : FnScope N_law_draw ["_law_bag", "_law_sides"] (defScope (top 8)) := ⟨by kernel_rfl, by kernel_rfl, by kernel_rfl, by decide +kernel, by kernel_rfl, by decide +kernel, by decide +kernel⟩
theorem mt_law_of : mSs Fs_law_of B_law_of ⟨N_law_of, defScope (top 9), blts, cst, true⟩ (defBody (top 9)) = true := by
  kernel_rfl
theorem sc_law_of : FnScope N_law_of ["_law_bag", "_law_things"] (defScope (top 9)) := ⟨by kernel_rfl, by kernel_rfl, by kernel_rfl, by decide +kernel, by kernel_rfl, by decide +kernel, by decide +kernel⟩
theorem mt_law_odd : mSs Fs_law_odd B_law_odd ⟨N_law_odd, defScope (top 11), blts, cst, true⟩ (defBody (top 11)) = true := by
  kernel_rfl
theorem sc_law_odd : FnScope N_law_odd ["_law_bag", "_law_more"] (defScope (top 11)) := ⟨by kernel_rfl, by kernel_rfl, by kernel_rfl, by decide +kernel, by kernel_rfl, by decide +kernel, by decide +kernel⟩
theorem mt_law_name_so : mSs Fs_law_name_so B_law_name_so ⟨N_law_name_so, defScope (top 12), blts, cst, true⟩ (defBody (top 12)) = true := by
  kernel_rfl
theorem sc_law_name_so : FnScope N_law_name_so ["_law_one", "_law_top"] (defScope (top 12)) := ⟨by kernel_rfl, by kernel_rfl, by kernel_rfl, by decide +kernel, by kernel_rfl, by decide +kernel, by decide +kernel⟩
theorem mt_is_name : mSs Fs_is_name B_is_name ⟨N_is_name, defScope (top 3), blts, cst, true⟩ (defBody (top 3)) = true := by
  kernel_rfl
theorem sc_is_name : FnScope N_is_name ["value"] (defScope (top 3)) := ⟨by kernel_rfl, by kernel_rfl, by kernel_rfl, by decide +kernel, by kernel_rfl, by decide +kernel, by decide +kernel⟩
theorem mt_is_word : mSs Fs_is_word B_is_word ⟨N_is_word, defScope (top 4), blts, cst, true⟩ (defBody (top 4)) = true := by
  kernel_rfl
theorem sc_is_word : FnScope N_is_word ["value"] (defScope (top 4)) := ⟨by kernel_rfl, by kernel_rfl, by kernel_rfl, by decide +kernel, by kernel_rfl, by decide +kernel, by decide +kernel⟩
theorem mt_law_same : ∀ M : Mir, mSs (Fs_law_same M) B_law_same ⟨N_law_same, defScope (top 10), blts, cst, true⟩ (defBody (top 10)) = true := by
  intro M; kernel_rfl
theorem sc_law_same : FnScope N_law_same ["_law_found", "_law_due"] (defScope (top 10)) := ⟨by kernel_rfl, by kernel_rfl, by kernel_rfl, by decide +kernel, by kernel_rfl, by decide +kernel, by decide +kernel⟩
theorem mt_is_number : mSs Fs_is_number B_is_number ⟨N_is_number, defScope (top 5), blts, cst, true⟩ (defBody (top 5)) = true := by
  kernel_rfl
theorem sc_is_number : FnScope N_is_number ["value", "least", "most"] (defScope (top 5)) := ⟨by kernel_rfl, by kernel_rfl, by kernel_rfl, by decide +kernel, by kernel_rfl, by decide +kernel, by decide +kernel⟩
theorem mt_law : mSs Fs_law B_law ⟨N_law, defScope (top 13), blts, cst, true⟩ (defBody (top 13)) = true := by
  kernel_rfl
theorem sc_law : FnScope N_law ["_law_script"] (defScope (top 13)) := ⟨by kernel_rfl, by kernel_rfl, by kernel_rfl, by decide +kernel, by kernel_rfl, by decide +kernel, by decide +kernel⟩
theorem facts {P : Program} {w : World} {K : PySem.W.Frag} {h : Heap} {mg : Str → Option Value} {f : Addr} (X : K.In h) (G : h.Ns mainGlobals mg) (hfa : mg ("law" : Str) = some (.ref f)) (c : He.SaysD fa fn K) :
    ∃ fd : FuncData, (∀ (s : Shared) (v : Value), BindsTo s fd ⟨[v], []⟩ [("_law_script", v)]) ∧ ∀ base : Heap, K.In base → base.Ns mainGlobals mg → FnOk P w K mg base CX0 7 f fd ["_law_script"] (spM K 1 M_law) := by
  have mo : ModOk K mg blts cst := by
    refine ⟨fun x hx => ?_, fun x v hx => ?_⟩
    · unfold blts at hx
      simp only [List.mem_cons, List.not_mem_nil, or_false] at hx
      rcases hx with rfl | rfl | rfl | rfl | rfl | rfl | rfl | rfl | rfl | rfl | rfl
      · exact He.free_ok X G (c.fact 10 rfl)
      · exact He.free_ok X G (c.fact 11 rfl)
      · exact He.free_ok X G (c.fact 12 rfl)
      · exact He.free_ok X G (c.fact 13 rfl)
      · exact He.free_ok X G (c.fact 14 rfl)
      · exact He.free_ok X G (c.fact 15 rfl)
      · exact He.free_ok X G (c.fact 16 rfl)
      · exact He.free_ok X G (c.fact 17 rfl)
      · exact He.free_ok X G (c.fact 18 rfl)
      · exact He.free_ok X G (c.fact 19 rfl)
      · exact He.free_ok X G (c.fact 20 rfl)
    · unfold cst at hx
      simp only [List.mem_cons, List.not_mem_nil, or_false, Prod.mk.injEq] at hx
      rcases hx with ⟨rfl, rfl⟩ | ⟨rfl, rfl⟩
      · obtain ⟨t, e⟩ := He.str_ok X G (c.fact 21 rfl)
        exact ⟨_, .str "abcdefghijklmnopqrstuvwxyz", e, ⟨_, rfl⟩, fun _ => rfl⟩
      · obtain ⟨t, e⟩ := He.int_ok X G (c.fact 22 rfl)
        exact ⟨_, .int (1000000000000), e, ⟨_, rfl⟩, fun _ => rfl⟩
  obtain ⟨fd_law_open, D_law_open⟩ := c.def_ 0 (d := d_law_open) rfl
  have g_law_open := He.glo_ok X G (c.fact 0 (f := .glo "_law_open") rfl)
  have b_law_open : Binds K fd_law_open ["_law_script"] [] := FunD.bindsN D_law_open fun _ _ _ _ _ _ us hl => match us, hl with | [_], _ => rfl
  have k_law_open : ∀ ks ∈ (F_law_open).kws, ∀ (s : Shared) (ws : List Value), ws.length = ks.length → BindsTo s fd_law_open ⟨[], ks.zip ws⟩ ((["_law_script"] : List Str).zip (spreadV .none ["_law_script"] ks ws)) := by
    intro ks hk; cases hk
  obtain ⟨fd_law_draw, D_law_draw⟩ := c.def_ 1 (d := d_law_draw) rfl
  have g_law_draw := He.glo_ok X G (c.fact 1 (f := .glo "_law_draw") rfl)
  have b_law_draw : Binds K fd_law_draw ["_law_bag", "_law_sides"] [] := FunD.bindsN D_law_draw fun _ _ _ _ _ _ us hl => match us, hl with | [_, _], _ => rfl
  have k_law_draw : ∀ ks ∈ (F_law_draw).kws, ∀ (s : Shared) (ws : List Value), ws.length = ks.length → BindsTo s fd_law_draw ⟨[], ks.zip ws⟩ ((["_law_bag", "_law_sides"] : List Str).zip (spreadV .none ["_law_bag", "_law_sides"] ks ws)) := by
    intro ks hk; cases hk
  obtain ⟨fd_law_of, D_law_of⟩ := c.def_ 2 (d := d_law_of) rfl
  have g_law_of := He.glo_ok X G (c.fact 2 (f := .glo "_law_of") rfl)
  have b_law_of : Binds K fd_law_of ["_law_bag", "_law_things"] [] := FunD.bindsN D_law_of fun _ _ _ _ _ _ us hl => match us, hl with | [_, _], _ => rfl
  have k_law_of : ∀ ks ∈ (F_law_of).kws, ∀ (s : Shared) (ws : List Value), ws.length = ks.length → BindsTo s fd_law_of ⟨[], ks.zip ws⟩ ((["_law_bag", "_law_things"] : List Str).zip (spreadV .none ["_law_bag", "_law_things"] ks ws)) := by
    intro ks hk; cases hk
  obtain ⟨fd_law_odd, D_law_odd⟩ := c.def_ 3 (d := d_law_odd) rfl
  have g_law_odd := He.glo_ok X G (c.fact 3 (f := .glo "_law_odd") rfl)
  have b_law_odd : Binds K fd_law_odd ["_law_bag", "_law_more"] [] := FunD.bindsN D_law_odd fun _ _ _ _ _ _ us hl => match us, hl with | [_, _], _ => rfl
  have k_law_odd : ∀ ks ∈ (F_law_odd).kws, ∀ (s : Shared) (ws : List Value), ws.length = ks.length → BindsTo s fd_law_odd ⟨[], ks.zip ws⟩ ((["_law_bag", "_law_more"] : List Str).zip (spreadV .none ["_law_bag", "_law_more"] ks ws)) := by
    intro ks hk; cases hk
  obtain ⟨fd_law_name_so, D_law_name_so⟩ := c.def_ 4 (d := d_law_name_so) rfl
  have g_law_name_so := He.glo_ok X G (c.fact 4 (f := .glo "_law_name_so") rfl)
  have b_law_name_so : Binds K fd_law_name_so ["_law_one", "_law_top"] [] := FunD.bindsN D_law_name_so fun _ _ _ _ _ _ us hl => match us, hl with | [_, _], _ => rfl
  have k_law_name_so : ∀ ks ∈ (F_law_name_so).kws, ∀ (s : Shared) (ws : List Value), ws.length = ks.length → BindsTo s fd_law_name_so ⟨[], ks.zip ws⟩ ((["_law_one", "_law_top"] : List Str).zip (spreadV .none ["_law_one", "_law_top"] ks ws)) := by
    intro ks hk; cases hk
  obtain ⟨fd_is_name, D_is_name⟩ := c.def_ 5 (d := d_is_name) rfl
  have g_is_name := He.glo_ok X G (c.fact 5 (f := .glo "is_name") rfl)
  have b_is_name : Binds K fd_is_name ["value"] [] := FunD.bindsN D_is_name fun _ _ _ _ _ _ us hl => match us, hl with | [_], _ => rfl
  have k_is_name : ∀ ks ∈ (F_is_name).kws, ∀ (s : Shared) (ws : List Value), ws.length = ks.length → BindsTo s fd_is_name ⟨[], ks.zip ws⟩ ((["value"] : List Str).zip (spreadV .none ["value"] ks ws)) := by
    intro ks hk s ws hl
    have hk : ks ∈ ([["value"]] : List (List Str)) := hk
    simp only [List.mem_cons, List.not_mem_nil, or_false] at hk
    rcases hk with rfl
    · match ws, hl with
      | [w0], _ => exact FunD.kwBinds D_is_name _ (fun _ _ _ _ _ _ => rfl) s
  obtain ⟨fd_is_word, D_is_word⟩ := c.def_ 6 (d := d_is_word) rfl
  have g_is_word := He.glo_ok X G (c.fact 6 (f := .glo "is_word") rfl)
  have b_is_word : Binds K fd_is_word ["value"] [] := FunD.bindsN D_is_word fun _ _ _ _ _ _ us hl => match us, hl with | [_], _ => rfl
  have k_is_word : ∀ ks ∈ (F_is_word).kws, ∀ (s : Shared) (ws : List Value), ws.length = ks.length → BindsTo s fd_is_word ⟨[], ks.zip ws⟩ ((["value"] : List Str).zip (spreadV .none ["value"] ks ws)) := by
    intro ks hk s ws hl
    have hk : ks ∈ ([["value"]] : List (List Str)) := hk
    simp only [List.mem_cons, List.not_mem_nil, or_false] at hk
    rcases hk with rfl
    · match ws, hl with
      | [w0], _ => exact FunD.kwBinds D_is_word _ (fun _ _ _ _ _ _ => rfl) s
  obtain ⟨fd_law_same, D_law_same⟩ := c.def_ 7 (d := d_law_same) rfl
  have g_law_same := He.glo_ok X G (c.fact 7 (f := .glo "_law_same") rfl)
  have b_law_same : Binds K fd_law_same ["_law_found", "_law_due"] [] := FunD.bindsN D_law_same fun _ _ _ _ _ _ us hl => match us, hl with | [_, _], _ => rfl
  have k_law_same : ∀ ks ∈ (F_law_same 0).kws, ∀ (s : Shared) (ws : List Value), ws.length = ks.length → BindsTo s fd_law_same ⟨[], ks.zip ws⟩ ((["_law_found", "_law_due"] : List Str).zip (spreadV .none ["_law_found", "_law_due"] ks ws)) := by
    intro ks hk; cases hk
  obtain ⟨fd_is_number, D_is_number⟩ := c.def_ 8 (d := d_is_number) rfl
  have g_is_number := He.glo_ok X G (c.fact 8 (f := .glo "is_number") rfl)
  have b_is_number : Binds K fd_is_number ["value", "least", "most"] [] := FunD.bindsN D_is_number fun _ _ _ _ _ _ us hl => match us, hl with | [_, _, _], _ => rfl
  have k_is_number : ∀ ks ∈ (F_is_number).kws, ∀ (s : Shared) (ws : List Value), ws.length = ks.length → BindsTo s fd_is_number ⟨[], ks.zip ws⟩ ((["value", "least", "most"] : List Str).zip (spreadV .none ["value", "least", "most"] ks ws)) := by
    intro ks hk s ws hl
    have hk : ks ∈ ([["most", "value", "least"]] : List (List Str)) := hk
    simp only [List.mem_cons, List.not_mem_nil, or_false] at hk
    rcases hk with rfl
    · match ws, hl with
      | [w0, w1, w2], _ => exact FunD.kwBinds D_is_number _ (fun _ _ _ _ _ _ => rfl) s
  obtain ⟨fd_law, D_law⟩ := c.def_ 9 (d := d_law) rfl
  have g_law := He.glo_ok X G (c.fact 9 (f := .glo "law") rfl)
  have e := hfa.symm.trans g_law
  cases e
  have b_law := FunD.bindsA (ps := ["_law_script"]) D_law fun _ _ _ _ _ _ us hl => match us, hl with | [_], _ => rfl
  refine ⟨fd_law, fun s v => b_law s [v] rfl, fun base _ _ => ?_⟩
  have c_law_open : CallOk P w K mg base 1 F_law_open := CallOk.of F_law_open D_law_open sc_law_open mo g_law_open b_law_open k_law_open (Fs := Fs_law_open) (fun G hG => by cases hG) B_law_open mt_law_open fun _ _ _ _ => rfl
  have c_law_draw : CallOk P w K mg base 1 F_law_draw := CallOk.of F_law_draw D_law_draw sc_law_draw mo g_law_draw b_law_draw k_law_draw (Fs := Fs_law_draw) (fun G hG => by cases hG) B_law_draw mt_law_draw fun _ _ _ _ => rfl
  have c_law_of : CallOk P w K mg base 2 F_law_of := CallOk.of F_law_of D_law_of sc_law_of mo g_law_of b_law_of k_law_of (Fs := Fs_law_of) (fun G hG => by
      unfold Fs_law_of at hG
      simp only [List.mem_cons, List.not_mem_nil, or_false] at hG
      rcases hG with rfl
      · exact (c_law_draw).mono (by decide)) B_law_of mt_law_of fun _ _ _ _ => rfl
  have c_law_odd : CallOk P w K mg base 3 F_law_odd := CallOk.of F_law_odd D_law_odd sc_law_odd mo g_law_odd b_law_odd k_law_odd (Fs := Fs_law_odd) (fun G hG => by
      unfold Fs_law_odd at hG
      simp only [List.mem_cons, List.not_mem_nil, or_false] at hG
      rcases hG with rfl
      · exact (c_law_of).mono (by decide)) B_law_odd mt_law_odd fun _ _ _ _ => rfl
  have c_law_name_so : CallOk P w K mg base 1 F_law_name_so := CallOk.of F_law_name_so D_law_name_so sc_law_name_so mo g_law_name_so b_law_name_so k_law_name_so (Fs := Fs_law_name_so) (fun G hG => by cases hG) B_law_name_so mt_law_name_so fun _ _ _ _ => rfl
  have c_is_name : CallOk P w K mg base 1 F_is_name := CallOk.of F_is_name D_is_name sc_is_name mo g_is_name b_is_name k_is_name (Fs := Fs_is_name) (fun G hG => by cases hG) B_is_name mt_is_name fun _ _ _ _ => rfl
  have c_is_word : CallOk P w K mg base 2 F_is_word := CallOk.of F_is_word D_is_word sc_is_word mo g_is_word b_is_word k_is_word (Fs := Fs_is_word) (fun G hG => by
      unfold Fs_is_word at hG
      simp only [List.mem_cons, List.not_mem_nil, or_false] at hG
      rcases hG with rfl
      · exact (c_is_name).mono (by decide)) B_is_word mt_is_word fun _ _ _ _ => rfl
  have c_law_same : ∀ n, CallOk P w K mg base n (F_law_same n) := by
    intro n
    induction n with
    | zero => exact CallOk.none D_law_same g_law_same b_law_same k_law_same
    | succ n ih =>
      refine CallOk.of (F_law_same (n + 1)) D_law_same sc_law_same mo g_law_same b_law_same k_law_same (Fs := Fs_law_same (M_law_same n)) (fun G hG => ?_) B_law_same (mt_law_same _) fun _ _ _ _ => rfl
      cases List.mem_singleton.mp hG
      exact ih
  have c_is_number : CallOk P w K mg base 1 F_is_number := CallOk.of F_is_number D_is_number sc_is_number mo g_is_number b_is_number k_is_number (Fs := Fs_is_number) (fun G hG => by cases hG) B_is_number mt_is_number fun _ _ _ _ => rfl
  exact DefOk F_law D_law sc_law mo (Fs := Fs_law) (fun G hG => by
      unfold Fs_law at hG
      simp only [List.mem_cons, List.not_mem_nil, or_false] at hG
      rcases hG with rfl | rfl | rfl | rfl | rfl | rfl | rfl | rfl | rfl
      · exact (c_law_open).mono (by decide)
      · exact (c_law_draw).mono (by decide)
      · exact (c_law_of).mono (by decide)
      · exact (c_law_odd).mono (by decide)
      · exact (c_law_name_so).mono (by decide)
      · exact (c_is_name).mono (by decide)
      · exact (c_is_word).mono (by decide)
      · exact (c_law_same 6).mono (by decide)
      · exact (c_is_number).mono (by decide)) B_law mt_law fun _ _ _ _ => rfl
end K02
open PySem PySem.W PySem.Calls
open PyProof.Rows hiding St
theorem PySem.Challenge.cw_roomofcalls_k02_names_words_and_numbers_holds : PySem.Challenge.rw_roomofcalls_k02_names_words_and_numbers.Holds := by
  w_on; o_law
  refine HandSHeadRun.head_any (r := OpenLaw.row PySem.Challenge.rw_roomofcalls_k02_names_words_and_numbers) (q := view (OpenLaw.row PySem.Challenge.rw_roomofcalls_k02_names_words_and_numbers).prog [13]) (H := K02.hk) (ob := K02.ob) (M := 30000) (loose := K02.nms) (d := HandSHeadRun.topDef (OpenLaw.row PySem.Challenge.rw_roomofcalls_k02_names_words_and_numbers).prog 13) (kwd := []) K02.ob_eq
    (by kernel_rfl) (fun s => by kernel_rfl) K02.run (by kernel_rfl) (by kernel_rfl) (by kernel_rfl) (by rfl) (by first | assumption | decide +kernel) (by decide +kernel) ⟨rfl, rfl, rfl, rfl, rfl, by decide +kernel⟩ ?hw ?hc
  case hw => w_witness2
  case hc =>
    refine L2.walk_ofE (l := PySem.Challenge.rw_roomofcalls_k02_names_words_and_numbers) (n := 63) (k := 7) (x := "_law_script") (CX := L2.CX0) rfl (by decide) (by kernel_rfl) ⟨rfl, by decide, by decide⟩ ?F (fun _ _ _ _ z => z)
    intro w mg fa h Y G hmg0
    obtain ⟨K, KX, c⟩ := Y
    have hmg : mg ("law" : PySem.Str) = some (.ref fa) := by
      have e : (HandSHeadRun.topDef (OpenLaw.row PySem.Challenge.rw_roomofcalls_k02_names_words_and_numbers).prog 13).name = ("law" : PySem.Str) := by kernel_rfl
      rw [← e]
      exact hmg0
    obtain ⟨fd, hb, hF⟩ := K02.facts (P := (PySem.Challenge.rw_roomofcalls_k02_names_words_and_numbers).prog) (w := w) KX G hmg c
    refine ⟨K, fd, Rc.spM K 1 K02.M_law, KX, hb, fun H a ns hl hO hS => ?_, hF⟩
    exact Rc.law_end hS (K02.law_true ns hl)
