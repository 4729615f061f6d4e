import PyProof.Rows.All
import Wide.All
import OpenK.AllK
import Wide.FinOn
import HandS.ForMost
import HandS.ForExc
import HandS.Flow
import HandS.Wide
import HandS.IsInst
import HandS.CallSlots
import HandS.Defaults
import HandS.TupAny
import HandS.FStr
import HandS.StrMore
import HandS.ExcValue
import HandS.ExcIs
import HandS.SetFor
import HandS.Style
import HandS.TupLe
import HandS.Walk
import HandS.Head0
import HandS.Head1
import HandS.Head2
import HandS.HeadEnd
import HandS.HeadHook1
import HandS.HeadHook2
import HandS.HeadHook3
import HandS.HeadHook4
import HandS.Conv
import HandS.TupMul
import PySem.Challenge.RW_gateroads_k01_argument_ends
set_option Elab.async false
set_option linter.all false
set_option maxRecDepth 100000
set_option autoImplicit false
set_option maxHeartbeats 4000000
/-! A layer of data over the hand layer: what a piece of a def makes of plain data. -/
namespace JL
open PySem PySem.Spec L2

/-! ### plain data -/
inductive D where
  | non | bl (b : Bool) | int (i : Int) | str (x : Str) | tup (l : List D) | lst (l : List D) | ref (a : Addr) | emp | ty (n : String)

/-- v in the heap H is the data d; none of its objects is among S -/
inductive Rp (S : List Addr) (H : Hp) : V → D → Prop
  | non : Rp S H .non .non
  | bl (b : Bool) : Rp S H (.bl b) (.bl b)
  | int (i : Int) : Rp S H (.int i) (.int i)
  | str (x : Str) : Rp S H (.str x) (.str x)
  | ty (n : String) : Rp S H (.ty n) (.ty n)
  | ref (a : Addr) : Rp S H (.ref a) (.ref a)
  | tup {a : Addr} {xs : List V} {ds : List D} : a ∉ S → H a = some (.tup xs) → xs.length = ds.length → (∀ (i : Nat) (x : V) (d : D), xs[i]? = some x → ds[i]? = some d → Rp S H x d) → Rp S H (.ref a) (.tup ds)
  | lst {a : Addr} {xs : List V} {ds : List D} : a ∉ S → H a = some (.lst xs) → xs.length = ds.length → (∀ (i : Nat) (x : V) (d : D), xs[i]? = some x → ds[i]? = some d → Rp S H x d) → Rp S H (.ref a) (.lst ds)
  | emp {a : Addr} : a ∉ S → H a = some (.dK []) → Rp S H (.ref a) .emp

def RpA (S : List Addr) (H : Hp) (xs : List V) (ds : List D) : Prop := xs.length = ds.length ∧ ∀ (i : Nat) (x : V) (d : D), xs[i]? = some x → ds[i]? = some d → Rp S H x d

/-- what H tracks outside S is in H' as it was -/
def Pres (S : List Addr) (H H' : Hp) : Prop := ∀ b o, H b = some o → b ∉ S → H' b = some o
theorem Pres.of_same {S : List Addr} {H H' : Hp} (h : Same H H') : Pres S H H' := fun b o e _ => h b o e

theorem Rp.keep {S S' : List Addr} {H H' : Hp} (hp : Pres S H H') (hs : ∀ a o, H a = some o → a ∈ S' → a ∈ S) {v : V} {d : D} (h : Rp S H v d) : Rp S' H' v d := by
  induction h with
  | non => exact .non
  | bl b => exact .bl b
  | int i => exact .int i
  | str x => exact .str x
  | ty n => exact .ty n
  | ref a => exact .ref a
  | tup n e l _ ih => exact .tup (fun z => n (hs _ _ e z)) (hp _ _ e n) l ih
  | lst n e l _ ih => exact .lst (fun z => n (hs _ _ e z)) (hp _ _ e n) l ih
  | emp n e => exact .emp (fun z => n (hs _ _ e z)) (hp _ _ e n)
theorem RpA.keep {S S' : List Addr} {H H' : Hp} (hp : Pres S H H') (hs : ∀ a o, H a = some o → a ∈ S' → a ∈ S) {xs : List V} {ds : List D} (h : RpA S H xs ds) : RpA S' H' xs ds :=
  ⟨h.1, fun i x d e1 e2 => (h.2 i x d e1 e2).keep hp hs⟩
theorem RpA.nil {S : List Addr} {H : Hp} : RpA S H [] [] := ⟨rfl, fun i x d e => by simp at e⟩
theorem RpA.cons {S : List Addr} {H : Hp} {x : V} {xs : List V} {d : D} {ds : List D} (h : Rp S H x d) (t : RpA S H xs ds) : RpA S H (x :: xs) (d :: ds) :=
  ⟨by simp [t.1], fun i y e h1 h2 => by
    cases i with
    | zero => simp at h1 h2; subst h1; subst h2; exact h
    | succ i => exact t.2 i y e (by simpa using h1) (by simpa using h2)⟩
theorem RpA.head {S : List Addr} {H : Hp} {x : V} {xs : List V} {d : D} {ds : List D} (t : RpA S H (x :: xs) (d :: ds)) : Rp S H x d := t.2 0 x d rfl rfl
theorem RpA.tail {S : List Addr} {H : Hp} {x : V} {xs : List V} {d : D} {ds : List D} (t : RpA S H (x :: xs) (d :: ds)) : RpA S H xs ds :=
  ⟨by simpa using t.1, fun i y e h1 h2 => t.2 (i + 1) y e (by simpa using h1) (by simpa using h2)⟩
theorem RpA.append {S : List Addr} {H : Hp} : ∀ {xs : List V} {ds : List D} {ys : List V} {es : List D}, RpA S H xs ds → RpA S H ys es → RpA S H (xs ++ ys) (ds ++ es)
  | [], [], _, _, _, h => h
  | x :: xs, d :: ds, _, _, h, t => RpA.cons h.head (RpA.append h.tail t)
  | [], _ :: _, _, _, h, _ => by have := h.1; simp at this
  | _ :: _, [], _, _, h, _ => by have := h.1; simp at this
theorem RpA.get {S : List Addr} {H : Hp} {xs : List V} {ds : List D} (h : RpA S H xs ds) {i : Nat} {d : D} (e : ds[i]? = some d) : ∃ x, xs[i]? = some x ∧ Rp S H x d := by
  have hi : i < ds.length := (List.getElem?_eq_some_iff.mp e).1
  have hx : i < xs.length := by rw [h.1]; exact hi
  exact ⟨xs[i], List.getElem?_eq_getElem hx, h.2 i _ d (List.getElem?_eq_getElem hx) e⟩
theorem RpA.at {S : List Addr} {H : Hp} {xs : List V} {ds : List D} (h : RpA S H xs ds) {i : Nat} {x : V} (e : xs[i]? = some x) : ∃ d, ds[i]? = some d ∧ Rp S H x d := by
  have hi : i < xs.length := (List.getElem?_eq_some_iff.mp e).1
  have hx : i < ds.length := by rw [← h.1]; exact hi
  exact ⟨ds[i], List.getElem?_eq_getElem hx, h.2 i x _ e (List.getElem?_eq_getElem hx)⟩
theorem RpA.take {S : List Addr} {H : Hp} {xs : List V} {ds : List D} (h : RpA S H xs ds) (n : Nat) : RpA S H (xs.take n) (ds.take n) :=
  ⟨by simp [h.1], fun i x d e1 e2 => by
    rw [List.getElem?_take] at e1 e2
    split at e1
    · rename_i hi; rw [if_pos hi] at e2; exact h.2 i x d e1 e2
    · cases e1⟩
theorem RpA.drop {S : List Addr} {H : Hp} {xs : List V} {ds : List D} (h : RpA S H xs ds) (n : Nat) : RpA S H (xs.drop n) (ds.drop n) :=
  ⟨by simp [h.1], fun i x d e1 e2 => by
    rw [List.getElem?_drop] at e1 e2
    exact h.2 _ x d e1 e2⟩
theorem RpA.set {S : List Addr} {H : Hp} {xs : List V} {ds : List D} (h : RpA S H xs ds) (n : Nat) {x : V} {d : D} (hx : Rp S H x d) : RpA S H (xs.set n x) (ds.set n d) :=
  ⟨by simp [h.1], fun i y e e1 e2 => by
    rw [List.getElem?_set] at e1 e2
    split at e1
    · rename_i hi
      rw [if_pos hi] at e2
      rw [h.1] at e1
      split at e1
      · rename_i hl; rw [if_pos hl] at e2; cases e1; cases e2; exact hx
      · cases e1
    · rename_i hi
      rw [if_neg hi] at e2
      exact h.2 i y e e1 e2⟩
theorem RpA.reverse {S : List Addr} {H : Hp} : ∀ {xs : List V} {ds : List D}, RpA S H xs ds → RpA S H xs.reverse ds.reverse
  | [], [], h => h
  | x :: xs, d :: ds, h => by
    rw [List.reverse_cons, List.reverse_cons]
    exact RpA.append (RpA.reverse h.tail) (RpA.cons h.head RpA.nil)
  | [], _ :: _, h => by have := h.1; simp at this
  | _ :: _, [], h => by have := h.1; simp at this
theorem rp_tup {S : List Addr} {H : Hp} {a : Addr} {xs : List V} {ds : List D} (n : a ∉ S) (e : H a = some (.tup xs)) (h : RpA S H xs ds) : Rp S H (.ref a) (.tup ds) := .tup n e h.1 h.2
theorem rp_lst {S : List Addr} {H : Hp} {a : Addr} {xs : List V} {ds : List D} (n : a ∉ S) (e : H a = some (.lst xs)) (h : RpA S H xs ds) : Rp S H (.ref a) (.lst ds) := .lst n e h.1 h.2
theorem Rp.inv_tup {S : List Addr} {H : Hp} {v : V} {ds : List D} (h : Rp S H v (.tup ds)) : ∃ a xs, v = .ref a ∧ a ∉ S ∧ H a = some (.tup xs) ∧ RpA S H xs ds := by
  cases h with
  | tup n e l k => exact ⟨_, _, rfl, n, e, l, k⟩
theorem Rp.inv_lst {S : List Addr} {H : Hp} {v : V} {ds : List D} (h : Rp S H v (.lst ds)) : ∃ a xs, v = .ref a ∧ a ∉ S ∧ H a = some (.lst xs) ∧ RpA S H xs ds := by
  cases h with
  | lst n e l k => exact ⟨_, _, rfl, n, e, l, k⟩
theorem Rp.inv_int {S : List Addr} {H : Hp} {v : V} {i : Int} (h : Rp S H v (.int i)) : v = .int i := by cases h; rfl
theorem Rp.inv_bl {S : List Addr} {H : Hp} {v : V} {i : Bool} (h : Rp S H v (.bl i)) : v = .bl i := by cases h; rfl
theorem Rp.inv_str {S : List Addr} {H : Hp} {v : V} {i : Str} (h : Rp S H v (.str i)) : v = .str i := by cases h; rfl
theorem Rp.inv_ref {S : List Addr} {H : Hp} {v : V} {i : Addr} (h : Rp S H v (.ref i)) : v = .ref i := by cases h; rfl
theorem Rp.inv_ty {S : List Addr} {H : Hp} {v : V} {i : String} (h : Rp S H v (.ty i)) : v = .ty i := by cases h; rfl
theorem Rp.inv_non {S : List Addr} {H : Hp} {v : V} (h : Rp S H v .non) : v = .non := by cases h; rfl

/-! ### slots -/
/-- a slot holds data; or a list of its own at q; or another thing v, of which P holds, at the addresses R -/
inductive EV where
  | dat (d : D)
  | own (q : Addr) (ds : List D)
  | res (R : List Addr) (v : V) (P : Hp → Prop)
def EV.foot : EV → List Addr
  | .dat _ => []
  | .own q _ => [q]
  | .res R _ _ => R
/-- what never changes: tuples, things that are known as they lie (the script) -/
def Solid : HO → Prop
  | .tup _ => True
  | .frz _ _ => True
  | _ => False
/-- a thing's word: stands as long as its own objects and all solid ones do -/
def Sound (R : List Addr) (P : Hp → Prop) : Prop := ∀ H H' : Hp, P H → (∀ b o, H b = some o → (b ∈ R ∨ Solid o) → H' b = some o) → P H'
def EvOk (S : List Addr) (H : Hp) (o : Option V) : EV → Prop
  | .dat d => ∃ v, o = some v ∧ Rp S H v d
  | .own q ds => o = some (.ref q) ∧ q ∈ S ∧ ∃ xs, H q = some (.lst xs) ∧ RpA S H xs ds
  | .res R v P => o = some v ∧ (∀ a ∈ R, a ∈ S) ∧ P H ∧ Sound R P
abbrev Rho := List (Option EV)
structure State where
  S : List Addr
  ρ : Rho
/-- what an activation starts from: the heap, what it may change there, what the caller keeps apart; what must stay readable meanwhile; what stands apart meanwhile -/
structure Bs where
  H : Hp
  M : List Addr
  S : List Addr
  keep : V → D → Prop
  held : Addr → HO → Prop
structure Ok (B : Bs) (Z : State) (σ : St) (H : Hp) : Prop where
  len : Z.ρ.length = σ.length
  env : ∀ (i : Nat) (ev : EV), Z.ρ[i]? = some (some ev) → ∃ o, σ[i]? = some o ∧ EvOk Z.S H o ev
  sep : ∀ (i j : Nat) (e f : EV), Z.ρ[i]? = some (some e) → Z.ρ[j]? = some (some f) → ∀ a, a ∈ e.foot → a ∈ f.foot → i = j
  mine : ∀ (i : Nat) (e : EV), Z.ρ[i]? = some (some e) → ∀ a ∈ e.foot, a ∈ B.M ∨ B.H a = none
  dom : ∀ a ∈ Z.S, ∃ o, H a = some o ∧ ¬ Solid o
  out : ∀ b o, B.H b = some o → b ∉ B.M → H b = some o
  sub : ∀ a ∈ B.S, a ∈ Z.S
  tups : ∀ b o, B.H b = some o → Solid o → H b = some o
  bsd : ∀ a ∈ B.S, ∃ o, B.H a = some o
  kept : ∀ x c, B.keep x c → Rp Z.S H x c
  held : ∀ a o, B.held a o → a ∈ Z.S ∧ H a = some o ∧ ∀ (i : Nat) (e : EV), Z.ρ[i]? = some (some e) → a ∉ e.foot
  msub : ∀ a ∈ B.M, a ∈ Z.S
  ownM : ∀ (i : Nat) (q : Addr) (ds : List D), Z.ρ[i]? = some (some (.own q ds)) → q ∉ B.M

theorem Pres.refl {S : List Addr} {H : Hp} : Pres S H H := fun _ _ e _ => e
theorem Pres.trans {S : List Addr} {H H1 H2 : Hp} (a : Pres S H H1) (b : Pres S H1 H2) : Pres S H H2 := fun c o e n => b c o (a c o e n) n

theorem EvOk.same {S : List Addr} {H H' : Hp} {o : Option V} {e : EV} (s : Same H H') (h : EvOk S H o e) : EvOk S H' o e := by
  cases e with
  | dat d => obtain ⟨v, e, r⟩ := h; exact ⟨v, e, r.keep (Pres.of_same s) fun _ _ _ z => z⟩
  | own q ds => obtain ⟨e, m, xs, hq, r⟩ := h; exact ⟨e, m, xs, s _ _ hq, r.keep (Pres.of_same s) fun _ _ _ z => z⟩
  | res R v P => obtain ⟨e, m, p, sd⟩ := h; exact ⟨e, m, sd H H' p fun b o e _ => s b o e, sd⟩
theorem Ok.same {B : Bs} {Z : State} {σ : St} {H H' : Hp} (k : Ok B Z σ H) (s : Same H H') : Ok B Z σ H' :=
  ⟨k.len, fun i ev e => by obtain ⟨o, h1, h2⟩ := k.env i ev e; exact ⟨o, h1, h2.same s⟩, k.sep, k.mine, fun a m => by obtain ⟨o, e, n⟩ := k.dom a m; exact ⟨o, s _ _ e, n⟩, fun b o e n => s _ _ (k.out b o e n), k.sub, fun b o e n => s _ _ (k.tups b o e n), k.bsd,
    fun x c m => (k.kept x c m).keep (Pres.of_same s) fun _ _ _ z => z, fun a o m => by obtain ⟨h1, h2, h3⟩ := k.held a o m; exact ⟨h1, s _ _ h2, h3⟩, k.msub, k.ownM⟩
theorem Ok.fresh {B : Bs} {Z : State} {σ : St} {H : Hp} (k : Ok B Z σ H) {p : Addr} (h : H p = none) : p ∉ Z.S := fun m => by
  obtain ⟨o, e, _⟩ := k.dom p m
  rw [h] at e
  cases e
theorem same_upd {H : Hp} {p : Addr} {o : HO} (h : H p = none) : Same H (upd H p o) := fun b x e => by
  rw [upd_ne (ne_of_none e h)]
  exact e
theorem set_cases {ρ : Rho} {i j : Nat} {x e : EV} (h : (ρ.set i (some x))[j]? = some (some e)) : (i = j ∧ e = x ∧ i < ρ.length) ∨ (i ≠ j ∧ ρ[j]? = some (some e)) := by
  by_cases hij : i = j
  · subst hij
    have hl : i < ρ.length := by
      have := (List.getElem?_eq_some_iff.mp h).1
      simpa using this
    rw [List.getElem?_set_self hl] at h
    cases h
    exact .inl ⟨rfl, rfl, hl⟩
  · rw [List.getElem?_set_ne hij] at h
    exact .inr ⟨hij, h⟩
/-- slot i takes data -/
theorem Ok.set {B : Bs} {Z : State} {σ : St} {H : Hp} (k : Ok B Z σ H) (i : Nat) {v : V} {d : D} (r : Rp Z.S H v d) : Ok B ⟨Z.S, Z.ρ.set i (some (.dat d))⟩ (σ.set i (some v)) H := by
  refine ⟨by simp [k.len], fun j ev e => ?_, fun j l e f h1 h2 a m1 m2 => ?_, fun j e h a m => ?_, k.dom, k.out, k.sub, k.tups, k.bsd, k.kept, fun a o m => ?_, k.msub, fun j q ds h => (set_cases h).elim (fun z => by cases z.2.1) fun z => k.ownM j q ds z.2⟩
  · rcases set_cases e with ⟨rfl, rfl, hl⟩ | ⟨hij, e⟩
    · rw [List.getElem?_set_self (by rw [← k.len]; exact hl)]
      exact ⟨_, rfl, v, rfl, r⟩
    · rw [List.getElem?_set_ne hij]
      exact k.env j ev e
  · rcases set_cases h1 with ⟨rfl, rfl, _⟩ | ⟨_, h1⟩
    · cases m1
    · rcases set_cases h2 with ⟨rfl, rfl, _⟩ | ⟨_, h2⟩
      · cases m2
      · exact k.sep j l e f h1 h2 a m1 m2
  · rcases set_cases h with ⟨rfl, rfl, _⟩ | ⟨_, h⟩
    · cases m
    · exact k.mine j e h a m
  · obtain ⟨h1, h2, h3⟩ := k.held a o m
    refine ⟨h1, h2, fun j e h => ?_⟩
    rcases set_cases h with ⟨rfl, rfl, _⟩ | ⟨_, h⟩
    · intro z; cases z
    · exact h3 j e h
/-- less is asked -/
theorem Ok.less {B B' : Bs} {Z : State} {σ : St} {H : Hp} (k : Ok B Z σ H) (e1 : B'.H = B.H) (e2 : B'.M = B.M) (e3 : B'.S = B.S) (e4 : ∀ x c, B'.keep x c → B.keep x c) (e5 : ∀ a o, B'.held a o → B.held a o) : Ok B' Z σ H :=
  ⟨k.len, k.env, k.sep, by rw [e1, e2]; exact k.mine, k.dom, by rw [e1, e2]; exact k.out, by rw [e3]; exact k.sub, by rw [e1]; exact k.tups, by rw [e1, e3]; exact k.bsd, fun x c m => k.kept x c (e4 x c m), fun a o m => k.held a o (e5 a o m), by rw [e2]; exact k.msub, by rw [e2]; exact k.ownM⟩
/-- all that can be read here is kept -/
abbrev Bs.all (B : Bs) (S : List Addr) (H : Hp) : Bs := { B with keep := fun x c => B.keep x c ∨ Rp S H x c }
theorem Ok.all {B : Bs} {Z : State} {σ : St} {H : Hp} (k : Ok B Z σ H) : Ok (B.all Z.S H) Z σ H :=
  ⟨k.len, k.env, k.sep, k.mine, k.dom, k.out, k.sub, k.tups, k.bsd, fun x c m => m.elim (k.kept x c) id, k.held, k.msub, k.ownM⟩
theorem Ok.unall {B : Bs} {Z : State} {σ : St} {H H0 : Hp} {S : List Addr} (k : Ok (B.all S H0) Z σ H) : Ok B Z σ H := k.less rfl rfl rfl (fun _ _ m => .inl m) fun _ _ m => m
end JL

namespace JL
open PySem PySem.Spec L2
/-! ### where one stands -/
structure Glob where
  P : Program
  w : World
  K : PySem.W.Frag
  mg : Str → Option Value
  base : Heap
structure Ctx where
  g : Glob
  N : List Str
  sc : Scope
  k : Nat
  fn : Str → Bool
  top : Bool
structure Fits (G : Ctx) (X : Cx) : Prop where
  prog : X.prog = G.g.P
  w : X.w = G.g.w
  K : X.K = G.g.K
  mg : X.mg = G.g.mg
  base : X.base = G.g.base
  N : X.N = G.N
  sc : X.env.scope = G.sc
  room : Room G.k X.A
  calm : X.calm = true
  po : PassesOwn (model X.prog X.w) X.A X.env X.xe
  fn : ∀ x, G.fn x = true → X.fn x = true
  nd : G.N.Nodup
  top : G.top = true → X.stack = X.env :: X.outer ∧ X.env.frame = some X.env.locals ∧ X.ex = []
def Kp (S : List Addr) (H : Hp) (S' : List Addr) (H' : Hp) : Prop := ∀ x c, Rp S H x c → Rp S' H' x c
theorem Kp.refl {S : List Addr} {H : Hp} : Kp S H S H := fun _ _ h => h
theorem Kp.trans {S S1 S2 : List Addr} {H H1 H2 : Hp} (a : Kp S H S1 H1) (b : Kp S1 H1 S2 H2) : Kp S H S2 H2 := fun x c h => b x c (a x c h)
theorem Kp.same {S : List Addr} {H H' : Hp} (s : Same H H') : Kp S H S H' := fun _ _ h => h.keep (Pres.of_same s) fun _ _ _ z => z
theorem Kp.all {S S' : List Addr} {H H' : Hp} (k : Kp S H S' H') {xs : List V} {ds : List D} (h : RpA S H xs ds) : RpA S' H' xs ds := ⟨h.1, fun i x d e1 e2 => k _ _ (h.2 i x d e1 e2)⟩

def wE (X : Cx) (e : Expr) : TE := fun σ H Q => ∃ t, PE X e t ∧ t σ H Q
def wT (X : Cx) (e : Expr) : TT := fun σ H Q => ∃ t, PT X e t ∧ t σ H Q
def wW (X : Cx) (e : Expr) : TT := fun σ H Q => ∃ t, PW X e t ∧ t σ H Q
def wA (X : Cx) (es : List Expr) : TA := fun σ H Q => ∃ t, PA X es t ∧ t σ H Q
def wS (X : Cx) (st : Stmt) : TS := fun D σ H => ∃ t, PS X st t ∧ t D σ H
def wSs (X : Cx) (st : List Stmt) : TS := fun D σ H => ∃ t, PSs X st t ∧ t D σ H
theorem p_E {X : Cx} {e : Expr} : PE X e (wE X e) := ⟨fun pins s σ H Q I h => by obtain ⟨t, p, q⟩ := h; exact p.run pins s σ H Q I q⟩
theorem p_T {X : Cx} {e : Expr} : PT X e (wT X e) := ⟨fun pins s σ H Q I h => by obtain ⟨t, p, q⟩ := h; exact p.run pins s σ H Q I q⟩
theorem p_W {X : Cx} {e : Expr} : PW X e (wW X e) := ⟨fun wh pins s σ H Q I h => by obtain ⟨t, p, q⟩ := h; exact p.run wh pins s σ H Q I q⟩
theorem p_A {X : Cx} {es : List Expr} : PA X es (wA X es) := ⟨fun pos pins s σ H Q I h => by obtain ⟨t, p, q⟩ := h; exact p.run pos pins s σ H Q I q⟩
theorem p_S {X : Cx} {st : Stmt} : PS X st (wS X st) := ⟨fun pins s σ H D I h => by obtain ⟨t, p, q⟩ := h; exact p.run pins s σ H D I q⟩
theorem p_Ss {X : Cx} {st : List Stmt} : PSs X st (wSs X st) := ⟨fun pins s σ H D I h => by obtain ⟨t, p, q⟩ := h; exact p.run pins s σ H D I q⟩

/-- e gives d -/
def JE (G : Ctx) (e : Expr) (Z : State) (d : D) (Z' : State) : Prop :=
  ∀ (X : Cx), Fits G X → ∀ (B : Bs) (σ : St) (H : Hp), Ok B Z σ H → ∀ Q : VK, (∀ v H', Ok B Z' σ H' → Kp Z.S H Z'.S H' → Rp Z'.S H' v d → Q v H') → wE X e σ H Q
def JT (G : Ctx) (e : Expr) (Z : State) (b : Bool) (Z' : State) : Prop :=
  ∀ (X : Cx), Fits G X → ∀ (B : Bs) (σ : St) (H : Hp), Ok B Z σ H → ∀ Q : Bool → Hp → Prop, (∀ H', Ok B Z' σ H' → Kp Z.S H Z'.S H' → Q b H') → wT X e σ H Q
def JW (G : Ctx) (e : Expr) (Z : State) (b : Bool) (Z' : State) : Prop :=
  ∀ (X : Cx), Fits G X → ∀ (B : Bs) (σ : St) (H : Hp), Ok B Z σ H → ∀ Q : Bool → Hp → Prop, (∀ H', Ok B Z' σ H' → Kp Z.S H Z'.S H' → Q b H') → wW X e σ H Q
def JA (G : Ctx) (es : List Expr) (Z : State) (ds : List D) (Z' : State) : Prop :=
  ∀ (X : Cx), Fits G X → ∀ (B : Bs) (σ : St) (H : Hp), Ok B Z σ H → ∀ Q : List V → Hp → Prop, (∀ vs H', Ok B Z' σ H' → Kp Z.S H Z'.S H' → RpA Z'.S H' vs ds → Q vs H') → wA X es σ H Q
/-- e raises an error of the class at C -/
def JX (G : Ctx) (e : Expr) (Z : State) (C : Addr) (Z' : State) : Prop :=
  ∀ (X : Cx), Fits G X → ∀ (B : Bs) (σ : St) (H : Hp), Ok B Z σ H → ∀ (W : WX), Takes X W → (∀ H', Ok B Z' σ H' → W (.ref C) none σ H') → ∀ Q, wE X e σ H Q

section
variable {G : Ctx} {Z Z1 Z2 Z3 : State} {a b c : Expr} {pos : Pos} {d d1 d2 : D}

/-! ### names, constants -/
def visB (sc : Scope) (x : Str) : Bool := match sc.names.lookup x with
  | some .local => true
  | some .cell => true
  | some .free => true
  | _ => false
theorem vis_of {sc : Scope} {x : Str} (h : visB sc x = true) : Vis sc x := by
  unfold visB at h
  unfold Vis
  split at h <;> simp_all
def nmB (N : List Str) (sc : Scope) (i : Nat) (x : Str) : Bool := decide (N[i]? = some x) && (visB sc x && (!(x == ("__debug__" : Str)) && !(x == ("__classdict__" : Str))))
theorem je_name (i : Nat) {x : Str} (h : Z.ρ[i]? = some (some (.dat d))) (hn : nmB G.N G.sc i x = true) : JE G (.Name x pos) Z d Z := by
  intro X f B σ H k Q q
  simp only [nmB, Bool.and_eq_true, decide_eq_true_eq, Bool.not_eq_true'] at hn
  obtain ⟨h1, h2, h3, h4⟩ := hn
  obtain ⟨o, e, v, rfl, r⟩ := k.env i _ h
  exact ⟨tVar i, pe_var (by rw [f.N]; exact h1) (by rw [f.sc]; exact vis_of h2) h3 h4, v, e, q v H k Kp.refl r⟩
theorem nm (i : Nat) {x : Str} (h : Z.ρ[i]? = some (some (.dat d))) (hn : nmB G.N G.sc i x = true := by kernel_rfl) : JE G (.Name x pos) Z d Z := je_name i h hn
theorem je_int {i : Int} {j} : JE G (.Constant (.int i) j pos) Z (.int i) Z := fun X f B σ H k Q q => ⟨_, pe_int, q _ H k Kp.refl (.int i)⟩
theorem je_bl {i : Bool} {j} : JE G (.Constant (.bool i) j pos) Z (.bl i) Z := fun X f B σ H k Q q => ⟨_, pe_bl, q _ H k Kp.refl (.bl i)⟩
theorem je_non {j} : JE G (.Constant .none j pos) Z .non Z := fun X f B σ H k Q q => ⟨_, pe_non, q _ H k Kp.refl .non⟩
theorem je_str {x : Str} {j} : JE G (.Constant (.str x) j pos) Z (.str x) Z := fun X f B σ H k Q q => ⟨_, pe_str, q _ H k Kp.refl (.str x)⟩
def glB (sc : Scope) (x : Str) : Bool := (match sc.names.lookup x with
  | some .globalImplicit => true
  | _ => false) && (!(x == ("__debug__" : Str)) && decide (x ≠ "__name__"))
theorem gl_of {X : Cx} {x : Str} (f : Fits G X) (h : glB G.sc x = true) : Gl X x ∧ (x == ("__debug__" : Str)) = false ∧ x ≠ "__name__" := by
  simp only [glB, Bool.and_eq_true, Bool.not_eq_true', decide_eq_true_eq] at h
  obtain ⟨h1, h2, h3⟩ := h
  refine ⟨?_, h2, h3⟩
  unfold Gl Env.kindOf
  rw [f.sc]
  split at h1
  · assumption
  · cases h1
/-- a class or def of the module, as a value -/
theorem je_glob {x : Str} {u : Addr} (hm : G.g.mg x = some (.ref u)) (hg : glB G.sc x = true := by kernel_rfl) : JE G (.Name x pos) Z (.ref u) Z := by
  intro X f B σ H k Q q
  obtain ⟨h1, h2, _⟩ := gl_of f hg
  exact ⟨_, pe_glob (v := .ref u) h1 (by rw [f.mg]; exact hm) rfl h2, q _ H k Kp.refl (.ref u)⟩
/-- a built-in type, as a value -/
theorem je_ty {x : Str} {T : String} (hm : G.g.mg x = none) (hv : bootBuiltins x = some (.type T) := by decide +kernel) (hg : glB G.sc x = true := by kernel_rfl) : JE G (.Name x pos) Z (.ty T) Z := by
  intro X f B σ H k Q q
  obtain ⟨h1, h2, h3⟩ := gl_of f hg
  exact ⟨_, pe_bltn (v := .ty T) h1 (by rw [f.mg]; exact hm) hv rfl h3 h2, q _ H k Kp.refl (.ty T)⟩

/-! ### operators -/
theorem je_bin {op : Operator} {r : Cx → R2} (ho : ∀ X, Fits G X → OpR X (binaryOp op) (r X)) (ha : JE G a Z d1 Z1) (hb : JE G b Z1 d2 Z2)
    (hr : ∀ X, Fits G X → ∀ B σ H x y (Q : VK), Ok B Z2 σ H → Rp Z2.S H x d1 → Rp Z2.S H y d2 → (∀ v H', Ok B Z3 σ H' → Kp Z2.S H Z3.S H' → Rp Z3.S H' v d → Q v H') → r X x y H Q) : JE G (.BinOp a op b pos) Z d Z3 := by
  intro X f B σ H k Q q
  refine ⟨_, pe_op (ho X f) p_E p_E, ha X f B σ H k _ fun x H1 k1 p1 r1 => hb X f B σ H1 k1 _ fun y H2 k2 p2 r2 => ?_⟩
  exact hr X f B σ H2 x y Q k2 (p2 _ _ r1) r2 fun v H3 k3 p3 r3 => q v H3 k3 ((p1.trans p2).trans p3) r3
theorem je_cmp {op : CmpOp} {r : Cx → R2} (ho : ∀ X, Fits G X → OpR X (compareOp op) (r X)) (hm : behindInMarks op b = false) (ha : JE G a Z d1 Z1) (hb : JE G b Z1 d2 Z2)
    (hr : ∀ X, Fits G X → ∀ B σ H x y (Q : VK), Ok B Z2 σ H → Rp Z2.S H x d1 → Rp Z2.S H y d2 → (∀ v H', Ok B Z3 σ H' → Kp Z2.S H Z3.S H' → Rp Z3.S H' v d → Q v H') → r X x y H Q) : JE G (.Compare a [op] [b] pos) Z d Z3 := by
  intro X f B σ H k Q q
  refine ⟨_, pe_cmpR (ho X f) p_E p_E hm, ha X f B σ H k _ fun x H1 k1 p1 r1 => hb X f B σ H1 k1 _ fun y H2 k2 p2 r2 => ?_⟩
  exact hr X f B σ H2 x y Q k2 (p2 _ _ r1) r2 fun v H3 k3 p3 r3 => q v H3 k3 ((p1.trans p2).trans p3) r3
theorem jt_cmp {op : CmpOp} {r : Cx → R2} {t : Bool} (ho : ∀ X, Fits G X → OpR X (compareOp op) (r X)) (hm : behindInMarks op b = false) (ha : JE G a Z d1 Z1) (hb : JE G b Z1 d2 Z2)
    (hr : ∀ X, Fits G X → ∀ B σ H x y (Q : VK), Ok B Z2 σ H → Rp Z2.S H x d1 → Rp Z2.S H y d2 → (∀ v H', Ok B Z3 σ H' → Kp Z2.S H Z3.S H' → Rp Z3.S H' v (.bl t) → Q v H') → r X x y H Q) : JT G (.Compare a [op] [b] pos) Z t Z3 := by
  intro X f B σ H k Q q
  refine ⟨_, pt_cmpR (ho X f) p_E p_E hm, ha X f B σ H k _ fun x H1 k1 p1 r1 => hb X f B σ H1 k1 _ fun y H2 k2 p2 r2 => ?_⟩
  exact hr X f B σ H2 x y _ k2 (p2 _ _ r1) r2 fun v H3 k3 p3 r3 => ⟨t, r3.inv_bl, q H3 k3 ((p1.trans p2).trans p3)⟩
/-- the reading of an operator on two ints -/
theorem r_I {C : Int → Int → Prop} {g : Int → Int → V} {i j : Int} (hc : C i j) (hg : ∀ S H, Rp S H (g i j) d) : ∀ X : Cx, Fits G X → ∀ (B : Bs) (σ : St) (H : Hp) (x y : V) (Q : VK), Ok B Z σ H → Rp Z.S H x (.int i) → Rp Z.S H y (.int j) → (∀ v H', Ok B Z σ H' → Kp Z.S H Z.S H' → Rp Z.S H' v d → Q v H') → rI C g x y H Q :=
  fun X f B σ H x y Q k r1 r2 q => ⟨i, j, r1.inv_int, r2.inv_int, hc, q _ H k Kp.refl (hg _ _)⟩
theorem r_I0 {g : Int → Int → V} {i j : Int} (hg : ∀ S H, Rp S H (g i j) d) : ∀ X : Cx, Fits G X → ∀ (B : Bs) (σ : St) (H : Hp) (x y : V) (Q : VK), Ok B Z σ H → Rp Z.S H x (.int i) → Rp Z.S H y (.int j) → (∀ v H', Ok B Z σ H' → Kp Z.S H Z.S H' → Rp Z.S H' v d → Q v H') → rI0 g x y H Q :=
  fun X f B σ H x y Q k r1 r2 q => ⟨i, j, r1.inv_int, r2.inv_int, q _ H k Kp.refl (hg _ _)⟩
variable {i j l : Int}
theorem je_add (ha : JE G a Z (.int i) Z1) (hb : JE G b Z1 (.int j) Z2) : JE G (.BinOp a .Add b pos) Z (.int (i + j)) Z2 := je_bin (fun _ _ => op_add) ha hb (r_I0 fun _ _ => .int _)
theorem je_sub (ha : JE G a Z (.int i) Z1) (hb : JE G b Z1 (.int j) Z2) : JE G (.BinOp a .Sub b pos) Z (.int (i - j)) Z2 := je_bin (fun _ _ => op_sub) ha hb (r_I0 fun _ _ => .int _)
theorem je_mul (ha : JE G a Z (.int i) Z1) (hb : JE G b Z1 (.int j) Z2) (hc : CMulW i j) : JE G (.BinOp a .Mult b pos) Z (.int (i * j)) Z2 := je_bin (fun _ _ => op_mulW) ha hb (r_I hc fun _ _ => .int _)
theorem je_fdiv (ha : JE G a Z (.int i) Z1) (hb : JE G b Z1 (.int j) Z2) (hc : CDivW i j) : JE G (.BinOp a .FloorDiv b pos) Z (.int (i / j)) Z2 := je_bin (fun _ _ => op_fdivW) ha hb (r_I hc fun _ _ => .int _)
theorem je_mod (ha : JE G a Z (.int i) Z1) (hb : JE G b Z1 (.int j) Z2) (hc : 0 < j) : JE G (.BinOp a .Mod b pos) Z (.int (i % j)) Z2 := je_bin (fun _ _ => op_mod) ha hb (r_I hc fun _ _ => .int _)
theorem je_neg (ha : JE G a Z (.int i) Z1) : JE G (.UnaryOp .USub a pos) Z (.int (-i)) Z1 := fun X f B σ H k Q q =>
  ⟨_, pe_un un_neg p_E, ha X f B σ H k _ fun x H1 k1 p1 r1 => ⟨i, r1.inv_int, q _ H1 k1 p1 (.int _)⟩⟩
theorem je_lt (ha : JE G a Z (.int i) Z1) (hb : JE G b Z1 (.int j) Z2) : JE G (.Compare a [.Lt] [b] pos) Z (.bl (decide (i < j))) Z2 := je_cmp (fun _ _ => op_lt) (nomark _) ha hb (r_I0 fun _ _ => .bl _)
theorem je_le (ha : JE G a Z (.int i) Z1) (hb : JE G b Z1 (.int j) Z2) : JE G (.Compare a [.LtE] [b] pos) Z (.bl (decide (i ≤ j))) Z2 := je_cmp (fun _ _ => op_le) (nomark _) ha hb (r_I0 fun _ _ => .bl _)
theorem je_gt (ha : JE G a Z (.int i) Z1) (hb : JE G b Z1 (.int j) Z2) : JE G (.Compare a [.Gt] [b] pos) Z (.bl (decide (j < i))) Z2 := je_cmp (fun _ _ => op_gt) (nomark _) ha hb (r_I0 fun _ _ => .bl _)
theorem je_ge (ha : JE G a Z (.int i) Z1) (hb : JE G b Z1 (.int j) Z2) : JE G (.Compare a [.GtE] [b] pos) Z (.bl (decide (j ≤ i))) Z2 := je_cmp (fun _ _ => op_ge) (nomark _) ha hb (r_I0 fun _ _ => .bl _)
theorem jt_lt (ha : JE G a Z (.int i) Z1) (hb : JE G b Z1 (.int j) Z2) : JT G (.Compare a [.Lt] [b] pos) Z (decide (i < j)) Z2 := jt_cmp (fun _ _ => op_lt) (nomark _) ha hb (r_I0 fun _ _ => .bl _)
theorem jt_le (ha : JE G a Z (.int i) Z1) (hb : JE G b Z1 (.int j) Z2) : JT G (.Compare a [.LtE] [b] pos) Z (decide (i ≤ j)) Z2 := jt_cmp (fun _ _ => op_le) (nomark _) ha hb (r_I0 fun _ _ => .bl _)
theorem jt_gt (ha : JE G a Z (.int i) Z1) (hb : JE G b Z1 (.int j) Z2) : JT G (.Compare a [.Gt] [b] pos) Z (decide (j < i)) Z2 := jt_cmp (fun _ _ => op_gt) (nomark _) ha hb (r_I0 fun _ _ => .bl _)
theorem jt_ge (ha : JE G a Z (.int i) Z1) (hb : JE G b Z1 (.int j) Z2) : JT G (.Compare a [.GtE] [b] pos) Z (decide (j ≤ i)) Z2 := jt_cmp (fun _ _ => op_ge) (nomark _) ha hb (r_I0 fun _ _ => .bl _)
/-- == of two ints -/
theorem r_eqI {t : Bool} (ht : decide (i = j) = t) : ∀ X : Cx, Fits G X → ∀ (B : Bs) (σ : St) (H : Hp) (x y : V) (Q : VK), Ok B Z σ H → Rp Z.S H x (.int i) → Rp Z.S H y (.int j) → (∀ v H', Ok B Z σ H' → Kp Z.S H Z.S H' → Rp Z.S H' v (.bl t) → Q v H') → rEq x y H Q :=
  fun X f B σ H x y Q k r1 r2 q => by
    cases r1.inv_int; cases r2.inv_int
    refine ⟨rfl, ?_⟩
    have e : decide (V.int i = V.int j) = t := by rw [← ht]; simp
    rw [e]
    exact q _ H k Kp.refl (.bl _)
theorem r_neI {t : Bool} (ht : (!decide (i = j)) = t) : ∀ X : Cx, Fits G X → ∀ (B : Bs) (σ : St) (H : Hp) (x y : V) (Q : VK), Ok B Z σ H → Rp Z.S H x (.int i) → Rp Z.S H y (.int j) → (∀ v H', Ok B Z σ H' → Kp Z.S H Z.S H' → Rp Z.S H' v (.bl t) → Q v H') → rNe x y H Q :=
  fun X f B σ H x y Q k r1 r2 q => by
    cases r1.inv_int; cases r2.inv_int
    refine ⟨rfl, ?_⟩
    have e : (!decide (V.int i = V.int j)) = t := by rw [← ht]; simp
    rw [e]
    exact q _ H k Kp.refl (.bl _)
theorem je_eqI (ha : JE G a Z (.int i) Z1) (hb : JE G b Z1 (.int j) Z2) : JE G (.Compare a [.Eq] [b] pos) Z (.bl (decide (i = j))) Z2 := je_cmp (r := fun _ => rEq) (fun _ _ => op_eq) (nomark _) ha hb (r_eqI rfl)
theorem jt_eqI (ha : JE G a Z (.int i) Z1) (hb : JE G b Z1 (.int j) Z2) : JT G (.Compare a [.Eq] [b] pos) Z (decide (i = j)) Z2 := jt_cmp (r := fun _ => rEq) (fun _ _ => op_eq) (nomark _) ha hb (r_eqI rfl)
theorem je_neI (ha : JE G a Z (.int i) Z1) (hb : JE G b Z1 (.int j) Z2) : JE G (.Compare a [.NotEq] [b] pos) Z (.bl (!decide (i = j))) Z2 := je_cmp (r := fun _ => rNe) (fun _ _ => op_ne) (nomark _) ha hb (r_neI rfl)
theorem jt_neI (ha : JE G a Z (.int i) Z1) (hb : JE G b Z1 (.int j) Z2) : JT G (.Compare a [.NotEq] [b] pos) Z (!decide (i = j)) Z2 := jt_cmp (r := fun _ => rNe) (fun _ _ => op_ne) (nomark _) ha hb (r_neI rfl)
/-- i <= j <= l -/
theorem je_lele (ha : JE G a Z (.int i) Z1) (hb : JE G b Z1 (.int j) Z2) (hc : JE G c Z2 (.int l) Z2) (hm : lastMarks [CmpOp.LtE, CmpOp.LtE] [b, c] = false := by with_unfolding_all rfl) : JE G (.Compare a [.LtE, .LtE] [b, c] pos) Z (.bl (decide (i ≤ j) && decide (j ≤ l))) Z2 := by
  intro X f B σ H k Q q
  refine ⟨_, pe_chain op_le op_le p_E p_E p_E hm, ha X f B σ H k _ fun x H1 k1 p1 r1 => hb X f B σ H1 k1 _ fun y H2 k2 p2 r2 => ⟨i, j, r1.inv_int, r2.inv_int, _, rfl, ?_⟩⟩
  by_cases h : i ≤ j
  · rw [decide_eq_true h]
    refine (if_pos rfl).mpr ?_
    refine hc X f B σ H2 k2 _ fun z H3 k3 p3 r3 => ⟨j, l, r2.inv_int, r3.inv_int, ?_⟩
    have := q (.bl (decide (j ≤ l))) H3 k3 ((p1.trans p2).trans p3)
    rw [decide_eq_true h] at this
    exact this (.bl _)
  · rw [decide_eq_false h]
    refine (if_neg Bool.false_ne_true).mpr ?_
    have := q (.bl false) H2 k2 (p1.trans p2)
    rw [decide_eq_false h] at this
    exact this (.bl _)
theorem jt_lele (ha : JE G a Z (.int i) Z1) (hb : JE G b Z1 (.int j) Z2) (hc : JE G c Z2 (.int l) Z2) (hm : lastMarks [CmpOp.LtE, CmpOp.LtE] [b, c] = false := by with_unfolding_all rfl) : JT G (.Compare a [.LtE, .LtE] [b, c] pos) Z (decide (i ≤ j) && decide (j ≤ l)) Z2 := by
  intro X f B σ H k Q q
  refine ⟨_, pt_chain op_le op_le p_E p_E p_E hm, ha X f B σ H k _ fun x H1 k1 p1 r1 => hb X f B σ H1 k1 _ fun y H2 k2 p2 r2 => ⟨i, j, r1.inv_int, r2.inv_int, _, rfl, ?_⟩⟩
  by_cases h : i ≤ j
  · rw [decide_eq_true h]
    refine (if_pos rfl).mpr ?_
    refine hc X f B σ H2 k2 _ fun z H3 k3 p3 r3 => ⟨j, l, r2.inv_int, r3.inv_int, _, rfl, ?_⟩
    have := q H3 k3 ((p1.trans p2).trans p3)
    rw [decide_eq_true h] at this
    exact this
  · rw [decide_eq_false h]
    refine (if_neg Bool.false_ne_true).mpr ⟨false, rfl, ?_⟩
    have := q H2 k2 (p1.trans p2)
    rw [decide_eq_false h] at this
    exact this

/-! ### and, or, not, tests -/
theorem jt_val {t : Bool} (h : JE G a Z (.bl t) Z1) (he : ∀ env whole, isTrue a env whole = (do let v ← whole; standAt a.pos; holding [v] (truthy v)) := by intro _ _; rfl) : JT G a Z t Z1 := fun X f B σ H k Q q =>
  ⟨_, pt_val p_E (he X.env), h X f B σ H k _ fun x H1 k1 p1 r1 => ⟨t, r1.inv_bl, q H1 k1 p1⟩⟩
theorem jt_not {t : Bool} (h : JT G a Z t Z1) : JT G (.UnaryOp .Not a pos) Z (!t) Z1 := fun X f B σ H k Q q =>
  ⟨_, pt_not p_T, h X f B σ H k _ fun H1 k1 p1 => q H1 k1 p1⟩
theorem je_not {t : Bool} (h : JE G a Z (.bl t) Z1) : JE G (.UnaryOp .Not a pos) Z (.bl (!t)) Z1 := fun X f B σ H k Q q =>
  ⟨_, pe_not p_E, h X f B σ H k _ fun x H1 k1 p1 r1 => ⟨t, r1.inv_bl, q _ H1 k1 p1 (.bl _)⟩⟩
variable {rest : List Expr} {t u : Bool}
theorem jw_and1 (h : JT G a Z t Z1) : JW G (.BoolOp .And [a] pos) Z t Z1 := fun X f B σ H k Q q => ⟨_, pw_and1 p_T, h X f B σ H k Q q⟩
theorem jw_or1 (h : JT G a Z t Z1) : JW G (.BoolOp .Or [a] pos) Z t Z1 := fun X f B σ H k Q q => ⟨_, pw_or1 p_T, h X f B σ H k Q q⟩
theorem jw_and (ha : JT G a Z t Z) (hb : t = true → JW G (.BoolOp .And (b :: rest) pos) Z u Z) : JW G (.BoolOp .And (a :: b :: rest) pos) Z (t && u) Z := fun X f B σ H k Q q =>
  ⟨_, pw_and p_T p_W, ha X f B σ H k _ fun H1 k1 p1 => by
    cases t with
    | true => exact (if_pos rfl).mpr (hb rfl X f B σ H1 k1 Q fun H2 k2 p2 => q H2 k2 (p1.trans p2))
    | false => exact (if_neg Bool.false_ne_true).mpr (q H1 k1 p1)⟩
theorem jw_or (ha : JT G a Z t Z) (hb : t = false → JW G (.BoolOp .Or (b :: rest) pos) Z u Z) : JW G (.BoolOp .Or (a :: b :: rest) pos) Z (t || u) Z := fun X f B σ H k Q q =>
  ⟨_, pw_or p_T p_W, ha X f B σ H k _ fun H1 k1 p1 => by
    cases t with
    | true => exact (if_pos rfl).mpr (q H1 k1 p1)
    | false => exact (if_neg Bool.false_ne_true).mpr (hb rfl X f B σ H1 k1 Q fun H2 k2 p2 => q H2 k2 (p1.trans p2))⟩
/-- the left is false, and the thing goes on -/
theorem jw_orF (ha : JT G a Z false Z1) (hb : JW G (.BoolOp .Or (b :: rest) pos) Z1 u Z2) : JW G (.BoolOp .Or (a :: b :: rest) pos) Z u Z2 := fun X f B σ H k Q q =>
  ⟨_, pw_or p_T p_W, ha X f B σ H k _ fun H1 k1 p1 => (if_neg Bool.false_ne_true).mpr (hb X f B σ H1 k1 Q fun H2 k2 p2 => q H2 k2 (p1.trans p2))⟩
theorem jw_andT (ha : JT G a Z true Z1) (hb : JW G (.BoolOp .And (b :: rest) pos) Z1 u Z2) : JW G (.BoolOp .And (a :: b :: rest) pos) Z u Z2 := fun X f B σ H k Q q =>
  ⟨_, pw_and p_T p_W, ha X f B σ H k _ fun H1 k1 p1 => (if_pos rfl).mpr (hb X f B σ H1 k1 Q fun H2 k2 p2 => q H2 k2 (p1.trans p2))⟩
theorem jt_w (h : JW G a Z t Z1) : JT G a Z t Z1 := fun X f B σ H k Q q => ⟨_, (p_W (X := X) (e := a)).pt, h X f B σ H k Q q⟩
theorem je_one {op} (h : JE G a Z d Z1) : JE G (.BoolOp op [a] pos) Z d Z1 := fun X f B σ H k Q q => ⟨_, pe_one p_E, h X f B σ H k Q q⟩
theorem je_and (ha : JE G a Z (.bl t) Z) (hb : t = true → JE G (.BoolOp .And (b :: rest) pos) Z (.bl u) Z) : JE G (.BoolOp .And (a :: b :: rest) pos) Z (.bl (t && u)) Z := fun X f B σ H k Q q =>
  ⟨_, pe_and p_E p_E, ha X f B σ H k _ fun x H1 k1 p1 r1 => ⟨t, r1.inv_bl, by
    cases t with
    | true => exact (if_pos rfl).mpr (hb rfl X f B σ H1 k1 Q fun v H2 k2 p2 r2 => q v H2 k2 (p1.trans p2) r2)
    | false => exact (if_neg Bool.false_ne_true).mpr (q _ H1 k1 p1 (.bl _))⟩⟩
theorem je_or (ha : JE G a Z (.bl t) Z) (hb : t = false → JE G (.BoolOp .Or (b :: rest) pos) Z (.bl u) Z) : JE G (.BoolOp .Or (a :: b :: rest) pos) Z (.bl (t || u)) Z := fun X f B σ H k Q q =>
  ⟨_, pe_or p_E p_E, ha X f B σ H k _ fun x H1 k1 p1 r1 => ⟨t, r1.inv_bl, by
    cases t with
    | true => exact (if_pos rfl).mpr (q _ H1 k1 p1 (.bl _))
    | false => exact (if_neg Bool.false_ne_true).mpr (hb rfl X f B σ H1 k1 Q fun v H2 k2 p2 r2 => q v H2 k2 (p1.trans p2) r2)⟩⟩
theorem je_if {t : Bool} (hc : JT G c Z t Z1) (ha : t = true → JE G a Z1 d Z2) (hb : t = false → JE G b Z1 d Z2) : JE G (.IfExp c a b pos) Z d Z2 := fun X f B σ H k Q q =>
  ⟨_, pe_ifExp p_T p_E p_E, hc X f B σ H k _ fun H1 k1 p1 => by
    cases t with
    | true => exact (if_pos rfl).mpr (ha rfl X f B σ H1 k1 Q fun v H2 k2 p2 r2 => q v H2 k2 (p1.trans p2) r2)
    | false => exact (if_neg Bool.false_ne_true).mpr (hb rfl X f B σ H1 k1 Q fun v H2 k2 p2 r2 => q v H2 k2 (p1.trans p2) r2)⟩

/-! ### arguments, displays -/
variable {es : List Expr} {ds : List D}
theorem ja_nil : JA G [] Z [] Z := fun X f B σ H k Q q => ⟨_, pa_nil, q _ H k Kp.refl RpA.nil⟩
theorem ja_cons (ha : JE G a Z d Z1) (hr : JA G es Z1 ds Z2) (hs : ∀ env, starEach (a :: es) env = (false, eval a env) :: starEach es env := by intro _; rfl) : JA G (a :: es) Z (d :: ds) Z2 := fun X f B σ H k Q q =>
  ⟨_, pa_cons p_E p_A (hs _), ha X f B σ H k _ fun x H1 k1 p1 r1 => hr X f B σ H1 k1 _ fun vs H2 k2 p2 r2 => q _ H2 k2 (p1.trans p2) (RpA.cons (p2 _ _ r1) r2)⟩
theorem sz5 {n : Nat} (h : n ≤ 100000) : n ≤ sizeLine := Nat.le_trans h (by decide)
theorem je_tup {x1} (h : JA G es Z ds Z1) (hz : ds.length ≤ 100000 := by first | exact Nat.le_of_ble_eq_true rfl | omega) : JE G (.Tuple es x1 pos) Z (.tup ds) Z1 := fun X f B σ H k Q q =>
  ⟨_, pe_tup p_A, h X f B σ H k _ fun vs H1 k1 p1 r1 => ⟨by rw [r1.1]; exact sz5 hz, fun p np => by
    have s := same_upd (o := .tup vs) np
    exact q _ _ (k1.same s) (p1.trans (Kp.same s)) (rp_tup (k1.fresh np) upd_same ((Kp.same s).all r1))⟩⟩
theorem je_lst (h : JA G es Z ds Z1) (hz : ds.length ≤ 100000 := by first | exact Nat.le_of_ble_eq_true rfl | omega) : JE G (.List es pos) Z (.lst ds) Z1 := fun X f B σ H k Q q =>
  ⟨_, pe_lst p_A, h X f B σ H k _ fun vs H1 k1 p1 r1 => ⟨by rw [r1.1]; exact sz5 hz, fun p np => by
    have s := same_upd (o := .lst vs) np
    exact q _ _ (k1.same s) (p1.trans (Kp.same s)) (rp_lst (k1.fresh np) upd_same ((Kp.same s).all r1))⟩⟩
end
end JL

namespace JL
open PySem PySem.Spec L2
/-! ### statements -/
inductive OutS where
  | nx (Z : State)
  | rt (Z : State) (d : D)
  | ex (C : Addr) (Z : State)
  | bk (Z : State)
  | ct (Z : State)
structure EndsOk (B : Bs) (W : WX) (E : Ends) (P : OutS → Prop) : Prop where
  nx : ∀ Z σ H, P (.nx Z) → Ok B Z σ H → E.nx σ H
  rt : ∀ Z d v σ H, P (.rt Z d) → Ok B Z σ H → Rp B.S H v d → E.rt v H
  ex : ∀ Z C σ H, P (.ex C Z) → Ok B Z σ H → W (.ref C) none σ H
  bk : ∀ Z σ H, P (.bk Z) → Ok B Z σ H → E.bk σ H
  ct : ∀ Z σ H, P (.ct Z) → Ok B Z σ H → E.ct σ H
def JS (G : Ctx) (st : Stmt) (Z : State) (P : OutS → Prop) : Prop :=
  ∀ (X : Cx), Fits G X → ∀ (B : Bs) (σ : St) (H : Hp), Ok B Z σ H → ∀ (W : WX) (E : Ends), Takes X W → EndsOk B W E P → wS X st E σ H
def JSs (G : Ctx) (st : List Stmt) (Z : State) (P : OutS → Prop) : Prop :=
  ∀ (X : Cx), Fits G X → ∀ (B : Bs) (σ : St) (H : Hp), Ok B Z σ H → ∀ (W : WX) (E : Ends), Takes X W → EndsOk B W E P → wSs X st E σ H
/-- what is wanted behind the first of two -/
def andThen (G : Ctx) (rest : List Stmt) (P : OutS → Prop) : OutS → Prop
  | .nx Z => JSs G rest Z P
  | .rt Z d => P (.rt Z d)
  | .ex C Z => P (.ex C Z)
  | .bk Z => P (.bk Z)
  | .ct Z => P (.ct Z)
section
variable {G : Ctx} {Z Z1 Z2 Z3 : State} {a b c e : Expr} {pos pos' : Pos} {d d1 d2 : D} {P : OutS → Prop} {st : Stmt} {rest : List Stmt}
theorem JS.imp {P' : OutS → Prop} (h : JS G st Z P) (hp : ∀ o, P o → P' o) : JS G st Z P' := fun X f B σ H k W E tk en =>
  h X f B σ H k W E tk ⟨fun Z σ H p => en.nx Z σ H (hp _ p), fun Z d v σ H p => en.rt Z d v σ H (hp _ p), fun Z C σ H p => en.ex Z C σ H (hp _ p), fun Z σ H p => en.bk Z σ H (hp _ p), fun Z σ H p => en.ct Z σ H (hp _ p)⟩
theorem JSs.imp {sts : List Stmt} {P' : OutS → Prop} (h : JSs G sts Z P) (hp : ∀ o, P o → P' o) : JSs G sts Z P' := fun X f B σ H k W E tk en =>
  h X f B σ H k W E tk ⟨fun Z σ H p => en.nx Z σ H (hp _ p), fun Z d v σ H p => en.rt Z d v σ H (hp _ p), fun Z C σ H p => en.ex Z C σ H (hp _ p), fun Z σ H p => en.bk Z σ H (hp _ p), fun Z σ H p => en.ct Z σ H (hp _ p)⟩
theorem js_nil (h : P (.nx Z)) : JSs G [] Z P := fun X f B σ H k W E tk en => ⟨_, pss_nil, en.nx Z σ H h k⟩
theorem js_cons (h : JS G st Z (andThen G rest P)) : JSs G (st :: rest) Z P := fun X f B σ H k W E tk en =>
  ⟨_, pss_cons p_S p_Ss, h X f B σ H k W { E with nx := fun σ H => wSs X rest E σ H } tk
    ⟨fun Z σ H p k => p X f B σ H k W E tk en, fun Z d v σ H p => en.rt Z d v σ H p, fun Z C σ H p => en.ex Z C σ H p, fun Z σ H p => en.bk Z σ H p, fun Z σ H p => en.ct Z σ H p⟩⟩
theorem js_ret (h : JE G e Z d Z1) (hp : P (.rt Z1 d)) : JS G (.Return (some e) pos) Z P := fun X f B σ H k W E tk en =>
  ⟨_, ps_ret p_E, h X f B σ H k _ fun v H1 k1 p1 r1 => en.rt Z1 d v σ H1 hp k1 (r1.keep Pres.refl fun a o _ m => k1.sub a m)⟩
theorem js_retN (hp : P (.rt Z .non)) : JS G (.Return none pos) Z P := fun X f B σ H k W E tk en => ⟨_, ps_retN, en.rt Z .non .non σ H hp k .non⟩
theorem js_expr (h : JE G e Z d Z1) (hp : P (.nx Z1)) (hs : ∀ env, swapsWith e none pos.line env = pure false := by intro _; rfl) : JS G (.Expr e pos) Z P := fun X f B σ H k W E tk en =>
  ⟨_, ps_expr p_E (hs _), h X f B σ H k _ fun v H1 k1 p1 r1 => en.nx Z1 σ H1 hp k1⟩
theorem js_if {t : Bool} {A A' : List Stmt} (hc : JT G c Z t Z1) (ha : t = true → JSs G A Z1 P) (hb : t = false → JSs G A' Z1 P) : JS G (.If c A A' pos) Z P := fun X f B σ H k W E tk en =>
  ⟨_, ps_if p_T p_Ss p_Ss, hc X f B σ H k _ fun H1 k1 p1 => by
    cases t with
    | true => exact (if_pos rfl).mpr (ha rfl X f B σ H1 k1 W E tk en)
    | false => exact (if_neg Bool.false_ne_true).mpr (hb rfl X f B σ H1 k1 W E tk en)⟩
def locB (sc : Scope) (fn : Str → Bool) (x : Str) : Bool := match sc.names.lookup x with
  | some .local => true
  | some .cell => fn x
  | _ => false
theorem loc_of {X : Cx} {x : Str} (f : Fits G X) (h : locB G.sc G.fn x = true) : L2.Loc X.env.scope x ∧ (X.fn x = true ∨ X.env.scope.names.lookup x = some .local) := by
  unfold locB at h
  rw [f.sc]
  unfold L2.Loc
  split at h
  · rename_i e; exact ⟨.inl e, .inr e⟩
  · rename_i e; exact ⟨.inr e, .inl (f.fn x h)⟩
  · cases h
def stB (N : List Str) (sc : Scope) (fn : Str → Bool) (i : Nat) (x : Str) : Bool := decide (N[i]? = some x) && locB sc fn x
abbrev State.put (Z : State) (i : Nat) (d : D) : State := ⟨Z.S, Z.ρ.set i (some (.dat d))⟩
theorem js_set (i : Nat) {x : Str} (h : JE G e Z d Z1) (hp : P (.nx (Z1.put i d))) (hn : stB G.N G.sc G.fn i x = true := by kernel_rfl)
    (hs : ∀ env, swapsWith e (some (.Name x pos')) pos.line env = pure false := by intro _; rfl) : JS G (.Assign [.Name x pos'] e pos) Z P := by
  intro X f B σ H k W E tk en
  simp only [stB, Bool.and_eq_true, decide_eq_true_eq] at hn
  obtain ⟨l1, l2⟩ := loc_of f hn.2
  exact ⟨_, ps_set (i := i) (by rw [f.N]; exact f.nd) (by rw [f.N]; exact hn.1) l1 p_E (hs _) l2, h X f B σ H k _ fun v H1 k1 p1 r1 => en.nx _ _ H1 hp (k1.set i r1)⟩

/-! ### targets -/
def gW (X : Cx) (tg : Expr) : TG := fun v σ H Q => ∃ g, PG X tg g ∧ g v σ H Q
theorem p_G {X : Cx} {tg : Expr} : PG X tg (gW X tg) := ⟨fun pins s σ H v u Q I r h => by obtain ⟨g, p, q⟩ := h; exact p.run pins s σ H v u Q I r q⟩
def gsW (X : Cx) (tg : List Expr) : TGs := fun v σ H Q => ∃ g, PGs X tg g ∧ g v σ H Q
theorem p_Gs {X : Cx} {tg : List Expr} : PGs X tg (gsW X tg) := ⟨fun pins s σ H v u Q I r h => by obtain ⟨g, p, q⟩ := h; exact p.run pins s σ H v u Q I r q⟩
/-- the target takes data d, and slots change -/
def JG (G : Ctx) (tg : Expr) (d : D) (Z : State) (Z' : State) : Prop :=
  ∀ (X : Cx), Fits G X → ∀ (B : Bs) (σ : St) (H : Hp) (v : V), Ok B Z σ H → Rp Z.S H v d → ∀ Q : St → Hp → Prop, (∀ σ', Ok B Z' σ' H → Kp Z.S H Z'.S H → Q σ' H) → gW X tg v σ H Q
def JGs (G : Ctx) (tg : List Expr) (ds : List D) (Z : State) (Z' : State) : Prop :=
  ∀ (X : Cx), Fits G X → ∀ (B : Bs) (σ : St) (H : Hp) (vs : List V), Ok B Z σ H → RpA Z.S H vs ds → ∀ Q : St → Hp → Prop, (∀ σ', Ok B Z' σ' H → Kp Z.S H Z'.S H → Q σ' H) → gsW X tg vs σ H Q
theorem jg_name (i : Nat) {x : Str} (hn : stB G.N G.sc G.fn i x = true := by kernel_rfl) : JG G (.Name x pos) d Z (Z.put i d) := by
  intro X f B σ H v k r Q q
  simp only [stB, Bool.and_eq_true, decide_eq_true_eq] at hn
  obtain ⟨l1, l2⟩ := loc_of f hn.2
  exact ⟨_, pg_name (i := i) (by rw [f.N]; exact f.nd) (by rw [f.N]; exact hn.1) l1 l2, q _ (k.set i r) Kp.refl⟩
theorem jgs_nil : JGs G [] [] Z Z := fun X f B σ H vs k r Q q => ⟨_, pgs_nil, by
  cases vs with
  | nil => exact ⟨rfl, q σ k Kp.refl⟩
  | cons v vs => have := r.1; simp at this⟩
theorem jgs_cons {tg : Expr} {tgs : List Expr} {ds : List D} (h1 : JG G tg d Z Z1) (h2 : JGs G tgs ds Z1 Z2) (hs : ∀ env, (assignEach (tg :: tgs) env).map (·.2) = assign tg env :: (assignEach tgs env).map (·.2) := by intro _; rfl) : JGs G (tg :: tgs) (d :: ds) Z Z2 :=
  fun X f B σ H vs k r Q q => ⟨_, pgs_cons p_G p_Gs (hs _), by
    cases vs with
    | nil => have := r.1; simp at this
    | cons v vs => exact ⟨v, vs, rfl, h1 X f B σ H v k r.head _ fun σ' k' p' => h2 X f B σ' H vs k' (p'.all r.tail) Q fun σ2 k2 p2 => q σ2 k2 (p'.trans p2)⟩⟩
theorem jg_tup {tgs : List Expr} {ds : List D} {kk : Nat} (h : JGs G tgs ds Z Z1) (hn : ∀ env, (assignEach tgs env).length = ds.length := by intro _; rfl) (hst : ∀ env, (assignEach tgs env).findIdx? (·.1) = none := by intro _; rfl) : JG G (.Tuple tgs kk pos) (.tup ds) Z Z1 :=
  fun X f B σ H v k r Q q => by
    obtain ⟨a, xs, rfl, na, e, ra⟩ := r.inv_tup
    exact ⟨_, pg_tup f.calm p_Gs (n := ds.length) (hn _) (hst _), a, xs, rfl, .of e, ra.1, h X f B σ H xs k ra Q q⟩
theorem js_asg {tg : Expr} (h : JE G e Z d Z1) (hg : JG G tg d Z1 Z2) (hp : P (.nx Z2)) (hs : ∀ env, swapsWithSole [tg] e pos.line env = pure false := by intro _; rfl) (hw : ∀ env, swappedStores [tg] e env = pure none := by intro _; rfl)
    (h1 : ∀ env, (assignEach [tg] env).map (·.2) = [assign tg env] := by intro _; rfl) : JS G (.Assign [tg] e pos) Z P := fun X f B σ H k W E tk en =>
  ⟨_, ps_asg p_E p_G (hs _) (hw _) (h1 _), h X f B σ H k _ fun v H1 k1 p1 r1 => hg X f B σ H1 v k1 r1 _ fun σ' k' p' => en.nx _ _ H1 hp k'⟩
def locL (sc : Scope) (x : Str) : Bool := match sc.names.lookup x with
  | some .local => true
  | _ => false
theorem locL_of {sc : Scope} {x : Str} (h : locL sc x = true) : sc.names.lookup x = some .local := by
  unfold locL at h
  split at h
  · assumption
  · cases h
/-- a, b = e1, e2 -/
theorem js_par (i j : Nat) {x y : Str} {px py pt : Pos} {kt k2 pt2} (ha : JA G [a, b] Z [d1, d2] Z1) (hp : P (.nx ((Z1.put i d1).put j d2)))
    (hw : ∀ env : Env, env.scope = G.sc → swappedStores [.Tuple [.Name x px, .Name y py] kt pt] (.Tuple [a, b] k2 pt2) env = pure (some [x, y]))
    (hn : (decide (G.N[i]? = some x) && (decide (G.N[j]? = some y) && (locL G.sc x && (locL G.sc y && !(i == j))))) = true := by kernel_rfl)
    (hs : ∀ env, swapsWithSole [.Tuple [.Name x px, .Name y py] kt pt] (.Tuple [a, b] k2 pt2) pos.line env = pure false := by intro _; rfl) :
    JS G (.Assign [.Tuple [.Name x px, .Name y py] kt pt] (.Tuple [a, b] k2 pt2) pos) Z P := by
  intro X f B σ H k W E tk en
  simp only [Bool.and_eq_true, decide_eq_true_eq, Bool.not_eq_true', beq_eq_false_iff_ne] at hn
  obtain ⟨h1, h2, h3, h4, h5⟩ := hn
  refine ⟨_, ps_par (i := i) (j := j) f.calm (by rw [f.N]; exact f.nd) (by rw [f.N]; exact h1) (by rw [f.N]; exact h2) h5 (by rw [f.sc]; exact locL_of h3) (by rw [f.sc]; exact locL_of h4) p_A (hw _ f.sc) (hs _), ha X f B σ H k _ fun vs H1 k1 p1 r1 => ?_⟩
  obtain ⟨v, w, rfl⟩ : ∃ v w, vs = [v, w] := by
    have := r1.1
    match vs, this with
    | [v, w], _ => exact ⟨v, w, rfl⟩
  exact ⟨v, w, rfl, en.nx _ _ H1 hp ((k1.set i r1.head).set j r1.tail.head)⟩

/-! ### raising -/
theorem jx_ret {C : Addr} (h : JX G e Z C Z1) (hp : P (.ex C Z1)) : JS G (.Return (some e) pos) Z P := fun X f B σ H k W E tk en =>
  ⟨_, ps_ret p_E, h X f B σ H k W tk (fun H1 k1 => en.ex Z1 C σ H1 hp k1) _⟩
theorem jx_expr {C : Addr} (h : JX G e Z C Z1) (hp : P (.ex C Z1)) (hs : ∀ env, swapsWith e none pos.line env = pure false := by intro _; rfl) : JS G (.Expr e pos) Z P := fun X f B σ H k W E tk en =>
  ⟨_, ps_expr p_E (hs _), h X f B σ H k W tk (fun H1 k1 => en.ex Z1 C σ H1 hp k1) _⟩
theorem jx_set {C : Addr} (i : Nat) {x : Str} (h : JX G e Z C Z1) (hp : P (.ex C Z1)) (hn : stB G.N G.sc G.fn i x = true := by kernel_rfl)
    (hs : ∀ env, swapsWith e (some (.Name x pos')) pos.line env = pure false := by intro _; rfl) : JS G (.Assign [.Name x pos'] e pos) Z P := by
  intro X f B σ H k W E tk en
  simp only [stB, Bool.and_eq_true, decide_eq_true_eq] at hn
  obtain ⟨l1, l2⟩ := loc_of f hn.2
  exact ⟨_, ps_set (i := i) (by rw [f.N]; exact f.nd) (by rw [f.N]; exact hn.1) l1 p_E (hs _) l2, h X f B σ H k W tk (fun H1 k1 => en.ex Z1 C σ H1 hp k1) _⟩
/-- raise X('..') of an own class over ValueError, or over an own class over it -/
structure ExcK (g : Glob) (x : Str) (C : Addr) : Prop where
  mg : g.mg x = some (.ref C)
  ex : PySem.W.excIn g.K C [.type "ValueError", .type "Exception", .type "BaseException", .type "object"] "ValueError.__new__" = true
  kp : PySem.W.keepIn g.K (.ref C) = true
  sb : PySem.W.subIn g.K (.ref C) (.type "BaseException") = some true
  ty : PySem.W.typeIn g.K (.ref C) = some (.type "type")
theorem js_raise {x m : Str} {C : Addr} {j : Nat} {p p2 pos2 : Pos} (K : ExcK G.g x C) (hp : P (.ex C Z)) (hg : glB G.sc x = true := by kernel_rfl) : JS G (.Raise (some (.Call (.Name x p) [.Constant (.str m) j p2] [] pos2)) none pos) Z P := by
  intro X f B σ H k W E tk en
  obtain ⟨h1, h2, _⟩ := gl_of f hg
  refine ⟨_, ps_raise f.calm tk (pmk_own PySem.F.excBase_ValueError (by rw [f.K]; exact K.ex) (by rw [f.mg]; exact K.mg) (by rw [f.K]; exact K.kp) (raises_own (by rw [f.K]; exact K.sb) (by rw [f.K]; exact K.ty)) h1 h2), ?_⟩
  exact en.ex Z C σ H hp k
end

/-! ### defs -/
inductive Out where
  | ret (d : D)
  | exc (C : Addr)
def Dom (S : List Addr) (H : Hp) : Prop := ∀ a ∈ S, ∃ o, H a = some o ∧ ¬ Solid o
def outOk (S : List Addr) (H : Hp) (Q : VK) (E : XK) : Out → Prop
  | .ret d => ∀ v H', Same H H' → Rp S H' v d → Q v H'
  | .exc C => ∀ H', Same H H' → E (.ref C) none H'
def spR (n : Nat) (R : List D → Out → Prop) : Sp := fun vs H Q E => vs.length = n ∧ ∃ (S : List Addr) (ds : List D) (o : Out), RpA S H vs ds ∧ Dom S H ∧ R ds o ∧ outOk S H Q E o
/-- the module's name x is a def of n parameters that does as R says, within k calls -/
structure Def (g : Glob) (x : Str) (n k : Nat) (R : List D → Out → Prop) : Prop where
  ex : ∃ f fd ps, FnOk g.P g.w g.K g.mg g.base (L2.CX g.P g.w) k f fd ps (spR n R) ∧ g.mg x = some (.ref f) ∧ PySem.W.keepIn g.K (.ref f) = true ∧ Binds g.K fd ps []
theorem fnX {G : Ctx} {X : Cx} {k : Nat} {f : Addr} {fd : FuncData} {ps : List Str} {sp : Sp} (t : Fits G X) (F : FnOk G.g.P G.g.w G.g.K G.g.mg G.g.base (L2.CX G.g.P G.g.w) k f fd ps sp) : FnOk X.prog X.w X.K X.mg X.base (L2.CX X.prog X.w) k f fd ps sp := by
  rw [t.prog, t.w, t.K, t.mg, t.base]
  exact F
section
variable {G : Ctx} {Z Z1 Z2 Z3 : State} {a b c e : Expr} {es : List Expr} {ds : List D} {pos p : Pos} {d d1 d2 : D} {x : Str} {n k : Nat} {R : List D → Out → Prop} {C : Addr}
theorem je_call (F : Def G.g x n k R) (hk : k ≤ G.k) (ha : JA G (e :: es) Z ds Z1) (hr : R ds (.ret d)) (hn : ds.length = n := by rfl) (hg : glB G.sc x = true := by kernel_rfl) (he : ∀ env, starEach (e :: es) env = (false, eval e env) :: starEach es env := by intro _; rfl)
    (hpl : ∀ env, (backTo pos (starEach es env)).any (·.1) = false := by intro _; rfl) : JE G (.Call (.Name x p) (e :: es) [] pos) Z d Z1 := by
  intro X f B σ H kk Q q
  obtain ⟨fa, fd, ps, FK, hm, kp, bs⟩ := F.ex
  obtain ⟨h1, h2, _⟩ := gl_of f hg
  refine ⟨_, pe_call (fnX f FK) (f.room.mono hk) h1 (by rw [f.mg]; exact hm) (by rw [f.K]; exact kp) (by rw [f.K]; exact bs) .nil (E := E0) passL p_A h2 (he _) (hpl _), ?_⟩
  refine ha X f B σ H kk _ fun vs H1 k1 p1 r1 => ?_
  rw [List.append_nil]
  refine ⟨by rw [r1.1]; exact hn, Z1.S, ds, .ret d, r1, k1.dom, hr, fun v H2 s r2 => q v H2 (k1.same s) (p1.trans (Kp.same s)) r2⟩
theorem je_call0 (F : Def G.g x 0 k R) (hk : k ≤ G.k) (hr : R [] (.ret d)) (hg : glB G.sc x = true := by kernel_rfl) : JE G (.Call (.Name x p) [] [] pos) Z d Z := by
  intro X f B σ H kk Q q
  obtain ⟨fa, fd, ps, FK, hm, kp, bs⟩ := F.ex
  obtain ⟨h1, h2, _⟩ := gl_of f hg
  refine ⟨_, pe_call0 (fnX f FK) (f.room.mono hk) h1 (by rw [f.mg]; exact hm) (by rw [f.K]; exact kp) (by rw [f.K]; exact bs) .nil (E := E0) passL h2, ?_⟩
  exact ⟨rfl, Z.S, [], .ret d, RpA.nil, kk.dom, hr, fun v H2 s r2 => q v H2 (kk.same s) (Kp.same s) r2⟩
theorem jx_call (F : Def G.g x n k R) (hk : k ≤ G.k) (ha : JA G (e :: es) Z ds Z1) (hr : R ds (.exc C)) (hn : ds.length = n := by rfl) (hg : glB G.sc x = true := by kernel_rfl) (he : ∀ env, starEach (e :: es) env = (false, eval e env) :: starEach es env := by intro _; rfl)
    (hpl : ∀ env, (backTo pos (starEach es env)).any (·.1) = false := by intro _; rfl) : JX G (.Call (.Name x p) (e :: es) [] pos) Z C Z1 := by
  intro X f B σ H kk W tk q Q
  obtain ⟨fa, fd, ps, FK, hm, kp, bs⟩ := F.ex
  obtain ⟨h1, h2, _⟩ := gl_of f hg
  refine ⟨_, pe_callS (fnX f FK) (f.room.mono hk) h1 (by rw [f.mg]; exact hm) (by rw [f.K]; exact kp) (by rw [f.K]; exact bs) (E := WE W) (fun σ => passAt tk σ) p_A h2 (he _) (hpl _), ?_⟩
  refine ha X f B σ H kk _ fun vs H1 k1 p1 r1 => ?_
  exact ⟨by rw [r1.1]; exact hn, Z1.S, ds, .exc C, r1, k1.dom, hr, fun H2 s => q H2 (k1.same s)⟩
end

/-! ### a def by its body -/
def rho0 (N : List Str) (ds : List D) : Rho := ds.map (fun d => some (.dat d)) ++ List.replicate (N.length - ds.length) none
def Post (o : Out) : OutS → Prop
  | .rt _ d => o = .ret d
  | .nx _ => o = .ret .non
  | .ex C _ => o = .exc C
  | _ => False
theorem ok0 {N : List Str} {S : List Addr} {H : Hp} {vs : List V} {ds : List D} (hl : ds.length ≤ N.length) (r : RpA S H vs ds) (dm : Dom S H) : Ok ⟨H, [], S, fun _ _ => False, fun _ _ => False⟩ ⟨S, rho0 N ds⟩ (L2.start N vs) H := by
  have key : ∀ (i : Nat) (ev : EV), (rho0 N ds)[i]? = some (some ev) → ∃ d, ds[i]? = some d ∧ ev = .dat d := fun i ev e => by
    unfold rho0 at e
    by_cases hi : i < ds.length
    · rw [List.getElem?_append_left (by simpa using hi), List.getElem?_map] at e
      cases q : ds[i]? with
      | none => rw [q] at e; cases e
      | some d => rw [q] at e; cases e; exact ⟨d, rfl, rfl⟩
    · rw [List.getElem?_append_right (by simpa using hi), List.getElem?_replicate] at e
      split at e <;> cases e
  refine ⟨?_, fun i ev e => ?_, fun i j e f h1 h2 a m1 m2 => ?_, fun i e h a m => ?_, dm, fun b o e _ => e, fun a m => m, fun b o e _ => e, fun a m => by obtain ⟨o, e, _⟩ := dm a m; exact ⟨o, e⟩, fun _ _ m => m.elim, fun _ _ m => m.elim, fun a m => (by simp at m), fun _ _ _ _ m => (by simp at m)⟩
  · have := r.1
    simp [rho0, L2.start, this]
  · obtain ⟨d, e1, rfl⟩ := key i ev e
    obtain ⟨v, e2, rv⟩ := r.get e1
    have hi : i < vs.length := (List.getElem?_eq_some_iff.mp e2).1
    refine ⟨some v, ?_, v, rfl, rv⟩
    unfold L2.start
    rw [List.getElem?_append_left (by simpa using hi), List.getElem?_map, e2]
    rfl
  · obtain ⟨d, _, rfl⟩ := key i e h1
    cases m1
  · obtain ⟨d, _, rfl⟩ := key i e h
    cases m
theorem fits_cx {g : Glob} {N : List Str} {qual : Str} {sc : Scope} {f : Addr} {cdv : Value} {A : Around} {outer : List Env} {s : Shared} {H : Hp} {E : XK} {k : Nat} (nd : N.Nodup) (hr : Room k (A.deeper (PyProof.Rows.envOfC qual sc s.heap.objs.size f cdv))) :
    Fits ⟨g, N, sc, k, fun _ => true, true⟩ (cxOf (L2.CX g.P g.w) g.P g.w g.K g.mg g.base N qual sc f cdv A outer s H E) :=
  ⟨rfl, rfl, rfl, rfl, rfl, rfl, rfl, hr, rfl, passes_of rfl, fun _ _ => rfl, nd, fun _ => ⟨rfl, rfl, rfl⟩⟩
/-- THE RULE for a def -/
theorem def_mk {g : Glob} {x : Str} {st : Stmt} {f : Addr} {fd : FuncData} {N ps : List Str} {k : Nat} {R : List D → Out → Prop} (hm : g.mg x = some (.ref f)) (F : FunD g.K x x (defArgs st) (defBody st) (defScope st) [] [] f fd) (S : FnScope N ps (defScope st))
    (hb : ∀ (kV doc pm : Value) (an : Option Addr) (cdv ct : Value) (us : List Value), us.length = ps.length → bindArgs (PySem.W.fnOf x x (defArgs st) (defBody st) (defScope st) .none kV doc pm an cdv ct) ⟨us, []⟩ = pure (ps.zip us))
    (body : ∀ (T : List Addr) (ds : List D) (o : Out), R ds o → ds.length = ps.length → JSs ⟨g, N, defScope st, k, fun _ => true, true⟩ (defBody st) ⟨T, rho0 N ds⟩ (Post o)) : Def g x ps.length (k + 1) R := by
  refine ⟨f, fd, ps, ?_, hm, F.kp, F.bindsN hb⟩
  refine F.ok S (fun vs H Q E h => h.1) (fun cdv A outer s H vs Q E hr h => ?_)
  obtain ⟨hl, T, ds, o, r, dm, hR, ho⟩ := h
  have hl : vs.length = ps.length := hl
  have hd : ds.length = ps.length := by rw [← r.1]; exact hl
  have hp : ps.length ≤ N.length := by
    have := congrArg List.length S.pre
    rw [List.length_take] at this
    omega
  refine body T ds o hR hd _ (fits_cx S.nd hr) ⟨H, [], T, fun _ _ => False, fun _ _ => False⟩ _ H (ok0 (by omega) r dm) (fun cls d _ H => E cls d H) _ (takes_of rfl rfl rfl rfl) ⟨fun Z σ H1 p k1 => ?_, fun Z d v σ H1 p k1 rv => ?_, fun Z C σ H1 p k1 => ?_, fun Z σ H1 p => p.elim, fun Z σ H1 p => p.elim⟩
  · have p : o = .ret .non := p
    subst p
    exact ho .non H1 (fun b u e => k1.out b u e (by simp)) .non
  · have p : o = .ret d := p
    subst p
    exact ho v H1 (fun b u e => k1.out b u e (by simp)) rv
  · have p : o = .exc C := p
    subst p
    exact ho H1 (fun b u e => k1.out b u e (by simp))
end JL

namespace JL
open PySem PySem.Spec L2
/-! ### what a loop walks -/
def wI (X : Cx) (tg e : Expr) : TI := fun σ H R => ∃ t, PI X tg e t ∧ t σ H R
theorem p_I {X : Cx} {tg e : Expr} : PI X tg e (wI X tg e) := ⟨fun pins s σ H R I h => by obtain ⟨t, p, q⟩ := h; exact p.run pins s σ H R I q⟩
abbrev Kept (kf : List (V × D)) (S : List Addr) (H : Hp) : Prop := ∀ p ∈ kf, Rp S H p.1 p.2
/-- ds is walked by J, as long as what is in kf stays readable -/
structure Goes (J : It) (ds : List D) (kf : List (V × D)) : Prop where
  go : ∀ S H i, Kept kf S H → i < ds.length → J.go i H
  stop : ∀ S H, Kept kf S H → J.stop ds.length H
  yld : ∀ S H (i : Nat) x H' d, Dom S H → Kept kf S H → ds[i]? = some d → J.yld i H x H' → Same H H' ∧ Rp S H' x d
theorem Goes.walk {J : It} {ds : List D} {kf : List (V × D)} (g : Goes J ds kf) : Walk J ds.length (fun H => ∃ S, Dom S H ∧ Kept kf S H) (fun i H x H' => ∀ S d, Dom S H → Kept kf S H → ds[i]? = some d → Same H H' ∧ Rp S H' x d) :=
  ⟨fun i H hi h => by obtain ⟨S, _, h⟩ := h; exact g.go S H i h hi, fun H h => by obtain ⟨S, _, h⟩ := h; exact g.stop S H h, fun i H x H' hi h y S d dm kp e => g.yld S H i x H' d dm kp e y⟩
def JI (G : Ctx) (tg iter : Expr) (Z : State) (ds : List D) (Z' : State) : Prop :=
  ∀ (X : Cx), Fits G X → ∀ (B : Bs) (σ : St) (H : Hp), Ok B Z σ H → ∀ R : It → Hp → Prop,
    (∀ J H1 kf, Ok B Z' σ H1 → Kp Z.S H Z'.S H1 → Kept kf Z'.S H1 → Goes J ds kf → R J H1) → wI X tg iter σ H R
def loopPost (I : State → Prop) (P : OutS → Prop) : OutS → Prop
  | .nx Z => I Z
  | .ct Z => I Z
  | .bk Z => P (.nx Z)
  | .rt Z d => P (.rt Z d)
  | .ex C Z => P (.ex C Z)
theorem kept1 {S : List Addr} {H : Hp} {v : V} {d : D} (h : Rp S H v d) : Kept [(v, d)] S H := fun p m => by
  have e : p = (v, d) := by simpa using m
  subst e
  exact h
section
variable {G : Ctx} {Z Z1 Z2 Z3 : State} {tg a b c e iter : Expr} {es : List Expr} {ds : List D} {pos p : Pos} {d d1 d2 : D} {x : Str} {P : OutS → Prop}
theorem sql_track {K : PySem.W.Frag} {H : Hp} {a : Addr} {xs : List V} (h : H a = some (.lst xs)) : SqL K H a xs := .of h
theorem ji_list (h : JE G iter Z (.lst ds) Z1) : JI G tg iter Z ds Z1 := fun X f B σ H k R q =>
  ⟨_, pi_list p_E, h X f B σ H k _ fun v H1 k1 p1 r1 => by
    obtain ⟨a, xs, rfl, na, e, ra⟩ := r1.inv_lst
    refine ⟨a, rfl, ⟨xs, .of e⟩, q _ H1 [(.ref a, .lst ds)] k1 p1 (kept1 r1) ⟨fun S H i kp hi => ?_, fun S H kp => ?_, fun S H i x H' d dm kp ed y => ?_⟩⟩
    · obtain ⟨a', xs', e1, _, e', ra'⟩ := (kp (.ref a, .lst ds) (by simp)).inv_lst
      cases e1
      have hl : i < xs'.length := by rw [ra'.1]; exact hi
      exact ⟨xs', xs'[i], .of e', List.getElem?_eq_getElem hl⟩
    · obtain ⟨a', xs', e1, _, e', ra'⟩ := (kp (.ref a, .lst ds) (by simp)).inv_lst
      cases e1
      exact ⟨xs', .of e', by rw [ra'.1]; exact Nat.le_refl _⟩
    · obtain ⟨a', xs', e1, _, e', ra'⟩ := (kp (.ref a, .lst ds) (by simp)).inv_lst
      cases e1
      obtain ⟨rfl, y⟩ := y
      exact ⟨Same.refl _, ra'.2 i x d (y xs' (.of e')) ed⟩⟩
theorem ji_tup (h : JE G iter Z (.tup ds) Z1) : JI G tg iter Z ds Z1 := fun X f B σ H k R q =>
  ⟨_, pi_tup p_E, h X f B σ H k _ fun v H1 k1 p1 r1 => by
    obtain ⟨a, xs, rfl, na, e, ra⟩ := r1.inv_tup
    refine ⟨a, rfl, ⟨xs, .of e⟩, q _ H1 [(.ref a, .tup ds)] k1 p1 (kept1 r1) ⟨fun S H i kp hi => ?_, fun S H kp => ?_, fun S H i x H' d dm kp ed y => ?_⟩⟩
    · obtain ⟨a', xs', e1, _, e', ra'⟩ := (kp (.ref a, .tup ds) (by simp)).inv_tup
      cases e1
      have hl : i < xs'.length := by rw [ra'.1]; exact hi
      exact ⟨xs', xs'[i], .of e', List.getElem?_eq_getElem hl⟩
    · obtain ⟨a', xs', e1, _, e', ra'⟩ := (kp (.ref a, .tup ds) (by simp)).inv_tup
      cases e1
      exact ⟨xs', .of e', by rw [ra'.1]; exact Nat.le_refl _⟩
    · obtain ⟨a', xs', e1, _, e', ra'⟩ := (kp (.ref a, .tup ds) (by simp)).inv_tup
      cases e1
      obtain ⟨rfl, y⟩ := y
      exact ⟨Same.refl _, ra'.2 i x d (y xs' (.of e')) ed⟩⟩
/-- the ints lo, lo + 1, .. below hi -/
def rng (lo hi : Int) : List D := (List.range (hi - lo).toNat).map fun (i : Nat) => D.int (lo + (i : Int))
theorem rng_len {lo hi : Int} : (rng lo hi).length = (hi - lo).toNat := by simp [rng]
theorem goes_rng {lo hi : Int} : Goes (Itr lo (hi - lo).toNat) (rng lo hi) [] := by
  refine ⟨fun S H i _ hi => by rw [rng_len] at hi; exact hi, fun S H _ => by rw [rng_len]; exact Nat.le_refl _, fun S H i x H' d _ _ e y => ?_⟩
  obtain ⟨rfl, rfl⟩ := y
  refine ⟨Same.refl _, ?_⟩
  unfold rng at e
  rw [List.getElem?_map] at e
  cases q : (List.range (hi - lo).toNat)[i]? with
  | none => rw [q] at e; cases e
  | some j =>
    rw [q] at e
    obtain ⟨h1, h2⟩ := List.getElem?_eq_some_iff.mp q
    rw [List.getElem_range] at h2
    subst h2
    cases e
    exact .int _
theorem ji_range1 {n : Int} (hm : G.g.mg "range" = none) (hg : glB G.sc "range" = true) (h : JA G [a] Z [.int n] Z1) (hn : -1000000 ≤ n ∧ n ≤ 1000000 := by omega) (hs : ∀ env, starEach [a] env = [(false, eval a env)] := by intro _; rfl) : JI G tg (.Call (.Name "range" p) [a] [] pos) Z (rng 0 n) Z1 := fun X f B σ H k R q =>
  ⟨_, pi_range1 (gl_of f hg).1 (by rw [f.mg]; exact hm) p_A (hs _), h X f B σ H k _ fun vs H1 k1 p1 r1 => by
    obtain ⟨v, rfl⟩ : ∃ v, vs = [v] := by
      have := r1.1
      match vs, this with
      | [v], _ => exact ⟨v, rfl⟩
    cases r1.head.inv_int
    refine ⟨n, rfl, by omega, by omega, q _ H1 [] k1 p1 (fun p m => (by simp at m)) ?_⟩
    have := goes_rng (lo := 0) (hi := n)
    rw [Int.sub_zero] at this
    exact this⟩
theorem ji_range2 {n m : Int} (hm : G.g.mg "range" = none) (hg : glB G.sc "range" = true) (h : JA G [a, b] Z [.int m, .int n] Z1) (hn : -1000000 ≤ n ∧ n ≤ 1000000 ∧ -1000000 ≤ m ∧ m ≤ 1000000 := by omega)
    (hs : ∀ env, starEach [a, b] env = [(false, eval a env), (false, eval b env)] := by intro _; rfl) (hs2 : ∀ env, starEach [b] env = [(false, eval b env)] := by intro _; rfl) : JI G tg (.Call (.Name "range" p) [a, b] [] pos) Z (rng m n) Z1 := fun X f B σ H k R q =>
  ⟨_, pi_range2 (gl_of f hg).1 (by rw [f.mg]; exact hm) p_A (hs _) (hs2 _), h X f B σ H k _ fun vs H1 k1 p1 r1 => by
    obtain ⟨v, w, rfl⟩ : ∃ v w, vs = [v, w] := by
      have := r1.1
      match vs, this with
      | [v, w], _ => exact ⟨v, w, rfl⟩
    cases r1.head.inv_int
    cases r1.tail.head.inv_int
    exact ⟨m, n, rfl, ⟨by omega, by omega, by omega, by omega⟩, q _ H1 [] k1 p1 (fun p m => (by simp at m)) goes_rng⟩⟩
/-- pairs of numbers and items -/
def numd (ds : List D) : List D := (List.range ds.length).zipWith (fun (i : Nat) d => D.tup [.int (i : Int), d]) ds
theorem pair_new {S : List Addr} {H : Hp} {T : Addr} {x y : V} {c d : D} (dm : Dom S H) (nT : H T = none) (rx : Rp S H x c) (ry : Rp S H y d) : Same H (upd H T (.tup [x, y])) ∧ Rp S (upd H T (.tup [x, y])) (.ref T) (.tup [c, d]) := by
  have s := same_upd (o := .tup [x, y]) nT
  refine ⟨s, rp_tup (fun m => ?_) upd_same ((Kp.same s).all (RpA.cons rx (RpA.cons ry RpA.nil)))⟩
  obtain ⟨o, e, _⟩ := dm T m
  rw [nT] at e
  cases e
theorem numd_len : (numd ds).length = ds.length := by simp [numd]
theorem numd_get {i : Nat} {e : D} (h : (numd ds)[i]? = some e) : ∃ d, ds[i]? = some d ∧ e = .tup [.int (i : Int), d] := by
  unfold numd at h
  rw [List.getElem?_zipWith] at h
  have hi : i < ds.length := by
    by_cases hi : i < ds.length
    · exact hi
    · rw [List.getElem?_eq_none (by simpa using hi)] at h
      cases h
  rw [List.getElem?_range hi, List.getElem?_eq_getElem hi] at h
  exact ⟨ds[i], List.getElem?_eq_getElem hi, (Option.some.inj h).symm⟩
theorem ji_enumL {elts : List Expr} {kk : Nat} {tpos : Pos} (hm : G.g.mg "enumerate" = none) (hg : glB G.sc "enumerate" = true) (h : JA G [a] Z [.lst ds] Z1) (hs : ∀ env, starEach [a] env = [(false, eval a env)] := by intro _; rfl) :
    JI G (.Tuple elts kk tpos) (.Call (.Name "enumerate" p) [a] [] pos) Z (numd ds) Z1 := fun X f B σ H k R q =>
  ⟨_, pi_enum (gl_of f hg).1 (by rw [f.mg]; exact hm) p_A (hs _), h X f B σ H k _ fun vs H1 k1 p1 r1 => by
    obtain ⟨v, rfl⟩ : ∃ v, vs = [v] := by
      have := r1.1
      match vs, this with
      | [v], _ => exact ⟨v, rfl⟩
    have r := r1.head
    obtain ⟨a, xs, rfl, na, e, ra⟩ := r.inv_lst
    refine ⟨a, xs, rfl, .of e, q _ H1 [(.ref a, .lst ds)] k1 p1 (kept1 r) ⟨fun S H i kp hi => ?_, fun S H kp => ?_, fun S H i x H' d dm kp ed y => ?_⟩⟩
    · obtain ⟨a', xs', e1, _, e', ra'⟩ := (kp (.ref a, .lst ds) (by simp)).inv_lst
      cases e1
      have hl : i < xs'.length := by rw [ra'.1, ← numd_len]; exact hi
      exact ⟨xs', xs'[i], .of e', List.getElem?_eq_getElem hl⟩
    · obtain ⟨a', xs', e1, _, e', ra'⟩ := (kp (.ref a, .lst ds) (by simp)).inv_lst
      cases e1
      exact ⟨xs', .of e', by rw [ra'.1, numd_len]; exact Nat.le_refl _⟩
    · obtain ⟨a', xs', e1, _, e', ra'⟩ := (kp (.ref a, .lst ds) (by simp)).inv_lst
      cases e1
      obtain ⟨T, z, rfl, nT, rfl, y⟩ := y
      obtain ⟨d', e2, rfl⟩ := numd_get ed
      exact pair_new dm nT (.int _) (ra'.2 i z d' (y xs' (.of e')) e2)⟩
def zipd (ds es : List D) : List D := ds.zipWith (fun c d => D.tup [c, d]) es
theorem zipd_get {ds es : List D} {i : Nat} {e : D} (h : (zipd ds es)[i]? = some e) : ∃ c d, ds[i]? = some c ∧ es[i]? = some d ∧ e = .tup [c, d] := by
  unfold zipd at h
  rw [List.getElem?_zipWith] at h
  cases h1 : ds[i]? with
  | none => rw [h1] at h; cases h
  | some c =>
    cases h2 : es[i]? with
    | none => rw [h1, h2] at h; cases h
    | some d => rw [h1, h2] at h; exact ⟨c, d, rfl, rfl, (Option.some.inj h).symm⟩
theorem ji_zipL {ds es : List D} {elts : List Expr} {kk : Nat} {tpos : Pos} (hm : G.g.mg "zip" = none) (hg : glB G.sc "zip" = true) (h : JA G [a, b] Z [.lst ds, .lst es] Z1) (hs : ∀ env, starEach [a, b] env = (false, eval a env) :: starEach [b] env := by intro _; rfl)
    (hpl : ∀ env, (backTo pos (starEach [b] env)).any (·.1) = false := by intro _; rfl) : JI G (.Tuple elts kk tpos) (.Call (.Name "zip" p) [a, b] [] pos) Z (zipd ds es) Z1 := fun X f B σ H k R q =>
  ⟨_, pi_zip (gl_of f hg).1 (by rw [f.mg]; exact hm) p_A (hs _) (hpl _), h X f B σ H k _ fun vs H1 k1 p1 r1 => by
    obtain ⟨v, w, rfl⟩ : ∃ v w, vs = [v, w] := by
      have := r1.1
      match vs, this with
      | [v, w], _ => exact ⟨v, w, rfl⟩
    have r := r1.head
    have r' := r1.tail.head
    obtain ⟨a, xs, rfl, na, e, ra⟩ := r.inv_lst
    obtain ⟨b, ys, rfl, nb, e', rb⟩ := r'.inv_lst
    have hz : (zipd ds es).length = min ds.length es.length := by simp [zipd]
    refine ⟨a, b, xs, ys, rfl, .of e, .of e', q _ H1 [(.ref a, .lst ds), (.ref b, .lst es)] k1 p1 (fun p m => ?_) ⟨fun S H i kp hi => ?_, fun S H kp => ?_, fun S H i x H' d dm kp ed y => ?_⟩⟩
    · simp only [List.mem_cons, List.not_mem_nil, or_false] at m
      rcases m with rfl | rfl
      · exact r
      · exact r'
    · obtain ⟨a1, xs1, e1, _, f1, ra1⟩ := (kp (.ref a, .lst ds) (by simp)).inv_lst
      obtain ⟨b1, ys1, e2, _, f2, rb1⟩ := (kp (.ref b, .lst es) (by simp)).inv_lst
      cases e1; cases e2
      have hl : i < xs1.length := by rw [ra1.1]; omega
      have hl2 : i < ys1.length := by rw [rb1.1]; omega
      exact ⟨xs1, ys1, xs1[i], ys1[i], .of f1, .of f2, List.getElem?_eq_getElem hl, List.getElem?_eq_getElem hl2⟩
    · obtain ⟨a1, xs1, e1, _, f1, ra1⟩ := (kp (.ref a, .lst ds) (by simp)).inv_lst
      obtain ⟨b1, ys1, e2, _, f2, rb1⟩ := (kp (.ref b, .lst es) (by simp)).inv_lst
      cases e1; cases e2
      exact ⟨xs1, ys1, .of f1, .of f2, by rw [ra1.1, rb1.1, hz]; omega⟩
    · obtain ⟨a1, xs1, e1, _, f1, ra1⟩ := (kp (.ref a, .lst ds) (by simp)).inv_lst
      obtain ⟨b1, ys1, e2, _, f2, rb1⟩ := (kp (.ref b, .lst es) (by simp)).inv_lst
      cases e1; cases e2
      obtain ⟨T, z, u, rfl, nT, rfl, y1, y2⟩ := y
      obtain ⟨c, d', h1, h2, rfl⟩ := zipd_get ed
      exact pair_new dm nT (ra1.2 i z c (y1 xs1 (.of f1)) h1) (rb1.2 i u d' (y2 ys1 (.of f2)) h2)⟩
/-- sign by sign -/
def signs (x : Str) : List D := x.cps.toList.map fun c => D.str ⟨#[c]⟩
theorem ji_str {x : Str} (h : JE G iter Z (.str x) Z1) : JI G tg iter Z (signs x) Z1 := fun X f B σ H k R q =>
  ⟨_, pi_str p_E, h X f B σ H k _ fun v H1 k1 p1 r1 => by
    cases r1.inv_str
    have hl : (signs x).length = x.cps.size := by simp [signs]
    refine ⟨x, rfl, q _ H1 [] k1 p1 (fun p m => (by simp at m)) ⟨fun S H i kp hi => by rw [hl] at hi; exact hi, fun S H kp => by rw [hl]; exact Nat.le_refl _, fun S H i v H' d dm kp ed y => ?_⟩⟩
    obtain ⟨rfl, c, hc, rfl⟩ := y
    refine ⟨Same.refl _, ?_⟩
    unfold signs at ed
    rw [List.getElem?_map, Array.getElem?_toList, hc] at ed
    cases ed
    exact .str _⟩
/-! ### for, while -/
theorem js_for {body : List Stmt} (hi : JI G tg iter Z ds Z1) (I : Nat → State → Prop) (h0 : I 0 Z1) (hs : ∀ i d Z, ds[i]? = some d → I i Z → ∃ Z2, JG G tg d Z Z2 ∧ JSs G body Z2 (loopPost (I (i + 1)) P)) (hd : ∀ Z, I ds.length Z → P (.nx Z))
    (hf : ∀ env x, foldedSetIterable iter env x = pure x := by intro _ _; rfl) : JS G (.For tg iter body [] pos) Z P := by
  intro X f B σ H k W E tk en
  refine ⟨_, ps_for f.po f.calm p_I p_G p_Ss (hf _), hi X f B σ H k _ fun J H1 kf k1 p1 kp gs => ?_⟩
  refine for_it gs.walk (fun i σ H => ∃ Z, I i Z ∧ Ok (B.all Z1.S H1) Z σ H) ⟨Z1, h0, k1.all⟩ (fun i σ H _ h => ?_) (fun i x σ H H' hi h y => ?_) fun σ H h => ?_
  · obtain ⟨Z, _, k⟩ := h
    exact ⟨Z.S, k.dom, fun p m => k.kept _ _ (.inr (kp p m))⟩
  · obtain ⟨Zi, hI, ki⟩ := h
    have ed : ds[i]? = some ds[i] := List.getElem?_eq_getElem hi
    obtain ⟨sm, rx⟩ := y Zi.S ds[i] ki.dom (fun p m => ki.kept _ _ (.inr (kp p m))) ed
    obtain ⟨Z2, hg, hb⟩ := hs i _ Zi ed hI
    refine hg X f _ σ H' x (ki.same sm) rx _ fun σ2 k2 p2 => ?_
    exact hb X f _ σ2 H' k2 W _ tk ⟨fun Z σ H p k => ⟨Z, p, k⟩, fun Z d v σ H p k => en.rt Z d v σ H p k.unall, fun Z C σ H p k => en.ex Z C σ H p k.unall, fun Z σ H p k => en.nx Z σ H p k.unall, fun Z σ H p k => ⟨Z, p, k⟩⟩
  · obtain ⟨Z, hI, k⟩ := h
    exact en.nx Z σ H (hd Z hI) k.unall
theorem js_while {body : List Stmt} (I : Nat → State → Prop) (m0 : Nat) (h0 : I m0 Z) (hs : ∀ m Z, I m Z → ∃ t Z1, JT G c Z t Z1 ∧ (t = true → JSs G body Z1 (loopPost (fun Z' => ∃ m', m' < m ∧ I m' Z') P)) ∧ (t = false → P (.nx Z1))) : JS G (.While c body [] pos) Z P := by
  intro X f B σ H k W E tk en
  refine ⟨_, ps_while f.po p_T p_Ss, fun m σ H => ∃ Z, I m Z ∧ Ok B Z σ H, ⟨m0, Z, h0, k⟩, fun m σ H h => ?_⟩
  obtain ⟨Z, hI, k⟩ := h
  obtain ⟨t, Z1, ht, hT, hF⟩ := hs m Z hI
  refine ht X f B σ H k _ fun H1 k1 p1 => ?_
  cases t with
  | true =>
    refine (if_pos rfl).mpr ⟨fun σ H => ∃ Z', (∃ m', m' < m ∧ I m' Z') ∧ Ok B Z' σ H, fun σ' H' h => ?_, ?_⟩
    · obtain ⟨Z', ⟨m', hm, hI'⟩, k'⟩ := h
      exact ⟨m', hm, Z', hI', k'⟩
    · exact hT rfl X f B σ H1 k1 W _ tk ⟨fun Z σ H p k => ⟨Z, p, k⟩, fun Z d v σ H p k => en.rt Z d v σ H p k, fun Z C σ H p k => en.ex Z C σ H p k, fun Z σ H p k => en.nx Z σ H p k, fun Z σ H p k => ⟨Z, p, k⟩⟩
  | false => exact (if_neg Bool.false_ne_true).mpr (en.nx Z1 σ H1 (hF rfl) k1)
end
end JL

namespace JL
open PySem PySem.Spec L2
/-! ### comprehensions -/
abbrev Ctx.blk (G : Ctx) (scope : Scope) : Ctx := ⟨G.g, G.N, relS scope G.sc, G.k, fun x => scope.names.lookup x == some .cell, false⟩
theorem Fits.blk {G : Ctx} {X : Cx} (f : Fits G X) (scope : Scope) (s : Shared) (H : Hp) (C : Addr) (cl : List (Str × Addr)) (fp : List Addr) : Fits (G.blk scope) (X.blk s H scope (compEnvC scope cl C X.env) fp) :=
  ⟨f.prog, f.w, f.K, f.mg, f.base, f.N, by
    show (compEnvC scope cl C X.env).scope = relS scope G.sc
    rw [← f.sc]
    rfl, f.room, f.calm, PassesOwn.never, fun x h => h, f.nd, fun h => by cases h⟩
def wipeR (ρ : Rho) : List Nat → Rho
  | [] => ρ
  | v :: vs => (wipeR ρ vs).set v none
theorem wipeR_len (ρ : Rho) : ∀ vs, (wipeR ρ vs).length = ρ.length
  | [] => rfl
  | v :: vs => by unfold wipeR; rw [List.length_set, wipeR_len ρ vs]
theorem wipeR_some {ρ : Rho} {i : Nat} {x : EV} : ∀ {vs : List Nat}, (wipeR ρ vs)[i]? = some (some x) → ρ[i]? = some (some x) ∧ i ∉ vs
  | [], h => ⟨h, by simp⟩
  | v :: vs, h => by
    unfold wipeR at h
    by_cases hi : v = i
    · subst hi
      by_cases hv : v < (wipeR ρ vs).length
      · rw [List.getElem?_set_self hv] at h; cases h
      · rw [List.getElem?_eq_none (by simpa using hv)] at h; cases h
    · rw [List.getElem?_set_ne hi] at h
      obtain ⟨h1, h2⟩ := wipeR_some h
      exact ⟨h1, by simp only [List.mem_cons, not_or]; exact ⟨fun e => hi e.symm, h2⟩⟩
theorem wipeR_out {ρ : Rho} {i : Nat} : ∀ {vs : List Nat}, i ∉ vs → (wipeR ρ vs)[i]? = ρ[i]?
  | [], _ => rfl
  | v :: vs, h => by
    simp only [List.mem_cons, not_or] at h
    unfold wipeR
    rw [List.getElem?_set_ne (fun e => h.1 e.symm)]
    exact wipeR_out h.2
theorem Ok.wipe {B : Bs} {S : List Addr} {ρ : Rho} {σ : St} {H : Hp} (k : Ok B ⟨S, ρ⟩ σ H) (vs : List Nat) : Ok B ⟨S, wipeR ρ vs⟩ (wipe σ vs) H := by
  refine ⟨?_, fun i ev e => ?_, fun i j e f h1 h2 => k.sep i j e f (wipeR_some h1).1 (wipeR_some h2).1, fun i e h => k.mine i e (wipeR_some h).1, k.dom, k.out, k.sub, k.tups, k.bsd, k.kept, fun a o m => ?_, k.msub, fun i q ds h => k.ownM i q ds (wipeR_some h).1⟩
  · show (wipeR ρ vs).length = _
    rw [wipeR_len, wipe_length]
    exact k.len
  · obtain ⟨h1, h2⟩ := wipeR_some e
    rw [wipe_out h2]
    exact k.env i ev h1
  · obtain ⟨h1, h2, h3⟩ := k.held a o m
    exact ⟨h1, h2, fun i e h => h3 i e (wipeR_some h).1⟩
theorem wipe_mem {σ : St} {i : Nat} : ∀ {vs : List Nat}, i ∈ vs → (wipe σ vs)[i]? = if i < σ.length then some none else none
  | v :: vs, h => by
    unfold wipe
    by_cases hi : v = i
    · subst hi
      by_cases hv : v < σ.length
      · rw [if_pos hv, List.getElem?_set_self (by rw [wipe_length]; exact hv)]
      · rw [if_neg hv, List.getElem?_eq_none (by rw [List.length_set, wipe_length]; omega)]
    · rw [List.getElem?_set_ne hi]
      exact wipe_mem (by simpa [Ne.symm hi, fun e : i = v => hi e.symm] using h)
theorem wipe_set {σ : St} {i : Nat} {o : Option V} {vs : List Nat} (h : i ∈ vs) : wipe (σ.set i o) vs = wipe σ vs := by
  apply List.ext_getElem?
  intro j
  by_cases hj : j ∈ vs
  · rw [wipe_mem hj, wipe_mem hj, List.length_set]
  · rw [wipe_out hj, wipe_out hj, List.getElem?_set_ne (fun e => hj (by rw [← e]; exact h))]
/-- as JG, and the slots beside tv are as they were -/
def JGw (G : Ctx) (tg : Expr) (tv : List Nat) (d : D) (Z : State) (Z' : State) : Prop :=
  ∀ (X : Cx), Fits G X → ∀ (B : Bs) (σ : St) (H : Hp) (v : V), Ok B Z σ H → Rp Z.S H v d → ∀ Q : St → Hp → Prop, (∀ σ', Ok B Z' σ' H → Kp Z.S H Z'.S H → (∀ vs : List Nat, (∀ i ∈ tv, i ∈ vs) → wipe σ' vs = wipe σ vs) → Q σ' H) → gW X tg v σ H Q
def JGsw (G : Ctx) (tg : List Expr) (tv : List Nat) (ds : List D) (Z : State) (Z' : State) : Prop :=
  ∀ (X : Cx), Fits G X → ∀ (B : Bs) (σ : St) (H : Hp) (vs : List V), Ok B Z σ H → RpA Z.S H vs ds → ∀ Q : St → Hp → Prop, (∀ σ', Ok B Z' σ' H → Kp Z.S H Z'.S H → (∀ vs : List Nat, (∀ i ∈ tv, i ∈ vs) → wipe σ' vs = wipe σ vs) → Q σ' H) → gsW X tg vs σ H Q
section
variable {G : Ctx} {Z Z1 Z2 Z3 : State} {tg a b c e iter elt : Expr} {tgs es : List Expr} {ds : List D} {pos p : Pos} {d d1 d2 : D} {x : Str} {P : OutS → Prop} {tv tv2 : List Nat}
theorem jgw_name (i : Nat) {x : Str} (hn : stB G.N G.sc G.fn i x = true := by kernel_rfl) : JGw G (.Name x pos) [i] d Z (Z.put i d) := by
  intro X f B σ H v k r Q q
  simp only [stB, Bool.and_eq_true, decide_eq_true_eq] at hn
  obtain ⟨l1, l2⟩ := loc_of f hn.2
  exact ⟨_, pg_name (i := i) (by rw [f.N]; exact f.nd) (by rw [f.N]; exact hn.1) l1 l2, q _ (k.set i r) Kp.refl fun vs h => wipe_set (h i (by simp))⟩
theorem jgsw_nil : JGsw G [] [] [] Z Z := fun X f B σ H vs k r Q q => ⟨_, pgs_nil, by
  cases vs with
  | nil => exact ⟨rfl, q σ k Kp.refl fun _ _ => rfl⟩
  | cons v vs => have := r.1; simp at this⟩
theorem jgsw_cons (h1 : JGw G tg tv d Z Z1) (h2 : JGsw G tgs tv2 ds Z1 Z2) (hs : ∀ env, (assignEach (tg :: tgs) env).map (·.2) = assign tg env :: (assignEach tgs env).map (·.2) := by intro _; rfl) : JGsw G (tg :: tgs) (tv ++ tv2) (d :: ds) Z Z2 :=
  fun X f B σ H vs k r Q q => ⟨_, pgs_cons p_G p_Gs (hs _), by
    cases vs with
    | nil => have := r.1; simp at this
    | cons v vs => exact ⟨v, vs, rfl, h1 X f B σ H v k r.head _ fun σ' k' p' w' => h2 X f B σ' H vs k' (p'.all r.tail) Q fun σ2 k2 p2 w2 => q σ2 k2 (p'.trans p2) fun us hu => (w2 us fun i m => hu i (List.mem_append_right _ m)).trans (w' us fun i m => hu i (List.mem_append_left _ m))⟩⟩
theorem jgw_tup {kk : Nat} (h : JGsw G tgs tv ds Z Z1) (hn : ∀ env, (assignEach tgs env).length = ds.length := by intro _; rfl) (hst : ∀ env, (assignEach tgs env).findIdx? (·.1) = none := by intro _; rfl) : JGw G (.Tuple tgs kk pos) tv (.tup ds) Z Z1 :=
  fun X f B σ H v k r Q q => by
    obtain ⟨a, xs, rfl, na, e, ra⟩ := r.inv_tup
    exact ⟨_, pg_tup f.calm p_Gs (n := ds.length) (hn _) (hst _), a, xs, rfl, .of e, ra.1, h X f B σ H xs k ra Q q⟩
theorem JGw.jg (h : JGw G tg tv d Z Z1) : JG G tg d Z Z1 := fun X f B σ H v k r Q q => h X f B σ H v k r Q fun σ' k' p' _ => q σ' k' p'

/-- the tests of a clause -/
def tsW (X : Cx) (ifs : List Expr) : TT := fun σ H Q => ∃ t, PTs X ifs t ∧ t σ H Q
theorem p_Ts {X : Cx} {ifs : List Expr} : PTs X ifs (tsW X ifs) := ⟨fun pins s σ H Q I h => by obtain ⟨t, p, q⟩ := h; exact p.run pins s σ H Q I q⟩
def JTs (G : Ctx) (ifs : List Expr) (Z : State) (b : Bool) (Z' : State) : Prop :=
  ∀ (X : Cx), Fits G X → ∀ (B : Bs) (σ : St) (H : Hp), Ok B Z σ H → ∀ Q : Bool → Hp → Prop, (∀ H', Ok B Z' σ H' → Kp Z.S H Z'.S H' → Q b H') → tsW X ifs σ H Q
theorem jts_nil : JTs G [] Z true Z := fun X f B σ H k Q q => ⟨_, pts_nil, q H k Kp.refl⟩
theorem jts_one {t : Bool} (h : JT G c Z t Z1) : JTs G [c] Z t Z1 := fun X f B σ H k Q q => ⟨_, pts_one p_T, h X f B σ H k Q q⟩

def gU (G : Ctx) (tg : Expr) : TG := fun v σ H Q => ∀ X', Fits G X' → gW X' tg v σ H Q
def tU (G : Ctx) (ifs : List Expr) : TT := fun σ H Q => ∀ X', Fits G X' → tsW X' ifs σ H Q
def eU (G : Ctx) (elt : Expr) : TE := fun σ H Q => ∀ X', Fits G X' → wE X' elt σ H Q
/-- an object that stands apart is changed -/
theorem Ok.turn {B : Bs} {Z : State} {σ : St} {H : Hp} {Dl : Addr} {xs ys : List V} (k : Ok { B with held := fun a o => B.held a o ∨ (a = Dl ∧ o = .lst xs) } Z σ H) (hB : ∀ a o, B.held a o → a ≠ Dl) (hH : B.H Dl = none ∨ Dl ∈ B.M) :
    Ok { B with held := fun a o => B.held a o ∨ (a = Dl ∧ o = .lst ys) } Z σ (upd H Dl (.lst ys)) ∧ Kp Z.S H Z.S (upd H Dl (.lst ys)) := by
  obtain ⟨hS, hl, hf⟩ := k.held Dl _ (.inr ⟨rfl, rfl⟩)
  have pr : Pres Z.S H (upd H Dl (.lst ys)) := fun b o e n => by
    rw [upd_ne (fun z => n (by rw [z]; exact hS))]
    exact e
  have kp : Kp Z.S H Z.S (upd H Dl (.lst ys)) := fun x c r => r.keep pr fun _ _ _ z => z
  have tp : ∀ b o, H b = some o → Solid o → (upd H Dl (.lst ys)) b = some o := fun b o e n => by
    rw [upd_ne (fun z => by rw [z, hl] at e; cases e; exact n)]
    exact e
  refine ⟨⟨k.len, fun i ev e => ?_, k.sep, k.mine, fun a m => ?_, fun b o e n => ?_, k.sub, fun b o e n => tp b o (k.tups b o e n) n, k.bsd, fun x c m => kp _ _ (k.kept x c m), fun a o m => ?_, k.msub, k.ownM⟩, kp⟩
  · obtain ⟨o, h1, h2⟩ := k.env i ev e
    refine ⟨o, h1, ?_⟩
    have nf := hf i ev e
    cases ev with
    | dat d => obtain ⟨v, e, r⟩ := h2; exact ⟨v, e, kp _ _ r⟩
    | own q ds =>
      obtain ⟨e, m, zs, hq, r⟩ := h2
      exact ⟨e, m, zs, by rw [upd_ne (fun z => nf (by rw [← z]; exact List.mem_singleton.mpr rfl))]; exact hq, kp.all r⟩
    | res R v P =>
      obtain ⟨e, m, p, sd⟩ := h2
      refine ⟨e, m, sd H _ p fun b o e hb => ?_, sd⟩
      rcases hb with hb | hb
      · rw [upd_ne (fun z => nf (by rw [← z]; exact hb))]
        exact e
      · exact tp b o e hb
  · by_cases z : a = Dl
    · subst z
      exact ⟨_, upd_same, fun z => z⟩
    · obtain ⟨o, e, n⟩ := k.dom a m
      exact ⟨o, by rw [upd_ne z]; exact e, n⟩
  · have n : b ∉ B.M := n
    have e : B.H b = some o := e
    rw [upd_ne (fun z => by
      subst z
      rcases hH with q | q
      · rw [e] at q; cases q
      · exact n q)]
    exact k.out b o e n
  · rcases m with m | ⟨rfl, rfl⟩
    · obtain ⟨h1, h2, h3⟩ := k.held a o (.inl m)
      exact ⟨h1, by rw [upd_ne (hB a o m)]; exact h2, h3⟩
    · exact ⟨hS, upd_same, hf⟩
/-- a new object stands apart from now on -/
theorem Ok.apart {B : Bs} {S : List Addr} {ρ : Rho} {σ : St} {H : Hp} {Dl : Addr} {xs : List V} (k : Ok B ⟨S, ρ⟩ σ H) (hn : H Dl = none) :
    Ok { B with held := fun a o => B.held a o ∨ (a = Dl ∧ o = .lst xs) } ⟨Dl :: S, ρ⟩ σ (upd H Dl (.lst xs)) ∧ Kp S H (Dl :: S) (upd H Dl (.lst xs)) := by
  have s := same_upd (o := .lst xs) hn
  have kp : Kp S H (Dl :: S) (upd H Dl (.lst xs)) := fun x c r => r.keep (Pres.of_same s) fun a o e m => by
    rcases List.mem_cons.mp m with z | z
    · rw [z, hn] at e; cases e
    · exact z
  have nS : Dl ∉ S := k.fresh hn
  have fS : ∀ (i : Nat) (e : EV), ρ[i]? = some (some e) → ∀ a ∈ e.foot, a ∈ S := fun i e h a m => by
    obtain ⟨o, _, h2⟩ := k.env i e h
    cases e with
    | dat d => cases m
    | own q ds => rw [List.mem_singleton.mp m]; exact h2.2.1
    | res R v P => exact h2.2.1 a m
  refine ⟨⟨k.len, fun i ev e => ?_, k.sep, k.mine, fun a m => ?_, fun b o e n => s _ _ (k.out b o e n), fun a m => List.mem_cons_of_mem _ (k.sub a m), fun b o e n => s _ _ (k.tups b o e n), k.bsd, fun x c m => kp _ _ (k.kept x c m), fun a o m => ?_, fun a m => List.mem_cons_of_mem _ (k.msub a m), k.ownM⟩, kp⟩
  · obtain ⟨o, h1, h2⟩ := k.env i ev e
    refine ⟨o, h1, ?_⟩
    cases ev with
    | dat d => obtain ⟨v, e, r⟩ := h2; exact ⟨v, e, kp _ _ r⟩
    | own q ds => obtain ⟨e, m, zs, hq, r⟩ := h2; exact ⟨e, List.mem_cons_of_mem _ m, zs, s _ _ hq, kp.all r⟩
    | res R v P => obtain ⟨e, m, p, sd⟩ := h2; exact ⟨e, fun a z => List.mem_cons_of_mem _ (m a z), sd H _ p fun b o e _ => s b o e, sd⟩
  · rcases List.mem_cons.mp m with z | z
    · rw [z]; exact ⟨_, upd_same, fun z => z⟩
    · obtain ⟨o, e, n⟩ := k.dom a z
      exact ⟨o, s _ _ e, n⟩
  · rcases m with m | ⟨rfl, rfl⟩
    · obtain ⟨h1, h2, h3⟩ := k.held a o m
      exact ⟨List.mem_cons_of_mem _ h1, s _ _ h2, h3⟩
    · exact ⟨List.mem_cons_self .., upd_same, fun i e h m => nS (fS i e h _ m)⟩

/-- a comprehension's reading, whatever its parts' readings are -/
def wLc (X : Cx) (elt tg iter : Expr) (ifs : List Expr) (scope : Scope) : TE := fun σ H Q => ∃ (wi : TI) (g : TG) (tt : TT) (te : TE) (own : List (Str × Nat)), PI X tg iter wi ∧ BlkOk X.N X.env.scope scope own ∧
  (∀ (s : Shared) (H : Hp) (C : Addr) (cl : List (Str × Addr)) (fp : List Addr), PG (X.blk s H scope (compEnvC scope cl C X.env) fp) tg g) ∧ (∀ (s : Shared) (H : Hp) (C : Addr) (cl : List (Str × Addr)) (fp : List Addr), PTs (X.blk s H scope (compEnvC scope cl C X.env) fp) ifs tt) ∧
  (∀ (s : Shared) (H : Hp) (C : Addr) (cl : List (Str × Addr)) (fp : List Addr), PE (X.blk s H scope (compEnvC scope cl C X.env) fp) elt te) ∧ (∀ x, foldedSetIterable iter X.env x = pure x) ∧ tLc wi g tt te (own.map (·.2)) σ H Q
def JLc (G : Ctx) (elt tg iter : Expr) (ifs : List Expr) (scope : Scope) (Z : State) (d : D) (Z' : State) : Prop :=
  ∀ (X : Cx), Fits G X → ∀ (B : Bs) (σ : St) (H : Hp), Ok B Z σ H → ∀ Q : VK, (∀ v H', Ok B Z' σ H' → Kp Z.S H Z'.S H' → Rp Z'.S H' v d → Q v H') → wLc X elt tg iter ifs scope σ H Q
theorem JLc.je {ifs : List Expr} {scope : Scope} (h : JLc G elt tg iter ifs scope Z d Z1) : JE G (.ListComp elt [⟨tg, iter, ifs, 0⟩] scope pos) Z d Z1 := fun X f B σ H k Q q => by
  obtain ⟨wi, g, tt, te, own, h1, h2, h3, h4, h5, h6, h7⟩ := h X f B σ H k Q q
  exact ⟨_, pe_lc f.calm (by rw [f.N]; exact f.nd) h1 h2 h3 h4 h5 h6, h7⟩
/-- name = [..] on one line, the name a plain local -/
theorem js_setLc (i : Nat) {y : Str} {py spos : Pos} {ifs : List Expr} {scope : Scope} (h : JLc G elt tg iter ifs scope Z d Z1) (hp : P (.nx (Z1.put i d))) (hn : (decide (G.N[i]? = some y) && locL G.sc y) = true := by kernel_rfl)
    (hsw : ∀ env : Env, env.scope = G.sc → swapsWith (.ListComp elt [⟨tg, iter, ifs, 0⟩] scope pos) (some (.Name y py)) spos.line env = pure true := by intro env he; exact sw_true (by rw [he]; rfl) (by rw [he]; kernel_rfl) rfl (by decide +kernel)) :
    JS G (.Assign [.Name y py] (.ListComp elt [⟨tg, iter, ifs, 0⟩] scope pos) spos) Z P := by
  intro X f B σ H k W E tk en
  simp only [Bool.and_eq_true, decide_eq_true_eq] at hn
  obtain ⟨wi, g, tt, te, own, h1, h2, h3, h4, h5, h6, h7⟩ := h X f B σ H k (fun v H1 => E.nx (σ.set i (some v)) H1) fun v H1 k1 p1 r1 => en.nx _ _ H1 hp (k1.set i r1)
  exact ⟨_, ps_setLc (i := i) f.calm (by rw [f.N]; exact f.nd) (by rw [f.N]; exact hn.1) (by rw [f.sc]; exact locL_of hn.2) (hsw _ f.sc) h1 h2 h3 h4 h5 h6, h7⟩
/-- [elt for tg in iter if ..], item by item; what is at the slots besides may change by elt (ρf) -/
theorem jlcI {ifs : List Expr} {scope : Scope} {own : List (Str × Nat)} {S : List Addr} (ρf : Nat → Rho) (tf : Nat → Bool) (ef : Nat → D) (hi : JI G tg iter Z ds ⟨S, ρf 0⟩) (hz : ds.length ≤ 100000)
    (ok : blkC G.N G.sc scope own = true)
    (hdat : ∀ i (j : Nat) d, (ρf i)[j]? = some (some (.dat d)) → (ρf 0)[j]? = some (some (.dat d))) (hlen : ∀ i, (ρf i).length = (ρf 0).length) (hvs : ∀ i, ∀ j ∈ own.map (·.2), ∀ e, (ρf i)[j]? = some (some e) → ∃ d, e = .dat d)
    (turn : ∀ (T : List Addr) (i : Nat) (d : D), ds[i]? = some d → ∃ ρ1, JGw (G.blk scope) tg tv d ⟨T, wipeR (ρf i) (own.map (·.2))⟩ ⟨T, ρ1⟩ ∧ JTs (G.blk scope) ifs ⟨T, ρ1⟩ (tf i) ⟨T, ρ1⟩ ∧
      (tf i = false → wipeR ρ1 (own.map (·.2)) = wipeR (ρf (i + 1)) (own.map (·.2))) ∧
      (tf i = true → ∃ ρ2, JE (G.blk scope) elt ⟨T, ρ1⟩ (ef i) ⟨T, ρ2⟩ ∧ wipeR ρ2 (own.map (·.2)) = wipeR (ρf (i + 1)) (own.map (·.2))))
    (htv : ∀ i ∈ tv, i ∈ own.map (·.2)) (hs : ∀ env x, foldedSetIterable iter env x = pure x := by intro _ _; rfl) :
    JLc G elt tg iter ifs scope Z (.lst (((List.range ds.length).filter tf).map ef)) ⟨S, ρf ds.length⟩ := by
  intro X f B σ H k Q q
  refine ⟨wI X tg iter, gU (G.blk scope) tg, tU (G.blk scope) ifs, eU (G.blk scope) elt, own, p_I, (by rw [f.N, f.sc]; exact blkOk_by ok),
      (fun s H C cl fp => ⟨fun pins s' σ H v u Q I r h => p_G.run pins s' σ H v u Q I r (h _ (f.blk scope s _ C cl fp))⟩),
      (fun s H C cl fp => ⟨fun pins s' σ H Q I h => p_Ts.run pins s' σ H Q I (h _ (f.blk scope s _ C cl fp))⟩),
      (fun s H C cl fp => ⟨fun pins s' σ H Q I h => p_E.run pins s' σ H Q I (h _ (f.blk scope s _ C cl fp))⟩), hs _, ?_⟩
  refine hi X f B σ H k _ fun J H1 kf k1 p1 kp gs Dl hD => ?_
  have hBH : (B.all S H1).H Dl = none ∨ Dl ∈ (B.all S H1).M := by
    by_cases m : Dl ∈ B.M
    · exact .inr m
    · refine .inl ?_
      cases e : B.H Dl with
      | none => rfl
      | some o => rw [k1.out Dl o e m] at hD; cases hD
  have hheld : ∀ a o, (B.all S H1).held a o → a ≠ Dl := fun a o m z => by
    obtain ⟨_, h2, _⟩ := k1.held a o m
    rw [z, hD] at h2
    cases h2
  obtain ⟨k2, kp2⟩ := k1.all.apart (xs := []) hD
  let res : Nat → List D := fun i => ((List.range i).filter tf).map ef
  have reslen : ∀ i, (res i).length ≤ i := fun i => by
    have := List.length_filter_le tf (List.range i)
    simpa [res] using this
  refine lc_it gs.walk (g := gU (G.blk scope) tg) (tt := tU (G.blk scope) ifs) (te := eU (G.blk scope) elt) (Qd := fun H => Q (.ref Dl) H) (σ := σ) (vs := own.map (·.2)) (fun i H => ∃ acc : List V, Ok { (B.all S H1) with held := fun a o => (B.all S H1).held a o ∨ (a = Dl ∧ o = .lst acc) } ⟨Dl :: S, wipeR (ρf i) (own.map (·.2))⟩ (wipe σ (own.map (·.2))) H ∧ RpA (Dl :: S) H acc (res i) ∧ (∀ (j : Nat) (e : EV), (ρf i)[j]? = some (some e) → (ρf i)[j]? = some (some e))) ⟨[], k2.wipe _, RpA.nil, fun _ _ h => h⟩ (fun i H _ h => ?_) (fun i x H H' hi h y => ?_) fun H h => ?_
  · obtain ⟨acc, ki, _, _⟩ := h
    exact ⟨Dl :: S, ki.dom, fun p m => ki.kept _ _ (.inr (kp p m))⟩
  · obtain ⟨acc, ki, ra, _⟩ := h
    have ed : ds[i]? = some ds[i] := List.getElem?_eq_getElem hi
    obtain ⟨sm, rx⟩ := y (Dl :: S) ds[i] ki.dom (fun p m => ki.kept _ _ (.inr (kp p m))) ed
    obtain ⟨ρ1, hg, ht, hF, hT⟩ := turn (Dl :: S) i ds[i] ed
    intro X' f'
    refine hg X' f' _ _ H' x (ki.same sm) rx _ fun σ2 k2 p2 w2 => ⟨(w2 _ htv).trans (by
      apply List.ext_getElem?
      intro j
      by_cases hj : j ∈ own.map (·.2)
      · rw [wipe_mem hj, wipe_mem hj, wipe_length]
      · rw [wipe_out hj]), fun X2 f2 => ht X2 f2 _ σ2 H' k2 _ fun H3 k3 p3 => ?_⟩
    have wσ : wipe σ2 (own.map (·.2)) = wipe σ (own.map (·.2)) := (w2 _ htv).trans (by
      apply List.ext_getElem?
      intro j
      by_cases hj : j ∈ own.map (·.2)
      · rw [wipe_mem hj, wipe_mem hj, wipe_length]
      · rw [wipe_out hj])
    have ra3 : RpA (Dl :: S) H3 acc (res i) := p3.all (p2.all ((Kp.same sm).all ra))
    cases hb : tf i with
    | false =>
      refine (if_neg Bool.false_ne_true).mpr ⟨acc, ?_, ?_, fun _ _ h => h⟩
      · have := k3.wipe (own.map (·.2))
        rw [hF hb, wσ] at this
        exact this
      · show RpA _ _ acc (((List.range (i + 1)).filter tf).map ef)
        rw [List.range_succ, List.filter_append, List.map_append, List.filter_cons, if_neg (by rw [hb]; decide)]
        simpa using ra3
    | true =>
      refine (if_pos rfl).mpr fun X3 f3 => ?_
      obtain ⟨ρ2, he, hw⟩ := hT hb
      refine he X3 f3 _ σ2 H3 k3 _ fun y H4 k4 p4 r4 => ?_
      obtain ⟨_, hl4, _⟩ := k4.held Dl _ (.inr ⟨rfl, rfl⟩)
      obtain ⟨k5, p5⟩ := k4.turn (ys := acc ++ [y]) hheld hBH
      refine ⟨acc, hl4, ?_, acc ++ [y], ?_, ?_, fun _ _ h => h⟩
      · have := ra.1
        have := reslen i
        exact Nat.lt_of_lt_of_le (show acc.length < 100001 by omega) (by decide)
      · have := k5.wipe (own.map (·.2))
        rw [hw, wσ] at this
        exact this
      · show RpA _ _ (acc ++ [y]) (((List.range (i + 1)).filter tf).map ef)
        rw [List.range_succ, List.filter_append, List.map_append, List.filter_cons, if_pos hb]
        exact RpA.append (p5.all (p4.all ra3)) (RpA.cons (p5 _ _ r4) RpA.nil)
  · obtain ⟨acc, ki, ra, _⟩ := h
    obtain ⟨hS, hl, hf⟩ := ki.held Dl _ (.inr ⟨rfl, rfl⟩)
    have nS : Dl ∉ S := k1.fresh hD
    have dn : ∀ x c, Rp (Dl :: S) H x c → Rp S H x c := fun x c r => r.keep Pres.refl fun a o _ m => List.mem_cons_of_mem _ m
    have kpE : Kp Z.S _ S H := fun x c r => dn x c (ki.kept x c (.inr (p1 x c r)))
    refine q (.ref Dl) H ⟨?_, fun j ev e => ?_, fun j l e f h1 h2 a m1 m2 => ?_, fun j e h a m => ?_, fun a m => ki.dom a (List.mem_cons_of_mem _ m), ki.out, k1.sub, ki.tups, k1.bsd, fun x c m => dn x c (ki.kept x c (.inl m)), fun a o m => ?_, k1.msub, fun j q2 ds2 e => ?_⟩ kpE (rp_lst nS hl ⟨ra.1, fun i x d e1 e2 => dn _ _ (ra.2 i x d e1 e2)⟩)
    · show (ρf ds.length).length = _
      rw [hlen]
      exact k1.len
    · cases ev with
      | dat d =>
        obtain ⟨o, h1, v, rfl, r⟩ := k1.env j _ (hdat _ j d e)
        exact ⟨_, h1, v, rfl, dn _ _ (ki.kept _ _ (.inr r))⟩
      | own q2 ds2 =>
        have hj : j ∉ own.map (·.2) := fun m => by
          obtain ⟨d, z⟩ := hvs _ j m _ e
          cases z
        have e' : (wipeR (ρf ds.length) (own.map (·.2)))[j]? = some (some (.own q2 ds2)) := by rw [wipeR_out hj]; exact e
        obtain ⟨o, h1, h2, h3, xs, h4, h5⟩ := ki.env j _ e'
        rw [wipe_out hj] at h1
        have hm : q2 ∈ Dl :: S := h3
        have n2 : q2 ≠ Dl := fun z => hf j _ e' (by rw [← z]; exact List.mem_singleton.mpr rfl)
        exact ⟨o, h1, h2, (List.mem_cons.mp hm).resolve_left n2, xs, h4, ⟨h5.1, fun i x d e1 e2 => dn _ _ (h5.2 i x d e1 e2)⟩⟩
      | res R v Pp =>
        have hj : j ∉ own.map (·.2) := fun m => by
          obtain ⟨d, z⟩ := hvs _ j m _ e
          cases z
        have e' : (wipeR (ρf ds.length) (own.map (·.2)))[j]? = some (some (.res R v Pp)) := by rw [wipeR_out hj]; exact e
        obtain ⟨o, h1, h2, h3, h4, h5⟩ := ki.env j _ e'
        rw [wipe_out hj] at h1
        refine ⟨o, h1, h2, fun a m => ?_, h4, h5⟩
        have n2 : a ≠ Dl := fun z => hf j _ e' (by rw [← z]; exact m)
        exact (List.mem_cons.mp (h3 a m)).resolve_left n2
    · have g : ∀ (j : Nat) (e : EV), (ρf ds.length)[j]? = some (some e) → a ∈ e.foot → (wipeR (ρf ds.length) (own.map (·.2)))[j]? = some (some e) := fun j e h m => by
        have hj : j ∉ own.map (·.2) := fun m' => by
          obtain ⟨d, z⟩ := hvs _ j m' _ h
          subst z
          cases m
        rw [wipeR_out hj]
        exact h
      exact ki.sep j l e f (g j e h1 m1) (g l f h2 m2) a m1 m2
    · have hj : j ∉ own.map (·.2) := fun m' => by
        obtain ⟨d, z⟩ := hvs _ j m' _ h
        subst z
        cases m
      exact ki.mine j e (by show (wipeR _ _)[j]? = _; rw [wipeR_out hj]; exact h) a m
    · obtain ⟨h1, h2, h3⟩ := ki.held a o (.inl m)
      refine ⟨(List.mem_cons.mp h1).resolve_left (hheld a o m), h2, fun j e h m2 => ?_⟩
      have hj : j ∉ own.map (·.2) := fun m' => by
        obtain ⟨d, z⟩ := hvs _ j m' _ h
        subst z
        cases m2
      exact h3 j e (by show (wipeR _ _)[j]? = _; rw [wipeR_out hj]; exact h) m2
    · have hj : j ∉ own.map (·.2) := fun m' => by
        obtain ⟨d, z⟩ := hvs _ j m' _ e
        cases z
      exact ki.ownM j q2 ds2 (by show (wipeR _ _)[j]? = _; rw [wipeR_out hj]; exact e)
end
end JL

namespace JL
open PySem PySem.Spec L2
/-! ### built-ins -/
/-- the built-in names are not bound by the module -/
structure Bi (g : Glob) : Prop where
  isinstance_ : g.mg "isinstance" = none
  len_ : g.mg "len" = none
  all_ : g.mg "all" = none
  any_ : g.mg "any" = none
  sum_ : g.mg "sum" = none
  abs_ : g.mg "abs" = none
  max_ : g.mg "max" = none
  min_ : g.mg "min" = none
  tuple_ : g.mg "tuple" = none
  list_ : g.mg "list" = none
  int_ : g.mg "int" = none
  str_ : g.mg "str" = none
  range_ : g.mg "range" = none
  enumerate_ : g.mg "enumerate" = none
  zip_ : g.mg "zip" = none
  bool_ : g.mg "bool" = none
  sorted_ : g.mg "sorted" = none
  dict_ : g.mg "dict" = none
  ValueError_ : g.mg "ValueError" = none
  set_ : g.mg "set" = none
section
variable {G : Ctx} {Z Z1 Z2 Z3 : State} {a b c e : Expr} {es : List Expr} {ds : List D} {pos p : Pos} {d d1 d2 : D} {x : Str}
/-- a built-in by its name -/
theorem je_callB {id : String} {r : Cx → List V → Hp → VK → Prop} (hc : ∀ X, Fits G X → CallR X (.builtin id) (r X)) (hm : G.g.mg x = none) (hv : bootBuiltins x = some (.builtin id)) (hg : glB G.sc x = true) (ha : JA G (e :: es) Z ds Z1)
    (hr : ∀ X, Fits G X → ∀ B σ H vs (Q : VK), Ok B Z1 σ H → RpA Z1.S H vs ds → (∀ v H', Same H H' → Rp Z1.S H' v d → Q v H') → r X vs H Q)
    (he : ∀ env, starEach (e :: es) env = (false, eval e env) :: starEach es env := by intro _; rfl) (hpl : ∀ env, (backTo pos (starEach es env)).any (·.1) = false := by intro _; rfl) : JE G (.Call (.Name x p) (e :: es) [] pos) Z d Z1 := by
  intro X f B σ H k Q q
  obtain ⟨h1, h2, h3⟩ := gl_of f hg
  exact ⟨_, pe_callB (hc X f) h1 (by rw [f.mg]; exact hm) hv p_A h3 h2 (he _) (hpl _), ha X f B σ H k _ fun vs H1 k1 p1 r1 => hr X f B σ H1 vs Q k1 r1 fun v H2 s r2 => q v H2 (k1.same s) (p1.trans (Kp.same s)) r2⟩
theorem je_callTy {T : String} {r : Cx → List V → Hp → VK → Prop} (hc : ∀ X, Fits G X → CallR X (.type T) (r X)) (hm : G.g.mg x = none) (hv : bootBuiltins x = some (.type T)) (hg : glB G.sc x = true) (ha : JA G (e :: es) Z ds Z1)
    (hr : ∀ X, Fits G X → ∀ B σ H vs (Q : VK), Ok B Z1 σ H → RpA Z1.S H vs ds → (∀ v H', Same H H' → Rp Z1.S H' v d → Q v H') → r X vs H Q)
    (he : ∀ env, starEach (e :: es) env = (false, eval e env) :: starEach es env := by intro _; rfl) (hpl : ∀ env, (backTo pos (starEach es env)).any (·.1) = false := by intro _; rfl) : JE G (.Call (.Name x p) (e :: es) [] pos) Z d Z1 := by
  intro X f B σ H k Q q
  obtain ⟨h1, h2, h3⟩ := gl_of f hg
  exact ⟨_, pe_callTy (hc X f) h1 (by rw [f.mg]; exact hm) hv p_A h3 h2 (he _) (hpl _), ha X f B σ H k _ fun vs H1 k1 p1 r1 => hr X f B σ H1 vs Q k1 r1 fun v H2 s r2 => q v H2 (k1.same s) (p1.trans (Kp.same s)) r2⟩
theorem one_of {S : List Addr} {H : Hp} {vs : List V} (r : RpA S H vs [d]) : ∃ v, vs = [v] ∧ Rp S H v d := by
  have := r.1
  match vs, this with
  | [v], _ => exact ⟨v, rfl, r.head⟩
theorem two_of {S : List Addr} {H : Hp} {vs : List V} (r : RpA S H vs [d1, d2]) : ∃ v w, vs = [v, w] ∧ Rp S H v d1 ∧ Rp S H w d2 := by
  have := r.1
  match vs, this with
  | [v, w], _ => exact ⟨v, w, rfl, r.head, r.tail.head⟩
/-! types -/
def tyS : D → String
  | .non => "NoneType"
  | .bl _ => "bool"
  | .int _ => "int"
  | .str _ => "str"
  | .tup _ => "tuple"
  | .lst _ => "list"
  | .emp => "dict"
  | .ref _ => ""
  | .ty _ => ""
def known : D → Bool
  | .ref _ => false
  | .ty _ => false
  | _ => true
theorem tyx_of {K : PySem.W.Frag} {S : List Addr} {H : Hp} {v : V} (hk : known d = true) (r : Rp S H v d) : TyX K H v (.type (tyS d)) := by
  cases r with
  | non => exact .base .non
  | bl b => exact .base (.bl b)
  | int i => exact .base (.int i)
  | str x => exact .base (.str x)
  | ty n => cases hk
  | ref a => cases hk
  | tup _ e _ _ => exact .base (.tup e)
  | lst _ e _ _ => exact .base (.lst e)
  | emp _ e => exact .base (.dK e)
theorem je_isi {T : String} {t : Bool} (B : Bi G.g) (ha : JA G [a, b] Z [d, .ty T] Z1) (hk : known d = true) (ht : kitB (tyS d) T = some t)
    (hg : glB G.sc "isinstance" = true := by kernel_rfl) (he : ∀ env, starEach [a, b] env = (false, eval a env) :: starEach [b] env := by intro _; rfl) (hpl : ∀ env, (backTo pos (starEach [b] env)).any (·.1) = false := by intro _; rfl) : JE G (.Call (.Name "isinstance" p) [a, b] [] pos) Z (.bl t) Z1 :=
  je_callB (r := fun X => rIsi X.K) (fun X _ => call_isi) B.isinstance_ (by decide +kernel) hg ha (fun X f B2 σ H vs Q k r q => by
    obtain ⟨v, w, rfl, r1, r2⟩ := two_of r
    cases r2.inv_ty
    exact ⟨v, .ty T, .type (tyS d), .type T, t, rfl, .ty T, tyx_of hk r1, kit_ty ht, q _ H (Same.refl H) (.bl t)⟩) he hpl
/-! lengths, all, any, sum .. -/
theorem lenD {g : D → Prop} : True := trivial
theorem je_lenT (B : Bi G.g) (ha : JA G [a] Z [.tup ds] Z1) (hg : glB G.sc "len" = true := by kernel_rfl) (he : ∀ env, starEach [a] env = (false, eval a env) :: starEach [] env := by intro _; rfl) (hpl : ∀ env, (backTo pos (starEach [] env)).any (·.1) = false := by intro _; rfl) : JE G (.Call (.Name "len" p) [a] [] pos) Z (.int ds.length) Z1 :=
  je_callB (r := fun X xs H Q => ∃ p ys, xs = [.ref p] ∧ (SqL X.K H p ys ∨ SqT X.K H p ys) ∧ Q (.int ys.length) H) (fun X _ => call_len_seq) B.len_ PySem.boot_len hg ha (fun X f B2 σ H vs Q k r q => by
    obtain ⟨v, rfl, rr⟩ := one_of r
    obtain ⟨a, xs, rfl, na, e, ra⟩ := rr.inv_tup
    refine ⟨a, xs, rfl, .inr (.of e), q _ H (Same.refl H) ?_⟩
    rw [ra.1]
    exact .int _) he hpl
theorem je_lenL (B : Bi G.g) (ha : JA G [a] Z [.lst ds] Z1) (hg : glB G.sc "len" = true := by kernel_rfl) (he : ∀ env, starEach [a] env = (false, eval a env) :: starEach [] env := by intro _; rfl) (hpl : ∀ env, (backTo pos (starEach [] env)).any (·.1) = false := by intro _; rfl) : JE G (.Call (.Name "len" p) [a] [] pos) Z (.int ds.length) Z1 :=
  je_callB (r := fun X xs H Q => ∃ p ys, xs = [.ref p] ∧ (SqL X.K H p ys ∨ SqT X.K H p ys) ∧ Q (.int ys.length) H) (fun X _ => call_len_seq) B.len_ PySem.boot_len hg ha (fun X f B2 σ H vs Q k r q => by
    obtain ⟨v, rfl, rr⟩ := one_of r
    obtain ⟨a, xs, rfl, na, e, ra⟩ := rr.inv_lst
    refine ⟨a, xs, rfl, .inl (.of e), q _ H (Same.refl H) ?_⟩
    rw [ra.1]
    exact .int _) he hpl
theorem je_lenS {z : Str} (B : Bi G.g) (ha : JA G [a] Z [.str z] Z1) (hz : z.length ≤ 100000) (hg : glB G.sc "len" = true := by kernel_rfl) (he : ∀ env, starEach [a] env = (false, eval a env) :: starEach [] env := by intro _; rfl) (hpl : ∀ env, (backTo pos (starEach [] env)).any (·.1) = false := by intro _; rfl) : JE G (.Call (.Name "len" p) [a] [] pos) Z (.int z.length) Z1 :=
  je_callB (r := fun X xs H Q => ∃ z, xs = [.str z] ∧ z.length ≤ sizeLine ∧ Q (.int z.length) H) (fun X _ => call_len_str) B.len_ PySem.boot_len hg ha (fun X f B2 σ H vs Q k r q => by
    obtain ⟨v, rfl, rr⟩ := one_of r
    cases rr.inv_str
    exact ⟨z, rfl, sz5 hz, q _ H (Same.refl H) (.int _)⟩) he hpl
theorem rpa_map {α : Type} {S : List Addr} {H : Hp} {f : α → D} {g : α → V} (h : ∀ x v, Rp S H v (f x) → v = g x) : ∀ {l : List α} {vs : List V}, RpA S H vs (l.map f) → vs = l.map g
  | [], [], _ => rfl
  | x :: l, v :: vs, r => by
    have e1 := h x v r.head
    have e2 := rpa_map h r.tail
    rw [e1, e2]
    rfl
  | [], _ :: _, r => by have := r.1; simp at this
  | _ :: _, [], r => by have := r.1; simp at this
theorem je_all {bs : List Bool} (B : Bi G.g) (ha : JA G [a] Z [.lst (bs.map D.bl)] Z1) (hg : glB G.sc "all" = true := by kernel_rfl) (he : ∀ env, starEach [a] env = (false, eval a env) :: starEach [] env := by intro _; rfl) (hpl : ∀ env, (backTo pos (starEach [] env)).any (·.1) = false := by intro _; rfl) : JE G (.Call (.Name "all" p) [a] [] pos) Z (.bl (bs.all id)) Z1 :=
  je_callB (r := fun X => rAll X.K) (fun X f => cr_all f.calm) B.all_ (by decide +kernel) hg ha (fun X f B2 σ H vs Q k r q => by
    obtain ⟨v, rfl, rr⟩ := one_of r
    obtain ⟨a, xs, rfl, na, e, ra⟩ := rr.inv_lst
    have ex : xs = bs.map V.bl := rpa_map (fun b v r => r.inv_bl) ra
    subst ex
    exact ⟨a, bs, rfl, .of e, q _ H (Same.refl H) (.bl _)⟩) he hpl
theorem je_any {bs : List Bool} (B : Bi G.g) (ha : JA G [a] Z [.lst (bs.map D.bl)] Z1) (hg : glB G.sc "any" = true := by kernel_rfl) (he : ∀ env, starEach [a] env = (false, eval a env) :: starEach [] env := by intro _; rfl) (hpl : ∀ env, (backTo pos (starEach [] env)).any (·.1) = false := by intro _; rfl) : JE G (.Call (.Name "any" p) [a] [] pos) Z (.bl (bs.any id)) Z1 :=
  je_callB (r := fun X => rAny X.K) (fun X f => cr_any f.calm) B.any_ (by decide +kernel) hg ha (fun X f B2 σ H vs Q k r q => by
    obtain ⟨v, rfl, rr⟩ := one_of r
    obtain ⟨a, xs, rfl, na, e, ra⟩ := rr.inv_lst
    have ex : xs = bs.map V.bl := rpa_map (fun b v r => r.inv_bl) ra
    subst ex
    exact ⟨a, bs, rfl, .of e, q _ H (Same.refl H) (.bl _)⟩) he hpl
theorem je_sum {ns : List Int} (B : Bi G.g) (ha : JA G [a] Z [.lst (ns.map D.int)] Z1) (hg : glB G.sc "sum" = true := by kernel_rfl) (he : ∀ env, starEach [a] env = (false, eval a env) :: starEach [] env := by intro _; rfl) (hpl : ∀ env, (backTo pos (starEach [] env)).any (·.1) = false := by intro _; rfl) : JE G (.Call (.Name "sum" p) [a] [] pos) Z (.int ns.sum) Z1 :=
  je_callB (r := fun X => rSum X.K) (fun X f => cr_sum f.calm) B.sum_ (by decide +kernel) hg ha (fun X f B2 σ H vs Q k r q => by
    obtain ⟨v, rfl, rr⟩ := one_of r
    obtain ⟨a, xs, rfl, na, e, ra⟩ := rr.inv_lst
    have ex : xs = ns.map V.int := rpa_map (fun b v r => r.inv_int) ra
    subst ex
    exact ⟨a, ns, rfl, .of e, q _ H (Same.refl H) (.int _)⟩) he hpl
theorem je_abs {i : Int} (B : Bi G.g) (ha : JA G [a] Z [.int i] Z1) (hg : glB G.sc "abs" = true := by kernel_rfl) (he : ∀ env, starEach [a] env = (false, eval a env) :: starEach [] env := by intro _; rfl) (hpl : ∀ env, (backTo pos (starEach [] env)).any (·.1) = false := by intro _; rfl) : JE G (.Call (.Name "abs" p) [a] [] pos) Z (.int (if i < 0 then -i else i)) Z1 :=
  je_callB (r := fun X xs H Q => ∃ i, xs = [.int i] ∧ Q (.int (if i < 0 then -i else i)) H) (fun X f => call_abs) B.abs_ (by decide +kernel) hg ha (fun X f B2 σ H vs Q k r q => by
    obtain ⟨v, rfl, rr⟩ := one_of r
    cases rr.inv_int
    exact ⟨i, rfl, q _ H (Same.refl H) (.int _)⟩) he hpl
theorem je_max2 {i j : Int} (B : Bi G.g) (ha : JA G [a, b] Z [.int i, .int j] Z1) (hg : glB G.sc "max" = true := by kernel_rfl) (he : ∀ env, starEach [a, b] env = (false, eval a env) :: starEach [b] env := by intro _; rfl) (hpl : ∀ env, (backTo pos (starEach [b] env)).any (·.1) = false := by intro _; rfl) : JE G (.Call (.Name "max" p) [a, b] [] pos) Z (.int (if j > i then j else i)) Z1 :=
  je_callB (r := fun X xs H Q => ∃ i j, xs = [.int i, .int j] ∧ Q (.int (if j > i then j else i)) H) (fun X f => call_max2 f.calm) B.max_ (by decide +kernel) hg ha (fun X f B2 σ H vs Q k r q => by
    obtain ⟨v, w, rfl, r1, r2⟩ := two_of r
    cases r1.inv_int
    cases r2.inv_int
    exact ⟨i, j, rfl, q _ H (Same.refl H) (.int _)⟩) he hpl
theorem je_min2 {i j : Int} (B : Bi G.g) (ha : JA G [a, b] Z [.int i, .int j] Z1) (hg : glB G.sc "min" = true := by kernel_rfl) (he : ∀ env, starEach [a, b] env = (false, eval a env) :: starEach [b] env := by intro _; rfl) (hpl : ∀ env, (backTo pos (starEach [b] env)).any (·.1) = false := by intro _; rfl) : JE G (.Call (.Name "min" p) [a, b] [] pos) Z (.int (if j < i then j else i)) Z1 :=
  je_callB (r := fun X xs H Q => ∃ i j, xs = [.int i, .int j] ∧ Q (.int (if j < i then j else i)) H) (fun X f => call_min2 f.calm) B.min_ (by decide +kernel) hg ha (fun X f B2 σ H vs Q k r q => by
    obtain ⟨v, w, rfl, r1, r2⟩ := two_of r
    cases r1.inv_int
    cases r2.inv_int
    exact ⟨i, j, rfl, q _ H (Same.refl H) (.int _)⟩) he hpl
theorem je_tupleL (B : Bi G.g) (ha : JA G [a] Z [.lst ds] Z1) (hg : glB G.sc "tuple" = true := by kernel_rfl) (he : ∀ env, starEach [a] env = (false, eval a env) :: starEach [] env := by intro _; rfl) (hpl : ∀ env, (backTo pos (starEach [] env)).any (·.1) = false := by intro _; rfl) : JE G (.Call (.Name "tuple" p) [a] [] pos) Z (.tup ds) Z1 :=
  je_callTy (r := fun X xs H Q => ∃ p ys, xs = [.ref p] ∧ ((SqL X.K H p ys ∧ ∀ l, H l = none → Q (.ref l) (upd H l (.tup ys))) ∨ (SqT X.K H p ys ∧ Q (.ref p) H))) (fun X _ => call_tuple_of) B.tuple_ (by decide +kernel) hg ha (fun X f B2 σ H vs Q k r q => by
    obtain ⟨v, rfl, rr⟩ := one_of r
    obtain ⟨a, xs, rfl, na, e, ra⟩ := rr.inv_lst
    refine ⟨a, xs, rfl, .inl ⟨.of e, fun l nl => ?_⟩⟩
    have s := same_upd (o := .tup xs) nl
    exact q _ _ s (rp_tup (k.fresh nl) upd_same ((Kp.same s).all ra))) he hpl
theorem je_listT (B : Bi G.g) (ha : JA G [a] Z [.tup ds] Z1) (hg : glB G.sc "list" = true := by kernel_rfl) (he : ∀ env, starEach [a] env = (false, eval a env) :: starEach [] env := by intro _; rfl) (hpl : ∀ env, (backTo pos (starEach [] env)).any (·.1) = false := by intro _; rfl) : JE G (.Call (.Name "list" p) [a] [] pos) Z (.lst ds) Z1 :=
  je_callTy (r := fun X xs H Q => ∃ p ys, xs = [.ref p] ∧ (SqL X.K H p ys ∨ SqT X.K H p ys) ∧ ∀ l, H l = none → Q (.ref l) (upd H l (.lst ys))) (fun X _ => call_list_of) B.list_ (by decide +kernel) hg ha (fun X f B2 σ H vs Q k r q => by
    obtain ⟨v, rfl, rr⟩ := one_of r
    obtain ⟨a, xs, rfl, na, e, ra⟩ := rr.inv_tup
    refine ⟨a, xs, rfl, .inr (.of e), fun l nl => ?_⟩
    have s := same_upd (o := .lst xs) nl
    exact q _ _ s (rp_lst (k.fresh nl) upd_same ((Kp.same s).all ra))) he hpl
theorem je_listL (B : Bi G.g) (ha : JA G [a] Z [.lst ds] Z1) (hg : glB G.sc "list" = true := by kernel_rfl) (he : ∀ env, starEach [a] env = (false, eval a env) :: starEach [] env := by intro _; rfl) (hpl : ∀ env, (backTo pos (starEach [] env)).any (·.1) = false := by intro _; rfl) : JE G (.Call (.Name "list" p) [a] [] pos) Z (.lst ds) Z1 :=
  je_callTy (r := fun X xs H Q => ∃ p ys, xs = [.ref p] ∧ (SqL X.K H p ys ∨ SqT X.K H p ys) ∧ ∀ l, H l = none → Q (.ref l) (upd H l (.lst ys))) (fun X _ => call_list_of) B.list_ (by decide +kernel) hg ha (fun X f B2 σ H vs Q k r q => by
    obtain ⟨v, rfl, rr⟩ := one_of r
    obtain ⟨a, xs, rfl, na, e, ra⟩ := rr.inv_lst
    refine ⟨a, xs, rfl, .inl (.of e), fun l nl => ?_⟩
    have s := same_upd (o := .lst xs) nl
    exact q _ _ s (rp_lst (k.fresh nl) upd_same ((Kp.same s).all ra))) he hpl
theorem je_intB {t : Bool} (B : Bi G.g) (ha : JA G [a] Z [.bl t] Z1) (hg : glB G.sc "int" = true := by kernel_rfl) (he : ∀ env, starEach [a] env = (false, eval a env) :: starEach [] env := by intro _; rfl) (hpl : ∀ env, (backTo pos (starEach [] env)).any (·.1) = false := by intro _; rfl) : JE G (.Call (.Name "int" p) [a] [] pos) Z (.int (if t then 1 else 0)) Z1 :=
  je_callTy (r := fun X xs H Q => (∃ i, xs = [.int i] ∧ Q (.int i) H) ∨ ∃ k, xs = [.bl k] ∧ Q (.int (if k then 1 else 0)) H) (fun X _ => call_int1) B.int_ (by decide +kernel) hg ha (fun X f B2 σ H vs Q k r q => by
    obtain ⟨v, rfl, rr⟩ := one_of r
    cases rr.inv_bl
    exact .inr ⟨t, rfl, q _ H (Same.refl H) (.int _)⟩) he hpl
theorem je_intS {z : Str} {n : Int} (B : Bi G.g) (ha : JA G [a] Z [.str z] Z1) (hn : PySem.intText? z = some n) (hz : z.length ≤ 640) (hg : glB G.sc "int" = true := by kernel_rfl) (he : ∀ env, starEach [a] env = (false, eval a env) :: starEach [] env := by intro _; rfl) (hpl : ∀ env, (backTo pos (starEach [] env)).any (·.1) = false := by intro _; rfl) : JE G (.Call (.Name "int" p) [a] [] pos) Z (.int n) Z1 :=
  je_callTy (r := fun X xs H Q => ∃ a n, xs = [.str a] ∧ PySem.intText? a = some n ∧ a.length ≤ 640 ∧ Q (.int n) H) (fun X _ => call_int_str) B.int_ (by decide +kernel) hg ha (fun X f B2 σ H vs Q k r q => by
    obtain ⟨v, rfl, rr⟩ := one_of r
    cases rr.inv_str
    exact ⟨z, n, rfl, hn, hz, q _ H (Same.refl H) (.int _)⟩) he hpl
theorem je_strI {i : Int} (B : Bi G.g) (ha : JA G [a] Z [.int i] Z1) (hz : i.natAbs.log2 < 1920) (hg : glB G.sc "str" = true := by kernel_rfl) (he : ∀ env, starEach [a] env = (false, eval a env) :: starEach [] env := by intro _; rfl) (hpl : ∀ env, (backTo pos (starEach [] env)).any (·.1) = false := by intro _; rfl) : JE G (.Call (.Name "str" p) [a] [] pos) Z (.str (toString i)) Z1 :=
  je_callTy (r := fun X xs H Q => ∃ i : Int, xs = [.int i] ∧ i.natAbs.log2 < 1920 ∧ Q (.str (toString i)) H) (fun X _ => call_str_int) B.str_ (by decide +kernel) hg ha (fun X f B2 σ H vs Q k r q => by
    obtain ⟨v, rfl, rr⟩ := one_of r
    cases rr.inv_int
    exact ⟨i, rfl, hz, q _ H (Same.refl H) (.str _)⟩) he hpl
/-! subscripts, slices -/
theorem atI_rp {S : List Addr} {H : Hp} {xs : List V} {i : Int} (ra : RpA S H xs ds) (h : atI ds i = some d) : ∃ v, atI xs i = some v ∧ Rp S H v d := by
  unfold atI at h ⊢
  rw [ra.1]
  cases q : ixN ds.length i with
  | none => rw [q] at h; cases h
  | some j =>
    rw [q] at h
    exact ra.get h
theorem je_ixT {i : Int} (ha : JE G a Z (.tup ds) Z1) (hb : JE G b Z1 (.int i) Z2) (h : atI ds i = some d) (hs : PlainIx b := by intro _ _; rfl) : JE G (.Subscript a b pos) Z d Z2 := fun X f B σ H k Q q =>
  ⟨_, pe_ix ix_tup p_E p_E hs, ha X f B σ H k _ fun x H1 k1 p1 r1 => hb X f B σ H1 k1 _ fun y H2 k2 p2 r2 => by
    obtain ⟨a, xs, rfl, na, e, ra⟩ := (p2 _ _ r1).inv_tup
    obtain ⟨v, e1, rv⟩ := atI_rp ra h
    exact ⟨a, xs, i, v, rfl, r2.inv_int, .of e, e1, q v H2 k2 (p1.trans p2) rv⟩⟩
theorem je_ixL {i : Int} (ha : JE G a Z (.lst ds) Z1) (hb : JE G b Z1 (.int i) Z2) (h : atI ds i = some d) (hs : PlainIx b := by intro _ _; rfl) : JE G (.Subscript a b pos) Z d Z2 := fun X f B σ H k Q q =>
  ⟨_, pe_ix ix_list p_E p_E hs, ha X f B σ H k _ fun x H1 k1 p1 r1 => hb X f B σ H1 k1 _ fun y H2 k2 p2 r2 => by
    obtain ⟨a, xs, rfl, na, e, ra⟩ := (p2 _ _ r1).inv_lst
    obtain ⟨v, e1, rv⟩ := atI_rp ra h
    exact ⟨a, xs, i, v, rfl, r2.inv_int, .of e, e1, q v H2 k2 (p1.trans p2) rv⟩⟩
def oW (X : Cx) (e : Option Expr) : TO := fun σ H Q => ∃ t, PO X e t ∧ t σ H Q
theorem p_O {X : Cx} {e : Option Expr} : PO X e (oW X e) := ⟨fun pins s σ H Q I h => by obtain ⟨t, p, q⟩ := h; exact p.run pins s σ H Q I q⟩
def JO (G : Ctx) (e : Option Expr) (Z : State) (o : Option Int) : Prop :=
  ∀ (X : Cx), Fits G X → ∀ (B : Bs) (σ : St) (H : Hp), Ok B Z σ H → ∀ Q : Option Int → Hp → Prop, (∀ H', Ok B Z σ H' → Kp Z.S H Z.S H' → Q o H') → oW X e σ H Q
theorem jo_none : JO G none Z none := fun X f B σ H k Q q => ⟨_, po_none, q H k Kp.refl⟩
theorem jo_some {i : Int} (h : JE G e Z (.int i) Z) : JO G (some e) Z (some i) := fun X f B σ H k Q q => ⟨_, po_some p_E, h X f B σ H k _ fun x H1 k1 p1 r1 => ⟨i, r1.inv_int, q H1 k1 p1⟩⟩
def cutD (xs : List D) (lo hi : Option Int) : List D := (xs.drop (HT.sIx xs.length 0 lo)).take (HT.sIx xs.length xs.length hi - HT.sIx xs.length 0 lo)
theorem cut_rp {S : List Addr} {H : Hp} {xs : List V} (ra : RpA S H xs ds) (lo hi : Option Int) : RpA S H (cutV xs lo hi) (cutD ds lo hi) := by
  unfold cutV cutD
  rw [ra.1]
  exact (ra.drop _).take _
variable {lo hi : Option Expr} {l u : Option Int} {p2 : Pos}
theorem je_slL (ha : JE G a Z (.lst ds) Z1) (hl : JO G lo Z1 l) (hu : JO G hi Z1 u) : JE G (.Subscript a (.Slice lo hi none p2) pos) Z (.lst (cutD ds l u)) Z1 := fun X f B σ H k Q q =>
  ⟨_, pe_slice sl_list p_E p_O p_O, ha X f B σ H k _ fun x H1 k1 p1 r1 => hl X f B σ H1 k1 _ fun H2 k2 p2 => hu X f B σ H2 k2 _ fun H3 k3 p3 => by
    obtain ⟨a, xs, rfl, na, e, ra⟩ := (p3 _ _ (p2 _ _ r1)).inv_lst
    refine ⟨a, xs, rfl, .of e, fun n nn => ?_⟩
    have s := same_upd (o := .lst (cutV xs l u)) nn
    exact q _ _ (k3.same s) (((p1.trans p2).trans p3).trans (Kp.same s)) (rp_lst (k3.fresh nn) upd_same ((Kp.same s).all (cut_rp ra l u)))⟩
theorem je_slT (ha : JE G a Z (.tup ds) Z1) (hl : JO G lo Z1 l) (hu : JO G hi Z1 u) : JE G (.Subscript a (.Slice lo hi none p2) pos) Z (.tup (cutD ds l u)) Z1 := fun X f B σ H k Q q =>
  ⟨_, pe_slice sl_tupA p_E p_O p_O, ha X f B σ H k _ fun x H1 k1 p1 r1 => hl X f B σ H1 k1 _ fun H2 k2 p2 => hu X f B σ H2 k2 _ fun H3 k3 p3 => by
    obtain ⟨a, xs, rfl, na, e, ra⟩ := (p3 _ _ (p2 _ _ r1)).inv_tup
    refine ⟨a, xs, rfl, .of e, fun w => ?_, fun _ n nn => ?_⟩
    · have ec : cutD ds l u = ds := by
        unfold cutD
        rw [ra.1] at w
        rw [w.1, w.2]
        simp
      rw [ec] at q
      exact q _ H3 k3 ((p1.trans p2).trans p3) (rp_tup na e ra)
    · have s := same_upd (o := .tup (cutV xs l u)) nn
      exact q _ _ (k3.same s) (((p1.trans p2).trans p3).trans (Kp.same s)) (rp_tup (k3.fresh nn) upd_same ((Kp.same s).all (cut_rp ra l u)))⟩
theorem je_slS {z : Str} (ha : JE G a Z (.str z) Z1) (hl : JO G lo Z1 l) (hu : JO G hi Z1 u) (hz : z.length ≤ 100000) : JE G (.Subscript a (.Slice lo hi none p2) pos) Z (.str (cutS z l u)) Z1 := fun X f B σ H k Q q =>
  ⟨_, pe_slice sl_str p_E p_O p_O, ha X f B σ H k _ fun x H1 k1 p1 r1 => hl X f B σ H1 k1 _ fun H2 k2 p2 => hu X f B σ H2 k2 _ fun H3 k3 p3 => by
    cases r1.inv_str
    exact ⟨z, rfl, sz5 hz, q _ H3 k3 ((p1.trans p2).trans p3) (.str _)⟩⟩
/-! + of sequences -/
theorem je_catL {es : List D} (ha : JE G a Z (.lst ds) Z1) (hb : JE G b Z1 (.lst es) Z2) (hz : ds.length + es.length ≤ 100000) : JE G (.BinOp a .Add b pos) Z (.lst (ds ++ es)) Z2 :=
  je_bin (r := fun _ => rCat) (fun _ _ => op_cat) ha hb fun X f B σ H x y Q k r1 r2 q => by
    obtain ⟨a, xs, rfl, na, e1, ra⟩ := r1.inv_lst
    obtain ⟨b, ys, rfl, nb, e2, rb⟩ := r2.inv_lst
    refine ⟨a, b, xs, ys, rfl, rfl, e1, e2, by rw [ra.1, rb.1]; exact sz5 hz, fun n nn => ?_⟩
    have s := same_upd (o := .lst (xs ++ ys)) nn
    exact q _ _ (k.same s) (Kp.same s) (rp_lst (k.fresh nn) upd_same ((Kp.same s).all (ra.append rb)))
theorem je_catT {es : List D} (ha : JE G a Z (.tup ds) Z1) (hb : JE G b Z1 (.tup es) Z2) (hz : ds.length + es.length ≤ 100000) : JE G (.BinOp a .Add b pos) Z (.tup (ds ++ es)) Z2 :=
  je_bin (r := fun X => rCatA X.K) (fun _ _ => op_catA) ha hb fun X f B σ H x y Q k r1 r2 q => by
    obtain ⟨a, xs, rfl, na, e1, ra⟩ := r1.inv_tup
    obtain ⟨b, ys, rfl, nb, e2, rb⟩ := r2.inv_tup
    refine ⟨a, b, xs, ys, rfl, rfl, .of e1, .of e2, by rw [ra.1, rb.1]; exact sz5 hz, fun h => ?_, fun _ h => ?_, fun _ _ n nn => ?_⟩
    · subst h
      have : ds = [] := List.length_eq_zero_iff.mp ra.1.symm
      subst this
      exact q _ H k Kp.refl (rp_tup nb e2 rb)
    · subst h
      have : es = [] := List.length_eq_zero_iff.mp rb.1.symm
      subst this
      rw [List.append_nil] at q
      exact q _ H k Kp.refl (rp_tup na e1 ra)
    · have s := same_upd (o := .tup (xs ++ ys)) nn
      exact q _ _ (k.same s) (Kp.same s) (rp_tup (k.fresh nn) upd_same ((Kp.same s).all (ra.append rb)))
theorem je_catS {z w : Str} (ha : JE G a Z (.str z) Z1) (hb : JE G b Z1 (.str w) Z2) (hz : z.length + w.length ≤ 100000) : JE G (.BinOp a .Add b pos) Z (.str (z ++ w)) Z2 :=
  je_bin (r := fun _ x y H Q => ∃ i j, x = .str i ∧ y = .str j ∧ i.length + j.length ≤ sizeLine ∧ Q (.str (i ++ j)) H) (fun _ _ => op_add_str) ha hb fun X f B σ H x y Q k r1 r2 q =>
    ⟨z, w, r1.inv_str, r2.inv_str, sz5 hz, q _ H k Kp.refl (.str _)⟩
/-! == of data -/
def okD : Nat → D → Bool
  | _, .non => true
  | _, .bl _ => true
  | _, .int _ => true
  | _, .str x => PyData.strOk x
  | n + 1, .tup l => l.all (okD n)
  | n + 1, .lst l => l.all (okD n)
  | _, _ => false
def py : Nat → D → PyData
  | _, .bl b => .bool b
  | _, .int i => .int i
  | _, .str x => .str x
  | n + 1, .tup l => .tuple (l.map (py n))
  | n + 1, .lst l => .list (l.map (py n))
  | _, _ => .none
def eqL (f : D → D → Bool) : List D → List D → Bool
  | [], [] => true
  | x :: xs, y :: ys => f x y && eqL f xs ys
  | _, _ => false
def eqD : Nat → D → D → Bool
  | n, x, y => PyData.eqv (py n x) (py n y)
theorem dpAll_of {K : PySem.W.Frag} {H : Hp} {g : D → PyData} : ∀ {xs : List V} {ds : List D}, xs.length = ds.length → (∀ (i : Nat) x d, xs[i]? = some x → ds[i]? = some d → Dp K H x (g d)) → DpAll K H xs (ds.map g)
  | [], [], _, _ => .nil
  | x :: xs, d :: ds, hl, h => .cons (h 0 x d rfl rfl) (dpAll_of (by simpa using hl) fun i y e h1 h2 => h (i + 1) y e (by simpa using h1) (by simpa using h2))
  | [], _ :: _, hl, _ => by simp at hl
  | _ :: _, [], hl, _ => by simp at hl
theorem dp_of {K : PySem.W.Frag} {S : List Addr} {H : Hp} : ∀ (n : Nat) (d : D) (v : V), okD n d = true → Rp S H v d → Dp K H v (py n d)
  | n, .non, v, _, r => by cases r; cases n <;> exact .non
  | n, .bl b, v, _, r => by cases r; cases n <;> exact .bl b
  | n, .int i, v, _, r => by cases r; cases n <;> exact .int i
  | n, .str x, v, _, r => by cases r; cases n <;> exact .str x
  | n + 1, .tup l, v, ho, r => by
    obtain ⟨a, xs, rfl, na, e, ra⟩ := r.inv_tup
    have ho : l.all (okD n) = true := ho
    rw [List.all_eq_true] at ho
    exact .tup (.of e) (dpAll_of ra.1 fun i x d h1 h2 => dp_of n d x (ho d (List.mem_of_getElem? h2)) (ra.2 i x d h1 h2))
  | n + 1, .lst l, v, ho, r => by
    obtain ⟨a, xs, rfl, na, e, ra⟩ := r.inv_lst
    have ho : l.all (okD n) = true := ho
    rw [List.all_eq_true] at ho
    exact .lst (.of e) (dpAll_of ra.1 fun i x d h1 h2 => dp_of n d x (ho d (List.mem_of_getElem? h2)) (ra.2 i x d h1 h2))
  | n, .ref _, v, ho, _ => by cases n <;> cases ho
  | n, .emp, v, ho, _ => by cases n <;> cases ho
  | n, .ty _, v, ho, _ => by cases n <;> cases ho
  | 0, .tup _, v, ho, _ => by cases ho
  | 0, .lst _, v, ho, _ => by cases ho
theorem lay_all {g : D → PyData} : ∀ {ds : List D}, (∀ d ∈ ds, (g d).canLay0 = true) → PyData.canLayAll0 (ds.map g) = true
  | [], _ => rfl
  | d :: ds, h => by
    show ((g d).canLay0 && PyData.canLayAll0 (ds.map g)) = true
    rw [h d (by simp), lay_all fun e m => h e (by simp [m])]
    rfl
theorem dep_all {g : D → PyData} {n : Nat} : ∀ {ds : List D}, (∀ d ∈ ds, (g d).depth ≤ n) → PyData.depthAll (ds.map g) ≤ n
  | [], _ => Nat.zero_le _
  | d :: ds, h => by
    show max (g d).depth (PyData.depthAll (ds.map g)) ≤ n
    exact Nat.max_le.mpr ⟨h d (by simp), dep_all fun e m => h e (by simp [m])⟩
theorem py_lay : ∀ (n : Nat) (d : D), okD n d = true → (py n d).canLay0 = true ∧ (py n d).depth ≤ n
  | n, .non, _ => by cases n <;> exact ⟨rfl, Nat.zero_le _⟩
  | n, .bl b, _ => by cases n <;> exact ⟨rfl, Nat.zero_le _⟩
  | n, .int i, _ => by cases n <;> exact ⟨rfl, Nat.zero_le _⟩
  | n, .str x, h => by cases n <;> exact ⟨h, Nat.zero_le _⟩
  | n + 1, .tup l, ho => by
    have ho : l.all (okD n) = true := ho
    rw [List.all_eq_true] at ho
    exact ⟨lay_all fun d m => (py_lay n d (ho d m)).1, Nat.succ_le_succ (dep_all fun d m => (py_lay n d (ho d m)).2)⟩
  | n + 1, .lst l, ho => by
    have ho : l.all (okD n) = true := ho
    rw [List.all_eq_true] at ho
    exact ⟨lay_all fun d m => (py_lay n d (ho d m)).1, Nat.succ_le_succ (dep_all fun d m => (py_lay n d (ho d m)).2)⟩
  | n, .ref _, ho => by cases n <;> cases ho
  | n, .emp, ho => by cases n <;> cases ho
  | n, .ty _, ho => by cases n <;> cases ho
  | 0, .tup _, ho => by cases ho
  | 0, .lst _, ho => by cases ho
theorem shp {n : Nat} (hn : n ≤ 64) (h : okD n d = true) : SeqAt.shaped (py n d) = true := by
  obtain ⟨h1, h2⟩ := py_lay n d h
  unfold SeqAt.shaped
  rw [h1, decide_eq_true (Nat.le_trans h2 hn)]
  rfl
theorem r_eqD {n : Nat} (hn : n ≤ 64) (h1 : okD n d1 = true) (h2 : okD n d2 = true) : ∀ X : Cx, Fits G X → ∀ (B : Bs) (σ : St) (H : Hp) (x y : V) (Q : VK), Ok B Z σ H → Rp Z.S H x d1 → Rp Z.S H y d2 → (∀ v H', Ok B Z σ H' → Kp Z.S H Z.S H' → Rp Z.S H' v (.bl (eqD n d1 d2)) → Q v H') → rEqD X.K x y H Q :=
  fun X f B σ H x y Q k r1 r2 q => ⟨_, _, dp_of n d1 x h1 r1, dp_of n d2 y h2 r2, shp hn h1, shp hn h2, q _ H k Kp.refl (.bl _)⟩
theorem r_neD {n : Nat} (hn : n ≤ 64) (h1 : okD n d1 = true) (h2 : okD n d2 = true) : ∀ X : Cx, Fits G X → ∀ (B : Bs) (σ : St) (H : Hp) (x y : V) (Q : VK), Ok B Z σ H → Rp Z.S H x d1 → Rp Z.S H y d2 → (∀ v H', Ok B Z σ H' → Kp Z.S H Z.S H' → Rp Z.S H' v (.bl (!eqD n d1 d2)) → Q v H') → rNeD X.K x y H Q :=
  fun X f B σ H x y Q k r1 r2 q => ⟨_, _, dp_of n d1 x h1 r1, dp_of n d2 y h2 r2, shp hn h1, shp hn h2, q _ H k Kp.refl (.bl _)⟩
theorem je_eq (n : Nat) (ha : JE G a Z d1 Z1) (hb : JE G b Z1 d2 Z2) (h1 : okD n d1 = true) (h2 : okD n d2 = true) (hn : n ≤ 64 := by decide) : JE G (.Compare a [.Eq] [b] pos) Z (.bl (eqD n d1 d2)) Z2 := je_cmp (r := fun X => rEqD X.K) (fun _ f => op_eqD f.room.units) (nomark _) ha hb (r_eqD hn h1 h2)
theorem jt_eq (n : Nat) (ha : JE G a Z d1 Z1) (hb : JE G b Z1 d2 Z2) (h1 : okD n d1 = true) (h2 : okD n d2 = true) (hn : n ≤ 64 := by decide) : JT G (.Compare a [.Eq] [b] pos) Z (eqD n d1 d2) Z2 := jt_cmp (r := fun X => rEqD X.K) (fun _ f => op_eqD f.room.units) (nomark _) ha hb (r_eqD hn h1 h2)
theorem je_ne (n : Nat) (ha : JE G a Z d1 Z1) (hb : JE G b Z1 d2 Z2) (h1 : okD n d1 = true) (h2 : okD n d2 = true) (hn : n ≤ 64 := by decide) : JE G (.Compare a [.NotEq] [b] pos) Z (.bl (!eqD n d1 d2)) Z2 := je_cmp (r := fun X => rNeD X.K) (fun _ f => op_neD f.room.units) (nomark _) ha hb (r_neD hn h1 h2)
theorem jt_ne (n : Nat) (ha : JE G a Z d1 Z1) (hb : JE G b Z1 d2 Z2) (h1 : okD n d1 = true) (h2 : okD n d2 = true) (hn : n ≤ 64 := by decide) : JT G (.Compare a [.NotEq] [b] pos) Z (!eqD n d1 d2) Z2 := jt_cmp (r := fun X => rNeD X.K) (fun _ f => op_neD f.room.units) (nomark _) ha hb (r_neD hn h1 h2)
/-! is -/
def isNon : D → Bool
  | .non => true
  | _ => false
theorem isN_rp {S : List Addr} {H : Hp} {v : V} (r : Rp S H v d) : decide (v = .non) = isNon d := by
  cases r <;> simp [isNon]
theorem jt_isN {j pos'} (ha : JE G a Z d Z1) : JT G (.Compare a [.Is] [.Constant .none j pos'] pos) Z (isNon d) Z1 := fun X f B σ H k Q q =>
  ⟨_, pt_cmp (pc_isN p_E), ha X f B σ H k _ fun x H1 k1 p1 r1 => by
    rw [isN_rp r1]
    exact ⟨_, rfl, q H1 k1 p1⟩⟩
theorem jt_notN {j pos'} (ha : JE G a Z d Z1) : JT G (.Compare a [.IsNot] [.Constant .none j pos'] pos) Z (!isNon d) Z1 := fun X f B σ H k Q q =>
  ⟨_, pt_cmp (pc_notN p_E), ha X f B σ H k _ fun x H1 k1 p1 r1 => by
    rw [isN_rp r1]
    exact ⟨_, rfl, q H1 k1 p1⟩⟩
theorem je_isN {j pos'} (ha : JE G a Z d Z1) : JE G (.Compare a [.Is] [.Constant .none j pos'] pos) Z (.bl (isNon d)) Z1 := fun X f B σ H k Q q =>
  ⟨_, pe_cmp (pc_isN p_E), ha X f B σ H k _ fun x H1 k1 p1 r1 => by
    rw [isN_rp r1]
    exact q _ H1 k1 p1 (.bl _)⟩
theorem je_notN {j pos'} (ha : JE G a Z d Z1) : JE G (.Compare a [.IsNot] [.Constant .none j pos'] pos) Z (.bl (!isNon d)) Z1 := fun X f B σ H k Q q =>
  ⟨_, pe_cmp (pc_notN p_E), ha X f B σ H k _ fun x H1 k1 p1 r1 => by
    rw [isN_rp r1]
    exact q _ H1 k1 p1 (.bl _)⟩
theorem jt_isB {t w : Bool} (ha : JE G a Z (.bl t) Z1) (hb : JE G b Z1 (.bl w) Z2) : JT G (.Compare a [.Is] [b] pos) Z (decide (t = w)) Z2 :=
  jt_cmp (r := fun _ x y H Q => ∃ a b, x = .bl a ∧ y = .bl b ∧ Q (.bl (decide (a = b))) H) (fun _ _ => op_is_bl) (nomark _) ha hb fun X f B σ H x y Q k r1 r2 q => ⟨t, w, r1.inv_bl, r2.inv_bl, q _ H k Kp.refl (.bl _)⟩
theorem je_isB {t w : Bool} (ha : JE G a Z (.bl t) Z1) (hb : JE G b Z1 (.bl w) Z2) : JE G (.Compare a [.Is] [b] pos) Z (.bl (decide (t = w))) Z2 :=
  je_cmp (r := fun _ x y H Q => ∃ a b, x = .bl a ∧ y = .bl b ∧ Q (.bl (decide (a = b))) H) (fun _ _ => op_is_bl) (nomark _) ha hb fun X f B σ H x y Q k r1 r2 q => ⟨t, w, r1.inv_bl, r2.inv_bl, q _ H k Kp.refl (.bl _)⟩
theorem jt_notB {t w : Bool} (ha : JE G a Z (.bl t) Z1) (hb : JE G b Z1 (.bl w) Z2) : JT G (.Compare a [.IsNot] [b] pos) Z (!decide (t = w)) Z2 :=
  jt_cmp (r := fun _ x y H Q => ∃ a b, x = .bl a ∧ y = .bl b ∧ Q (.bl (!decide (a = b))) H) (fun _ _ => op_isnot_bl) (nomark _) ha hb fun X f B σ H x y Q k r1 r2 q => ⟨t, w, r1.inv_bl, r2.inv_bl, q _ H k Kp.refl (.bl _)⟩
end
end JL

namespace JL
open PySem PySem.Spec L2
section
variable {G : Ctx} {Z Z1 Z2 Z3 : State} {tg a b c e iter elt : Expr} {es : List Expr} {ds : List D} {pos pos' p : Pos} {d d1 d2 : D} {x : Str} {P : OutS → Prop}
/-! ### walks, by short names -/
theorem ji_r1 {n : Int} (B : Bi G.g) (h : JA G [a] Z [.int n] Z1) (hn : -1000000 ≤ n ∧ n ≤ 1000000 := by omega) (hg : glB G.sc "range" = true := by kernel_rfl) (hs : ∀ env, starEach [a] env = [(false, eval a env)] := by intro _; rfl) : JI G tg (.Call (.Name "range" p) [a] [] pos) Z (rng 0 n) Z1 := ji_range1 B.range_ hg h hn hs
theorem ji_r2 {n m : Int} (B : Bi G.g) (h : JA G [a, b] Z [.int m, .int n] Z1) (hn : -1000000 ≤ n ∧ n ≤ 1000000 ∧ -1000000 ≤ m ∧ m ≤ 1000000 := by omega) (hg : glB G.sc "range" = true := by kernel_rfl)
    (hs : ∀ env, starEach [a, b] env = [(false, eval a env), (false, eval b env)] := by intro _; rfl) (hs2 : ∀ env, starEach [b] env = [(false, eval b env)] := by intro _; rfl) : JI G tg (.Call (.Name "range" p) [a, b] [] pos) Z (rng m n) Z1 := ji_range2 B.range_ hg h hn hs hs2
theorem ji_en {elts : List Expr} {kk : Nat} {tpos : Pos} (B : Bi G.g) (h : JA G [a] Z [.lst ds] Z1) (hg : glB G.sc "enumerate" = true := by kernel_rfl) (hs : ∀ env, starEach [a] env = [(false, eval a env)] := by intro _; rfl) :
    JI G (.Tuple elts kk tpos) (.Call (.Name "enumerate" p) [a] [] pos) Z (numd ds) Z1 := ji_enumL B.enumerate_ hg h hs
theorem ji_zp {ds es : List D} {elts : List Expr} {kk : Nat} {tpos : Pos} (B : Bi G.g) (h : JA G [a, b] Z [.lst ds, .lst es] Z1) (hg : glB G.sc "zip" = true := by kernel_rfl) (hs : ∀ env, starEach [a, b] env = (false, eval a env) :: starEach [b] env := by intro _; rfl)
    (hpl : ∀ env, (backTo pos (starEach [b] env)).any (·.1) = false := by intro _; rfl) : JI G (.Tuple elts kk tpos) (.Call (.Name "zip" p) [a, b] [] pos) Z (zipd ds es) Z1 := ji_zipL B.zip_ hg h hs hpl
theorem JI.cast {ds es : List D} (h : JI G tg iter Z ds Z1) (e : ds = es) : JI G tg iter Z es Z1 := e ▸ h
theorem JE.cast (h : JE G e Z d Z1) (q : d = d1) : JE G e Z d1 Z1 := q ▸ h
theorem JT.cast {t u : Bool} (h : JT G e Z t Z1) (q : t = u) : JT G e Z u Z1 := q ▸ h
/-! ### comprehensions over typed items -/
def noRes (ρ : Rho) (vs : List Nat) : Bool := vs.all fun j => match ρ[j]? with
  | some (some (.own _ _)) => false
  | some (some (.res _ _ _)) => false
  | _ => true
theorem noRes_of {ρ : Rho} {vs : List Nat} (h : noRes ρ vs = true) : ∀ j ∈ vs, ∀ e, ρ[j]? = some (some e) → ∃ d, e = .dat d := fun j m e q => by
  unfold noRes at h
  rw [List.all_eq_true] at h
  have := h j m
  rw [q] at this
  cases e with
  | dat d => exact ⟨d, rfl⟩
  | own _ _ => cases this
  | res _ _ _ => cases this
theorem filter_ix {α : Type} (f : α → Bool) (g : α → D) : ∀ xs : List α, ((List.range xs.length).filter fun i => (xs[i]?.map f).getD false).map (fun i => (xs[i]?.map g).getD .non) = (xs.filter f).map g
  | [] => rfl
  | x :: xs => by
    have ih := filter_ix f g xs
    rw [List.length_cons, List.range_succ_eq_map, List.filter_cons, List.filter_map]
    have e1 : ((fun i => ((x :: xs)[i]?.map f).getD false) ∘ Nat.succ) = fun i => (xs[i]?.map f).getD false := by
      funext i
      simp
    rw [e1]
    have e2 : ∀ l : List Nat, (l.map Nat.succ).map (fun i => ((x :: xs)[i]?.map g).getD D.non) = l.map fun i => (xs[i]?.map g).getD D.non := fun l => by
      rw [List.map_map]
      apply List.map_congr_left
      intro i _
      simp
    by_cases h : f x = true
    · rw [if_pos (show ((x :: xs)[0]?.map f).getD false = true by simpa using h), List.filter_cons, if_pos h, List.map_cons, List.map_cons, e2, ih]
      rfl
    · rw [if_neg (show ¬ ((x :: xs)[0]?.map f).getD false = true by simpa using h), List.filter_cons, if_neg h, e2, ih]
/-- [elt for tg in iter if ..], nothing else changing -/
theorem lc {α : Type} {xs : List α} {enc : α → D} {ifs : List Expr} {scope : Scope} {own : List (Str × Nat)} {tv : List Nat} (tf : α → Bool) (ef : α → D) (hi : JI G tg iter Z (xs.map enc) Z1) (hz : xs.length ≤ 100000)
    (turn : ∀ (T : List Addr) (x : α), x ∈ xs → ∃ ρ1, JGw (G.blk scope) tg tv (enc x) ⟨T, wipeR Z1.ρ (own.map (·.2))⟩ ⟨T, ρ1⟩ ∧ JTs (G.blk scope) ifs ⟨T, ρ1⟩ (tf x) ⟨T, ρ1⟩ ∧ wipeR ρ1 (own.map (·.2)) = wipeR Z1.ρ (own.map (·.2)) ∧
      (tf x = true → JE (G.blk scope) elt ⟨T, ρ1⟩ (ef x) ⟨T, ρ1⟩))
    (htv : ∀ i ∈ tv, i ∈ own.map (·.2) := by decide) (hvs : noRes Z1.ρ (own.map (·.2)) = true := by rfl) (ok : blkC G.N G.sc scope own = true := by kernel_rfl) (hs : ∀ env x, foldedSetIterable iter env x = pure x := by intro _ _; rfl) :
    JLc G elt tg iter ifs scope Z (.lst ((xs.filter tf).map ef)) Z1 := by
  have := jlcI (G := G) (Z := Z) (elt := elt) (ifs := ifs) (tv := tv) (S := Z1.S) (fun _ => Z1.ρ) (fun i => (xs[i]?.map tf).getD false) (fun i => (xs[i]?.map ef).getD .non) hi (by simpa using hz) ok (fun _ _ _ h => h) (fun _ => rfl) (fun _ => noRes_of hvs) (fun T i d e => by
    rw [List.getElem?_map] at e
    cases q : xs[i]? with
    | none => rw [q] at e; cases e
    | some x =>
      rw [q] at e
      cases e
      obtain ⟨ρ1, h1, h2, h3, h4⟩ := turn T x (List.mem_of_getElem? q)
      exact ⟨ρ1, h1, h2, fun _ => h3, fun h => ⟨ρ1, h4 h, h3⟩⟩) htv hs
  rw [List.length_map, filter_ix] at this
  exact this
/-- .. without a test -/
theorem lc0 {α : Type} {xs : List α} {enc : α → D} {scope : Scope} {own : List (Str × Nat)} {tv : List Nat} (ef : α → D) (hi : JI G tg iter Z (xs.map enc) Z1) (hz : xs.length ≤ 100000)
    (turn : ∀ (T : List Addr) (x : α), x ∈ xs → ∃ ρ1, JGw (G.blk scope) tg tv (enc x) ⟨T, wipeR Z1.ρ (own.map (·.2))⟩ ⟨T, ρ1⟩ ∧ wipeR ρ1 (own.map (·.2)) = wipeR Z1.ρ (own.map (·.2)) ∧ JE (G.blk scope) elt ⟨T, ρ1⟩ (ef x) ⟨T, ρ1⟩)
    (htv : ∀ i ∈ tv, i ∈ own.map (·.2) := by decide) (hvs : noRes Z1.ρ (own.map (·.2)) = true := by rfl) (ok : blkC G.N G.sc scope own = true := by kernel_rfl) (hs : ∀ env x, foldedSetIterable iter env x = pure x := by intro _ _; rfl) :
    JLc G elt tg iter [] scope Z (.lst (xs.map ef)) Z1 := by
  have := lc (G := G) (elt := elt) (ifs := []) (fun _ : α => true) ef hi hz (fun T x m => by
    obtain ⟨ρ1, h1, h2, h3⟩ := turn T x m
    exact ⟨ρ1, h1, jts_nil, h2, fun _ => h3⟩) htv hvs ok hs
  rw [show xs.filter (fun _ => true) = xs by simp] at this
  exact this
end
end JL

namespace JL
open PySem PySem.Spec L2
/-! ### lists of one's own -/
/-- an address of a slot's own thing is one of S -/
theorem Ok.footS {B : Bs} {Z : State} {σ : St} {H : Hp} (k : Ok B Z σ H) {i : Nat} {e : EV} (h : Z.ρ[i]? = some (some e)) : ∀ a ∈ e.foot, a ∈ Z.S := fun a m => by
  obtain ⟨o, _, h2⟩ := k.env i e h
  cases e with
  | dat d => cases m
  | own q ds => rw [List.mem_singleton.mp m]; exact h2.2.1
  | res R v P => exact h2.2.1 a m
/-- a new list at q becomes slot i's own -/
theorem Ok.own {B : Bs} {Z : State} {σ : St} {H : Hp} (k : Ok B Z σ H) (i : Nat) {q : Addr} {xs : List V} {ds : List D} (hq : H q = none) (r : RpA Z.S H xs ds) :
    Ok B ⟨q :: Z.S, Z.ρ.set i (some (.own q ds))⟩ (σ.set i (some (.ref q))) (upd H q (.lst xs)) := by
  have s := same_upd (o := .lst xs) hq
  have kp : Kp Z.S H (q :: Z.S) (upd H q (.lst xs)) := fun x c r => r.keep (Pres.of_same s) fun a o e m => by
    rcases List.mem_cons.mp m with z | z
    · rw [z, hq] at e; cases e
    · exact z
  have nS : q ∉ Z.S := k.fresh hq
  refine ⟨by simp [k.len], fun j ev e => ?_, fun j l e f h1 h2 a m1 m2 => ?_, fun j e h a m => ?_, fun a m => ?_, fun b o e n => s _ _ (k.out b o e n), fun a m => List.mem_cons_of_mem _ (k.sub a m), fun b o e n => s _ _ (k.tups b o e n), k.bsd, fun x c m => kp _ _ (k.kept x c m), fun a o m => ?_, fun a m => List.mem_cons_of_mem _ (k.msub a m), fun j q2 ds2 h => (set_cases h).elim (fun z => by cases z.2.1; exact fun m => nS (k.msub _ m)) fun z => k.ownM j q2 ds2 z.2⟩
  · rcases set_cases e with ⟨rfl, rfl, hl⟩ | ⟨hij, e⟩
    · rw [List.getElem?_set_self (by rw [← k.len]; exact hl)]
      exact ⟨_, rfl, rfl, List.mem_cons_self .., xs, upd_same, kp.all r⟩
    · rw [List.getElem?_set_ne hij]
      obtain ⟨o, h1, h2⟩ := k.env j ev e
      refine ⟨o, h1, ?_⟩
      cases ev with
      | dat d => obtain ⟨v, e, r⟩ := h2; exact ⟨v, e, kp _ _ r⟩
      | own q ds => obtain ⟨e, m, zs, hq, r⟩ := h2; exact ⟨e, List.mem_cons_of_mem _ m, zs, s _ _ hq, kp.all r⟩
      | res R v P => obtain ⟨e, m, p, sd⟩ := h2; exact ⟨e, fun a z => List.mem_cons_of_mem _ (m a z), sd H _ p fun b o e _ => s b o e, sd⟩
  · rcases set_cases h1 with ⟨rfl, rfl, _⟩ | ⟨n1, h1⟩
    · rcases set_cases h2 with ⟨rfl, rfl, _⟩ | ⟨n2, h2⟩
      · rfl
      · rw [List.mem_singleton.mp m1] at m2
        exact absurd (k.footS h2 _ m2) nS
    · rcases set_cases h2 with ⟨rfl, rfl, _⟩ | ⟨n2, h2⟩
      · rw [List.mem_singleton.mp m2] at m1
        exact absurd (k.footS h1 _ m1) nS
      · exact k.sep j l e f h1 h2 a m1 m2
  · rcases set_cases h with ⟨rfl, rfl, _⟩ | ⟨_, h⟩
    · rw [List.mem_singleton.mp m]
      by_cases hm : q ∈ B.M
      · exact .inl hm
      · refine .inr ?_
        cases e : B.H q with
        | none => rfl
        | some o => rw [k.out q o e hm] at hq; cases hq
    · exact k.mine j e h a m
  · rcases List.mem_cons.mp m with z | z
    · rw [z]; exact ⟨_, upd_same, fun z => z⟩
    · obtain ⟨o, e, n⟩ := k.dom a z
      exact ⟨o, s _ _ e, n⟩
  · obtain ⟨h1, h2, h3⟩ := k.held a o m
    refine ⟨List.mem_cons_of_mem _ h1, s _ _ h2, fun j e h => ?_⟩
    rcases set_cases h with ⟨rfl, rfl, _⟩ | ⟨_, h⟩
    · intro z
      rw [List.mem_singleton.mp z, hq] at h2
      cases h2
    · exact h3 j e h
/-- slot i's own list is changed -/
theorem Ok.mut {B : Bs} {Z : State} {σ : St} {H : Hp} (k : Ok B Z σ H) {i : Nat} {q : Addr} {ds ds' : List D} {ys : List V} (h : Z.ρ[i]? = some (some (.own q ds))) (r : RpA Z.S H ys ds') :
    Ok B ⟨Z.S, Z.ρ.set i (some (.own q ds'))⟩ σ (upd H q (.lst ys)) ∧ Kp Z.S H Z.S (upd H q (.lst ys)) := by
  obtain ⟨o0, e0, e1, hS, xs, hl, _⟩ := k.env i _ h
  subst e1
  have pr : Pres Z.S H (upd H q (.lst ys)) := fun b o e n => by
    rw [upd_ne (fun z => n (by rw [z]; exact hS))]
    exact e
  have kp : Kp Z.S H Z.S (upd H q (.lst ys)) := fun x c r => r.keep pr fun _ _ _ z => z
  have tp : ∀ b o, H b = some o → Solid o → (upd H q (.lst ys)) b = some o := fun b o e n => by
    rw [upd_ne (fun z => by rw [z, hl] at e; cases e; exact n)]
    exact e
  have qi : q ∈ (EV.own q ds).foot := List.mem_singleton.mpr rfl
  refine ⟨⟨by simp [k.len], fun j ev e => ?_, fun j l e f h1 h2 a m1 m2 => ?_, fun j e h' a m => ?_, fun a m => ?_, fun b o e n => ?_, k.sub, fun b o e n => tp b o (k.tups b o e n) n, k.bsd, fun x c m => kp _ _ (k.kept x c m), fun a o m => ?_, k.msub, fun j q2 ds2 h' => (set_cases h').elim (fun z => by cases z.2.1; exact k.ownM i q ds h) fun z => k.ownM j q2 ds2 z.2⟩, kp⟩
  · rcases set_cases e with ⟨rfl, rfl, hl'⟩ | ⟨hij, e⟩
    · exact ⟨_, e0, rfl, hS, ys, upd_same, kp.all r⟩
    · obtain ⟨o, h1, h2⟩ := k.env j ev e
      refine ⟨o, h1, ?_⟩
      have nf : q ∉ ev.foot := fun m => hij (k.sep i j _ ev h e q qi m)
      cases ev with
      | dat d => obtain ⟨v, e, r⟩ := h2; exact ⟨v, e, kp _ _ r⟩
      | own q2 ds2 =>
        obtain ⟨e, m, zs, hq, r⟩ := h2
        exact ⟨e, m, zs, by rw [upd_ne (fun z => nf (by rw [← z]; exact List.mem_singleton.mpr rfl))]; exact hq, kp.all r⟩
      | res R v P =>
        obtain ⟨e, m, p, sd⟩ := h2
        refine ⟨e, m, sd H _ p fun b o e hb => ?_, sd⟩
        rcases hb with hb | hb
        · rw [upd_ne (fun z => nf (by rw [← z]; exact hb))]
          exact e
        · exact tp b o e hb
  · rcases set_cases h1 with ⟨rfl, rfl, _⟩ | ⟨n1, h1⟩
    · rcases set_cases h2 with ⟨rfl, rfl, _⟩ | ⟨n2, h2⟩
      · rfl
      · exact k.sep i l _ f h h2 a m1 m2
    · rcases set_cases h2 with ⟨rfl, rfl, _⟩ | ⟨n2, h2⟩
      · exact k.sep j i e _ h1 h a m1 m2
      · exact k.sep j l e f h1 h2 a m1 m2
  · rcases set_cases h' with ⟨rfl, rfl, _⟩ | ⟨_, h'⟩
    · exact k.mine i _ h a m
    · exact k.mine j e h' a m
  · by_cases z : a = q
    · rw [z]; exact ⟨_, upd_same, fun z => z⟩
    · obtain ⟨o, e, n⟩ := k.dom a m
      exact ⟨o, by rw [upd_ne z]; exact e, n⟩
  · rw [upd_ne (fun z => by
      subst z
      rcases k.mine i _ h b qi with w | w
      · exact n w
      · rw [w] at e; cases e)]
    exact k.out b o e n
  · obtain ⟨h1, h2, h3⟩ := k.held a o m
    refine ⟨h1, by rw [upd_ne (fun z => h3 i _ h (by rw [z]; exact qi))]; exact h2, fun j e h' => ?_⟩
    rcases set_cases h' with ⟨hj, he, _⟩ | ⟨_, h'⟩
    · rw [he]; exact h3 i (.own q ds) h
    · exact h3 j e h'
/-- an own list becomes plain data -/
theorem Ok.melt {B : Bs} {S : List Addr} {ρ : Rho} {σ : St} {H : Hp} {i : Nat} {q : Addr} {ds : List D} (k : Ok B ⟨q :: S, ρ⟩ σ H) (h : ρ[i]? = some (some (.own q ds))) (nq : q ∉ S) (nB : q ∉ B.S) :
    Ok B ⟨S, ρ.set i (some (.dat (.lst ds)))⟩ σ H := by
  obtain ⟨o0, e0, e1, hS, xs, hl, rx⟩ := k.env i _ h
  subst e1
  have dn : ∀ x c, Rp (q :: S) H x c → Rp S H x c := fun x c r => r.keep Pres.refl fun a o _ m => List.mem_cons_of_mem _ m
  have dnA : ∀ xs cs, RpA (q :: S) H xs cs → RpA S H xs cs := fun xs cs r => ⟨r.1, fun i x d e1 e2 => dn _ _ (r.2 i x d e1 e2)⟩
  have qi : q ∈ (EV.own q ds).foot := List.mem_singleton.mpr rfl
  refine ⟨by simpa using k.len, fun j ev e => ?_, fun j l e f h1 h2 a m1 m2 => ?_, fun j e h' a m => ?_, fun a m => k.dom a (List.mem_cons_of_mem _ m), k.out, fun a m => ?_, k.tups, k.bsd, fun x c m => dn _ _ (k.kept x c m), fun a o m => ?_, fun a m => (List.mem_cons.mp (k.msub a m)).resolve_left fun z => k.ownM i q ds h (by rw [← z]; exact m), fun j q2 ds2 h' => (set_cases h').elim (fun z => by cases z.2.1) fun z => k.ownM j q2 ds2 z.2⟩
  · rcases set_cases e with ⟨rfl, rfl, hl'⟩ | ⟨hij, e⟩
    · exact ⟨_, e0, .ref q, rfl, rp_lst nq hl (dnA _ _ rx)⟩
    · obtain ⟨o, h1, h2⟩ := k.env j ev e
      refine ⟨o, h1, ?_⟩
      have nf : q ∉ ev.foot := fun m => hij (k.sep i j _ ev h e q qi m)
      cases ev with
      | dat d => obtain ⟨v, e, r⟩ := h2; exact ⟨v, e, dn _ _ r⟩
      | own q2 ds2 =>
        obtain ⟨e, m, zs, hq, r⟩ := h2
        exact ⟨e, (List.mem_cons.mp m).resolve_left fun z => nf (by rw [← z]; exact List.mem_singleton.mpr rfl), zs, hq, dnA _ _ r⟩
      | res R v P =>
        obtain ⟨e, m, p, sd⟩ := h2
        exact ⟨e, fun a ha => (List.mem_cons.mp (m a ha)).resolve_left fun z => nf (by rw [← z]; exact ha), p, sd⟩
  · rcases set_cases h1 with ⟨rfl, rfl, _⟩ | ⟨n1, h1⟩
    · cases m1
    · rcases set_cases h2 with ⟨rfl, rfl, _⟩ | ⟨n2, h2⟩
      · cases m2
      · exact k.sep j l e f h1 h2 a m1 m2
  · rcases set_cases h' with ⟨rfl, rfl, _⟩ | ⟨_, h'⟩
    · cases m
    · exact k.mine j e h' a m
  · rcases List.mem_cons.mp (k.sub a m) with z | z
    · rw [z] at m; exact absurd m nB
    · exact z
  · obtain ⟨h1, h2, h3⟩ := k.held a o m
    refine ⟨(List.mem_cons.mp h1).resolve_left fun z => h3 i _ h (by rw [z]; exact qi), h2, fun j e h' => ?_⟩
    rcases set_cases h' with ⟨rfl, rfl, _⟩ | ⟨_, h'⟩
    · intro z; cases z
    · exact h3 j e h'
section
variable {G : Ctx} {Z Z1 Z2 Z3 : State} {tg a b c e iter elt : Expr} {es : List Expr} {ds : List D} {pos pos' p p2 apos : Pos} {d d1 d2 : D} {x : Str} {P : OutS → Prop} {q : Addr} {S : List Addr} {ρ : Rho}
/-- x = [..], to be changed later -/
theorem js_own (i : Nat) (h : JA G es Z ds Z1) (hp : ∀ q, q ∉ Z1.S → P (.nx ⟨q :: Z1.S, Z1.ρ.set i (some (.own q ds))⟩)) (hz : ds.length ≤ 100000 := by first | exact Nat.le_of_ble_eq_true rfl | omega) (hn : stB G.N G.sc G.fn i x = true := by kernel_rfl)
    (hs : ∀ env, swapsWith (.List es p2) (some (.Name x pos')) pos.line env = pure false := by intro _; rfl) : JS G (.Assign [.Name x pos'] (.List es p2) pos) Z P := by
  intro X f B σ H k W E tk en
  simp only [stB, Bool.and_eq_true, decide_eq_true_eq] at hn
  obtain ⟨l1, l2⟩ := loc_of f hn.2
  exact ⟨_, ps_set (i := i) (by rw [f.N]; exact f.nd) (by rw [f.N]; exact hn.1) l1 (pe_lst p_A) (hs _) l2, h X f B σ H k _ fun vs H1 k1 p1 r1 => ⟨by rw [r1.1]; exact sz5 hz, fun q nq => en.nx _ _ _ (hp q (k1.fresh nq)) (k1.own i nq r1)⟩⟩
/-- x.append(e) -/
theorem js_app (i : Nat) (h : JE G e Z d Z1) (hi : Z1.ρ[i]? = some (some (.own q ds))) (hp : P (.nx ⟨Z1.S, Z1.ρ.set i (some (.own q (ds ++ [d])))⟩)) (hi0 : ∃ ds0, Z.ρ[i]? = some (some (.own q ds0)) := by exact ⟨_, rfl⟩) (hz : ds.length < 100000 := by first | exact Nat.le_of_ble_eq_true rfl | omega) (hn : nmB G.N G.sc i x = true := by kernel_rfl)
    (hs : ∀ env, swapsWith (.Call (.Attribute (.Name x p) "append" apos) [e] [] pos') none pos.line env = pure false := by intro _; rfl) (he : ∀ env, starEach [e] env = (false, eval e env) :: starEach [] env := by intro _; rfl)
    (hbase : ∀ env, attributeBase (.Name x p) "append" env (eval (.Name x p) env) = eval (.Name x p) env := by intro _; rfl)
    (hfew : ∀ env, ((backTo pos' (starEach [e] env)).all (fun x => !x.1) && (backToKw pos' (keywordEach [] env)).all (fun x => x.1.isSome) && decide ([e].length + ([] : List Keyword).length + (if ([] : List Keyword).isEmpty then 0 else 1) < 30)) = true := by intro _; rfl)
    (hline : (apos.endLine == pos'.line) = true := by rfl) :
    JS G (.Expr (.Call (.Attribute (.Name x p) "append" apos) [e] [] pos') pos) Z P := by
  intro X f B σ H k W E tk en
  simp only [nmB, Bool.and_eq_true, decide_eq_true_eq, Bool.not_eq_true'] at hn
  obtain ⟨h1, h2, h3, h4⟩ := hn
  obtain ⟨ds0, hi0⟩ := hi0
  obtain ⟨o0, e0, e1, hS, xs, hl, rx⟩ := k.env i _ hi0
  subst e1
  refine ⟨_, ps_expr (pe_bm PySem.F.plainAttrs_list PySem.F.slot_list_append PySem.F.type_list_append mt_append (pe_var (i := i) (by rw [f.N]; exact h1) (by rw [f.sc]; exact vis_of h2) h3 h4) p_A (hbase _) (hfew _) hline (he _) (by rfl)) (hs _), ?_⟩
  refine ⟨.ref q, e0, .inl ⟨rfl, xs, .of hl⟩, tCons (wE X e) tNil, pa_cons p_E pa_nil (he _), h X f B σ H k _ fun v H1 k1 p1 r1 => ?_⟩
  obtain ⟨o1, e2, e3, hS1, ys, hl1, ry⟩ := k1.env i _ hi
  obtain ⟨k2, p2⟩ := k1.mut hi (ys := ys ++ [v]) (ds' := ds ++ [d]) (ry.append (RpA.cons r1 RpA.nil))
  exact ⟨q, ys, v, rfl, rfl, hl1, by rw [ry.1]; exact Nat.lt_of_lt_of_le hz (by decide), en.nx _ _ _ hp k2⟩
/-- x.extend(e) -/
theorem js_ext (i : Nat) {es : List D} (h : JE G e Z (.lst es) Z1) (hi : Z1.ρ[i]? = some (some (.own q ds))) (hp : P (.nx ⟨Z1.S, Z1.ρ.set i (some (.own q (ds ++ es)))⟩)) (hi0 : ∃ ds0, Z.ρ[i]? = some (some (.own q ds0)) := by exact ⟨_, rfl⟩) (hz : ds.length + es.length ≤ 100000 := by first | exact Nat.le_of_ble_eq_true rfl | omega) (hn : nmB G.N G.sc i x = true := by kernel_rfl)
    (hs : ∀ env, swapsWith (.Call (.Attribute (.Name x p) "extend" apos) [e] [] pos') none pos.line env = pure false := by intro _; rfl) (he : ∀ env, starEach [e] env = (false, eval e env) :: starEach [] env := by intro _; rfl)
    (hbase : ∀ env, attributeBase (.Name x p) "extend" env (eval (.Name x p) env) = eval (.Name x p) env := by intro _; rfl)
    (hfew : ∀ env, ((backTo pos' (starEach [e] env)).all (fun x => !x.1) && (backToKw pos' (keywordEach [] env)).all (fun x => x.1.isSome) && decide ([e].length + ([] : List Keyword).length + (if ([] : List Keyword).isEmpty then 0 else 1) < 30)) = true := by intro _; rfl)
    (hline : (apos.endLine == pos'.line) = true := by rfl) :
    JS G (.Expr (.Call (.Attribute (.Name x p) "extend" apos) [e] [] pos') pos) Z P := by
  intro X f B σ H k W E tk en
  simp only [nmB, Bool.and_eq_true, decide_eq_true_eq, Bool.not_eq_true'] at hn
  obtain ⟨h1, h2, h3, h4⟩ := hn
  obtain ⟨ds0, hi0⟩ := hi0
  obtain ⟨o0, e0, e1, hS, xs, hl, rx⟩ := k.env i _ hi0
  subst e1
  refine ⟨_, ps_expr (pe_bm PySem.F.plainAttrs_list PySem.F.slot_list_extend PySem.F.type_list_extend mt_extend (pe_var (i := i) (by rw [f.N]; exact h1) (by rw [f.sc]; exact vis_of h2) h3 h4) p_A (hbase _) (hfew _) hline (he _) (by rfl)) (hs _), ?_⟩
  refine ⟨.ref q, e0, .inl ⟨rfl, xs, .of hl⟩, tCons (wE X e) tNil, pa_cons p_E pa_nil (he _), h X f B σ H k _ fun v H1 k1 p1 r1 => ?_⟩
  obtain ⟨o1, e2, e3, hS1, ys, hl1, ry⟩ := k1.env i _ hi
  obtain ⟨w, zs, rfl, nw, ew, rw'⟩ := r1.inv_lst
  obtain ⟨k2, p2⟩ := k1.mut hi (ys := ys ++ zs) (ds' := ds ++ es) (ry.append rw')
  exact ⟨q, w, ys, zs, rfl, rfl, hl1, ew, by rw [ry.1, rw'.1]; exact sz5 hz, en.nx _ _ _ hp k2⟩
/-- x[j] of an own list -/
theorem je_ownIx (i : Nat) {j : Int} (hb : JE G b Z (.int j) Z1) (hi0 : ∃ ds0, Z.ρ[i]? = some (some (.own q ds0))) (hi : Z1.ρ[i]? = some (some (.own q ds))) (h : atI ds j = some d) (hn : nmB G.N G.sc i x = true := by kernel_rfl) (hs : PlainIx b := by intro _ _; rfl) : JE G (.Subscript (.Name x p) b pos) Z d Z1 := by
  intro X f B σ H k Q qq
  simp only [nmB, Bool.and_eq_true, decide_eq_true_eq, Bool.not_eq_true'] at hn
  obtain ⟨h1, h2, h3, h4⟩ := hn
  obtain ⟨ds0, hi0⟩ := hi0
  obtain ⟨o0, e0, e1, hS, xs, hl, rx⟩ := k.env i _ hi0
  subst e1
  refine ⟨_, pe_ix ix_list (pe_var (i := i) (by rw [f.N]; exact h1) (by rw [f.sc]; exact vis_of h2) h3 h4) p_E hs, .ref q, e0, hb X f B σ H k _ fun y H2 k2 p2 r2 => ?_⟩
  obtain ⟨o1, e2, e3, hS1, ys, hl1, ry⟩ := k2.env i _ hi
  obtain ⟨v, e4, rv⟩ := atI_rp ry h
  exact ⟨q, ys, j, v, rfl, r2.inv_int, .of hl1, e4, qq v H2 k2 p2 rv⟩
/-- from now on x's list is plain data -/
theorem js_melt {sts : List Stmt} (i : Nat) (h : ρ[i]? = some (some (.own q ds))) (nq : q ∉ S) (k : JSs G sts ⟨S, ρ.set i (some (.dat (.lst ds)))⟩ P) : JSs G sts ⟨q :: S, ρ⟩ P := fun X f B σ H ok W E tk en => by
  refine k X f B σ H (ok.melt h nq fun m => ?_) W E tk en
  obtain ⟨o, e⟩ := ok.bsd q m
  rcases ok.mine i _ h q (List.mem_singleton.mpr rfl) with w | w
  · exact absurd w (ok.ownM i q ds h)
  · rw [w] at e; cases e
end
end JL

namespace JL
open PySem PySem.Spec L2
/-! ### texts -/
section
variable {G : Ctx} {Z Z1 Z2 Z3 : State} {o a b c e iter elt : Expr} {es : List Expr} {ds : List D} {pos pos' p p2 apos : Pos} {d d1 d2 : D} {x : Str} {z w : Str}
/-- a method of a text with one argument -/
theorem je_m1 {id : String} {name : Str} {r : Cx → V → List V → Hp → VK → Prop} (slot : PySem.Slot "str" name id) (ty : typeOf (.builtin id) = pure (.type "method_descriptor")) (rule : ∀ X, Fits G X → MtR X id (r X)) (ho : JE G o Z (.str z) Z1) (he : JE G e Z1 d1 Z2)
    (hr : ∀ X, Fits G X → ∀ B σ H v (Q : VK), Ok B Z2 σ H → Rp Z2.S H v d1 → (∀ v H', Same H H' → Rp Z2.S H' v d → Q v H') → r X (.str z) [v] H Q)
    (hs : ∀ env, starEach [e] env = [(false, eval e env)]) (hbase : ∀ env, attributeBase o name env (eval o env) = eval o env) (hline : (apos.endLine == pos.line) = true) :
    JE G (.Call (.Attribute o name apos) [e] [] pos) Z d Z2 := fun X f B σ H k Q q =>
  ⟨_, pe_m1 slot ty (rule X f) p_E p_E (hs _) (hbase _) hline, ho X f B σ H k _ fun x H1 k1 p1 r1 => by
    cases r1.inv_str
    exact ⟨⟨_, rfl⟩, he X f B σ H1 k1 _ fun v H2 k2 p2 r2 => hr X f B σ H2 v Q k2 r2 fun v H3 s r3 => q v H3 (k2.same s) ((p1.trans p2).trans (Kp.same s)) r3⟩⟩
theorem je_startswith (ho : JE G o Z (.str z) Z1) (he : JE G e Z1 (.str w) Z2) (hs : ∀ env, starEach [e] env = [(false, eval e env)] := by intro _; rfl) (hbase : ∀ env, attributeBase o "startswith" env (eval o env) = eval o env := by intro _; rfl) (hline : (apos.endLine == pos.line) = true := by rfl) :
    JE G (.Call (.Attribute o "startswith" apos) [e] [] pos) Z (.bl (Txt.startswith z w)) Z2 :=
  je_m1 (r := fun _ x xs H Q => ∃ a b, x = .str a ∧ xs = [.str b] ∧ Q (.bl (Txt.startswith a b)) H) F.slot_str_startswith F.type_str_startswith (fun _ _ => mt_startswith) ho he (fun X f B σ H v Q k r q => by
    cases r.inv_str
    exact ⟨z, w, rfl, rfl, q _ H (Same.refl H) (.bl _)⟩) hs hbase hline
theorem je_endswith (ho : JE G o Z (.str z) Z1) (he : JE G e Z1 (.str w) Z2) (hs : ∀ env, starEach [e] env = [(false, eval e env)] := by intro _; rfl) (hbase : ∀ env, attributeBase o "endswith" env (eval o env) = eval o env := by intro _; rfl) (hline : (apos.endLine == pos.line) = true := by rfl) :
    JE G (.Call (.Attribute o "endswith" apos) [e] [] pos) Z (.bl (Txt.endswith z w)) Z2 :=
  je_m1 (r := fun _ x xs H Q => ∃ a b, x = .str a ∧ xs = [.str b] ∧ Q (.bl (Txt.endswith a b)) H) F.slot_str_endswith F.type_str_endswith (fun _ _ => mt_endswith) ho he (fun X f B σ H v Q k r q => by
    cases r.inv_str
    exact ⟨z, w, rfl, rfl, q _ H (Same.refl H) (.bl _)⟩) hs hbase hline
theorem je_lstrip (ho : JE G o Z (.str z) Z1) (he : JE G e Z1 (.str w) Z2) (hz : z.length ≤ 100000) (hs : ∀ env, starEach [e] env = [(false, eval e env)] := by intro _; rfl) (hbase : ∀ env, attributeBase o "lstrip" env (eval o env) = eval o env := by intro _; rfl) (hline : (apos.endLine == pos.line) = true := by rfl) :
    JE G (.Call (.Attribute o "lstrip" apos) [e] [] pos) Z (.str (Txt.lstripChars z w)) Z2 :=
  je_m1 (r := fun _ x xs H Q => ∃ a b, x = .str a ∧ xs = [.str b] ∧ a.length ≤ sizeLine ∧ Q (.str (Txt.lstripChars a b)) H) F.slot_str_lstrip F.type_str_lstrip (fun _ _ => mt_lstripChars) ho he (fun X f B σ H v Q k r q => by
    cases r.inv_str
    exact ⟨z, w, rfl, rfl, sz5 hz, q _ H (Same.refl H) (.str _)⟩) hs hbase hline
theorem je_partition (ho : JE G o Z (.str z) Z1) (he : JE G e Z1 (.str w) Z2) (hw : (w.length == 0) = false) (hz : z.length ≤ 100000) (hs : ∀ env, starEach [e] env = [(false, eval e env)] := by intro _; rfl) (hbase : ∀ env, attributeBase o "partition" env (eval o env) = eval o env := by intro _; rfl) (hline : (apos.endLine == pos.line) = true := by rfl) :
    JE G (.Call (.Attribute o "partition" apos) [e] [] pos) Z (.tup [.str (Txt.partition z w).1, .str (Txt.partition z w).2.1, .str (Txt.partition z w).2.2]) Z2 :=
  je_m1 (r := fun _ x xs H Q => ∃ a b, x = .str a ∧ xs = [.str b] ∧ (b.length == 0) = false ∧ a.length ≤ sizeLine ∧ ∀ p, H p = none → Q (.ref p) (upd H p (.tup [.str (Txt.partition a b).1, .str (Txt.partition a b).2.1, .str (Txt.partition a b).2.2]))) F.slot_str_partition F.type_str_partition (fun _ _ => mt_partition) ho he (fun X f B σ H v Q k r q => by
    cases r.inv_str
    exact ⟨z, w, rfl, rfl, hw, sz5 hz, fun p np => q _ _ (same_upd np) (rp_tup (k.fresh np) upd_same (RpA.cons (.str _) (RpA.cons (.str _) (RpA.cons (.str _) RpA.nil))))⟩) hs hbase hline
theorem rpa_of {α : Type} {S : List Addr} {H : Hp} {f : α → D} {g : α → V} (h : ∀ x, Rp S H (g x) (f x)) : ∀ l : List α, RpA S H (l.map g) (l.map f)
  | [] => RpA.nil
  | x :: l => RpA.cons (h x) (rpa_of h l)
theorem je_split (ho : JE G o Z (.str z) Z1) (he : JE G e Z1 (.str w) Z2) (hw : (w.length == 0) = false) (hz : z.length ≤ 90000) (hs : ∀ env, starEach [e] env = [(false, eval e env)] := by intro _; rfl) (hbase : ∀ env, attributeBase o "split" env (eval o env) = eval o env := by intro _; rfl) (hline : (apos.endLine == pos.line) = true := by rfl) :
    JE G (.Call (.Attribute o "split" apos) [e] [] pos) Z (.lst ((Txt.split z w).map D.str)) Z2 :=
  je_m1 (r := fun _ x xs H Q => ∃ a b, x = .str a ∧ xs = [.str b] ∧ (b.length == 0) = false ∧ a.length + 2 ≤ sizeLine ∧ rNewStrs (Txt.split a b) H Q) F.slot_str_split F.type_str_split (fun _ _ => mt_split) ho he (fun X f B σ H v Q k r q => by
    cases r.inv_str
    exact ⟨z, w, rfl, rfl, hw, sz5 (by omega), fun p np => q _ _ (same_upd np) (rp_lst (k.fresh np) upd_same (rpa_of (fun x => .str x) _))⟩) hs hbase hline
theorem je_join {ys : List Str} (ho : JE G o Z (.str z) Z1) (he : JE G e Z1 (.lst (ys.map D.str)) Z2) (hz : (ys.map (·.length)).sum + ys.length * z.length ≤ 16777216) (hs : ∀ env, starEach [e] env = [(false, eval e env)] := by intro _; rfl) (hbase : ∀ env, attributeBase o "join" env (eval o env) = eval o env := by intro _; rfl) (hline : (apos.endLine == pos.line) = true := by rfl) :
    JE G (.Call (.Attribute o "join" apos) [e] [] pos) Z (.str (Txt.join z ys)) Z2 :=
  je_m1 (r := fun X x xs H Q => ∃ a p, ∃ ys : List Str, x = .str a ∧ xs = [.ref p] ∧ (SqL X.K H p (ys.map V.str) ∨ SqT X.K H p (ys.map V.str)) ∧ (ys.map (·.length)).sum + ys.length * a.length ≤ 16777216 ∧ Q (.str (Txt.join a ys)) H) F.slot_str_join F.type_str_join (fun _ _ => mt_join) ho he (fun X f B σ H v Q k r q => by
    obtain ⟨l, xs, rfl, nl, el, ra⟩ := r.inv_lst
    have ex : xs = ys.map V.str := rpa_map (fun b v r => r.inv_str) ra
    subst ex
    exact ⟨z, l, ys, rfl, rfl, .inl (.of el), hz, q _ H (Same.refl H) (.str _)⟩) hs hbase hline
/-- one sign in a text -/
theorem je_inSign {n : Nat} (ha : JE G a Z (.str ⟨#[n]⟩) Z1) (hb : JE G b Z1 (.str w) Z2) (hm : behindInMarks .In b = false := by rfl) : JE G (.Compare a [.In] [b] pos) Z (.bl (decide (n ∈ w.cps.toList))) Z2 :=
  je_cmp (r := fun _ x y H Q => ∃ (c : Nat) (z : Str), x = .str ⟨#[c]⟩ ∧ y = .str z ∧ Q (.bl (decide (c ∈ z.cps.toList))) H) (fun _ _ => op_in_sign) hm ha hb fun X f B σ H x y Q k r1 r2 q => ⟨n, w, r1.inv_str, r2.inv_str, q _ H k Kp.refl (.bl _)⟩
/-- == of texts -/
theorem r_eqS {t : Bool} (ht : decide (z = w) = t) : ∀ X : Cx, Fits G X → ∀ (B : Bs) (σ : St) (H : Hp) (x y : V) (Q : VK), Ok B Z σ H → Rp Z.S H x (.str z) → Rp Z.S H y (.str w) → (∀ v H', Ok B Z σ H' → Kp Z.S H Z.S H' → Rp Z.S H' v (.bl t) → Q v H') → rEq x y H Q :=
  fun X f B σ H x y Q k r1 r2 q => by
    cases r1.inv_str; cases r2.inv_str
    refine ⟨rfl, ?_⟩
    have e : decide (V.str z = V.str w) = t := by rw [← ht]; simp
    rw [e]
    exact q _ H k Kp.refl (.bl _)
theorem r_neS {t : Bool} (ht : (!decide (z = w)) = t) : ∀ X : Cx, Fits G X → ∀ (B : Bs) (σ : St) (H : Hp) (x y : V) (Q : VK), Ok B Z σ H → Rp Z.S H x (.str z) → Rp Z.S H y (.str w) → (∀ v H', Ok B Z σ H' → Kp Z.S H Z.S H' → Rp Z.S H' v (.bl t) → Q v H') → rNe x y H Q :=
  fun X f B σ H x y Q k r1 r2 q => by
    cases r1.inv_str; cases r2.inv_str
    refine ⟨rfl, ?_⟩
    have e : (!decide (V.str z = V.str w)) = t := by rw [← ht]; simp
    rw [e]
    exact q _ H k Kp.refl (.bl _)
theorem je_eqS (ha : JE G a Z (.str z) Z1) (hb : JE G b Z1 (.str w) Z2) : JE G (.Compare a [.Eq] [b] pos) Z (.bl (decide (z = w))) Z2 := je_cmp (r := fun _ => rEq) (fun _ _ => op_eq) (nomark _) ha hb (r_eqS rfl)
theorem jt_eqS (ha : JE G a Z (.str z) Z1) (hb : JE G b Z1 (.str w) Z2) : JT G (.Compare a [.Eq] [b] pos) Z (decide (z = w)) Z2 := jt_cmp (r := fun _ => rEq) (fun _ _ => op_eq) (nomark _) ha hb (r_eqS rfl)
theorem jt_neS (ha : JE G a Z (.str z) Z1) (hb : JE G b Z1 (.str w) Z2) : JT G (.Compare a [.NotEq] [b] pos) Z (!decide (z = w)) Z2 := jt_cmp (r := fun _ => rNe) (fun _ _ => op_ne) (nomark _) ha hb (r_neS rfl)
theorem str_len (u v : Str) : (u ++ v).length = u.length + v.length := Array.size_append
/-! f-strings -/
/-- the parts of an f-string -/
inductive JJ (G : Ctx) (Z : State) : List Expr → List Str → Prop
  | nil : JJ G Z [] []
  | cons {e : Expr} {es : List Expr} {y : Str} {ys : List Str} : JE G e Z (.str y) Z → JJ G Z es ys → JJ G Z (e :: es) (y :: ys)
theorem pj_W {X : Cx} : ∀ es : List Expr, PJ X es (es.map (wE X))
  | [] => .nil
  | _ :: es => .cons p_E (pj_W es)
theorem je_fmtI {i : Int} (h : JE G e Z (.int i) Z1) (hz : i.natAbs.log2 < 1920) : JE G (.FormattedValue e (-1) none pos) Z (.str (toString i)) Z1 := fun X f B σ H k Q q =>
  ⟨_, pe_fmt p_E, h X f B σ H k _ fun x H1 k1 p1 r1 => .inr ⟨i, r1.inv_int, hz, q _ H1 k1 p1 (.str _)⟩⟩
theorem je_fmtS (h : JE G e Z (.str z) Z1) (hz : z.length ≤ 100000) : JE G (.FormattedValue e (-1) none pos) Z (.str z) Z1 := fun X f B σ H k Q q =>
  ⟨_, pe_fmt p_E, h X f B σ H k _ fun x H1 k1 p1 r1 => .inl ⟨z, r1.inv_str, sz5 hz, q _ H1 k1 p1 (.str _)⟩⟩
theorem jj_run {X : Cx} (f : Fits G X) {ys : List Str} (h : JJ G Z es ys) : ∀ (acc : Str) (B : Bs) (σ : St) (H : Hp) (Q : Str → Hp → Prop), Ok B Z σ H → acc.length + (ys.map (·.length)).sum ≤ 100000 → (∀ H', Ok B Z σ H' → Kp Z.S H Z.S H' → Q (ys.foldl (· ++ ·) acc) H') → tJs (es.map (wE X)) acc σ H Q := by
  induction h with
  | nil => intro acc B σ H Q k _ q; exact q H k Kp.refl
  | @cons e es y ys he _ ih =>
    intro acc B σ H Q k hz q
    refine he X f B σ H k _ fun v H1 k1 p1 r1 => ?_
    have hl : (acc ++ y).length = acc.length + y.length := str_len acc y
    rw [List.map_cons, List.sum_cons] at hz
    exact ⟨y, r1.inv_str, by rw [hl]; exact sz5 (by omega), ih (acc ++ y) B σ H1 Q k1 (by rw [hl]; omega) fun H2 k2 p2 => q H2 k2 (p1.trans p2)⟩
theorem je_joined {v1 v2 : Expr} {ys : List Str} (h : JJ G Z (v1 :: v2 :: es) ys) (hz : (ys.map (·.length)).sum ≤ 100000) : JE G (.JoinedStr (v1 :: v2 :: es) pos) Z (.str (ys.foldl (· ++ ·) Str.empty)) Z := fun X f B σ H k Q q =>
  ⟨_, pe_joined (pj_W _), jj_run f h Str.empty B σ H _ k (by rw [show Str.empty.length = 0 from rfl]; omega) fun H1 k1 p1 => q _ H1 k1 p1 (.str _)⟩
theorem je_joined1 (h : JE G e Z d Z1) : JE G (.JoinedStr [e] pos) Z d Z1 := fun X f B σ H k Q q => ⟨_, pe_joined1 p_E, h X f B σ H k Q q⟩
end
end JL

namespace JL
open PySem PySem.Spec L2
/-! ### a caught error that is kept in a name -/
/-- at a stands an error of the class cls -/
def ExH (cls : Value) (a : Addr) : HO := .ext fun h => ∃ (oe : Obj) (vs : Array Value), h.get? a = some oe ∧ Zc cls none oe ∧ oe.data = .fields vs
theorem exH_ok {P : Program} {w : World} {H : Hp} {h : Heap} {a : Addr} {cls : Value} {oe : Obj} {vs : Array Value} (e : h.get? a = some oe) (z : Zc cls none oe) (d : oe.data = .fields vs) : ObjOk P w H h a (ExH cls a) :=
  ⟨⟨oe, vs, e, z, d⟩, ⟨oe, e⟩, fun _ _ hx k => by obtain ⟨o, v, q, r⟩ := hx; exact ⟨o, v, k o q, r⟩⟩
section
variable {X : Cx} {pins : List (Addr × Obj)} {σ : L2.St} {H : Hp} {s : Shared}
/-- a pinned thing, younger than the entry, is tracked from now on -/
theorem track {a : Addr} {oe : Obj} {φ : Heap → Prop} (I : Inv X ((a, oe) :: pins) σ H s) (h0 : X.s_0.heap.get? a = none) (hp : ∀ p ∈ X.pn ++ pins, p.1 ≠ a) (hx : ObjOk X.prog X.w (upd H a (.ext φ)) s.heap a (.ext φ)) : Inv X pins σ (upd H a (.ext φ)) s := by
  obtain ⟨ha, na, nL, nF, nc⟩ := I.pin (a, oe) (List.mem_append_right _ List.mem_cons_self)
  have ha : s.heap.get? a = some oe := ha
  have na : H a = none := na
  have up : ∀ b, b ≠ a → upd H a (.ext φ) b = H b := fun b hb => upd_ne hb
  have ub := I.base
  refine ⟨I.ok, I.os, I.bare, ⟨ub.keep, ub.slot, fun b o e n hx => ?_, ub.there, fun b xs e => ?_, fun b o u e => ?_, fun b ps e => ?_⟩, I.loc, I.cell, ?_, fun x c e => ?_, fun p m => ?_, ?_, I.len⟩
  · rw [up b fun z => by rw [z, h0] at e; cases e]
    exact ub.free b o e n hx
  · have q := ub.tups b xs e
    rw [up b (ne_of_none q na)]
    exact q
  · have q := ub.frzs b o u e
    rw [up b (ne_of_none q na)]
    exact q
  · obtain ⟨more, q⟩ := ub.tbls b ps e
    exact ⟨more, by rw [up b (ne_of_none q na)]; exact q⟩
  · rw [up _ (Ne.symm nL)]
    exact I.free
  · rw [up c fun z => by
      subst z
      obtain ⟨v, q⟩ := I.cell x c e
      obtain ⟨o', e', hc'⟩ := q
      rw [ha] at e'
      cases e'
      exact nc _ (by first | exact hc' | exact hc'.1 | exact hc'.2)]
    exact I.freeC x c e
  · have q := I.pin p (by
      rcases List.mem_append.mp m with z | z
      · exact List.mem_append_left _ z
      · exact List.mem_append_right _ (List.mem_cons_of_mem _ z))
    exact ⟨q.1, by rw [up _ (hp p m)]; exact q.2.1, q.2.2.1, q.2.2.2.1, q.2.2.2.2⟩
  · exact I.hok.laidN (fun _ _ e => e) na hx
/-- what the clause wishes: every error of the body is its own, and stays behind it at j -/
def wHeld (K : PySem.W.Frag) (c : Value) (i j : Nat) (D : Ends) : WX := fun cls d σ H => PySem.W.exmOne K cls c = some true ∧ d = none ∧ ∀ a, H a = none → D.nx (((σ.set i (some (.ref a))).set j (some (.ref a))).set i none) (upd H a (ExH cls a))
/-- try: body / except x as n: m = n -/
theorem ps_try_held {x n m : Str} {c : Value} {i j : Nat} {body : List Stmt} {np pos pos' p1 p2 p3 : Pos} {tb : WX → TS} (hs : X.stack = X.env :: X.outer) (hf : X.env.frame = some X.env.locals) (hex : X.ex = []) (hN : X.N.Nodup) (hi : X.N[i]? = some n) (hln : X.env.kindOf n = some .local)
    (hj : X.N[j]? = some m) (hlm : X.env.scope.names.lookup m = some .local) (hc : Names X x c) (hdn : (n == ("__debug__" : Str)) = false) (hcn : (n == ("__classdict__" : Str)) = false)
    (hb : ∀ (W : WX) (pn : List (Addr × Obj)) (xe : Value → Shared → Prop), Takes (X.tr pn xe) W → PassesOwn (model X.prog X.w) X.A X.env xe → PSs (X.tr pn xe) body (tb W)) :
    PS X (.Try body [.ExceptHandler (some (.Name x np)) (some n) [.Assign [.Name m p1] (.Name n p2) p3] pos'] [] [] pos) (fun D σ H => tb (wHeld X.K c i j D) D σ H) := by
  refine ⟨fun pins s σ H D I0 h0 => ?_⟩
  have ok := I0.ok
  have fr : X.A.frames = some (X.env :: X.outer) := by rw [ok.frames, hs]
  have lo : L2.Loc X.env.scope n := .inl hln
  refine wpAny_Try_except ?_
  refine wpAny_mono ((hb (wHeld X.K c i j D) (X.pn ++ pins) (fun er t1 => wpAny (model X.prog X.w) X.A (noteFrame er X.env) (fun _ t2 => wpAny (model X.prog X.w) X.A (setFlight er none) (fun _ t3 =>
    wpAny (model X.prog X.w) X.A (handleBy er X.env [.ExceptHandler (some (.Name x np)) (some n) [.Assign [.Name m p1] (.Name n p2) p3] pos']) (SP X pins D) X.xe t3) X.xe t2) X.xe t1) (fun u t xx => ?_) PassesOwn.looking).run [] s σ H D (I0.toTry _) h0) (fun fl t1 hsp => ?_) (fun er t1 he => he)
  · obtain ⟨a, Bg, t0, pins', σ', H', cls, d, rfl, J', nb, up, sky, na, os, ag, hb1, rfl, hyes⟩ := xx
    have J : Inv X pins σ' H' t0 := J'.ofTry ok
    have sky' : Sky Bg (X.env :: X.outer) a (Zc cls none) X.env.locals t.heap := by rw [← hs]; exact sky
    show wpAny (model X.prog X.w) X.A (noteFrame (.ref a) X.env) _ _ _
    refine Sky.land Zc.steady fr hf sky' fun g3 fl3 up3 => ?_
    have J3 : Inv X pins σ' H' { t with heap := g3 } := J.landed nb fl3.1 (up.trans up3) os ag
    obtain ⟨oe3, vs3, he3, hz3, hd3⟩ := fl3.there
    have nfr : a ∉ frs (X.env :: X.outer) := fun hm => by
      obtain ⟨_, o', e', hnf⟩ := fl3.2.2.1.mem hm
      rw [he3] at e'
      cases e'
      exact hnf _ hd3
    have nL : a ≠ X.env.locals := fun z => nfr (List.mem_filterMap.mpr ⟨X.env, List.mem_cons_self, by rw [hf, z]⟩)
    have nF : a ∉ X.fs := fun hm => by
      obtain ⟨en, hen, q⟩ := List.mem_filterMap.mp hm
      exact nfr (List.mem_filterMap.mpr ⟨en, List.mem_cons_of_mem _ hen, q⟩)
    have Ba : Bg.get? a = none := fl3.2.1
    have young : X.s_0.heap.get? a = none := by
      cases e : X.s_0.heap.get? a with
      | none => rfl
      | some o =>
        obtain ⟨o', e'⟩ := J.base.there a o e (by rw [hex]; simp)
        rw [nb a o' e' (by rw [hs]; exact nfr)] at Ba
        cases Ba
    have pne : ∀ p ∈ X.pn ++ pins, p.1 ≠ a := fun p hp z => by
      obtain ⟨q1, _, q3, q4, _⟩ := J.pin p hp
      rw [z] at q1 q3 q4
      have : a ∉ frs X.stack := by rw [hs]; exact nfr
      rw [nb a _ q1 this] at Ba
      cases Ba
    have S3 := J3.suite he3 hd3 na nL nF
    refine wpAny_handleBy_cons (codeAny_handlers_test ?_) (by intro q; cases q)
    have LT : PySem.W.Looks (model X.prog X.w) g3 (typeOf (.ref a)) cls := fun A Q E s k q => wpAny_typeOf_ref (k _ _ he3) (by rw [hz3.1]; exact q)
    have LM := PySem.W.exm_one (M := model X.prog X.w) (J3.kIn) LT hb1
    have test : ∀ {Q : Value → Shared → Prop} {E : Value → Shared → Prop}, Q c { t with heap := g3 } → wpAny (model X.prog X.w) (X.A.mark (some (.ref a))) (eval (.Name x np) X.env) Q E { t with heap := g3 } := fun {Q E} q => by
      obtain ⟨hg, hdbg, hm | ⟨hm, hv, hnn⟩⟩ := hc
      · exact ld_glob (X := X.suite a ((a, oe3) :: (X.pn ++ pins))) S3 hg hm q hdbg
      · exact ld_blt (X := X.suite a ((a, oe3) :: (X.pn ++ pins))) S3 hg hm hv q hnn hdbg
    refine test (LM.here ?_)
    refine codeAny_handlers_suite_as ?_
    refine HandSPX.lands_againZ fl3 fun g4 fl4 up4 => ?_
    have J4 : Inv X pins σ' H' { t with heap := g4 } := J.landed nb fl4.1 ((up.trans up3).trans up4) os ag
    obtain ⟨oe4, vs4, he4, hz4, hd4⟩ := fl4.there
    have S4 := J4.suite he4 hd4 na nL nF
    refine store_ok (X := X.suite a ((a, oe4) :: (X.pn ++ pins))) (v := .ref a) S4 hN hi lo rfl (fun s5 S5 => ?_) (.inr hln)
    have hbod : PSs (X.suite a ((a, oe4) :: (X.pn ++ pins))) [.Assign [.Name m p1] (.Name n p2) p3] (tAsg (tVar i) (gName j)) := pss_one (ps_set (i := j) hN hj (.inl hlm) (pe_var hi (.inl hln) hdn hcn) rfl (.inr hlm))
    have hlen : i < σ'.length := by
      rw [J.len]
      exact (List.getElem?_eq_some_iff.mp hi).1
    refine wpAny_mono (hbod.run [] s5 _ H' { nx := fun σ6 H6 => σ6 = (σ'.set i (some (.ref a))).set j (some (.ref a)) ∧ H6 = H', rt := fun _ _ => False } S5 ⟨.ref a, List.getElem?_set_self hlen, rfl, rfl⟩) (fun fl s6 hsp => ?_) (fun _ _ z => False.elim z)
    cases fl with
    | next =>
      obtain ⟨σ6, H6, S6, rfl, rfl⟩ := hsp
      have K6 : Inv X ((a, oe4) :: pins) ((σ'.set i (some (.ref a))).set j (some (.ref a))) H6 s6 :=
        ⟨ok, S6.os, S6.bare, S6.base, S6.loc, S6.cell, S6.free, S6.freeC, fun p hp => S6.pin p (by
          rw [List.append_nil]
          rcases List.mem_append.mp hp with z | z
          · exact List.mem_cons_of_mem _ (List.mem_append_left _ z)
          · rcases List.mem_cons.mp z with w | w
            · rw [w]; exact List.mem_cons_self
            · exact List.mem_cons_of_mem _ (List.mem_append_right _ w)), S6.hok, S6.len⟩
      refine gone_ok K6 hN hi hln fun s7 K7 => ?_
      obtain ⟨ha7, _⟩ := K7.pin (a, oe4) (List.mem_append_right _ List.mem_cons_self)
      exact ⟨_, _, track K7 young pne (exH_ok ha7 hz4 hd4), hyes a na⟩
    | brk => obtain ⟨_, _, _, z⟩ := hsp; exact z.elim
    | cont => obtain ⟨_, _, _, z⟩ := hsp; exact z.elim
    | ret u => obtain ⟨_, _, _, _, _, z⟩ := hsp; exact z.elim
  · cases fl with
    | next =>
      obtain ⟨σ', H', J', q⟩ := hsp
      exact wpAny_execs_nil ⟨σ', H', J'.ofTry ok, q⟩
    | brk =>
      obtain ⟨σ', H', J', q⟩ := hsp
      exact ⟨σ', H', J'.ofTry ok, q⟩
    | cont =>
      obtain ⟨σ', H', J', q⟩ := hsp
      exact ⟨σ', H', J'.ofTry ok, q⟩
    | ret u =>
      obtain ⟨v, σ', H', J', r, q⟩ := hsp
      exact ⟨v, σ', H', J'.ofTry ok, r, q⟩
/-- isinstance of such an error -/
def rIsH (K : PySem.W.Frag) : List V → Hp → VK → Prop := fun xs H Q => ∃ (a Dc : Addr) (c : V) (cv : Value) (b : Bool), xs = [.ref a, c] ∧ H a = some (ExH (.ref Dc) a) ∧ ExcC K Dc ∧ ClsV c cv ∧ PySem.W.kitOne K (.ref Dc) cv = some b ∧ Q (.bl b) H
theorem call_isH : CallR X (.builtin "isinstance") (rIsH X.K) := by
  intro pins s σ H xs us Q I r h
  obtain ⟨a, Dc, c, cv, b, rfl, ha, C, hcv, e, q⟩ := h
  obtain ⟨u1, u2, rfl, r1, r2⟩ := vals2 r
  have ec := hcv.eq r2
  subst ec
  cases (show u1 = Value.ref a from r1)
  obtain ⟨⟨oe, vs, hget, hz, hv⟩, _⟩ := I.hok a _ ha
  have Ji : PySem.W.InstAt s.heap a oe Dc none := by
    obtain ⟨oc, od, oda, osl⟩ := oe
    obtain ⟨h1, h2⟩ := hz
    dsimp only at h1 h2 hv
    subst h1 h2 hv
    exact ⟨hget, rfl, rfl, trivial⟩
  exact PySem.W.kia_one (PySem.W.handS_kitx_exc C.hg C.hk C.hs C.hd C.ha C.hn C.ht C.hm) I.kIn Ji e (fun z => nomatch z) fun tk => ⟨.bl b, H, I.kept (t' := tk) fun _ _ z => z, rfl, q⟩
/-- xs.count(y), flat items -/
def eqU (y : V) (u : Value) : Bool := match absV u with
  | some z => eqV z y
  | none => false
def rCount (K : PySem.W.Frag) : V → List V → Hp → VK → Prop := fun x xs H Q => ∃ (a : Addr) (ys : List V) (y : V), x = .ref a ∧ xs = [y] ∧ SqL K H a ys ∧ flatV y = true ∧ ys.all flatV = true ∧ Q (.int (ys.countP (fun z => eqV z y) : Nat)) H
theorem countP_vals {y : V} : ∀ {ys : List V} {us : List Value}, Vals ys us → us.countP (eqU y) = ys.countP fun z => eqV z y
  | _, _, .nil => rfl
  | z :: ys, u :: us, .cons r t => by
    have e : eqU y u = eqV z y := by unfold eqU; rw [r.abs]
    rw [List.countP_cons, List.countP_cons, countP_vals t, e]
theorem mt_countF : MtR X "list.count" (rCount X.K) := by
  intro pins s σ H x xs v us Q I rx rxs h
  obtain ⟨a, ys, y, rfl, rfl, hq, fy, fys, q⟩ := h
  cases rx
  obtain ⟨uy, rfl, ry⟩ := rxs.one
  obtain ⟨its, rv, ⟨⟨cls, dd, data, sl⟩, n, ho, hcl, hdn, hd⟩, hlen⟩ := I.list hq
  simp only at hcl hd
  subst hcl hd
  refine call_meets PySem.F.slot_list_count ⟨_, ho, rfl⟩ PySem.F.entry_list_count (PySem.F.args_list_count_2 _ _)
    (SeqAt.list_countAt a its.toArray n dd sl uy (eqU y)) ⟨ho, fun z hz => ?_, ?_⟩
  · obtain ⟨k, hk⟩ := List.getElem?_of_mem (show z ∈ its by simpa using hz)
    have hl := rv.length
    have hk2 : k < ys.length := by
      have := (List.getElem?_eq_some_iff.mp hk).1
      omega
    obtain ⟨u2, e2, r2⟩ := rv.get (List.getElem?_eq_getElem hk2)
    rw [hk] at e2
    cases e2
    have e : eqU y z = eqV ys[k] y := by unfold eqU; rw [r2.abs]
    rw [e]
    exact eqAt_V r2 ry (List.all_eq_true.mp fys _ (List.getElem_mem hk2)) fy
  · refine ⟨.int (ys.countP (fun z => eqV z y) : Nat), H, I.tok _, ⟨s.toks, ?_⟩, q⟩
    show Value.int ((its.toArray.toList.countP (eqU y) : Nat) : Int) s.toks = Value.int ((ys.countP (fun z => eqV z y) : Nat) : Int) s.toks
    have : its.toArray.toList = its := by simp
    rw [this, countP_vals rv]
end
end JL

namespace JL
open PySem PySem.Spec L2
/-! ### things of one's own, their changes -/
theorem Ok.mutRes {B : Bs} {Z : State} {σ : L2.St} {H H' : Hp} {i : Nat} {R : List Addr} {v : V} {P P' : Hp → Prop} (k : Ok B Z σ H) (h : Z.ρ[i]? = some (some (.res R v P))) (hk : ∀ b o, H b = some o → b ∉ R → H' b = some o) (hR : ∀ a ∈ R, ∃ o, H' a = some o ∧ ¬ Solid o) (hP : P' H') (hs : Sound R P') :
    Ok B ⟨Z.S, Z.ρ.set i (some (.res R v P'))⟩ σ H' ∧ Kp Z.S H Z.S H' := by
  obtain ⟨o0, e0, e1, hS, p0, s0⟩ := k.env i _ h
  subst e1
  have pr : Pres Z.S H H' := fun b o e n => hk b o e fun m => n (hS b m)
  have kp : Kp Z.S H Z.S H' := fun x c r => r.keep pr fun _ _ _ z => z
  have tp : ∀ b o, H b = some o → Solid o → H' b = some o := fun b o e n => hk b o e fun m => by
    obtain ⟨o', e', n'⟩ := k.dom b (hS b m)
    rw [e] at e'
    cases e'
    exact n' n
  refine ⟨⟨by simp [k.len], fun j ev e => ?_, fun j l e f h1 h2 a m1 m2 => ?_, fun j e h' a m => ?_, fun a m => ?_, fun b o e n => ?_, k.sub, fun b o e n => tp b o (k.tups b o e n) n, k.bsd, fun x c m => kp _ _ (k.kept x c m), fun a o m => ?_, k.msub, fun j q2 ds2 h' => (set_cases h').elim (fun z => by cases z.2.1) fun z => k.ownM j q2 ds2 z.2⟩, kp⟩
  · rcases set_cases e with ⟨rfl, rfl, hl'⟩ | ⟨hij, e⟩
    · exact ⟨_, e0, rfl, hS, hP, hs⟩
    · obtain ⟨o, h1, h2⟩ := k.env j ev e
      refine ⟨o, h1, ?_⟩
      have nf : ∀ a ∈ R, a ∉ ev.foot := fun a ma m => hij (k.sep i j _ ev h e a ma m)
      cases ev with
      | dat d => obtain ⟨v, e, r⟩ := h2; exact ⟨v, e, kp _ _ r⟩
      | own q2 ds2 =>
        obtain ⟨e, m, zs, hq, r⟩ := h2
        exact ⟨e, m, zs, hk _ _ hq fun m' => nf _ m' (List.mem_singleton.mpr rfl), kp.all r⟩
      | res R2 v2 P2 =>
        obtain ⟨e, m, p, sd⟩ := h2
        refine ⟨e, m, sd H _ p fun b o e hb => ?_, sd⟩
        rcases hb with hb | hb
        · exact hk _ _ e fun m' => nf _ m' hb
        · exact tp b o e hb
  · rcases set_cases h1 with ⟨rfl, rfl, _⟩ | ⟨n1, h1⟩
    · rcases set_cases h2 with ⟨rfl, rfl, _⟩ | ⟨n2, h2⟩
      · rfl
      · exact k.sep i l _ f h h2 a m1 m2
    · rcases set_cases h2 with ⟨rfl, rfl, _⟩ | ⟨n2, h2⟩
      · exact k.sep j i e _ h1 h a m1 m2
      · exact k.sep j l e f h1 h2 a m1 m2
  · rcases set_cases h' with ⟨rfl, rfl, _⟩ | ⟨_, h'⟩
    · exact k.mine i _ h a m
    · exact k.mine j e h' a m
  · by_cases z : a ∈ R
    · exact hR a z
    · obtain ⟨o, e, n⟩ := k.dom a m
      exact ⟨o, hk _ _ e z, n⟩
  · refine hk _ _ (k.out b o e n) fun m => ?_
    rcases k.mine i _ h b m with w | w
    · exact n w
    · rw [w] at e; cases e
  · obtain ⟨h1, h2, h3⟩ := k.held a o m
    refine ⟨h1, hk _ _ h2 fun z => h3 i _ h z, fun j e h' => ?_⟩
    rcases set_cases h' with ⟨hj, he, _⟩ | ⟨_, h'⟩
    · rw [he]; exact h3 i (.res R v P) h
    · exact h3 j e h'
/-- a new thing becomes slot i's -/
theorem Ok.newRes {B : Bs} {Z : State} {σ : L2.St} {H H' : Hp} (k : Ok B Z σ H) (i : Nat) {R : List Addr} {v : V} {P : Hp → Prop} (hk : Same H H') (hR : ∀ a ∈ R, H a = none ∧ ∃ o, H' a = some o ∧ ¬ Solid o) (hP : P H') (hs : Sound R P) :
    Ok B ⟨R ++ Z.S, Z.ρ.set i (some (.res R v P))⟩ (σ.set i (some v)) H' ∧ Kp Z.S H (R ++ Z.S) H' := by
  have kp : Kp Z.S H (R ++ Z.S) H' := fun x c r => r.keep (Pres.of_same hk) fun a o e m => by
    rcases List.mem_append.mp m with z | z
    · rw [(hR a z).1] at e; cases e
    · exact z
  have nS : ∀ a ∈ R, a ∉ Z.S := fun a m => k.fresh (hR a m).1
  refine ⟨⟨by simp [k.len], fun j ev e => ?_, fun j l e f h1 h2 a m1 m2 => ?_, fun j e h a m => ?_, fun a m => ?_, fun b o e n => hk _ _ (k.out b o e n), fun a m => List.mem_append_right _ (k.sub a m), fun b o e n => hk _ _ (k.tups b o e n), k.bsd, fun x c m => kp _ _ (k.kept x c m), fun a o m => ?_, fun a m => List.mem_append_right _ (k.msub a m), fun j q2 ds2 h => (set_cases h).elim (fun z => by cases z.2.1) fun z => k.ownM j q2 ds2 z.2⟩, kp⟩
  · rcases set_cases e with ⟨rfl, rfl, hl⟩ | ⟨hij, e⟩
    · rw [List.getElem?_set_self (by rw [← k.len]; exact hl)]
      exact ⟨_, rfl, rfl, fun a m => List.mem_append_left _ m, hP, hs⟩
    · rw [List.getElem?_set_ne hij]
      obtain ⟨o, h1, h2⟩ := k.env j ev e
      refine ⟨o, h1, ?_⟩
      cases ev with
      | dat d => obtain ⟨v, e, r⟩ := h2; exact ⟨v, e, kp _ _ r⟩
      | own q ds => obtain ⟨e, m, zs, hq, r⟩ := h2; exact ⟨e, List.mem_append_right _ m, zs, hk _ _ hq, kp.all r⟩
      | res R v P => obtain ⟨e, m, p, sd⟩ := h2; exact ⟨e, fun a z => List.mem_append_right _ (m a z), sd H _ p fun b o e _ => hk b o e, sd⟩
  · rcases set_cases h1 with ⟨rfl, rfl, _⟩ | ⟨n1, h1⟩
    · rcases set_cases h2 with ⟨rfl, rfl, _⟩ | ⟨n2, h2⟩
      · rfl
      · exact absurd (k.footS h2 _ m2) (nS a m1)
    · rcases set_cases h2 with ⟨rfl, rfl, _⟩ | ⟨n2, h2⟩
      · exact absurd (k.footS h1 _ m1) (nS a m2)
      · exact k.sep j l e f h1 h2 a m1 m2
  · rcases set_cases h with ⟨rfl, rfl, _⟩ | ⟨_, h⟩
    · by_cases hm : a ∈ B.M
      · exact .inl hm
      · refine .inr ?_
        cases e : B.H a with
        | none => rfl
        | some o => have z := (hR a m).1; rw [k.out a o e hm] at z; cases z
    · exact k.mine j e h a m
  · rcases List.mem_append.mp m with z | z
    · exact (hR a z).2
    · obtain ⟨o, e, n⟩ := k.dom a z
      exact ⟨o, hk _ _ e, n⟩
  · obtain ⟨h1, h2, h3⟩ := k.held a o m
    refine ⟨List.mem_append_right _ h1, hk _ _ h2, fun j e h => ?_⟩
    rcases set_cases h with ⟨hj, he, _⟩ | ⟨_, h⟩
    · rw [he]
      intro z
      rw [(hR a z).1] at h2
      cases h2
    · exact h3 j e h
/-- what a def starts with -/
theorem ok_start {N : List Str} {S M : List Addr} {H : Hp} {vs : List V} {evs : List EV} (hl : vs.length = evs.length) (hN : evs.length ≤ N.length) (h : ∀ (i : Nat) v ev, vs[i]? = some v → evs[i]? = some ev → EvOk S H (some v) ev)
    (sep : ∀ (i j : Nat) e f, evs[i]? = some e → evs[j]? = some f → ∀ a, a ∈ e.foot → a ∈ f.foot → i = j) (mine : ∀ e ∈ evs, ∀ a ∈ e.foot, a ∈ M) (no : ∀ e ∈ evs, ∀ q ds, e ≠ .own q ds) (dm : Dom S H) (hM : ∀ a ∈ M, a ∈ S) :
    Ok ⟨H, M, S, fun _ _ => False, fun _ _ => False⟩ ⟨S, evs.map some ++ List.replicate (N.length - evs.length) none⟩ (L2.start N vs) H := by
  have key : ∀ (i : Nat) (ev : EV), (evs.map some ++ List.replicate (N.length - evs.length) none)[i]? = some (some ev) → evs[i]? = some ev := fun i ev e => by
    by_cases hi : i < evs.length
    · rw [List.getElem?_append_left (by simpa using hi), List.getElem?_map] at e
      cases q : evs[i]? with
      | none => rw [q] at e; cases e
      | some d => rw [q] at e; cases e; rfl
    · rw [List.getElem?_append_right (by simpa using hi), List.getElem?_replicate] at e
      split at e <;> cases e
  refine ⟨?_, fun i ev e => ?_, fun i j e f h1 h2 => sep i j e f (key i e h1) (key j f h2), fun i e h1 a m => .inl (mine e (List.mem_of_getElem? (key i e h1)) a m), dm, fun b o e _ => e, fun a m => m, fun b o e _ => e, fun a m => by obtain ⟨o, e, _⟩ := dm a m; exact ⟨o, e⟩, fun _ _ m => m.elim, fun _ _ m => m.elim, hM, fun i q ds e => absurd rfl (no _ (List.mem_of_getElem? (key i _ e)) q ds)⟩
  · simp [L2.start, hl]
  · have e1 := key i ev e
    have hi : i < evs.length := (List.getElem?_eq_some_iff.mp e1).1
    have hv : i < vs.length := by omega
    have ev2 : vs[i]? = some vs[i] := List.getElem?_eq_getElem hv
    refine ⟨some vs[i], ?_, h i _ ev ev2 e1⟩
    unfold L2.start
    rw [List.getElem?_append_left (by simpa using hv), List.getElem?_map, ev2]
    rfl
/-- only a return is wanted -/
def postRt (f : State → D → Prop) : OutS → Prop
  | .rt Z d => f Z d
  | _ => False
def postNx (f : State → Prop) : OutS → Prop
  | .nx Z => f Z
  | _ => False
theorem js_mid {G : Ctx} {st : Stmt} {rest : List Stmt} {Z : State} {P : OutS → Prop} (f : State → Prop) (h : JS G st Z (postNx f)) (k : ∀ Z1, f Z1 → JSs G rest Z1 P) : JSs G (st :: rest) Z P :=
  js_cons (h.imp fun o ho => by
    cases o with
    | nx Z1 => exact k Z1 ho
    | rt _ _ => exact ho.elim
    | ex _ _ => exact ho.elim
    | bk _ => exact ho.elim
    | ct _ => exact ho.elim)
theorem ends_rt {B : Bs} {W : WX} {f : State → D → Prop} {Q : VK} {N : L2.St → Hp → Prop} (h : ∀ Z d v σ H, f Z d → Ok B Z σ H → Rp B.S H v d → Q v H) : EndsOk B W { nx := N, rt := Q } (postRt f) :=
  ⟨fun _ _ _ z => z.elim, fun Z d v σ H p k r => h Z d v σ H p k r, fun _ _ _ _ z => z.elim, fun _ _ _ z => z.elim, fun _ _ _ z => z.elim⟩
/-! ### defs with a promise of their own -/
structure DefS (g : Glob) (x : Str) (k : Nat) (sp : Sp) : Prop where
  ex : ∃ f fd ps, FnOk g.P g.w g.K g.mg g.base (L2.CX g.P g.w) k f fd ps sp ∧ g.mg x = some (.ref f) ∧ PySem.W.keepIn g.K (.ref f) = true ∧ Binds g.K fd ps []
abbrev DefAt (g : Glob) (x : Str) (st : Stmt) : Prop := ∃ f fd, g.mg x = some (.ref f) ∧ FunD g.K x x (defArgs st) (defBody st) (defScope st) [] [] f fd
theorem defs_at {g : Glob} {x : Str} {st : Stmt} {N ps : List Str} {k : Nat} {sp : Sp} (h : DefAt g x st) (S : FnScope N ps (defScope st))
    (hb : ∀ (kV doc pm : Value) (an : Option Addr) (cdv ct : Value) (us : List Value), us.length = ps.length → bindArgs (PySem.W.fnOf x x (defArgs st) (defBody st) (defScope st) .none kV doc pm an cdv ct) ⟨us, []⟩ = pure (ps.zip us))
    (len : ∀ vs H Q E, sp vs H Q E → vs.length = ps.length)
    (body : ∀ vs H Q (E : XK), sp vs H Q E → ∃ B Z P, Ok B Z (L2.start N vs) H ∧ EndsOk B (fun cls d _ H => E cls d H) { nx := fun _ H' => Q .non H', rt := Q } P ∧ JSs ⟨g, N, defScope st, k, fun _ => true, true⟩ (defBody st) Z P) : DefS g x (k + 1) sp := by
  obtain ⟨f, fd, hm, F⟩ := h
  refine ⟨f, fd, ps, ?_, hm, F.kp, F.bindsN hb⟩
  refine F.ok S len (fun cdv A outer s H vs Q E hr hsp => ?_)
  obtain ⟨B, Z, P, k0, en, bd⟩ := body vs H Q E hsp
  exact bd _ (fits_cx S.nd hr) B _ H k0 (fun cls d _ H => E cls d H) _ (takes_of rfl rfl rfl rfl) en
theorem def_at {g : Glob} {x : Str} {st : Stmt} {N ps : List Str} {k : Nat} {R : List D → Out → Prop} (h : DefAt g x st) (S : FnScope N ps (defScope st))
    (hb : ∀ (kV doc pm : Value) (an : Option Addr) (cdv ct : Value) (us : List Value), us.length = ps.length → bindArgs (PySem.W.fnOf x x (defArgs st) (defBody st) (defScope st) .none kV doc pm an cdv ct) ⟨us, []⟩ = pure (ps.zip us))
    (body : ∀ (T : List Addr) (ds : List D) (o : Out), R ds o → ds.length = ps.length → JSs ⟨g, N, defScope st, k, fun _ => true, true⟩ (defBody st) ⟨T, rho0 N ds⟩ (Post o)) : Def g x ps.length (k + 1) R := by
  obtain ⟨f, fd, hm, F⟩ := h
  exact def_mk hm F S hb body
section
variable {G : Ctx} {Z Z1 Z2 Z3 : State} {a b c e : Expr} {es : List Expr} {ds : List D} {pos p : Pos} {d d1 d2 : D} {x : Str} {n k : Nat}
theorem je_ifP {t : Bool} (hc : JT G c Z t Z1) (ha : t = true → JE G a Z1 d Z1) (hb : t = false → JE G b Z1 d Z1) : JE G (.IfExp c a b pos) Z d Z1 := je_if hc ha hb
theorem je_eff {sp : Sp} (F : DefS G.g x k sp) (hk : k ≤ G.k) (ha : JA G (e :: es) Z ds Z1) (h : ∀ B σ H vs (Q : VK), Ok B Z1 σ H → RpA Z1.S H vs ds → (∀ v H', Ok B Z2 σ H' → Kp Z1.S H Z2.S H' → Rp Z2.S H' v d → Q v H') → sp vs H Q E0) (hg : glB G.sc x = true := by kernel_rfl)
    (he : ∀ env, starEach (e :: es) env = (false, eval e env) :: starEach es env := by intro _; rfl) (hpl : ∀ env, (backTo pos (starEach es env)).any (·.1) = false := by intro _; rfl) : JE G (.Call (.Name x p) (e :: es) [] pos) Z d Z2 := by
  intro X f B σ H kk Q q
  obtain ⟨fa, fd, ps, FK, hm, kp, bs⟩ := F.ex
  obtain ⟨h1, h2, _⟩ := gl_of f hg
  refine ⟨_, pe_call (fnX f FK) (f.room.mono hk) h1 (by rw [f.mg]; exact hm) (by rw [f.K]; exact kp) (by rw [f.K]; exact bs) .nil (E := E0) passL p_A h2 (he _) (hpl _), ?_⟩
  refine ha X f B σ H kk _ fun vs H1 k1 p1 r1 => ?_
  rw [List.append_nil]
  exact h B σ H1 vs Q k1 r1 fun v H2 k2 p2 r2 => q v H2 k2 (p1.trans p2) r2
/-- a thing's name -/
theorem nmR (i : Nat) {R : List Addr} {q : Addr} {P : Hp → Prop} (h : Z.ρ[i]? = some (some (.res R (.ref q) P))) (hn : nmB G.N G.sc i x = true := by kernel_rfl) : JE G (.Name x pos) Z (.ref q) Z := by
  intro X f B σ H k Q qq
  simp only [nmB, Bool.and_eq_true, decide_eq_true_eq, Bool.not_eq_true'] at hn
  obtain ⟨h1, h2, h3, h4⟩ := hn
  obtain ⟨o, e, e1, _⟩ := k.env i _ h
  subst e1
  exact ⟨tVar i, pe_var (by rw [f.N]; exact h1) (by rw [f.sc]; exact vis_of h2) h3 h4, .ref q, e, qq _ H k Kp.refl (.ref q)⟩
end
/-! ### the script and the town -/
/-- the script: at a, the ints ns: a thing known as it lies, or one of the written part -/
def ScrIn (K : PySem.W.Frag) (H : Hp) (a : Addr) (ns : List Int) : Prop := (∃ o, H a = some (.frz o (.lst (ns.map V.int)))) ∨
  ∃ (o : Obj) (its : Array Value) (n : Nat), K.lookup a = some o ∧ o.cls = .type "list" ∧ o.dict = none ∧ o.data = .seq its n ∧ its.size ≤ sizeLine ∧ Vals (ns.map V.int) its.toList
theorem ScrIn.sq {K : PySem.W.Frag} {H : Hp} {a : Addr} {ns : List Int} (h : ScrIn K H a ns) : SqL K H a (ns.map V.int) := h.elim (fun ⟨o, e⟩ => .inl (.inr ⟨o, e⟩)) .inr
theorem ScrIn.keep {K : PySem.W.Frag} {H H' : Hp} {a : Addr} {ns : List Int} (h : ScrIn K H a ns) (k : ∀ b o, H b = some o → Solid o → H' b = some o) : ScrIn K H' a ns := h.elim (fun ⟨o, e⟩ => .inl ⟨o, k _ _ e trivial⟩) .inr
theorem scrIn_of {K : PySem.W.Frag} {H : Hp} {a : Addr} {ns : List Int} (hO : Only H) (h : SqL K H a (ns.map V.int)) : ScrIn K H a ns := by
  rcases h with (h | ⟨o, h⟩) | h
  · rcases hO a with e | ⟨o, xs, e⟩
    · rw [h] at e; cases e
    · rw [h] at e; cases e
  · exact .inl ⟨o, h⟩
  · exact .inr h
abbrev scr (a : Addr) (K : PySem.W.Frag) (ns : List Int) : EV := .res [] (.ref a) fun H => ScrIn K H a ns
/-- the town: at q, the ints ts -/
abbrev twn (q : Addr) (ts : List Int) : EV := .res [q] (.ref q) fun H => H q = some (.lst (ts.map V.int))
theorem scr_sound {a : Addr} {K : PySem.W.Frag} {ns : List Int} : Sound [] fun H => ScrIn K H a ns := fun _ _ e h => e.keep fun b o q s => h b o q (.inr s)
theorem twn_sound {q : Addr} {ts : List Int} : Sound [q] fun H => H q = some (.lst (ts.map V.int)) := fun _ _ e h => h q _ e (.inl (List.mem_singleton.mpr rfl))
section
variable {G : Ctx} {Z Z1 Z2 Z3 : State} {b c e : Expr} {es : List Expr} {ds : List D} {pos pos' p p2 : Pos} {d d1 d2 : D} {x : Str} {n k : Nat} {P : OutS → Prop} {a q : Addr} {ns ts : List Int}
theorem pe_slot {X : Cx} (f : Fits G X) {i : Nat} (hn : nmB G.N G.sc i x = true) : PE X (.Name x pos) (tVar i) := by
  simp only [nmB, Bool.and_eq_true, decide_eq_true_eq, Bool.not_eq_true'] at hn
  obtain ⟨h1, h2, h3, h4⟩ := hn
  exact pe_var (by rw [f.N]; exact h1) (by rw [f.sc]; exact vis_of h2) h3 h4
theorem dpAll_ints {K : PySem.W.Frag} {H : Hp} : ∀ ns : List Int, DpAll K H (ns.map V.int) (ns.map PyData.int)
  | [] => .nil
  | n :: ns => .cons (.int n) (dpAll_ints ns)
theorem lay_ints : ∀ ns : List Int, PyData.canLayAll0 (ns.map PyData.int) = true ∧ PyData.depthAll (ns.map PyData.int) = 0
  | [] => ⟨rfl, rfl⟩
  | n :: ns => by
    obtain ⟨h1, h2⟩ := lay_ints ns
    refine ⟨by show (true && PyData.canLayAll0 (ns.map PyData.int)) = true; rw [h1]; rfl, by show max 0 (PyData.depthAll (ns.map PyData.int)) = 0; rw [h2]; rfl⟩
/-- script == [] -/
theorem jt_scrNil (i : Nat) (h : Z.ρ[i]? = some (some (scr a G.g.K ns))) (hn : nmB G.N G.sc i x = true := by kernel_rfl) : JT G (.Compare (.Name x p) [.Eq] [.List [] p2] pos) Z (decide (ns = [])) Z := by
  intro X f B σ H k Q qq
  obtain ⟨o0, e0, e1, _, hp, _⟩ := k.env i _ h
  subst e1
  refine ⟨_, pt_cmpR (op_eqD f.room.units) (pe_slot f hn) (pe_lst pa_nil) (nomark _), .ref a, e0, Nat.zero_le _, fun l nl => ?_⟩
  have s := same_upd (o := .lst []) nl
  refine ⟨.list (ns.map PyData.int), .list [], .lst (by rw [f.K]; exact (hp.keep fun b o e _ => s b o e).sq) (dpAll_ints ns), .lst (.of upd_same) .nil, ?_, rfl, _, rfl, ?_⟩
  · obtain ⟨h1, h2⟩ := lay_ints ns
    show (PyData.canLayAll0 (ns.map PyData.int) && decide (PyData.depthAll (ns.map PyData.int) + 1 ≤ 64)) = true
    rw [h1, h2]
    rfl
  · have e : PyData.eqv (.list (ns.map PyData.int)) (.list []) = decide (ns = []) := by
      cases ns with
      | nil => rfl
      | cons n ns => show false = _; simp
    rw [e]
    exact qq _ (k.same s) (Kp.same s)
/-- len(script) -/
theorem je_scrLen (B : Bi G.g) (i : Nat) (h : Z.ρ[i]? = some (some (scr a G.g.K ns))) (hn : nmB G.N G.sc i x = true := by kernel_rfl) (hg : glB G.sc "len" = true := by kernel_rfl) : JE G (.Call (.Name "len" p2) [.Name x p] [] pos) Z (.int ns.length) Z := by
  intro X f B2 σ H k Q qq
  obtain ⟨o0, e0, e1, _, hp, _⟩ := k.env i _ h
  subst e1
  obtain ⟨h1, h2, h3⟩ := gl_of f hg
  refine ⟨_, pe_callB call_len_seq h1 (by rw [f.mg]; exact B.len_) PySem.boot_len (pa_cons (pe_slot f hn) pa_nil) h3 h2, .ref a, e0, a, ns.map V.int, rfl, .inl (by rw [f.K]; exact hp.sq), ?_⟩
  rw [List.length_map]
  exact qq _ H k Kp.refl (.int _)
theorem atI_map {α β : Type} (f : α → β) {xs : List α} {j : Int} {v : α} (h : atI xs j = some v) : atI (xs.map f) j = some (f v) := by
  unfold atI at h ⊢
  rw [List.length_map]
  cases q : ixN xs.length j with
  | none => rw [q] at h; cases h
  | some l =>
    rw [q] at h
    show (xs.map f)[l]? = _
    rw [List.getElem?_map, show xs[l]? = some v from h]
    rfl
/-- script[j] -/
theorem je_scrIx (i : Nat) {j m : Int} (hb : JE G b Z (.int j) Z) (h : Z.ρ[i]? = some (some (scr a G.g.K ns))) (hm : atI ns j = some m) (hn : nmB G.N G.sc i x = true := by kernel_rfl) (hs : PlainIx b := by intro _ _; rfl) : JE G (.Subscript (.Name x p) b pos) Z (.int m) Z := by
  intro X f B σ H k Q qq
  obtain ⟨o0, e0, e1, _, _⟩ := k.env i _ h
  subst e1
  refine ⟨_, pe_ix ix_list (pe_slot f hn) p_E hs, .ref a, e0, hb X f B σ H k _ fun y H2 k2 p2 r2 => ?_⟩
  obtain ⟨o1, e2, e3, _, hp, _⟩ := k2.env i _ h
  exact ⟨a, ns.map V.int, j, .int m, rfl, r2.inv_int, by rw [f.K]; exact hp.sq, atI_map V.int hm, qq _ H2 k2 p2 (.int _)⟩
/-- town[j] -/
theorem je_twIx (i : Nat) {j m : Int} (hb : JE G b Z (.int j) Z) (h : Z.ρ[i]? = some (some (twn q ts))) (hm : atI ts j = some m) (hn : nmB G.N G.sc i x = true := by kernel_rfl) (hs : PlainIx b := by intro _ _; rfl) : JE G (.Subscript (.Name x p) b pos) Z (.int m) Z := by
  intro X f B σ H k Q qq
  obtain ⟨o0, e0, e1, _, _⟩ := k.env i _ h
  subst e1
  refine ⟨_, pe_ix ix_list (pe_slot f hn) p_E hs, .ref q, e0, hb X f B σ H k _ fun y H2 k2 p2 r2 => ?_⟩
  obtain ⟨o1, e2, e3, _, hp, _⟩ := k2.env i _ h
  exact ⟨q, ts.map V.int, j, .int m, rfl, r2.inv_int, .of hp, atI_map V.int hm, qq _ H2 k2 p2 (.int _)⟩
end
end JL

namespace JL
open PySem PySem.Spec L2
section
variable {G : Ctx} {Z Z1 Z2 Z3 : State} {a b c e : Expr} {es : List Expr} {ds : List D} {pos pos' p p2 : Pos} {d d1 d2 : D} {x : Str} {n k : Nat} {P : OutS → Prop} {q : Addr} {ns ts : List Int} {i j : Int}
theorem je_pow (ha : JE G a Z (.int i) Z1) (hb : JE G b Z1 (.int j) Z2) (hc : CPow i j) : JE G (.BinOp a .Pow b pos) Z (.int (i ^ j.toNat)) Z2 := je_bin (fun _ _ => op_pow) ha hb (r_I hc fun _ _ => .int _)
/-- town[j] = e -/
theorem js_twSet (s : Nat) {j m : Int} {l : Nat} (he : JE G e Z (.int m) Z) (hb : JE G b Z (.int j) Z) (h : Z.ρ[s]? = some (some (twn q ts))) (hm : ixN ts.length j = some l) (hp : P (.nx ⟨Z.S, Z.ρ.set s (some (twn q (ts.set l m)))⟩)) (hn : nmB G.N G.sc s x = true := by kernel_rfl)
    (ha : ∀ env v, assign (.Subscript (.Name x p) b p2) env v = (do
      let ov ← holding [v] (eval (.Name x p) env)
      let iv ← holding [v, ov] (eval b env)
      standAt p2
      holding [v, ov, iv] (setItem ov iv v)
      release [v, ov, iv] []) := by intro _ _; rfl)
    (hs : ∀ env, swapsWithSole [.Subscript (.Name x p) b p2] e pos.line env = pure false := by intro _; rfl) (hw : ∀ env, swappedStores [.Subscript (.Name x p) b p2] e env = pure none := by intro _; rfl)
    (h1 : ∀ env, (assignEach [.Subscript (.Name x p) b p2] env).map (·.2) = [assign (.Subscript (.Name x p) b p2) env] := by intro _; rfl) : JS G (.Assign [.Subscript (.Name x p) b p2] e pos) Z P := by
  intro X f B σ H k W E tk en
  refine ⟨_, ps_asg p_E (pg_sub (pe_slot f hn) p_E set_list (ha _)) (hs _) (hw _) (h1 _), he X f B σ H k _ fun v H1 k1 p1 r1 => ?_⟩
  obtain ⟨o0, e0, e1, _⟩ := k1.env s _ h
  subst e1
  refine ⟨.ref q, e0, hb X f B σ H1 k1 _ fun y H2 k2 p2 r2 => ?_⟩
  obtain ⟨o1, e2, e3, _, hq, _⟩ := k2.env s _ h
  cases r1.inv_int
  cases r2.inv_int
  refine ⟨q, ts.map V.int, j, l, rfl, rfl, hq, by rw [List.length_map]; exact hm, ?_⟩
  have el : (ts.map V.int).set l (V.int m) = (ts.set l m).map V.int := by rw [List.map_set]
  rw [el]
  obtain ⟨k3, _⟩ := k2.mutRes (H' := upd H2 q (.lst ((ts.set l m).map V.int))) (P' := fun H => H q = some (.lst ((ts.set l m).map V.int))) h (fun b o e n => by
    rw [upd_ne (fun z => n (List.mem_singleton.mpr z))]
    exact e) (fun a m' => by rw [List.mem_singleton.mp m']; exact ⟨_, upd_same, fun z => z⟩) upd_same twn_sound
  exact en.nx _ _ _ hp k3
end
/-! ### a draw -/
def drawAt (ns : List Int) (c : Int) : Nat := (c % ns.length).toNat
def drawR (ns ts : List Int) (lim : Int) : Int × List Int :=
  let c := ts.headD 0 + 1
  let t1 := ts.set 0 c
  if ns = [] then (c * c * 7 / 3 % lim, t1)
  else
    let s := ns.getD (drawAt ns c) 0
    let left := t1.getD (1 + drawAt ns c) 0
    if 10 ^ 18 ≤ s ∧ 0 < left then (left % lim, t1.set (1 + drawAt ns c) (left / lim))
    else
      let n1 := (s + 104729 * c) % 4294967291
      let n2 := n1 ^ 5 % 4294967279
      ((n2 / 64 * 69621 + n2) % 4294967231 / 8 % lim, t1)
/-- a town that fits, after at most m draws -/
structure TownOk (ns ts : List Int) (m : Nat) : Prop where
  len : ts.length = ns.length + 1
  lo : 0 ≤ ts.headD 0
  hi : ts.headD 0 ≤ m
theorem headD_set {ts : List Int} {c : Int} (h : 0 < ts.length) : (ts.set 0 c).headD 0 = c := by
  cases ts with
  | nil => simp at h
  | cons t ts => rfl
theorem headD_setS {ts : List Int} {c : Int} {j : Nat} : (ts.set (1 + j) c).headD 0 = ts.headD 0 := by
  cases ts with
  | nil => rfl
  | cons t ts => rw [Nat.add_comm]; rfl
theorem TownOk.next {ns ts : List Int} {m : Nat} {lim : Int} (h : TownOk ns ts m) : TownOk ns (drawR ns ts lim).2 (m + 1) := by
  have hl := h.len
  have h0 : 0 < ts.length := by omega
  have h1 := h.lo
  have h2 := h.hi
  unfold drawR
  dsimp only
  split
  · exact ⟨by simpa using hl, by rw [headD_set h0]; omega, by rw [headD_set h0]; omega⟩
  · split
    · refine ⟨by simpa using hl, ?_, ?_⟩
      · rw [headD_setS, headD_set h0]; omega
      · rw [headD_setS, headD_set h0]; omega
    · exact ⟨by simpa using hl, by rw [headD_set h0]; omega, by rw [headD_set h0]; omega⟩
theorem draw_lo {ns ts : List Int} {lim : Int} (h : 0 < lim) : 0 ≤ (drawR ns ts lim).1 ∧ (drawR ns ts lim).1 < lim := by
  unfold drawR
  dsimp only
  split
  · exact ⟨Int.emod_nonneg _ (by omega), Int.emod_lt_of_pos _ h⟩
  · split
    · exact ⟨Int.emod_nonneg _ (by omega), Int.emod_lt_of_pos _ h⟩
    · exact ⟨Int.emod_nonneg _ (by omega), Int.emod_lt_of_pos _ h⟩
/-- what a draw gives: a number below the limit, a town that fits -/
theorem draw_ex {ns ts : List Int} {m : Nat} {lim : Int} (t : TownOk ns ts m) (h : 0 < lim) : ∃ r ts', drawR ns ts lim = (r, ts') ∧ 0 ≤ r ∧ r < lim ∧ TownOk ns ts' (m + 1) :=
  ⟨(drawR ns ts lim).1, (drawR ns ts lim).2, rfl, (draw_lo h).1, (draw_lo h).2, t.next⟩
def spDraw (K : PySem.W.Frag) : Sp := fun vs H Q E => ∃ (a q : Addr) (ns ts : List Int) (lim : Int) (m : Nat), vs = [.ref a, .ref q, .int lim] ∧ ScrIn K H a ns ∧ H q = some (.lst (ts.map V.int)) ∧ TownOk ns ts m ∧ m ≤ 1000000 ∧ 0 < lim ∧ lim ≤ 1000000 ∧
  ∀ H', (∀ b ob, H b = some ob → b ≠ q → H' b = some ob) → H' q = some (.lst ((drawR ns ts lim).2.map V.int)) → Q (.int (drawR ns ts lim).1) H'
/-- _law_draw(script, town, e) -/
theorem je_draw {G : Ctx} {Z Z1 : State} {e1 e2 e3 : Expr} {p pos : Pos} {k : Nat} {a q : Addr} {ns ts ts' : List Int} {lim r : Int} {m : Nat} (F : DefS G.g "_law_draw" k (spDraw G.g.K)) (hk : k ≤ G.k) (is it : Nat) (ha : JA G [e1, e2, e3] Z [.ref a, .ref q, .int lim] Z1) (hs : Z1.ρ[is]? = some (some (scr a G.g.K ns))) (ht : Z1.ρ[it]? = some (some (twn q ts)))
    (t : TownOk ns ts m) (hr : drawR ns ts lim = (r, ts')) (hl : 0 < lim ∧ lim ≤ 1000000 := by omega) (hm : m ≤ 1000000 := by omega) (hg : glB G.sc "_law_draw" = true := by kernel_rfl)
    (he : ∀ env, starEach [e1, e2, e3] env = (false, eval e1 env) :: starEach [e2, e3] env := by intro _; rfl) (hpl : ∀ env, (backTo pos (starEach [e2, e3] env)).any (·.1) = false := by intro _; rfl) :
    JE G (.Call (.Name "_law_draw" p) [e1, e2, e3] [] pos) Z (.int r) ⟨Z1.S, Z1.ρ.set it (some (twn q ts'))⟩ :=
  je_eff F hk ha (fun B σ H vs Q k1 r1 qq => by
    obtain ⟨v1, v2, v3, rfl⟩ : ∃ v1 v2 v3, vs = [v1, v2, v3] := by
      have := r1.1
      match vs, this with
      | [v1, v2, v3], _ => exact ⟨v1, v2, v3, rfl⟩
    cases r1.head.inv_ref
    cases r1.tail.head.inv_ref
    cases r1.tail.tail.head.inv_int
    obtain ⟨_, _, _, _, hp1, _⟩ := k1.env is _ hs
    obtain ⟨_, _, _, _, hp2, _⟩ := k1.env it _ ht
    refine ⟨a, q, ns, ts, lim, m, rfl, hp1, hp2, t, hm, hl.1, hl.2, fun H' h1 h2 => ?_⟩
    rw [hr] at h2
    obtain ⟨k2, kp⟩ := k1.mutRes (H' := H') (P' := fun H => H q = some (.lst (ts'.map V.int))) ht (fun b o e n => h1 b o e fun z => n (List.mem_singleton.mpr z)) (fun a m' => by rw [List.mem_singleton.mp m']; exact ⟨_, h2, fun z => z⟩) h2 twn_sound
    have := qq (.int r) H' k2 kp (.int r)
    rw [hr]
    exact this) hg he hpl
end JL

namespace JL
open PySem PySem.Spec L2
/-- a def by its reading -/
theorem defs_raw {g : Glob} {x : Str} {st : Stmt} {N ps : List Str} {k : Nat} {sp : Sp} (h : DefAt g x st) (S : FnScope N ps (defScope st))
    (hb : ∀ (kV doc pm : Value) (an : Option Addr) (cdv ct : Value) (us : List Value), us.length = ps.length → bindArgs (PySem.W.fnOf x x (defArgs st) (defBody st) (defScope st) .none kV doc pm an cdv ct) ⟨us, []⟩ = pure (ps.zip us))
    (len : ∀ vs H Q E, sp vs H Q E → vs.length = ps.length)
    (body : ∀ (X : Cx) vs H Q (E : XK), Fits ⟨g, N, defScope st, k, fun _ => true, true⟩ X → Takes X (fun cls d _ H => E cls d H) → X.stack = X.env :: X.outer → X.env.frame = some X.env.locals → X.ex = [] → sp vs H Q E → wSs X (defBody st) { nx := fun _ H' => Q .non H', rt := Q } (L2.start N vs) H) : DefS g x (k + 1) sp := by
  obtain ⟨f, fd, hm, F⟩ := h
  refine ⟨f, fd, ps, ?_, hm, F.kp, F.bindsN hb⟩
  exact F.ok S len (fun cdv A outer s H vs Q E hr hsp => body _ vs H Q E (fits_cx S.nd hr) (takes_of rfl rfl rfl rfl) rfl rfl rfl hsp)
/-! ### a town is made -/
def spTown (K : PySem.W.Frag) : Sp := fun vs H Q E => ∃ (a : Addr) (ns : List Int), vs = [.ref a] ∧ ScrIn K H a ns ∧ ns.length ≤ 1000 ∧ ∀ q H', H q = none → Same H H' → H' q = some (.lst ((0 :: ns).map V.int)) → Q (.ref q) H'
/-! ### one of some choices -/
def spPick (K : PySem.W.Frag) : Sp := fun vs H Q E => ∃ (S : List Addr) (a q : Addr) (ns ts : List Int) (m : Nat) (v : V) (ds : List D), vs = [.ref a, .ref q, v] ∧ Rp S H v (.lst ds) ∧ Dom S H ∧ q ∈ S ∧ ScrIn K H a ns ∧ H q = some (.lst (ts.map V.int)) ∧ TownOk ns ts m ∧ m ≤ 1000000 ∧ 0 < ds.length ∧ ds.length ≤ 100000 ∧
  ∀ v' H', (∀ b ob, H b = some ob → b ≠ q → H' b = some ob) → H' q = some (.lst ((drawR ns ts ds.length).2.map V.int)) → Rp S H' v' (ds.getD (drawR ns ts ds.length).1.toNat .non) → Q v' H'
section
variable {G : Ctx} {Z Z1 : State} {e1 e2 e3 : Expr} {p pos : Pos} {k : Nat} {a q : Addr} {ns ts ts' : List Int} {r : Int} {m : Nat} {ds : List D} {d : D}
theorem three_of {S : List Addr} {H : Hp} {vs : List V} {d1 d2 d3 : D} (r : RpA S H vs [d1, d2, d3]) : ∃ v1 v2 v3, vs = [v1, v2, v3] ∧ Rp S H v1 d1 ∧ Rp S H v2 d2 ∧ Rp S H v3 d3 := by
  have := r.1
  match vs, this with
  | [v1, v2, v3], _ => exact ⟨v1, v2, v3, rfl, r.head, r.tail.head, r.tail.tail.head⟩
theorem je_pick (F : DefS G.g "_law_pick" k (spPick G.g.K)) (hk : k ≤ G.k) (is it : Nat) (ha : JA G [e1, e2, e3] Z [.ref a, .ref q, .lst ds] Z1) (hs : Z1.ρ[is]? = some (some (scr a G.g.K ns))) (ht : Z1.ρ[it]? = some (some (twn q ts)))
    (t : TownOk ns ts m) (hr : drawR ns ts ds.length = (r, ts')) (hd : ds.getD r.toNat .non = d) (hl : 0 < ds.length := by first | exact Nat.lt_of_sub_pos (by decide) | decide | omega) (hl1 : ds.length ≤ 100000 := by first | exact Nat.le_of_ble_eq_true rfl | omega) (hm : m ≤ 1000000 := by omega) (hg : glB G.sc "_law_pick" = true := by kernel_rfl)
    (he : ∀ env, starEach [e1, e2, e3] env = (false, eval e1 env) :: starEach [e2, e3] env := by intro _; rfl) (hpl : ∀ env, (backTo pos (starEach [e2, e3] env)).any (·.1) = false := by intro _; rfl) :
    JE G (.Call (.Name "_law_pick" p) [e1, e2, e3] [] pos) Z d ⟨Z1.S, Z1.ρ.set it (some (twn q ts'))⟩ :=
  je_eff F hk ha (fun B σ H vs Q k1 r1 qq => by
    obtain ⟨v1, v2, v3, rfl, ra, rq, rv⟩ := three_of r1
    cases ra.inv_ref
    cases rq.inv_ref
    obtain ⟨_, _, _, _, hp1, _⟩ := k1.env is _ hs
    obtain ⟨_, _, _, hS, hp2, _⟩ := k1.env it _ ht
    refine ⟨Z1.S, a, q, ns, ts, m, v3, ds, rfl, rv, k1.dom, hS q (List.mem_singleton.mpr rfl), hp1, hp2, t, hm, hl, hl1, fun v' H' h1 h2 h3 => ?_⟩
    rw [hr] at h2 h3
    obtain ⟨k2, kp⟩ := k1.mutRes (H' := H') (P' := fun H => H q = some (.lst (ts'.map V.int))) ht (fun b o e n => h1 b o e fun z => n (List.mem_singleton.mpr z)) (fun a m' => by rw [List.mem_singleton.mp m']; exact ⟨_, h2, fun z => z⟩) h2 twn_sound
    rw [← hd] at qq
    exact qq v' H' k2 kp h3) hg he hpl
end
/-! ### sorted ints -/
def ins (x : Int) : List Int → List Int
  | [] => [x]
  | y :: l => if x ≤ y then x :: y :: l else y :: ins x l
def isort : List Int → List Int
  | [] => []
  | x :: l => ins x (isort l)
theorem ins_perm (x : Int) : ∀ l : List Int, (ins x l).Perm (x :: l)
  | [] => List.Perm.refl _
  | y :: l => by
    unfold ins
    split
    · exact List.Perm.refl _
    · exact (List.Perm.cons y (ins_perm x l)).trans (List.Perm.swap x y l)
theorem isort_perm : ∀ l : List Int, (isort l).Perm l
  | [] => List.Perm.refl _
  | x :: l => (ins_perm x (isort l)).trans (List.Perm.cons x (isort_perm l))
theorem ins_mem {x y : Int} {l : List Int} : y ∈ ins x l ↔ y = x ∨ y ∈ l := by
  rw [(ins_perm x l).mem_iff, List.mem_cons]
theorem ins_sorted {x : Int} : ∀ {l : List Int}, l.Pairwise (· ≤ ·) → (ins x l).Pairwise (· ≤ ·)
  | [], _ => List.pairwise_singleton _ _
  | y :: l, h => by
    rw [List.pairwise_cons] at h
    unfold ins
    split
    · rename_i hxy
      rw [List.pairwise_cons]
      refine ⟨fun z hz => ?_, by rw [List.pairwise_cons]; exact h⟩
      rcases List.mem_cons.mp hz with rfl | hz
      · exact hxy
      · exact Int.le_trans hxy (h.1 z hz)
    · rename_i hxy
      rw [List.pairwise_cons]
      refine ⟨fun z hz => ?_, ins_sorted h.2⟩
      rcases ins_mem.mp hz with rfl | hz
      · omega
      · exact h.1 z hz
theorem isort_sorted : ∀ l : List Int, (isort l).Pairwise (· ≤ ·)
  | [] => List.Pairwise.nil
  | x :: l => ins_sorted (isort_sorted l)
theorem sorted_uniq : ∀ {l m : List Int}, l.Perm m → l.Pairwise (· ≤ ·) → m.Pairwise (· ≤ ·) → l = m
  | [], m, p, _, _ => (List.nil_perm.mp p).symm
  | x :: l, [], p, _, _ => by have := p.length_eq; simp at this
  | x :: l, y :: m, p, h1, h2 => by
    rw [List.pairwise_cons] at h1 h2
    have hxy : x = y := by
      have hx : x ∈ y :: m := p.mem_iff.mp (List.mem_cons_self ..)
      have hy : y ∈ x :: l := p.mem_iff.mpr (List.mem_cons_self ..)
      rcases List.mem_cons.mp hx with e | hx
      · exact e
      · rcases List.mem_cons.mp hy with e | hy
        · exact e.symm
        · have := h1.1 y hy
          have := h2.1 x hx
          omega
    subst hxy
    rw [sorted_uniq p.cons_inv h1.2 h2.2]
section
variable {G : Ctx} {Z Z1 Z2 : State} {a b : Expr} {p pos : Pos} {ns : List Int} {i : Int}
theorem je_sortedI (B : Bi G.g) (ha : JA G [a] Z [.lst (ns.map D.int)] Z1) (hl : ns.length < 64) (hg : glB G.sc "sorted" = true := by kernel_rfl) (he : ∀ env, starEach [a] env = (false, eval a env) :: starEach [] env := by intro _; rfl) (hpl : ∀ env, (backTo pos (starEach [] env)).any (·.1) = false := by intro _; rfl) :
    JE G (.Call (.Name "sorted" p) [a] [] pos) Z (.lst ((isort ns).map D.int)) Z1 :=
  je_callB (r := fun X => rSorted X.K) (fun X _ => cr_sorted) B.sorted_ (by decide +kernel) hg ha (fun X f B2 σ H vs Q k r q => by
    obtain ⟨v, rfl, rr⟩ := one_of r
    obtain ⟨l, xs, rfl, nl, e, ra⟩ := rr.inv_lst
    have ex : xs = ns.map V.int := rpa_map (fun b v r => r.inv_int) ra
    subst ex
    refine ⟨l, ns, rfl, .of e, hl, fun ns' n hp hs nn => ?_⟩
    have en : ns' = isort ns := sorted_uniq (hp.trans (isort_perm ns).symm) hs (isort_sorted ns)
    subst en
    exact q _ _ (same_upd nn) (rp_lst (k.fresh nn) upd_same (rpa_of (fun x => .int x) _))) he hpl
theorem inV_int (i : Int) : ∀ ns : List Int, inV (.int i) (ns.map V.int) = decide (i ∈ ns)
  | [] => rfl
  | n :: ns => by
    show (eqV (.int n) (.int i) || inV (.int i) (ns.map V.int)) = _
    rw [inV_int i ns]
    show ((n == i) || decide (i ∈ ns)) = _
    by_cases h : n = i
    · subst h; simp
    · have h2 : ¬ i = n := fun z => h z.symm
      simp [h, h2]
theorem flat_ints (ns : List Int) : (ns.map V.int).all flatV = true := by
  rw [List.all_eq_true]
  intro x hx
  obtain ⟨n, _, rfl⟩ := List.mem_map.mp hx
  rfl
/-- i in, not in a list or a tuple of ints -/
theorem jt_inL (ha : JE G a Z (.int i) Z1) (hb : JE G b Z1 (.lst (ns.map D.int)) Z2) (hm : behindInMarks .In b = false := by rfl) : JT G (.Compare a [.In] [b] pos) Z (decide (i ∈ ns)) Z2 :=
  jt_cmp (r := fun X => rIn X.K false) (fun _ _ => op_in_seq) hm ha hb fun X f B σ H x y Q k r1 r2 q => by
    cases r1.inv_int
    obtain ⟨l, xs, rfl, nl, e, ra⟩ := r2.inv_lst
    have ex : xs = ns.map V.int := rpa_map (fun b v r => r.inv_int) ra
    subst ex
    refine ⟨l, _, rfl, .inl (.of e), rfl, flat_ints ns, ?_⟩
    rw [inV_int]
    exact q _ H k Kp.refl (.bl _)
theorem jt_ninL (ha : JE G a Z (.int i) Z1) (hb : JE G b Z1 (.lst (ns.map D.int)) Z2) (hm : behindInMarks .NotIn b = false := by rfl) : JT G (.Compare a [.NotIn] [b] pos) Z (!decide (i ∈ ns)) Z2 :=
  jt_cmp (r := fun X => rIn X.K true) (fun _ _ => op_notIn_seq) hm ha hb fun X f B σ H x y Q k r1 r2 q => by
    cases r1.inv_int
    obtain ⟨l, xs, rfl, nl, e, ra⟩ := r2.inv_lst
    have ex : xs = ns.map V.int := rpa_map (fun b v r => r.inv_int) ra
    subst ex
    refine ⟨l, _, rfl, .inl (.of e), rfl, flat_ints ns, ?_⟩
    rw [inV_int]
    exact q _ H k Kp.refl (.bl _)
theorem jt_inT (ha : JE G a Z (.int i) Z1) (hb : JE G b Z1 (.tup (ns.map D.int)) Z2) (hm : behindInMarks .In b = false := by rfl) : JT G (.Compare a [.In] [b] pos) Z (decide (i ∈ ns)) Z2 :=
  jt_cmp (r := fun X => rIn X.K false) (fun _ _ => op_in_seq) hm ha hb fun X f B σ H x y Q k r1 r2 q => by
    cases r1.inv_int
    obtain ⟨l, xs, rfl, nl, e, ra⟩ := r2.inv_tup
    have ex : xs = ns.map V.int := rpa_map (fun b v r => r.inv_int) ra
    subst ex
    refine ⟨l, _, rfl, .inr (.of e), rfl, flat_ints ns, ?_⟩
    rw [inV_int]
    exact q _ H k Kp.refl (.bl _)
theorem jt_ninT (ha : JE G a Z (.int i) Z1) (hb : JE G b Z1 (.tup (ns.map D.int)) Z2) (hm : behindInMarks .NotIn b = false := by rfl) : JT G (.Compare a [.NotIn] [b] pos) Z (!decide (i ∈ ns)) Z2 :=
  jt_cmp (r := fun X => rIn X.K true) (fun _ _ => op_notIn_seq) hm ha hb fun X f B σ H x y Q k r1 r2 q => by
    cases r1.inv_int
    obtain ⟨l, xs, rfl, nl, e, ra⟩ := r2.inv_tup
    have ex : xs = ns.map V.int := rpa_map (fun b v r => r.inv_int) ra
    subst ex
    refine ⟨l, _, rfl, .inr (.of e), rfl, flat_ints ns, ?_⟩
    rw [inV_int]
    exact q _ H k Kp.refl (.bl _)
end
end JL

namespace JL
open PySem PySem.Spec L2
section
variable {G : Ctx} {Z Z1 Z2 Z3 : State} {a b c e : Expr} {es : List Expr} {ds : List D} {pos pos' p p2 : Pos} {d d1 d2 : D} {P : OutS → Prop}
/-- x, y = e, [..]: the list to be changed later -/
theorem js_parO (i j : Nat) {x y : Str} {px py pt p3 : Pos} {kt k2 pt2} (ha : JE G a Z d Z1) (hb : JA G es Z1 ds Z2) (hp : ∀ q, q ∉ Z2.S → P (.nx ⟨q :: Z2.S, (Z2.ρ.set i (some (.dat d))).set j (some (.own q ds))⟩)) (hw : ∀ env : Env, env.scope = G.sc → swappedStores [.Tuple [.Name x px, .Name y py] kt pt] (.Tuple [a, .List es p3] k2 pt2) env = pure (some [x, y]))
    (hz : ds.length ≤ 100000 := by first | exact Nat.le_of_ble_eq_true rfl | omega) (hn : (decide (G.N[i]? = some x) && (decide (G.N[j]? = some y) && (locL G.sc x && (locL G.sc y && !(i == j))))) = true := by kernel_rfl)
    (hs : ∀ env, swapsWithSole [.Tuple [.Name x px, .Name y py] kt pt] (.Tuple [a, .List es p3] k2 pt2) pos.line env = pure false := by intro _; rfl) (he : ∀ env, starEach [a, .List es p3] env = (false, eval a env) :: starEach [.List es p3] env := by intro _; rfl) (he2 : ∀ env, starEach [.List es p3] env = (false, eval (.List es p3) env) :: starEach [] env := by intro _; rfl) :
    JS G (.Assign [.Tuple [.Name x px, .Name y py] kt pt] (.Tuple [a, .List es p3] k2 pt2) pos) Z P := by
  intro X f B σ H k W E tk en
  simp only [Bool.and_eq_true, decide_eq_true_eq, Bool.not_eq_true', beq_eq_false_iff_ne] at hn
  obtain ⟨h1, h2, h3, h4, h5⟩ := hn
  refine ⟨_, ps_par (i := i) (j := j) f.calm (by rw [f.N]; exact f.nd) (by rw [f.N]; exact h1) (by rw [f.N]; exact h2) h5 (by rw [f.sc]; exact locL_of h3) (by rw [f.sc]; exact locL_of h4) (pa_cons p_E (pa_cons (pe_lst p_A) pa_nil (he2 _)) (he _)) (hw _ f.sc) (hs _), ha X f B σ H k _ fun v H1 k1 p1 r1 => hb X f B σ H1 k1 _ fun vs H2 k2 p2 r2 => ⟨by rw [r2.1]; exact sz5 hz, fun q nq => ?_⟩⟩
  refine ⟨v, .ref q, rfl, en.nx _ _ _ (hp q (k2.fresh nq)) ?_⟩
  exact (k2.set i (p2 _ _ r1)).own j nq r2
/-- x, y = [..], [..], both to be changed later -/
theorem js_parOO (i j : Nat) {x y : Str} {es2 : List Expr} {ds2 : List D} {px py pt p3 p4 : Pos} {kt k2 pt2} (ha : JA G es Z ds Z1) (hb : JA G es2 Z1 ds2 Z2) (hp : ∀ q r, q ∉ Z2.S → r ∉ q :: Z2.S → P (.nx ⟨r :: q :: Z2.S, (Z2.ρ.set i (some (.own q ds))).set j (some (.own r ds2))⟩)) (hZ : Z2 = Z1) (hw : ∀ env : Env, env.scope = G.sc → swappedStores [.Tuple [.Name x px, .Name y py] kt pt] (.Tuple [.List es p4, .List es2 p3] k2 pt2) env = pure (some [x, y])) : True := trivial
end
/-! ### drawn gates -/
abbrev Gt := Int × Int × Int
def encG (g : Gt) : D := .tup [.int g.1, .int g.2.1, .int g.2.2]
def encGs (gs : List Gt) : D := .tup (gs.map encG)
structure GateOk (g : Gt) : Prop where
  p1 : -20 ≤ g.1
  p2 : g.1 ≤ 20
  l1 : -50 ≤ g.2.1
  l2 : g.2.1 ≤ g.2.2
  h2 : g.2.2 ≤ 50
structure GatesOk (gs : List Gt) : Prop where
  one : 1 ≤ gs.length
  most : gs.length ≤ 8
  ok : ∀ g ∈ gs, GateOk g
  up : gs.Pairwise fun g h => g.1 < h.1
def mx (i j : Int) : Int := if j > i then j else i
def mn (i j : Int) : Int := if j < i then j else i
/-- the town behind n draws below lim -/
def itD (ns : List Int) (lim : Int) (ts : List Int) : Nat → List Int
  | 0 => ts
  | n + 1 => (drawR ns (itD ns lim ts n) lim).2
theorem itD_ok {ns ts : List Int} {lim : Int} {m : Nat} (t : TownOk ns ts m) : ∀ n, TownOk ns (itD ns lim ts n) (m + n)
  | 0 => t
  | n + 1 => (itD_ok t n).next
def step1 (ns : List Int) (wide : Int) (s : List Int × List Int) : List Int × List Int :=
  ((if (drawR ns s.2 (2 * wide + 1)).1 - wide ∈ s.1 then s.1 else s.1 ++ [(drawR ns s.2 (2 * wide + 1)).1 - wide]), (drawR ns s.2 (2 * wide + 1)).2)
def run1 (ns : List Int) (wide : Int) (s : List Int × List Int) : Nat → List Int × List Int
  | 0 => s
  | n + 1 => step1 ns wide (run1 ns wide s n)
def midR (curve : List Int) (kind spot : Int) : Int := ((curve.take kind.toNat).zipIdx.map fun p => p.1 * [1, spot, spot * spot].getD p.2 0).sum
def mid2 (ns curve : List Int) (kind spot : Int) (ts : List Int) : Int × List Int :=
  if (drawR ns ts 4).1 = 0 then ((drawR ns (drawR ns ts 4).2 19).1 - 9, (drawR ns (drawR ns ts 4).2 19).2) else (midR curve kind spot, (drawR ns ts 4).2)
def gate2 (ns : List Int) (spot : Int) (m : Int × List Int) : Gt × List Int :=
  let mm := mx (-50) (mn 50 m.1)
  let d3 := drawR ns m.2 4
  let low := mx (-50) (mm - d3.1)
  let d4 := drawR ns d3.2 4
  ((spot, low, mn 50 (mx low (mm + d4.1 - 1))), d4.2)
def step2 (ns curve : List Int) (kind : Int) (s : List Gt × List Int) (spot : Int) : List Gt × List Int :=
  (s.1 ++ [(gate2 ns spot (mid2 ns curve kind spot s.2)).1], (gate2 ns spot (mid2 ns curve kind spot s.2)).2)
def curveR (ns ts : List Int) : List Int := (List.range 3).map fun i => (drawR ns (itD ns 7 ts i) 7).1 - 3
def gatesR (ns ts : List Int) (most : Int) : List Gt × List Int :=
  let t1 := itD ns 7 ts 3
  let w := drawR ns t1 3
  let wide : Int := [4, 4, 20].getD w.1.toNat 0
  let c := drawR ns w.2 most
  let pl := run1 ns wide ([], c.2) (1 + c.1).toNat
  let kd := drawR ns pl.2 4
  let kind : Int := [1, 2, 2, 3].getD kd.1.toNat 0
  (isort pl.1).foldl (step2 ns (curveR ns ts) kind) ([], kd.2)
theorem run1_ok {ns : List Int} {wide : Int} {ts : List Int} {m : Nat} (hw : 0 ≤ wide) (t : TownOk ns ts m) : ∀ n, (run1 ns wide ([], ts) n).1.length ≤ n ∧ (run1 ns wide ([], ts) n).1.Nodup ∧ (∀ x ∈ (run1 ns wide ([], ts) n).1, -wide ≤ x ∧ x ≤ wide) ∧ TownOk ns (run1 ns wide ([], ts) n).2 (m + n) ∧ (0 < n → 0 < (run1 ns wide ([], ts) n).1.length)
  | 0 => ⟨Nat.le_refl _, List.nodup_nil, fun _ h => (by cases h), t, fun h => (by omega)⟩
  | n + 1 => by
    obtain ⟨h1, h2, h3, h4, h5⟩ := run1_ok hw t n
    have dl := draw_lo (ns := ns) (ts := (run1 ns wide ([], ts) n).2) (lim := 2 * wide + 1) (by omega)
    have er : run1 ns wide ([], ts) (n + 1) = step1 ns wide (run1 ns wide ([], ts) n) := rfl
    rw [er]
    generalize run1 ns wide ([], ts) n = s at *
    unfold step1
    refine ⟨?_, ?_, ?_, h4.next, fun _ => ?_⟩
    · dsimp only
      split
      · omega
      · rw [List.length_append]; simp; omega
    · dsimp only
      split
      · exact h2
      · rename_i hn
        rw [List.nodup_append]
        refine ⟨h2, List.nodup_cons.mpr ⟨List.not_mem_nil, List.nodup_nil⟩, fun x hx y hy => ?_⟩
        rw [List.mem_singleton.mp hy]
        intro z
        rw [z] at hx
        exact hn hx
    · dsimp only
      split
      · exact h3
      · intro x hx
        rcases List.mem_append.mp hx with hx | hx
        · exact h3 x hx
        · rw [List.mem_singleton.mp hx]; omega
    · dsimp only
      split
      · rename_i hm
        exact List.length_pos_iff.mpr (List.ne_nil_of_mem hm)
      · rw [List.length_append]; simp
theorem mid2_ok {ns curve ts : List Int} {kind spot : Int} {m : Nat} (t : TownOk ns ts m) : TownOk ns (mid2 ns curve kind spot ts).2 (m + 2) := by
  unfold mid2
  split
  · exact t.next.next
  · have := t.next (lim := 4)
    exact ⟨this.len, this.lo, by have h2 := this.hi; show (drawR ns ts 4).2.headD 0 ≤ _; omega⟩
theorem mx_le {i j k : Int} (h1 : i ≤ k) (h2 : j ≤ k) : mx i j ≤ k := by
  unfold mx; split <;> omega
theorem le_mx1 {i j : Int} : i ≤ mx i j := by
  unfold mx; split <;> omega
theorem mn_le1 {i j : Int} : mn i j ≤ i := by
  unfold mn; split <;> omega
theorem le_mn {i j k : Int} (h1 : k ≤ i) (h2 : k ≤ j) : k ≤ mn i j := by
  unfold mn; split <;> omega
theorem gate2_ok {ns ts : List Int} {spot mm : Int} {m : Nat} (t : TownOk ns ts m) (h : -20 ≤ spot ∧ spot ≤ 20) : GateOk (gate2 ns spot (mm, ts)).1 ∧ TownOk ns (gate2 ns spot (mm, ts)).2 (m + 2) ∧ (gate2 ns spot (mm, ts)).1.1 = spot := by
  have d3 := draw_lo (ns := ns) (ts := ts) (lim := 4) (by decide)
  refine ⟨⟨h.1, h.2, ?_, ?_, ?_⟩, t.next.next, rfl⟩
  · show -50 ≤ mx _ _
    unfold mx
    split <;> omega
  · have d3' : 0 ≤ (drawR ns ts 4).1 := d3.1
    have hm : mx (-50) (mn 50 mm) ≤ 50 := mx_le (by decide) mn_le1
    exact le_mn (mx_le (by decide) (by show mx (-50) (mn 50 mm) - (drawR ns ts 4).1 ≤ 50; omega)) le_mx1
  · show mn _ _ ≤ 50
    unfold mn
    split <;> omega
theorem fold2_ok {ns curve : List Int} {kind : Int} : ∀ (l : List Int) (s : List Gt × List Int) (m : Nat), TownOk ns s.2 m → (∀ x ∈ l, -20 ≤ x ∧ x ≤ 20) → TownOk ns (l.foldl (step2 ns curve kind) s).2 (m + 4 * l.length) ∧ (l.foldl (step2 ns curve kind) s).1.map (·.1) = s.1.map (·.1) ++ l ∧ ((∀ g ∈ s.1, GateOk g) → ∀ g ∈ (l.foldl (step2 ns curve kind) s).1, GateOk g)
  | [], s, m, t, _ => ⟨t, by simp, fun h => h⟩
  | x :: l, s, m, t, h => by
    have hx := h x (by simp)
    obtain ⟨g1, g2, g3⟩ := gate2_ok (mm := (mid2 ns curve kind x s.2).1) (mid2_ok (curve := curve) (kind := kind) (spot := x) t) hx
    obtain ⟨i1, i2, i3⟩ := fold2_ok l (step2 ns curve kind s x) (m + 2 + 2) g2 fun y hy => h y (by simp [hy])
    refine ⟨?_, ?_, fun hs => i3 fun g hg => ?_⟩
    · have e : m + 4 * (x :: l).length = m + 2 + 2 + 4 * l.length := by rw [List.length_cons]; omega
      rw [e]
      exact i1
    · rw [List.foldl_cons, i2]
      show (s.1 ++ [(gate2 ns x (mid2 ns curve kind x s.2)).1]).map (fun g : Gt => g.1) ++ l = _
      rw [List.map_append]
      show s.1.map (fun g : Gt => g.1) ++ [x] ++ l = _
      simp
    · rcases List.mem_append.mp hg with hg | hg
      · exact hs g hg
      · rw [List.mem_singleton.mp hg]; exact g1
theorem nodup_sorted_lt {l : List Int} (h : l.Pairwise (· ≤ ·)) (n : l.Nodup) : l.Pairwise (· < ·) := by
  induction l with
  | nil => exact List.Pairwise.nil
  | cons x l ih =>
    rw [List.pairwise_cons] at h ⊢
    rw [List.nodup_cons] at n
    refine ⟨fun y hy => ?_, ih h.2 n.2⟩
    have := h.1 y hy
    have : x ≠ y := fun z => n.1 (by rw [z]; exact hy)
    omega
theorem gatesR_ok {ns ts : List Int} {most : Int} {m : Nat} (t : TownOk ns ts m) (hm : 0 < most ∧ most ≤ 8) : GatesOk (gatesR ns ts most).1 ∧ TownOk ns (gatesR ns ts most).2 (m + 60) ∧ (gatesR ns ts most).1.length ≤ most := by
  have t1 := itD_ok (lim := 7) t 3
  have d1 := draw_lo (ns := ns) (ts := itD ns 7 ts 3) (lim := 3) (by decide)
  have t2 := t1.next (lim := 3)
  generalize hw : drawR ns (itD ns 7 ts 3) 3 = w at *
  have hwide : ([4, 4, 20] : List Int).getD w.1.toNat 0 = 4 ∨ ([4, 4, 20] : List Int).getD w.1.toNat 0 = 20 := by
    have : w.1 = 0 ∨ w.1 = 1 ∨ w.1 = 2 := by omega
    rcases this with e | e | e <;> rw [e] <;> decide
  generalize hwd : ([4, 4, 20] : List Int).getD w.1.toNat 0 = wide at *
  have d2 := draw_lo (ns := ns) (ts := w.2) (lim := most) hm.1
  have t3 := t2.next (lim := most)
  generalize hc : drawR ns w.2 most = c at *
  obtain ⟨r1, r2, r3, r4, r5⟩ := run1_ok (wide := wide) (by omega) t3 (1 + c.1).toNat
  generalize hp : run1 ns wide ([], c.2) (1 + c.1).toNat = pl at *
  have t4 := r4.next (lim := 4)
  generalize hk : drawR ns pl.2 4 = kd at *
  have pm := isort_perm pl.1
  have bd : ∀ x ∈ isort pl.1, -20 ≤ x ∧ x ≤ 20 := fun x hx => by
    have := r3 x (pm.mem_iff.mp hx)
    omega
  obtain ⟨f1, f2, f3⟩ := fold2_ok (curve := curveR ns ts) (kind := ([1, 2, 2, 3] : List Int).getD kd.1.toNat 0) (isort pl.1) ([], kd.2) _ t4 bd
  have eG : gatesR ns ts most = (isort pl.1).foldl (step2 ns (curveR ns ts) (([1, 2, 2, 3] : List Int).getD kd.1.toNat 0)) ([], kd.2) := by
    unfold gatesR
    dsimp only
    rw [hw, hwd, hc, hp, hk]
  have hl : (gatesR ns ts most).1.length = pl.1.length := by
    rw [eG]
    have := congrArg List.length f2
    rw [List.length_map] at this
    rw [this]
    simp [pm.length_eq]
  have hpl := r5 (by omega)
  refine ⟨⟨by omega, by omega, ?_, ?_⟩, ?_, by omega⟩
  · rw [eG]
    exact f3 fun g hg => (by cases hg)
  · rw [eG]
    have lt := nodup_sorted_lt (isort_sorted pl.1) (pm.nodup_iff.mpr r2)
    have e2 : ((isort pl.1).foldl (step2 ns (curveR ns ts) (([1, 2, 2, 3] : List Int).getD kd.1.toNat 0)) ([], kd.2)).1.map (·.1) = isort pl.1 := by rw [f2]; rfl
    rw [← e2, List.pairwise_map] at lt
    exact lt
  · rw [eG]
    have := pm.length_eq
    exact ⟨f1.len, f1.lo, by have := f1.hi; omega⟩
def spGates (K : PySem.W.Frag) : Sp := fun vs H Q E => ∃ (S : List Addr) (a q : Addr) (ns ts : List Int) (m : Nat) (most : Int), vs = [.ref a, .ref q, .int most] ∧ Dom S H ∧ q ∈ S ∧ ScrIn K H a ns ∧ H q = some (.lst (ts.map V.int)) ∧ TownOk ns ts m ∧ m ≤ 900000 ∧ 0 < most ∧ most ≤ 8 ∧
  ∀ v' H', (∀ b ob, H b = some ob → b ≠ q → H' b = some ob) → H' q = some (.lst ((gatesR ns ts most).2.map V.int)) → Rp S H' v' (encGs (gatesR ns ts most).1) → Q v' H'
theorem gates_ex {ns ts : List Int} {m : Nat} {most : Int} (t : TownOk ns ts m) (hm : 0 < most ∧ most ≤ 8) : ∃ gs ts', gatesR ns ts most = (gs, ts') ∧ GatesOk gs ∧ (gs.length : Int) ≤ most ∧ TownOk ns ts' (m + 60) :=
  ⟨(gatesR ns ts most).1, (gatesR ns ts most).2, rfl, (gatesR_ok t hm).1, (gatesR_ok t hm).2.2, (gatesR_ok t hm).2.1⟩
theorem je_gates {G : Ctx} {Z Z1 : State} {e1 e2 e3 : Expr} {p pos : Pos} {k : Nat} {a q : Addr} {ns ts ts' : List Int} {most : Int} {gs : List Gt} {m : Nat} (F : DefS G.g "_law_gates" k (spGates G.g.K)) (hk : k ≤ G.k) (is it : Nat) (ha : JA G [e1, e2, e3] Z [.ref a, .ref q, .int most] Z1) (hs : Z1.ρ[is]? = some (some (scr a G.g.K ns))) (ht : Z1.ρ[it]? = some (some (twn q ts)))
    (t : TownOk ns ts m) (hr : gatesR ns ts most = (gs, ts')) (hl : 0 < most ∧ most ≤ 8 := by omega) (hm : m ≤ 900000 := by omega) (hg : glB G.sc "_law_gates" = true := by kernel_rfl)
    (he : ∀ env, starEach [e1, e2, e3] env = (false, eval e1 env) :: starEach [e2, e3] env := by intro _; rfl) (hpl : ∀ env, (backTo pos (starEach [e2, e3] env)).any (·.1) = false := by intro _; rfl) :
    JE G (.Call (.Name "_law_gates" p) [e1, e2, e3] [] pos) Z (encGs gs) ⟨Z1.S, Z1.ρ.set it (some (twn q ts'))⟩ :=
  je_eff F hk ha (fun B σ H vs Q k1 r1 qq => by
    obtain ⟨v1, v2, v3, rfl, ra, rq, rv⟩ := three_of r1
    cases ra.inv_ref
    cases rq.inv_ref
    cases rv.inv_int
    obtain ⟨_, _, _, _, hp1, _⟩ := k1.env is _ hs
    obtain ⟨_, _, _, hS, hp2, _⟩ := k1.env it _ ht
    refine ⟨Z1.S, a, q, ns, ts, m, most, rfl, k1.dom, hS q (List.mem_singleton.mpr rfl), hp1, hp2, t, hm, hl.1, hl.2, fun v' H' h1 h2 h3 => ?_⟩
    rw [hr] at h2 h3
    obtain ⟨k2, kp⟩ := k1.mutRes (H' := H') (P' := fun H => H q = some (.lst (ts'.map V.int))) ht (fun b o e n => h1 b o e fun z => n (List.mem_singleton.mpr z)) (fun a m' => by rw [List.mem_singleton.mp m']; exact ⟨_, h2, fun z => z⟩) h2 twn_sound
    exact qq v' H' k2 kp h3) hg he hpl
theorem numd_ints (l : List Int) : numd (l.map D.int) = l.zipIdx.map fun p => D.tup [.int (p.2 : Int), .int p.1] := by
  apply List.ext_getElem?
  intro i
  unfold numd
  rw [List.getElem?_zipWith, List.getElem?_map, List.getElem?_map, List.getElem?_zipIdx]
  by_cases h : i < l.length
  · rw [List.getElem?_range (by simpa using h), List.getElem?_eq_getElem h]
    simp
  · rw [List.getElem?_eq_none (by simpa using h : l.length ≤ i)]
    cases (List.range (l.map D.int).length)[i]? <;> rfl
theorem cutD_take {α : Type} (f : α → D) {l : List α} {k : Int} (h : 0 ≤ k) : cutD (l.map f) none (some k) = (l.take k.toNat).map f := by
  unfold cutD
  show ((l.map f).drop 0).take ((if k < 0 then _ else min k.toNat (l.map f).length) - 0) = _
  rw [if_neg (by omega), List.drop_zero, Nat.sub_zero, List.length_map, List.map_take]
  by_cases h2 : k.toNat ≤ l.length
  · rw [Nat.min_eq_left h2]
  · rw [Nat.min_eq_right (by omega), List.take_of_length_le (by simp), List.take_of_length_le (by simp; omega)]
end JL

namespace JL
open PySem PySem.Spec L2
/-! ### try .. except .. as n: m = n -/
/-- slot i is forgotten -/
theorem Ok.drop {B : Bs} {Z : State} {σ : L2.St} {H : Hp} (k : Ok B Z σ H) (i : Nat) (o : Option V) : Ok B ⟨Z.S, Z.ρ.set i none⟩ (σ.set i o) H := by
  have key : ∀ (j : Nat) (e : EV), (Z.ρ.set i none)[j]? = some (some e) → i ≠ j ∧ Z.ρ[j]? = some (some e) := fun j e h => by
    by_cases hij : i = j
    · subst hij
      by_cases hl : i < Z.ρ.length
      · rw [List.getElem?_set_self hl] at h; cases h
      · rw [List.getElem?_eq_none (by simpa using hl)] at h; cases h
    · rw [List.getElem?_set_ne hij] at h
      exact ⟨hij, h⟩
  refine ⟨by simp [k.len], fun j ev e => ?_, fun j l e f h1 h2 => k.sep j l e f (key j e h1).2 (key l f h2).2, fun j e h => k.mine j e (key j e h).2, k.dom, k.out, k.sub, k.tups, k.bsd, k.kept, fun a o m => ?_, k.msub, fun j q ds h => k.ownM j q ds (key j _ h).2⟩
  · obtain ⟨h1, h2⟩ := key j ev e
    rw [List.getElem?_set_ne h1]
    exact k.env j ev h2
  · obtain ⟨h1, h2, h3⟩ := k.held a o m
    exact ⟨h1, h2, fun j e h => h3 j e (key j e h).2⟩
abbrev errP (C a : Addr) : Hp → Prop := fun H => H a = some (ExH (.ref C) a)
theorem err_sound {C a : Addr} : Sound [a] (errP C a) := fun _ _ e h => h a _ e (.inl (List.mem_singleton.mpr rfl))
theorem js_try {G : Ctx} {Z : State} {P : OutS → Prop} {body : List Stmt} {x n m : Str} {np pos pos' p1 p2 p3 : Pos} {R : Addr} (i j : Nat) (Pb : OutS → Prop) (hb : JSs G body Z Pb) (hR : G.g.mg x = some (.ref R)) (hn : ∀ Z1, Pb (.nx Z1) → P (.nx Z1))
    (hx : ∀ C Z1, Pb (.ex C Z1) → PySem.W.exmOne G.g.K (.ref C) (.ref R) = some true ∧ ∀ a, a ∉ Z1.S → P (.nx ⟨a :: Z1.S, ((Z1.ρ.set i none).set j (some (.res [a] (.ref a) (errP C a)))).set i none⟩))
    (hr : ∀ Z1 d, ¬ Pb (.rt Z1 d)) (hbk : ∀ Z1, ¬ Pb (.bk Z1)) (hct : ∀ Z1, ¬ Pb (.ct Z1)) (ht : G.top = true := by rfl)
    (hs : (decide (G.N[i]? = some n) && (decide (G.N[j]? = some m) && (locL G.sc n && (locL G.sc m && (!(n == ("__debug__" : Str)) && !(n == ("__classdict__" : Str))))))) = true := by kernel_rfl) (hg : glB G.sc x = true := by kernel_rfl) :
    JS G (.Try body [.ExceptHandler (some (.Name x np)) (some n) [.Assign [.Name m p1] (.Name n p2) p3] pos'] [] [] pos) Z P := by
  intro X f B σ H k W E tk en
  simp only [Bool.and_eq_true, decide_eq_true_eq, Bool.not_eq_true'] at hs
  obtain ⟨s1, s2, s3, s4, s5, s6⟩ := hs
  obtain ⟨t1, t2, t3⟩ := f.top ht
  obtain ⟨g1, g2, g3⟩ := gl_of f hg
  refine ⟨_, ps_try_held (i := i) (j := j) (c := .ref R) (tb := fun W D σ H => ∀ X', Fits G X' → Takes X' W → wSs X' body D σ H) t1 t2 t3 (by rw [f.N]; exact f.nd) (by rw [f.N]; exact s1) (by unfold Env.kindOf; rw [f.sc]; exact locL_of s3) (by rw [f.N]; exact s2) (by rw [f.sc]; exact locL_of s4)
    ⟨g1, g2, .inl (by rw [f.mg]; exact hR)⟩ s5 s6 (fun W pn xe tk po => ⟨fun pins s σ H D I h => ?_⟩), fun X' f' tk' => ?_⟩
  · exact p_Ss.run pins s σ H D I (h (X.tr pn xe) ⟨f.prog, f.w, f.K, f.mg, f.base, f.N, f.sc, f.room, f.calm, po, f.fn, f.nd, f.top⟩ tk)
  · refine hb X' f' B σ H k _ E tk' ⟨fun Z1 σ1 H1 p k1 => en.nx _ _ _ (hn Z1 p) k1, fun Z1 d v σ1 H1 p => absurd p (hr Z1 d), fun Z1 C σ1 H1 p k1 => ?_, fun Z1 σ1 H1 p => absurd p (hbk Z1), fun Z1 σ1 H1 p => absurd p (hct Z1)⟩
    obtain ⟨e1, e2⟩ := hx C Z1 p
    refine ⟨by rw [f.K]; exact e1, rfl, fun a na => en.nx _ _ _ (e2 a (k1.fresh na)) ?_⟩
    have k2 := k1.drop i (some (.ref a))
    obtain ⟨k3, _⟩ := k2.newRes j (R := [a]) (v := .ref a) (P := errP C a) (H' := upd H1 a (ExH (.ref C) a)) (same_upd na) (fun b m => by rw [List.mem_singleton.mp m]; exact ⟨na, _, upd_same, fun z => z⟩) upd_same err_sound
    exact k3.drop i none
/-! ### the errors of the package -/
def errs : List Str := ["InvalidGates", "InvalidGate", "InvalidDegree", "InvalidRoad", "InvalidPlace", "InvalidNumber", "InvalidSide", "InvalidMost", "InvalidText", "NoRoad", "Endless", "LastOne", "TooMany", "NothingToUndo"]
structure Errs (g : Glob) (C : Nat → Addr) : Prop where
  kit : ∀ i j, i < 14 → j < 14 → PySem.W.kitOne g.K (.ref (C i)) (.ref (C j)) = some (decide (i = j))
  kitV : ∀ i, i < 14 → PySem.W.kitOne g.K (.ref (C i)) (.type "ValueError") = some true
  exc : ∀ i, i < 14 → ExcC g.K (C i)
  mkx : ∀ i x, errs[i]? = some x → ExcK g x (C i)
  road : ∃ R, g.mg "RoadError" = some (.ref R) ∧ ∀ i, i < 14 → PySem.W.exmOne g.K (.ref (C i)) (.ref R) = some true
section
variable {G : Ctx} {Z Z1 Z2 : State} {a b e : Expr} {pos p p2 apos : Pos} {x : Str} {d : D}
/-- isinstance(caught, X) -/
theorem je_isErr {C : Nat → Addr} {c j : Nat} {q : Addr} {y : Str} (s : Nat) (B : Bi G.g) (Er : Errs G.g C) (hc : c < 14) (hj : errs[j]? = some y) (h : Z.ρ[s]? = some (some (.res [q] (.ref q) (errP (C c) q)))) (hn : nmB G.N G.sc s x = true := by kernel_rfl) (hg : glB G.sc "isinstance" = true := by kernel_rfl) (hg2 : glB G.sc y = true := by kernel_rfl) :
    JE G (.Call (.Name "isinstance" p2) [.Name x p, .Name y apos] [] pos) Z (.bl (decide (c = j))) Z := by
  intro X f B2 σ H k Q qq
  obtain ⟨o0, e0, e1, _, hp, _⟩ := k.env s _ h
  subst e1
  obtain ⟨h1, h2, h3⟩ := gl_of f hg
  obtain ⟨g1, g2, _⟩ := gl_of f hg2
  have hj14 : j < 14 := (List.getElem?_eq_some_iff.mp hj).1
  refine ⟨_, pe_callB call_isH h1 (by rw [f.mg]; exact B.isinstance_) (by decide +kernel) (pa_cons (pe_slot f hn) (pa_cons (pe_glob (v := .ref (C j)) g1 (by rw [f.mg]; exact (Er.mkx j y hj).mg) rfl g2) pa_nil)) h3 h2, .ref q, e0, q, C c, .ref (C j), .ref (C j), _, rfl, hp, by rw [f.K]; exact Er.exc c hc, .own _, by rw [f.K]; exact Er.kit c j hc hj14, qq _ H k Kp.refl (.bl _)⟩
theorem je_isErrV {C : Nat → Addr} {c : Nat} {q : Addr} (s : Nat) (B : Bi G.g) (Er : Errs G.g C) (hc : c < 14) (h : Z.ρ[s]? = some (some (.res [q] (.ref q) (errP (C c) q)))) (hn : nmB G.N G.sc s x = true := by kernel_rfl) (hg : glB G.sc "isinstance" = true := by kernel_rfl) (hg2 : glB G.sc "ValueError" = true := by kernel_rfl) :
    JE G (.Call (.Name "isinstance" p2) [.Name x p, .Name "ValueError" apos] [] pos) Z (.bl true) Z := by
  intro X f B2 σ H k Q qq
  obtain ⟨o0, e0, e1, _, hp, _⟩ := k.env s _ h
  subst e1
  obtain ⟨h1, h2, h3⟩ := gl_of f hg
  obtain ⟨g1, g2, g3⟩ := gl_of f hg2
  refine ⟨_, pe_callB call_isH h1 (by rw [f.mg]; exact B.isinstance_) (by decide +kernel) (pa_cons (pe_slot f hn) (pa_cons (pe_bltn (v := .ty "ValueError") g1 (by rw [f.mg]; exact B.ValueError_) (by decide +kernel) rfl g3 g2) pa_nil)) h3 h2, .ref q, e0, q, C c, .ty "ValueError", .type "ValueError", _, rfl, hp, by rw [f.K]; exact Er.exc c hc, .ty _, by rw [f.K]; exact Er.kitV c hc, qq _ H k Kp.refl (.bl _)⟩
/-- a list's method with one argument -/
theorem je_lm1 {id : String} {name : Str} {r : Cx → V → List V → Hp → VK → Prop} {ds : List D} {d1 : D} (slot : PySem.Slot "list" name id) (ty : typeOf (.builtin id) = pure (.type "method_descriptor")) (rule : ∀ X, Fits G X → MtR X id (r X)) (ho : JE G a Z (.lst ds) Z1) (he : JE G e Z1 d1 Z2)
    (hr : ∀ X, Fits G X → ∀ B σ H q xs v (Q : VK), Ok B Z2 σ H → H q = some (.lst xs) → RpA Z2.S H xs ds → Rp Z2.S H v d1 → (∀ v H', Same H H' → Rp Z2.S H' v d → Q v H') → r X (.ref q) [v] H Q)
    (hs : ∀ env, starEach [e] env = (false, eval e env) :: starEach [] env) (hbase : ∀ env, attributeBase a name env (eval a env) = eval a env) (hline : (apos.endLine == pos.line) = true)
    (hfew : ∀ env, ((backTo pos (starEach [e] env)).all (fun x => !x.1) && (backToKw pos (keywordEach [] env)).all (fun x => x.1.isSome) && decide ([e].length + ([] : List Keyword).length + (if ([] : List Keyword).isEmpty then 0 else 1) < 30)) = true) :
    JE G (.Call (.Attribute a name apos) [e] [] pos) Z d Z2 := fun X f B σ H k Q q =>
  ⟨_, pe_bm PySem.F.plainAttrs_list slot ty (rule X f) p_E p_A (hbase _) (hfew _) hline (hs _) (by rfl), ho X f B σ H k _ fun x H1 k1 p1 r1 => by
    obtain ⟨l, xs, rfl, nl, el, ra⟩ := r1.inv_lst
    refine ⟨.inl ⟨rfl, xs, .of el⟩, tCons (wE X e) tNil, pa_cons p_E pa_nil (hs _), he X f B σ H1 k1 _ fun v H2 k2 p2 r2 => ?_⟩
    obtain ⟨l', xs', e1, _, el2, ra2⟩ := (p2 _ _ r1).inv_lst
    cases e1
    exact hr X f B σ H2 l xs' v Q k2 el2 ra2 r2 fun v H3 s r3 => q v H3 (k2.same s) ((p1.trans p2).trans (Kp.same s)) r3⟩
theorem je_countB {bs : List Bool} (ho : JE G a Z (.lst (bs.map D.bl)) Z1) (he : JE G e Z1 (.bl true) Z2) (hs : ∀ env, starEach [e] env = (false, eval e env) :: starEach [] env := by intro _; rfl) (hbase : ∀ env, attributeBase a "count" env (eval a env) = eval a env := by intro _; rfl) (hline : (apos.endLine == pos.line) = true := by rfl)
    (hfew : ∀ env, ((backTo pos (starEach [e] env)).all (fun x => !x.1) && (backToKw pos (keywordEach [] env)).all (fun x => x.1.isSome) && decide ([e].length + ([] : List Keyword).length + (if ([] : List Keyword).isEmpty then 0 else 1) < 30)) = true := by intro _; rfl) :
    JE G (.Call (.Attribute a "count" apos) [e] [] pos) Z (.int (bs.countP id : Nat)) Z2 :=
  je_lm1 (r := fun X => rCount X.K) PySem.F.slot_list_count PySem.F.type_list_count (fun _ _ => mt_countF) ho he (fun X f B σ H q xs v Q k hq ra rv qq => by
    cases rv.inv_bl
    have ex : xs = bs.map V.bl := rpa_map (fun b v r => r.inv_bl) ra
    subst ex
    refine ⟨q, bs.map V.bl, .bl true, rfl, rfl, .of hq, rfl, ?_, ?_⟩
    · rw [List.all_eq_true]
      intro x hx
      obtain ⟨b, _, rfl⟩ := List.mem_map.mp hx
      rfl
    · have e : (bs.map V.bl).countP (fun z => eqV z (.bl true)) = bs.countP id := by
        rw [List.countP_map]
        congr 1
        funext b
        cases b <;> rfl
      rw [e]
      exact qq _ H (Same.refl H) (.int _)) hs hbase hline hfew
theorem je_indexB {bs : List Bool} {j : Nat} (ho : JE G a Z (.lst (bs.map D.bl)) Z1) (he : JE G e Z1 (.bl true) Z2) (hj : bs[j]? = some true) (hm : ∀ m, m < j → bs[m]? ≠ some true) (hs : ∀ env, starEach [e] env = (false, eval e env) :: starEach [] env := by intro _; rfl) (hbase : ∀ env, attributeBase a "index" env (eval a env) = eval a env := by intro _; rfl) (hline : (apos.endLine == pos.line) = true := by rfl)
    (hfew : ∀ env, ((backTo pos (starEach [e] env)).all (fun x => !x.1) && (backToKw pos (keywordEach [] env)).all (fun x => x.1.isSome) && decide ([e].length + ([] : List Keyword).length + (if ([] : List Keyword).isEmpty then 0 else 1) < 30)) = true := by intro _; rfl) :
    JE G (.Call (.Attribute a "index" apos) [e] [] pos) Z (.int (j : Nat)) Z2 :=
  je_lm1 (r := fun X => rIndex X.K) PySem.F.slot_list_index PySem.F.type_list_index (fun _ _ => mt_index) ho he (fun X f B σ H q xs v Q k hq ra rv qq => by
    cases rv.inv_bl
    have ex : xs = bs.map V.bl := rpa_map (fun b v r => r.inv_bl) ra
    subst ex
    refine ⟨q, bs.map V.bl, .bl true, j, .bl true, rfl, rfl, .of hq, rfl, ?_, by rw [List.getElem?_map, hj]; rfl, rfl, fun m z hmj hz => ?_, qq _ H (Same.refl H) (.int _)⟩
    · rw [List.all_eq_true]
      intro x hx
      obtain ⟨b, _, rfl⟩ := List.mem_map.mp hx
      rfl
    · rw [List.getElem?_map] at hz
      cases hb : bs[m]? with
      | none => rw [hb] at hz; cases hz
      | some b =>
        rw [hb] at hz
        cases hz
        cases b with
        | true => exact absurd hb (hm m hmj)
        | false => rfl) hs hbase hline hfew
theorem je_indexS {ss : List Str} {j : Nat} {y : Str} (ho : JE G a Z (.lst (ss.map D.str)) Z1) (he : JE G e Z1 (.str y) Z2) (hj : ss[j]? = some y) (hm : ∀ m, m < j → ss[m]? ≠ some y) (hs : ∀ env, starEach [e] env = (false, eval e env) :: starEach [] env := by intro _; rfl) (hbase : ∀ env, attributeBase a "index" env (eval a env) = eval a env := by intro _; rfl) (hline : (apos.endLine == pos.line) = true := by rfl)
    (hfew : ∀ env, ((backTo pos (starEach [e] env)).all (fun x => !x.1) && (backToKw pos (keywordEach [] env)).all (fun x => x.1.isSome) && decide ([e].length + ([] : List Keyword).length + (if ([] : List Keyword).isEmpty then 0 else 1) < 30)) = true := by intro _; rfl) :
    JE G (.Call (.Attribute a "index" apos) [e] [] pos) Z (.int (j : Nat)) Z2 :=
  je_lm1 (r := fun X => rIndex X.K) PySem.F.slot_list_index PySem.F.type_list_index (fun _ _ => mt_index) ho he (fun X f B σ H q xs v Q k hq ra rv qq => by
    cases rv.inv_str
    have ex : xs = ss.map V.str := rpa_map (fun b v r => r.inv_str) ra
    subst ex
    refine ⟨q, ss.map V.str, .str y, j, .str y, rfl, rfl, .of hq, rfl, ?_, by rw [List.getElem?_map, hj]; rfl, by show (y == y) = true; simp, fun m z hmj hz => ?_, qq _ H (Same.refl H) (.int _)⟩
    · rw [List.all_eq_true]
      intro x hx
      obtain ⟨b, _, rfl⟩ := List.mem_map.mp hx
      rfl
    · rw [List.getElem?_map] at hz
      cases hb : ss[m]? with
      | none => rw [hb] at hz; cases hz
      | some b =>
        rw [hb] at hz
        cases hz
        show (b == y) = false
        have : b ≠ y := fun z => hm m hmj (by rw [hb, z])
        simpa using this) hs hbase hline hfew
end
end JL

namespace JL
open PySem PySem.Spec L2
open PySem.Builtin PySem.Builtin.Str PySem.StrLaws
/-! ### texts of gates -/
abbrev lt (x : Str) : List Nat := x.cps.toList
theorem lt_inj {x y : Str} (h : lt x = lt y) : x = y := PySem.Str.ext' (by
  rw [← Array.toList_inj]; exact h)
theorem lt_app (x y : Str) : lt (x ++ y) = lt x ++ lt y := by
  show (x.cps ++ y.cps).toList = _
  simp
theorem lt_len (x : Str) : (lt x).length = x.length := by show x.cps.toList.length = x.cps.size; simp
/-! one text, two cuts -/
theorem join_lt_cons (c : Nat) (x y : Str) (r : List Str) : lt (Str.join ⟨#[c]⟩ (x :: y :: r)) = lt x ++ c :: lt (Str.join ⟨#[c]⟩ (y :: r)) := by
  show lt (x ++ ⟨#[c]⟩ ++ Str.join ⟨#[c]⟩ (y :: r)) = _
  rw [lt_app, lt_app]
  show lt x ++ [c] ++ _ = _
  simp
theorem cut_uniq {c : Nat} : ∀ {a b : List Nat} {r s : List Nat}, c ∉ a → c ∉ b → a ++ c :: r = b ++ c :: s → a = b ∧ r = s
  | [], [], r, s, _, _, h => by simp at h; exact ⟨rfl, h⟩
  | [], y :: b, r, s, _, hb, h => by simp at h; exact absurd h.1 (fun z => hb (by simp [z]))
  | x :: a, [], r, s, ha, _, h => by simp at h; exact absurd h.1.symm (fun z => ha (by simp [z]))
  | x :: a, y :: b, r, s, ha, hb, h => by
    simp only [List.cons_append, List.cons.injEq] at h
    obtain ⟨e1, e2⟩ := cut_uniq (fun z => ha (by simp [z])) (fun z => hb (by simp [z])) h.2
    exact ⟨by rw [h.1, e1], e2⟩
theorem join_uniq {c : Nat} : ∀ {xs ys : List Str}, xs ≠ [] → ys ≠ [] → (∀ x ∈ xs, c ∉ lt x) → (∀ y ∈ ys, c ∉ lt y) → lt (Str.join ⟨#[c]⟩ xs) = lt (Str.join ⟨#[c]⟩ ys) → xs = ys
  | [], _, h, _, _, _, _ => absurd rfl h
  | _, [], _, h, _, _, _ => absurd rfl h
  | [x], [y], _, _, _, _, h => by
    have : x = y := lt_inj h
    rw [this]
  | [x], y :: z :: r, _, _, hx, hy, h => by
    exfalso
    rw [join_lt_cons] at h
    have h : lt x = _ := h
    exact hx x (by simp) (by rw [h]; simp)
  | x :: w :: r, [y], _, _, hx, hy, h => by
    exfalso
    rw [join_lt_cons] at h
    have h : _ = lt y := h
    exact hy y (by simp) (by rw [← h]; simp)
  | x :: w :: r, y :: z :: s, _, _, hx, hy, h => by
    rw [join_lt_cons, join_lt_cons] at h
    obtain ⟨e1, e2⟩ := cut_uniq (hx x (by simp)) (hy y (by simp)) h
    rw [lt_inj e1, join_uniq (c := c) (xs := w :: r) (ys := z :: s) (by simp) (by simp) (fun a m => hx a (by simp [List.mem_cons] at m ⊢; exact .inr m)) (fun a m => hy a (by simp [List.mem_cons] at m ⊢; exact .inr m)) e2]
theorem split_ne (x : Str) (c : Nat) : Txt.split x ⟨#[c]⟩ ≠ [] := by
  unfold Txt.split
  split
  · simp
  · split
    · simp
    · rw [partsBetween_eq]
      obtain ⟨p, r, e⟩ := partsFrom_ne x (⟨#[c]⟩ : Str).length 0 (occurrences x ⟨#[c]⟩ 0 x.length (x.length + 1))
      rw [e]
      simp
theorem split_join {c : Nat} {ws : List Str} (h0 : ws ≠ []) (h : ∀ w ∈ ws, c ∉ lt w) : Txt.split (Str.join ⟨#[c]⟩ ws) ⟨#[c]⟩ = ws :=
  join_uniq (split_ne _ _) h0 (split_free _ _) h (by rw [PySem.StrLaws.join_split])
theorem split_len (x : Str) (c : Nat) : (Txt.split x ⟨#[c]⟩).length ≤ x.length + 1 := by
  have key : ∀ ws : List Str, ws.length ≤ (Str.join ⟨#[c]⟩ ws).length + 1 := fun ws => by
    induction ws with
    | nil => simp
    | cons x ws ih =>
      cases ws with
      | nil => simp
      | cons y r =>
        have e : (Str.join ⟨#[c]⟩ (x :: y :: r)).length = x.length + 1 + (Str.join ⟨#[c]⟩ (y :: r)).length := by
          rw [← lt_len, join_lt_cons, List.length_append, List.length_cons, lt_len, lt_len]; omega
        rw [e, List.length_cons]
        omega
  have := key (Txt.split x ⟨#[c]⟩)
  rw [PySem.StrLaws.join_split] at this
  exact this
theorem join_mem_len (x sep : Str) : ∀ ws : List Str, x ∈ ws → x.length ≤ (Str.join sep ws).length
  | [], h => by cases h
  | [y], h => by rw [List.mem_singleton.mp h]; exact Nat.le_refl _
  | y :: z :: r, h => by
    show x.length ≤ (y ++ sep ++ Str.join sep (z :: r)).length
    rw [str_len, str_len]
    rcases List.mem_cons.mp h with rfl | h
    · omega
    · have := join_mem_len x sep (z :: r) h
      omega
/-! the first cut -/
theorem part_at {x y a b : Str} (e : x = a ++ y ++ b) (h : ∀ k, k < a.length → ¬ At x y x.length k) : Txt.partition x y = (a, y, b) := by
  have el : lt x = lt a ++ lt y ++ lt b := by rw [e, lt_app, lt_app]
  have hl : x.length = a.length + y.length + b.length := by rw [← lt_len, el, List.length_append, List.length_append, lt_len, lt_len, lt_len]
  have ha : At x y x.length a.length := ⟨by omega, by
    rw [subAt_eq]
    show ((lt x).drop a.length).take y.length == lt y
    rw [el, ← lt_len a, ← lt_len y, List.append_assoc, List.drop_left, List.take_left]
    simp⟩
  unfold Txt.partition
  rcases occ_head x y 1 (Nat.le_refl 1) with ⟨h0, hn⟩ | ⟨i, r, h0, h1, h2⟩
  · exact absurd ha (hn _)
  · have hi : i = a.length := by
      rcases Nat.lt_trichotomy i a.length with z | z | z
      · exact absurd h1 (h i z)
      · exact z
      · exact absurd ha (h2 _ z)
    subst hi
    rw [h0]
    show (strSub x 0 a.length, y, strSub x (a.length + y.length) x.length) = _
    have e1 : strSub x 0 a.length = a := lt_inj (by
      show (strSub x 0 a.length).cps.toList = _
      rw [strSub_toList]
      show ((lt x).drop 0).take _ = _
      rw [el, List.drop_zero, Nat.sub_zero, List.append_assoc, ← lt_len a, List.take_left])
    have e2 : strSub x (a.length + y.length) x.length = b := lt_inj (by
      show (strSub x _ _).cps.toList = _
      rw [strSub_toList]
      show ((lt x).drop _).take _ = _
      have : a.length + y.length = (lt a ++ lt y).length := by rw [List.length_append, lt_len, lt_len]
      rw [el, this, List.drop_left]
      exact List.take_of_length_le (by rw [List.length_append, lt_len, lt_len, lt_len]; omega))
    rw [e1, e2]
theorem part_one {c : Nat} {x a b : Str} (e : x = a ++ ⟨#[c]⟩ ++ b) (h : c ∉ lt a) : Txt.partition x ⟨#[c]⟩ = (a, ⟨#[c]⟩, b) :=
  part_at e fun k hk z => by
    have := (subAt_one x c k).mp z
    have el : lt x = lt a ++ (c :: lt b) := by
      rw [e, lt_app, lt_app]
      show lt a ++ [c] ++ lt b = _
      simp
    rw [show x.cps.toList = lt x from rfl, el, List.getElem?_append_left (by rw [lt_len]; exact hk)] at this
    exact h (List.mem_of_getElem? this)
theorem part_two {c : Nat} {x a b : Str} (e : x = a ++ ⟨#[c, c]⟩ ++ b) (h : c ∉ lt a) : Txt.partition x ⟨#[c, c]⟩ = (a, ⟨#[c, c]⟩, b) :=
  part_at e fun k hk z => by
    have z := z.2
    rw [subAt_eq] at z
    have el : lt x = lt a ++ (c :: c :: lt b) := by
      rw [e, lt_app, lt_app]
      show lt a ++ [c, c] ++ lt b = _
      simp
    have z : ((lt x).drop k).take 2 == [c, c] := z
    have z := eq_of_beq z
    have hk2 : (lt x)[k]? = some c := by
      have : (((lt x).drop k).take 2)[0]? = some c := by rw [z]; rfl
      rw [List.getElem?_take] at this
      simpa using this
    rw [el, List.getElem?_append_left (by rw [lt_len]; exact hk)] at hk2
    exact h (List.mem_of_getElem? hk2)
/-! numbers in texts -/
def digs : List Nat := [48, 49, 50, 51, 52, 53, 54, 55, 56, 57]
def figs (w : Str) : Str := if Txt.startswith w "-" = true then cutS w (some 1) none else w
def figOk (w : Str) : Bool := decide (1 ≤ (figs w).length) && decide ((figs w).length ≤ 2) && (lt (figs w)).all fun c => decide (c ∈ lt ("0123456789" : Str))
def numOf (w : Str) : D := if figOk w = true then .int ((intText? w).getD 0) else .non
theorem starts_minus {w : Str} (h : Txt.startswith w "-" = true) : ∃ r, w = ⟨(45 :: r).toArray⟩ := by
  unfold Txt.startswith at h
  rw [Bool.and_eq_true] at h
  have h2 := h.2
  rw [subAt_eq] at h2
  have h2 := eq_of_beq h2
  have e1 : (("-" : Str)).cps.toList = [45] := by decide +kernel
  have e2 : (("-" : Str)).length = 1 := by decide +kernel
  rw [e1, e2, List.drop_zero] at h2
  cases hw : w.cps.toList with
  | nil => rw [hw] at h2; cases h2
  | cons a r =>
    rw [hw] at h2
    simp at h2
    subst h2
    exact ⟨r, lt_inj (by rw [show lt w = w.cps.toList from rfl, hw])⟩
theorem cut1 (r : List Nat) (a : Nat) : cutS ⟨(a :: r).toArray⟩ (some 1) none = ⟨r.toArray⟩ := by
  unfold cutS
  have h1 : HT.sIx (⟨(a :: r).toArray⟩ : Str).length 0 (some 1) = 1 := by
    show HT.sIx (r.length + 1) 0 (some 1) = 1
    unfold HT.sIx
    simp
  have h2 : HT.sIx (⟨(a :: r).toArray⟩ : Str).length (⟨(a :: r).toArray⟩ : Str).length none = r.length + 1 := by
    show HT.sIx (r.length + 1) (r.length + 1) none = _
    unfold HT.sIx
    rfl
  rw [h1, h2]
  simp
theorem dig_lt : lt ("0123456789" : Str) = digs := by decide +kernel
theorem int_dig1 : ∀ a ∈ digs, (intText? ⟨#[a]⟩).isSome = true ∧ (intText? ⟨#[45, a]⟩).isSome = true := by decide +kernel
theorem int_dig2 : ∀ a ∈ digs, ∀ b ∈ digs, (intText? ⟨#[a, b]⟩).isSome = true ∧ (intText? ⟨#[45, a, b]⟩).isSome = true := by decide +kernel
theorem figOk_int {w : Str} (h : figOk w = true) : (intText? w).isSome = true ∧ w.length ≤ 3 := by
  unfold figOk at h
  simp only [Bool.and_eq_true, decide_eq_true_eq, List.all_eq_true] at h
  obtain ⟨⟨h1, h2⟩, h3⟩ := h
  have key : ∃ r, (w = ⟨r.toArray⟩ ∨ w = ⟨(45 :: r).toArray⟩) ∧ lt (figs w) = r := by
    unfold figs
    by_cases hs : Txt.startswith w "-" = true
    · obtain ⟨r, hr⟩ := starts_minus hs
      rw [if_pos hs, hr, cut1]
      exact ⟨r, .inr rfl, by simp [lt]⟩
    · rw [if_neg hs]
      exact ⟨lt w, .inl (lt_inj (by simp [lt])), rfl⟩
  obtain ⟨r, hw, hr⟩ := key
  rw [← lt_len, hr] at h1 h2
  rw [hr, dig_lt] at h3
  match r, h1, h2, h3, hw with
  | [a], _, _, h3, hw =>
    have := int_dig1 a (h3 a (by simp))
    rcases hw with rfl | rfl
    · exact ⟨this.1, by show 1 ≤ 3; omega⟩
    · exact ⟨this.2, by show 2 ≤ 3; omega⟩
  | [a, b], _, _, h3, hw =>
    have := int_dig2 a (h3 a (by simp)) b (h3 b (by simp))
    rcases hw with rfl | rfl
    · exact ⟨this.1, by show 2 ≤ 3; omega⟩
    · exact ⟨this.2, by show 3 ≤ 3; omega⟩
def tw (i : Int) : Str := toString i
def numChk (i : Int) : Bool := (match numOf (tw i) with
  | .int j => decide (j = i)
  | _ => false) && (decide ((tw i).length ≤ 3) && (lt (tw i)).all fun c => !(decide (c = 32) || (decide (c = 58) || decide (c = 46))) && decide (c < 128))
theorem num_all : ∀ n : Fin 101, numChk ((n.val : Int) - 50) = true := by decide +kernel
theorem num_ok {i : Int} (h1 : -50 ≤ i) (h2 : i ≤ 50) : numOf (tw i) = .int i ∧ (tw i).length ≤ 3 ∧ 32 ∉ lt (tw i) ∧ 58 ∉ lt (tw i) ∧ 46 ∉ lt (tw i) ∧ ∀ c ∈ lt (tw i), c < 128 := by
  have h := num_all ⟨(i + 50).toNat, by omega⟩
  have e : (((i + 50).toNat : Nat) : Int) - 50 = i := by omega
  rw [show ((⟨(i + 50).toNat, (by omega : (i + 50).toNat < 101)⟩ : Fin 101).val : Int) - 50 = i from e] at h
  unfold numChk at h
  simp only [Bool.and_eq_true, decide_eq_true_eq, List.all_eq_true, Bool.not_eq_true', Bool.or_eq_false_iff, decide_eq_false_iff_not] at h
  obtain ⟨h1, h2, h3⟩ := h
  refine ⟨?_, h2, fun m => (h3 _ m).1.1 rfl, fun m => (h3 _ m).1.2.1 rfl, fun m => (h3 _ m).1.2.2 rfl, fun c m => (h3 c m).2⟩
  split at h1
  · rename_i j e
    have : j = i := by simpa using h1
    rw [e, this]
  · cases h1
end JL

namespace JL
open PySem PySem.Spec L2
/-! ### kinds of data -/
def isI (d : D) : Bool := match d with
  | .int _ => true
  | .bl _ => true
  | _ => false
def isB (d : D) : Bool := match d with
  | .bl _ => true
  | _ => false
def isT (d : D) : Bool := match d with
  | .tup _ => true
  | _ => false
def isS (d : D) : Bool := match d with
  | .str _ => true
  | _ => false
def isL (d : D) : Bool := match d with
  | .lst _ => true
  | _ => false
theorem kit_int {d : D} (h : known d = true) : kitB (tyS d) "int" = some (isI d) := by
  cases d with
  | non => exact (by decide +kernel : kitB "NoneType" "int" = some false)
  | bl _ => exact (by decide +kernel : kitB "bool" "int" = some true)
  | int _ => exact (by decide +kernel : kitB "int" "int" = some true)
  | str _ => exact (by decide +kernel : kitB "str" "int" = some false)
  | tup _ => exact (by decide +kernel : kitB "tuple" "int" = some false)
  | lst _ => exact (by decide +kernel : kitB "list" "int" = some false)
  | emp => exact (by decide +kernel : kitB "dict" "int" = some false)
  | ref _ => cases h
  | ty _ => cases h
theorem kit_bool {d : D} (h : known d = true) : kitB (tyS d) "bool" = some (isB d) := by
  cases d with
  | non => exact (by decide +kernel : kitB "NoneType" "bool" = some false)
  | bl _ => exact (by decide +kernel : kitB "bool" "bool" = some true)
  | int _ => exact (by decide +kernel : kitB "int" "bool" = some false)
  | str _ => exact (by decide +kernel : kitB "str" "bool" = some false)
  | tup _ => exact (by decide +kernel : kitB "tuple" "bool" = some false)
  | lst _ => exact (by decide +kernel : kitB "list" "bool" = some false)
  | emp => exact (by decide +kernel : kitB "dict" "bool" = some false)
  | ref _ => cases h
  | ty _ => cases h
theorem kit_tuple {d : D} (h : known d = true) : kitB (tyS d) "tuple" = some (isT d) := by
  cases d with
  | non => exact (by decide +kernel : kitB "NoneType" "tuple" = some false)
  | bl _ => exact (by decide +kernel : kitB "bool" "tuple" = some false)
  | int _ => exact (by decide +kernel : kitB "int" "tuple" = some false)
  | str _ => exact (by decide +kernel : kitB "str" "tuple" = some false)
  | tup _ => exact (by decide +kernel : kitB "tuple" "tuple" = some true)
  | lst _ => exact (by decide +kernel : kitB "list" "tuple" = some false)
  | emp => exact (by decide +kernel : kitB "dict" "tuple" = some false)
  | ref _ => cases h
  | ty _ => cases h
theorem kit_str {d : D} (h : known d = true) : kitB (tyS d) "str" = some (isS d) := by
  cases d with
  | non => exact (by decide +kernel : kitB "NoneType" "str" = some false)
  | bl _ => exact (by decide +kernel : kitB "bool" "str" = some false)
  | int _ => exact (by decide +kernel : kitB "int" "str" = some false)
  | str _ => exact (by decide +kernel : kitB "str" "str" = some true)
  | tup _ => exact (by decide +kernel : kitB "tuple" "str" = some false)
  | lst _ => exact (by decide +kernel : kitB "list" "str" = some false)
  | emp => exact (by decide +kernel : kitB "dict" "str" = some false)
  | ref _ => cases h
  | ty _ => cases h
theorem kit_list {d : D} (h : known d = true) : kitB (tyS d) "list" = some (isL d) := by
  cases d with
  | non => exact (by decide +kernel : kitB "NoneType" "list" = some false)
  | bl _ => exact (by decide +kernel : kitB "bool" "list" = some false)
  | int _ => exact (by decide +kernel : kitB "int" "list" = some false)
  | str _ => exact (by decide +kernel : kitB "str" "list" = some false)
  | tup _ => exact (by decide +kernel : kitB "tuple" "list" = some false)
  | lst _ => exact (by decide +kernel : kitB "list" "list" = some true)
  | emp => exact (by decide +kernel : kitB "dict" "list" = some false)
  | ref _ => cases h
  | ty _ => cases h
theorem isT_ex {d : D} (h : isT d = true) : ∃ l, d = .tup l := by cases d <;> first | exact ⟨_, rfl⟩ | cases h
theorem isS_ex {d : D} (h : isS d = true) : ∃ l, d = .str l := by cases d <;> first | exact ⟨_, rfl⟩ | cases h
theorem isL_ex {d : D} (h : isL d = true) : ∃ l, d = .lst l := by cases d <;> first | exact ⟨_, rfl⟩ | cases h
/-- known through and through -/
def dk : Nat → D → Bool
  | _, .ref _ => false
  | _, .ty _ => false
  | 0, .tup _ => false
  | 0, .lst _ => false
  | n + 1, .tup l => l.all (dk n)
  | n + 1, .lst l => l.all (dk n)
  | _, _ => true
theorem dk_known {n : Nat} {d : D} (h : dk n d = true) : known d = true := by
  cases d <;> first | rfl | (cases n <;> cases h)
theorem dk_tup {n : Nat} {l : List D} (h : dk n (.tup l) = true) : ∃ m, ∀ x ∈ l, dk m x = true := by
  cases n with
  | zero => cases h
  | succ m =>
    have h : l.all (dk m) = true := h
    rw [List.all_eq_true] at h
    exact ⟨m, h⟩
theorem dk_lst {n : Nat} {l : List D} (h : dk n (.lst l) = true) : ∃ m, ∀ x ∈ l, dk m x = true := by
  cases n with
  | zero => cases h
  | succ m =>
    have h : l.all (dk m) = true := h
    rw [List.all_eq_true] at h
    exact ⟨m, h⟩
/-! ### gates -/
def mBetween (d : D) (lo hi : Int) : Bool := match d with
  | .int i => decide (lo ≤ i) && decide (i ≤ hi)
  | _ => false
def intOf (d : D) : Int := match d with
  | .int i => i
  | _ => 0
def mGate (d : D) : Bool := match d with
  | .tup [a, b, c] => mBetween a (-20) 20 && (mBetween b (-50) 50 && mBetween c (intOf b) 50)
  | _ => false
def decG (d : D) : Gt := match d with
  | .tup [a, b, c] => (intOf a, intOf b, intOf c)
  | _ => (0, 0, 0)
def upL (gs : List Gt) : Bool := (List.range (gs.length - 1)).all fun k => decide ((gs.getD k (0, 0, 0)).1 < (gs.getD (k + 1) (0, 0, 0)).1)
def mGates (d : D) : Bool := match d with
  | .tup l => decide (1 ≤ l.length) && decide (l.length ≤ 8) && (l.all mGate && upL (l.map decG))
  | _ => false
theorem mBetween_ex {d : D} {lo hi : Int} (h : mBetween d lo hi = true) : ∃ i, d = .int i ∧ lo ≤ i ∧ i ≤ hi := by
  cases d with
  | int i =>
    have h : (decide (lo ≤ i) && decide (i ≤ hi)) = true := h
    simp only [Bool.and_eq_true, decide_eq_true_eq] at h
    exact ⟨i, rfl, h.1, h.2⟩
  | _ => cases h
theorem mGate_ex {d : D} (h : mGate d = true) : d = encG (decG d) ∧ GateOk (decG d) := by
  unfold mGate at h
  split at h
  · rename_i a b c
    simp only [Bool.and_eq_true] at h
    obtain ⟨h1, h2, h3⟩ := h
    obtain ⟨p, rfl, p1, p2⟩ := mBetween_ex h1
    obtain ⟨l, rfl, l1, l2⟩ := mBetween_ex h2
    obtain ⟨u, rfl, u1, u2⟩ := mBetween_ex h3
    exact ⟨rfl, p1, p2, l1, u1, u2⟩
  · cases h
theorem mGate_enc {g : Gt} (h : GateOk g) : mGate (encG g) = true := by
  show (mBetween (.int g.1) (-20) 20 && (mBetween (.int g.2.1) (-50) 50 && mBetween (.int g.2.2) g.2.1 50)) = true
  have h1 := h.p1
  have h2 := h.p2
  have h3 := h.l1
  have h4 := h.l2
  have h5 := h.h2
  simp only [mBetween, Bool.and_eq_true, decide_eq_true_eq]
  omega
theorem decG_enc (g : Gt) : decG (encG g) = g := rfl
theorem decGs_enc (gs : List Gt) : (gs.map encG).map decG = gs := by
  rw [List.map_map]
  exact List.map_id' gs
theorem upL_iff {gs : List Gt} : upL gs = true ↔ gs.Pairwise fun g h => g.1 < h.1 := by
  unfold upL
  simp only [List.all_eq_true, decide_eq_true_eq, List.mem_range]
  rw [List.pairwise_iff_getElem]
  constructor
  · intro h
    have key : ∀ (n i : Nat) (hi : i + n + 1 < gs.length), (gs[i]'(by omega)).1 < (gs[i + n + 1]'hi).1 := fun n => by
      induction n with
      | zero =>
        intro i hi
        have := h i (by omega)
        rw [List.getD_eq_getElem?_getD, List.getD_eq_getElem?_getD, List.getElem?_eq_getElem (by omega), List.getElem?_eq_getElem (by omega)] at this
        exact this
      | succ n ih =>
        intro i hi
        have h1 := ih i (by omega)
        have := h (i + n + 1) (by omega)
        rw [List.getD_eq_getElem?_getD, List.getD_eq_getElem?_getD, List.getElem?_eq_getElem (by omega), List.getElem?_eq_getElem (by omega)] at this
        exact Int.lt_trans h1 this
    intro i j hi hj hij
    have := key (j - i - 1) i (by omega)
    simp only [show i + (j - i - 1) + 1 = j by omega] at this
    exact this
  · intro h k hk
    have := h k (k + 1) (by omega) (by omega) (by omega)
    rw [List.getD_eq_getElem?_getD, List.getD_eq_getElem?_getD, List.getElem?_eq_getElem (by omega), List.getElem?_eq_getElem (by omega)]
    exact this
def gsOf (d : D) : List Gt := match d with
  | .tup l => l.map decG
  | _ => []
theorem mGates_ex {d : D} (h : mGates d = true) : d = encGs (gsOf d) ∧ GatesOk (gsOf d) := by
  unfold mGates at h
  split at h
  · rename_i l
    simp only [Bool.and_eq_true, decide_eq_true_eq, List.all_eq_true] at h
    obtain ⟨⟨h1, h2⟩, h3, h4⟩ := h
    refine ⟨?_, by simpa [gsOf] using h1, by simpa [gsOf] using h2, ?_, upL_iff.mp h4⟩
    · show D.tup l = .tup ((l.map decG).map encG)
      rw [List.map_map]
      congr 1
      exact (List.map_id' l).symm.trans (List.map_congr_left fun x hx => (mGate_ex (h3 x hx)).1)
    · intro g hg
      obtain ⟨x, hx, rfl⟩ := List.mem_map.mp hg
      exact (mGate_ex (h3 x hx)).2
  · cases h
theorem mGates_enc {gs : List Gt} (h : GatesOk gs) : mGates (encGs gs) = true := by
  show (decide (1 ≤ (gs.map encG).length) && decide ((gs.map encG).length ≤ 8) && ((gs.map encG).all mGate && upL ((gs.map encG).map decG))) = true
  rw [decGs_enc, upL_iff.mpr h.up, List.length_map, decide_eq_true h.one, decide_eq_true h.most]
  simp only [Bool.true_and, Bool.and_true, List.all_eq_true]
  intro x hx
  obtain ⟨g, hg, rfl⟩ := List.mem_map.mp hx
  exact mGate_enc (h.ok g hg)
theorem gsOf_enc (gs : List Gt) : gsOf (encGs gs) = gs := decGs_enc gs
theorem dk_gates (gs : List Gt) : dk 2 (encGs gs) = true := by
  show (gs.map encG).all (dk 1) = true
  rw [List.all_eq_true]
  intro x hx
  obtain ⟨g, _, rfl⟩ := List.mem_map.mp hx
  rfl
theorem okD_gates (gs : List Gt) : okD 2 (encGs gs) = true := by
  show (gs.map encG).all (okD 1) = true
  rw [List.all_eq_true]
  intro x hx
  obtain ⟨g, _, rfl⟩ := List.mem_map.mp hx
  rfl
/-! ### the texts -/
def txtG (g : Gt) : Str := [tw g.1, (":" : Str), tw g.2.1, (".." : Str), tw g.2.2].foldl (· ++ ·) Str.empty
def txtGs (gs : List Gt) : Str := Txt.join (" " : Str) (gs.map txtG)
def gateOf (w : Str) : D := .tup [numOf (Txt.partition w (":" : Str)).1, numOf (Txt.partition (Txt.partition w (":" : Str)).2.2 (".." : Str)).1, numOf (Txt.partition (Txt.partition w (":" : Str)).2.2 (".." : Str)).2.2]
def foundOf (t : Str) : D := .tup ((Txt.split t (" " : Str)).map gateOf)
def parsed (t : Str) : Bool := mGates (foundOf t) && decide (txtGs (gsOf (foundOf t)) = t)
theorem sp_eq : (" " : Str) = ⟨#[32]⟩ := by decide +kernel
theorem co_eq : (":" : Str) = ⟨#[58]⟩ := by decide +kernel
theorem dd_eq : (".." : Str) = ⟨#[46, 46]⟩ := by decide +kernel
theorem txtGs_join (gs : List Gt) : txtGs gs = Str.join ⟨#[32]⟩ (gs.map txtG) := by
  unfold txtGs
  rw [sp_eq]
  exact PySem.StrLaws.glued_eq_join _ _
theorem txtG_eq (g : Gt) : txtG g = tw g.1 ++ ⟨#[58]⟩ ++ (tw g.2.1 ++ ⟨#[46, 46]⟩ ++ tw g.2.2) := by
  show ((((Str.empty ++ tw g.1) ++ (":" : Str)) ++ tw g.2.1) ++ (".." : Str)) ++ tw g.2.2 = _
  rw [co_eq, dd_eq, PySem.Str.empty_append, PySem.Str.append_assoc, PySem.Str.append_assoc, PySem.Str.append_assoc, PySem.Str.append_assoc, PySem.Str.append_assoc]
theorem txtG_lt (g : Gt) : lt (txtG g) = lt (tw g.1) ++ 58 :: (lt (tw g.2.1) ++ 46 :: 46 :: lt (tw g.2.2)) := by
  rw [txtG_eq, lt_app, lt_app, lt_app, lt_app]
  show lt (tw g.1) ++ [58] ++ (lt (tw g.2.1) ++ [46, 46] ++ lt (tw g.2.2)) = _
  simp
theorem gateOf_txt {g : Gt} (h : GateOk g) : gateOf (txtG g) = encG g := by
  have h1 := h.p1
  have h2 := h.p2
  have h3 := h.l1
  have h4 := h.l2
  have h5 := h.h2
  have n1 := num_ok (i := g.1) (by omega) (by omega)
  have n2 := num_ok (i := g.2.1) (by omega) (by omega)
  have n3 := num_ok (i := g.2.2) (by omega) (by omega)
  unfold gateOf
  rw [co_eq, dd_eq, part_one (txtG_eq g) n1.2.2.2.1]
  dsimp only
  rw [part_two rfl n2.2.2.2.2.1]
  dsimp only
  rw [n1.1, n2.1, n3.1]
  rfl
theorem txtG_free {g : Gt} (h : GateOk g) : 32 ∉ lt (txtG g) ∧ (txtG g).length ≤ 12 ∧ ∀ c ∈ lt (txtG g), c < 128 := by
  have h1 := h.p1
  have h2 := h.p2
  have h3 := h.l1
  have h4 := h.l2
  have h5 := h.h2
  obtain ⟨_, a1, a2, _, _, a3⟩ := num_ok (i := g.1) (by omega) (by omega)
  obtain ⟨_, b1, b2, _, _, b3⟩ := num_ok (i := g.2.1) (by omega) (by omega)
  obtain ⟨_, c1, c2, _, _, c3⟩ := num_ok (i := g.2.2) (by omega) (by omega)
  refine ⟨?_, ?_, ?_⟩
  · rw [txtG_lt]
    simp only [List.mem_append, List.mem_cons, not_or]
    exact ⟨a2, by decide, b2, by decide, by decide, c2⟩
  · rw [← lt_len, txtG_lt]
    simp only [List.length_append, List.length_cons, lt_len]
    omega
  · rw [txtG_lt]
    intro c hc
    simp only [List.mem_append, List.mem_cons] at hc
    rcases hc with hc | rfl | hc | rfl | rfl | hc
    · exact a3 c hc
    · decide
    · exact b3 c hc
    · decide
    · decide
    · exact c3 c hc
theorem foundOf_txt {gs : List Gt} (h : GatesOk gs) : foundOf (txtGs gs) = encGs gs := by
  unfold foundOf
  rw [sp_eq, txtGs_join, split_join]
  · show D.tup _ = D.tup _
    congr 1
    rw [List.map_map]
    exact List.map_congr_left fun g hg => gateOf_txt (h.ok g hg)
  · intro z
    have := h.one
    have : (gs.map txtG).length = 0 := by rw [z]; rfl
    rw [List.length_map] at this
    omega
  · intro w hw
    obtain ⟨g, hg, rfl⟩ := List.mem_map.mp hw
    exact (txtG_free (h.ok g hg)).1
theorem parsed_txt {gs : List Gt} (h : GatesOk gs) : parsed (txtGs gs) = true := by
  unfold parsed
  rw [foundOf_txt h, mGates_enc h, gsOf_enc]
  simp
theorem parsed_ex {t : Str} (h : parsed t = true) : foundOf t = encGs (gsOf (foundOf t)) ∧ GatesOk (gsOf (foundOf t)) ∧ txtGs (gsOf (foundOf t)) = t := by
  unfold parsed at h
  simp only [Bool.and_eq_true, decide_eq_true_eq] at h
  obtain ⟨h1, h2⟩ := mGates_ex h.1
  exact ⟨h1, h2, h.2⟩
/-- a blank at the end -/
theorem not_parsed_blank {gs : List Gt} (h : GatesOk gs) : parsed (txtGs gs ++ (" " : Str)) = false := by
  have e : foundOf (txtGs gs ++ (" " : Str)) = .tup ((gs.map txtG ++ [Str.empty]).map gateOf) := by
    unfold foundOf
    rw [sp_eq]
    have hne : gs.map txtG ≠ [] := fun z => by
      have := h.one
      have : (gs.map txtG).length = 0 := by rw [z]; rfl
      rw [List.length_map] at this
      omega
    have ej : txtGs gs ++ ⟨#[32]⟩ = Str.join ⟨#[32]⟩ (gs.map txtG ++ [Str.empty]) := by
      rw [txtGs_join]
      generalize gs.map txtG = ws at hne
      induction ws with
      | nil => exact absurd rfl hne
      | cons w ws ih =>
        cases ws with
        | nil =>
          show w ++ ⟨#[32]⟩ = w ++ ⟨#[32]⟩ ++ Str.empty
          rw [PySem.Str.append_empty]
        | cons y r =>
          have := ih (by simp)
          show w ++ ⟨#[32]⟩ ++ Str.join ⟨#[32]⟩ (y :: r) ++ ⟨#[32]⟩ = w ++ ⟨#[32]⟩ ++ Str.join ⟨#[32]⟩ ((y :: r) ++ [Str.empty])
          rw [PySem.Str.append_assoc, this]
    rw [ej, split_join (by simp)]
    intro w hw
    rcases List.mem_append.mp hw with hw | hw
    · obtain ⟨g, hg, rfl⟩ := List.mem_map.mp hw
      exact (txtG_free (h.ok g hg)).1
    · rw [List.mem_singleton.mp hw]
      exact List.not_mem_nil
  unfold parsed
  rw [e]
  have : mGates (.tup ((gs.map txtG ++ [Str.empty]).map gateOf)) = false := by
    have hb : mGate (gateOf Str.empty) = false := by decide +kernel
    show (decide (1 ≤ _) && decide (_ ≤ 8) && (List.all _ mGate && _)) = false
    rw [List.map_append, List.all_append]
    show (_ && _ && (_ && (mGate (gateOf Str.empty) && true) && _)) = false
    rw [hb]
    simp
  rw [this]
  rfl
theorem join_len (c : Nat) {n : Nat} : ∀ (ws : List Str), (∀ w ∈ ws, w.length ≤ n) → (Str.join ⟨#[c]⟩ ws).length ≤ ws.length * (n + 1)
  | [], _ => Nat.zero_le _
  | [x], h => by
    have := h x (by simp)
    show x.length ≤ 1 * (n + 1)
    omega
  | x :: y :: r, h => by
    have h1 := h x (by simp)
    have h2 := join_len c (y :: r) fun w hw => h w (by simp [List.mem_cons] at hw ⊢; exact .inr hw)
    rw [← lt_len, join_lt_cons, List.length_append, List.length_cons, lt_len, lt_len, List.length_cons, Nat.succ_mul]
    omega
theorem txtGs_len {gs : List Gt} (h : GatesOk gs) : (txtGs gs).length ≤ 104 := by
  rw [txtGs_join]
  have := join_len 32 (n := 12) (gs.map txtG) fun w hw => by
    obtain ⟨g, hg, rfl⟩ := List.mem_map.mp hw
    exact (txtG_free (h.ok g hg)).2.1
  rw [List.length_map] at this
  have := h.most
  omega
theorem txtGs_ascii {gs : List Gt} (h : GatesOk gs) : ∀ c ∈ lt (txtGs gs), c < 128 := by
  rw [txtGs_join]
  have key : ∀ ws : List Str, (∀ w ∈ ws, ∀ c ∈ lt w, c < 128) → ∀ c ∈ lt (Str.join ⟨#[32]⟩ ws), c < 128 := fun ws => by
    induction ws with
    | nil => intro _ c hc; cases hc
    | cons w ws ih =>
      intro hw
      cases ws with
      | nil => exact hw w (by simp)
      | cons y r =>
        intro c hc
        rw [join_lt_cons] at hc
        rcases List.mem_append.mp hc with hc | hc
        · exact hw w (by simp) c hc
        · rcases List.mem_cons.mp hc with rfl | hc
          · decide
          · exact ih (fun v hv => hw v (by simp [List.mem_cons] at hv ⊢; exact .inr hv)) c hc
  refine key _ fun w hw => ?_
  obtain ⟨g, hg, rfl⟩ := List.mem_map.mp hw
  exact (txtG_free (h.ok g hg)).2.2
end JL

namespace JL
open PySem PySem.Spec L2
theorem JW.cast {G : Ctx} {Z Z1 : State} {e : Expr} {t u : Bool} (h : JW G e Z t Z1) (q : t = u) : JW G e Z u Z1 := q ▸ h
/-! ### what the defs of the package do -/
def R_between : List D → Out → Prop := fun ds o => ∃ d lo hi, known d = true ∧ ds = [d, .int lo, .int hi] ∧ o = .ret (.bl (mBetween d lo hi))
def R_gate : List D → Out → Prop := fun ds o => ∃ n d, dk n d = true ∧ ds = [d] ∧ o = .ret (.bl (mGate d))
def R_isGates : List D → Out → Prop := fun ds o => ∃ n d, dk n d = true ∧ ds = [d] ∧ o = .ret (.bl (mGates d))
def R_check (C : Nat → Addr) : List D → Out → Prop := fun ds o => ∃ n d, dk n d = true ∧ ds = [d] ∧ o = if mGates d = true then .ret .non else .exc (C 0)
def R_gtext : List D → Out → Prop := fun ds o => ∃ gs, GatesOk gs ∧ ds = [encGs gs] ∧ o = .ret (.str (txtGs gs))
def R_format (C : Nat → Addr) : List D → Out → Prop := fun ds o => ∃ n d, dk n d = true ∧ ds = [d] ∧ o = if mGates d = true then .ret (.str (txtGs (gsOf d))) else .exc (C 0)
def R_number : List D → Out → Prop := fun ds o => ∃ w : Str, w.length ≤ 90000 ∧ ds = [.str w] ∧ o = .ret (numOf w)
def R_gateOf : List D → Out → Prop := fun ds o => ∃ w : Str, w.length ≤ 90000 ∧ ds = [.str w] ∧ o = .ret (gateOf w)
def parseO (C : Nat → Addr) (d : D) : Out := match d with
  | .str t => if parsed t = true then .ret (foundOf t) else .exc (C 8)
  | _ => .exc (C 8)
def R_parse (C : Nat → Addr) : List D → Out → Prop := fun ds o => ∃ n d, dk n d = true ∧ (∀ t : Str, d = .str t → t.length ≤ 80000) ∧ ds = [d] ∧ o = parseO C d
theorem part_len (x y : Str) : (Txt.partition x y).1.length ≤ x.length ∧ (Txt.partition x y).2.1.length ≤ x.length ∧ (Txt.partition x y).2.2.length ≤ x.length := PyProof.Rows.fact_partition x y
theorem num_dk (w : Str) : dk 0 (numOf w) = true := by unfold numOf; split <;> rfl
theorem found_dk (t : Str) : dk 2 (foundOf t) = true := by
  show ((Txt.split t (" " : Str)).map gateOf).all (dk 1) = true
  rw [List.all_eq_true]
  intro x hx
  obtain ⟨w, _, rfl⟩ := List.mem_map.mp hx
  show (dk 0 _ && (dk 0 _ && (dk 0 _ && true))) = true
  rw [num_dk, num_dk, num_dk]
  rfl
/-! ### how it ended -/
def namesL : List Str := ["gates", "gate", "degree", "road", "place", "number", "side", "most", "text", "no_road", "endless", "last_one", "many", "undo"]
def R_raises : List D → Out → Prop := fun ds o => ∃ (y : Str) (j : Nat), namesL[j]? = some y ∧ ds = [.str y] ∧ o = .ret (.tup [.str "raised", .int (j : Int)])
def spName (C : Nat → Addr) : Sp := fun vs H Q E => ∃ (a : Addr) (c : Nat), vs = [.ref a] ∧ c < 14 ∧ H a = some (ExH (.ref (C c)) a) ∧ ∀ H', Same H H' → Q (.int (c : Int)) H'
def R_out (C : Nat → Addr) (R : List D → Out → Prop) : List D → Out → Prop := fun ds o => (∃ d, R ds (.ret d) ∧ o = .ret (.tup [.str "returned", d])) ∨ ∃ c : Nat, c < 14 ∧ R ds (.exc (C c)) ∧ o = .ret (.tup [.str "raised", .int (c : Int)])
theorem names_nodup : ∀ j, j < 14 → ∀ m, m < j → namesL[m]? ≠ namesL[j]? := by decide +kernel
def is14 (c : Nat) : List Bool := (List.range 14).map fun j => decide (c = j)
theorem is14_one : ∀ c, c < 14 → (is14 c).countP id = 1 := by decide +kernel
theorem is14_at : ∀ c, c < 14 → (is14 c)[c]? = some true := by decide +kernel
theorem is14_min : ∀ c, c < 14 → ∀ m, m < c → (is14 c)[m]? ≠ some true := by decide +kernel
end JL
namespace JL
open PySem PySem.Spec L2
/-- _law_name(caught) -/
theorem je_name_of {G : Ctx} {Z : State} {k c : Nat} {C : Nat → Addr} {x : Str} {p p2 pos : Pos} {a : Addr} (F : DefS G.g "_law_name" k (spName C)) (hk : k ≤ G.k) (s : Nat) (hc : c < 14) (h : Z.ρ[s]? = some (some (.res [a] (.ref a) (errP (C c) a)))) (hn : nmB G.N G.sc s x = true := by kernel_rfl) (hg : glB G.sc "_law_name" = true := by kernel_rfl) :
    JE G (.Call (.Name "_law_name" p) [.Name x p2] [] pos) Z (.int (c : Int)) Z :=
  je_eff F hk (ja_cons (nmR s h hn) ja_nil) (fun B σ H vs Q k1 r1 qq => by
    obtain ⟨v, rfl, r⟩ := one_of r1
    cases r.inv_ref
    obtain ⟨_, _, _, _, hp, _⟩ := k1.env s _ h
    exact ⟨a, c, rfl, hc, hp, fun H' sm => qq _ H' (k1.same sm) (Kp.same sm) (.int _)⟩) hg
end JL

namespace JL
open PySem PySem.Spec L2
/-- list(x) of a text -/
theorem call_listStr {X : Cx} (hc : X.calm = true) : CallR X (.type "list") (fun xs H Q => ∃ x : Str, xs = [.str x] ∧ x.length ≤ sizeLine ∧ ∀ l, H l = none → Q (.ref l) (upd H l (.lst (x.cps.toList.map fun c => V.str ⟨#[c]⟩)))) := by
  intro pins s σ H xs us Q I r h
  obtain ⟨x, rfl, hz, q⟩ := h
  obtain ⟨u, rfl, t, rfl⟩ := vals1 r
  refine call_list_str (I.ok.hd hc) x t (fun h' tk acc' c' hk hS' hacc => ?_) hz
  refine ⟨.ref s.heap.objs.size, upd H s.heap.objs.size (.lst (x.cps.toList.map fun c => V.str ⟨#[c]⟩)), I.laid (t' := tk) hk (Nat.le_refl _) (show ObjOk X.prog X.w _ _ _ (.lst _) from ⟨?_, acc'.toList, c', ?_, ?_⟩), rfl, q _ (I.hok.fresh (Nat.le_refl _))⟩
  · rw [List.length_map, Array.length_toList]; exact hz
  · refine vals_of_at ?_ fun j y w h1 h2 => ?_
    · rw [List.length_map, Array.length_toList, Array.length_toList, hacc.1]
    · obtain ⟨c, u, e1, e2⟩ := hacc.2 j w (by rw [← Array.getElem?_toList]; exact h2)
      rw [List.getElem?_map, Array.getElem?_toList, e1] at h1
      cases h1
      exact ⟨u, e2⟩
  · rw [Array.toArray_toList]; exact hS'
section
variable {G : Ctx} {Z Z1 Z2 Z3 : State} {a b c e : Expr} {es : List Expr} {ds : List D} {pos pos' p p2 p3 : Pos} {d d1 d2 : D} {x : Str} {P : OutS → Prop}
theorem je_listS {z : Str} (B : Bi G.g) (ha : JA G [a] Z [.str z] Z1) (hz : z.length ≤ 100000) (hg : glB G.sc "list" = true := by kernel_rfl) (he : ∀ env, starEach [a] env = (false, eval a env) :: starEach [] env := by intro _; rfl) (hpl : ∀ env, (backTo pos (starEach [] env)).any (·.1) = false := by intro _; rfl) : JE G (.Call (.Name "list" p) [a] [] pos) Z (.lst (signs z)) Z1 :=
  je_callTy (r := fun X xs H Q => ∃ x : Str, xs = [.str x] ∧ x.length ≤ sizeLine ∧ ∀ l, H l = none → Q (.ref l) (upd H l (.lst (x.cps.toList.map fun c => V.str ⟨#[c]⟩)))) (fun X f => call_listStr f.calm) B.list_ (by decide +kernel) hg ha (fun X f B2 σ H vs Q k r q => by
    obtain ⟨v, rfl, rr⟩ := one_of r
    cases rr.inv_str
    refine ⟨z, rfl, sz5 hz, fun l nl => ?_⟩
    exact q _ _ (same_upd nl) (rp_lst (k.fresh nl) upd_same (rpa_of (fun c => .str _) _))) he hpl
theorem je_dict0 : JE G (.Dict [] [] pos) Z .emp Z := fun X f B σ H k Q q =>
  ⟨_, pe_dnewK, fun p np => by
    have s := same_upd (o := .dK []) np
    exact q _ _ (k.same s) (Kp.same s) (.emp (k.fresh np) upd_same)⟩
theorem jx_if {t : Bool} {C : Addr} (hc : JT G c Z t Z1) (ha : t = true → JX G a Z1 C Z2) (hb : t = false → JX G b Z1 C Z2) : JX G (.IfExp c a b pos) Z C Z2 := fun X f B σ H k W tk w Q =>
  ⟨_, pe_ifExp p_T p_E p_E, hc X f B σ H k _ fun H1 k1 p1 => by
    cases t with
    | true => exact (if_pos rfl).mpr (ha rfl X f B σ H1 k1 W tk w Q)
    | false => exact (if_neg Bool.false_ne_true).mpr (hb rfl X f B σ H1 k1 W tk w Q)⟩
/-- z[e:], e with its effects -/
theorem je_slFrom {z : Str} {i : Int} (ha : JE G a Z (.str z) Z) (hl : JE G e Z (.int i) Z1) (hz : z.length ≤ 100000) : JE G (.Subscript a (.Slice (some e) none none p2) pos) Z (.str (cutS z (some i) none)) Z1 := fun X f B σ H k Q q =>
  ⟨_, pe_slice sl_str p_E (po_some p_E) po_none, ha X f B σ H k _ fun x H1 k1 p1 r1 => hl X f B σ H1 k1 _ fun y H2 k2 p2 r2 => by
    cases r1.inv_str
    exact ⟨i, r2.inv_int, z, rfl, sz5 hz, q _ H2 k2 (p1.trans p2) (.str _)⟩⟩
/-- town = _law_town(script) -/
theorem js_town {k : Nat} {y : Str} {py : Pos} {ar : Addr} {ns : List Int} (i j : Nat) (F : DefS G.g "_law_town" k (spTown G.g.K)) (hk : k ≤ G.k) (h : Z.ρ[j]? = some (some (scr ar G.g.K ns))) (hl : ns.length ≤ 1000) (hp : ∀ q, q ∉ Z.S → P (.nx ⟨q :: Z.S, Z.ρ.set i (some (twn q (0 :: ns)))⟩))
    (hn : stB G.N G.sc G.fn i y = true := by kernel_rfl) (hn2 : nmB G.N G.sc j x = true := by kernel_rfl) (hg : glB G.sc "_law_town" = true := by kernel_rfl) (hs : ∀ env, swapsWith (.Call (.Name "_law_town" p2) [.Name x p3] [] pos') (some (.Name y py)) pos.line env = pure false := by intro _; rfl) :
    JS G (.Assign [.Name y py] (.Call (.Name "_law_town" p2) [.Name x p3] [] pos') pos) Z P := by
  intro X f B σ H kk W E tk en
  obtain ⟨fa, fd, ps, FK, hm, kp, bs⟩ := F.ex
  obtain ⟨h1, h2, _⟩ := gl_of f hg
  simp only [stB, Bool.and_eq_true, decide_eq_true_eq] at hn
  obtain ⟨l1, l2⟩ := loc_of f hn.2
  obtain ⟨o0, e0, e1, _, hA, _⟩ := kk.env j _ h
  subst e1
  refine ⟨_, ps_set (i := i) (by rw [f.N]; exact f.nd) (by rw [f.N]; exact hn.1) l1 (pe_call (fnX f FK) (f.room.mono hk) h1 (by rw [f.mg]; exact hm) (by rw [f.K]; exact kp) (by rw [f.K]; exact bs) .nil (E := E0) passL (pa_cons (pe_slot f hn2) pa_nil) h2 rfl rfl) (hs _) l2, .ref ar, e0, ar, ns, rfl, hA, hl, fun q H' nq sm hq => ?_⟩
  obtain ⟨k2, _⟩ := kk.newRes i (R := [q]) (v := .ref q) (P := fun H => H q = some (.lst ((0 :: ns).map V.int))) sm (fun b m => by rw [List.mem_singleton.mp m]; exact ⟨nq, _, hq, fun z => z⟩) hq twn_sound
  exact en.nx _ _ _ (hp q (kk.fresh nq)) k2
end
/-- data equals itself -/
theorem eqD_refl {n : Nat} {d : D} (h : okD n d = true) : eqD n d d = true := PySem.SeqAt.eqv_refl _ (py_lay n d h).1
end JL
namespace JL
open PySem PySem.Spec L2
/-! ### a law -/
def spLaw (K : PySem.W.Frag) : Sp := fun vs H Q E => ∃ (a : Addr) (ns : List Int), vs = [.ref a] ∧ ScrIn K H a ns ∧ ns.length ≤ 1000 ∧ ∀ H', Q (.bl true) H'
theorem town0 (ns : List Int) : TownOk ns (0 :: ns) 0 := ⟨by simp, Int.le_refl _, Int.le_refl _⟩
/-- the law's def, from its body -/
abbrev LawD (g : Glob) (st : Stmt) (f : Addr) (fd : FuncData) : Prop := FunD g.K "law" "law" (defArgs st) (defBody st) (defScope st) [] [] f fd
abbrev LawOk (g : Glob) (k : Nat) (f : Addr) (fd : FuncData) : Prop := FnOk g.P g.w g.K g.mg g.base (L2.CX g.P g.w) k f fd ["script"] (spLaw g.K)
theorem law_at {g : Glob} {st : Stmt} {N : List Str} {k : Nat} {f : Addr} {fd : FuncData} (F : LawD g st f fd) (S : FnScope N ["script"] (defScope st)) (hN : 1 ≤ N.length)
    (body : ∀ (a : Addr) (ns : List Int), ns.length ≤ 1000 → JSs ⟨g, N, defScope st, k, fun _ => true, true⟩ (defBody st) ⟨[], [some (scr a g.K ns)] ++ List.replicate (N.length - 1) none⟩ (postRt fun _ d => d = .bl true)) : LawOk g (k + 1) f fd := by
  refine F.ok S (fun vs H Q E h => by obtain ⟨_, _, rfl, _⟩ := h; rfl) (fun cdv A outer s H vs Q E hr hsp => ?_)
  have key : ∃ B Z P, Ok B Z (L2.start N vs) H ∧ EndsOk B (fun cls d _ H => E cls d H) { nx := fun _ H' => Q .non H', rt := Q } P ∧ JSs ⟨g, N, defScope st, k, fun _ => true, true⟩ (defBody st) Z P := by
    obtain ⟨a, ns, rfl, hA, hl, hQ⟩ := hsp
    refine ⟨⟨H, [], [], fun _ _ => False, fun _ _ => False⟩, _, _, ?_, ends_rt fun Z d v σ H' hp ok rv => ?_, body a ns hl⟩
    · refine ok_start (N := N) (vs := [.ref a]) (evs := [scr a g.K ns]) rfl hN (fun i w ev h1 h2 => ?_) (fun i j e f h1 h2 b m1 m2 => ?_) (fun e he b hb => ?_) (fun e he q' ds z => ?_) (fun b hb => by cases hb) (fun b hb => hb)
      · match i with
        | 0 => cases h1; cases h2; exact ⟨rfl, (fun _ m => by cases m), hA, scr_sound⟩
        | n + 1 => simp at h1
      · match i, j with
        | 0, 0 => rfl
        | n + 1, _ => simp at h1
        | _, n + 1 => simp at h2
      · rw [List.mem_singleton.mp he] at hb; exact hb
      · rw [List.mem_singleton.mp he] at z; cases z
    · subst hp
      cases rv
      exact hQ H'
  obtain ⟨B, Z, P, k0, en, bd⟩ := key
  exact bd _ (fits_cx S.nd hr) B _ H k0 (fun cls d _ H => E cls d H) _ (takes_of rfl rfl rfl rfl) en
theorem filter_no {α : Type} (xs : List α) (f : α → D) : (xs.filter fun _ => false).map f = [] := by
  rw [List.filter_eq_nil_iff.mpr (fun _ _ => by simp)]
  rfl
end JL

namespace JL
open PySem PySem.Spec L2
/-! ### the head's facts -/
def dOf (x : Str) (st : Stmt) : He.DefD := ⟨(x, none), x, x, defArgs st, defBody st, defScope st, [], []⟩
def eC (K : PySem.W.Frag) (i : Nat) : Addr := He.ga K (errs.getD i Str.empty)
def excB (K : PySem.W.Frag) (C : Addr) : Bool := decide (PySem.W.findIn K (.ref C) "__getattribute__" = some (some (.builtin "BaseException.__getattribute__"))) && (decide (PySem.W.findIn K (.ref C) "__getattr__" = some none) && (decide (PySem.W.subIn K (.ref C) (.type "BaseException") = some true) && (PySem.W.hasDictIn K C &&
  (decide (PySem.W.findIn K (.ref C) "__class__" = some (some (.builtin "object.__class__"))) && (decide (PySem.W.specialIn K (.builtin "object.__class__") "__get__" = some (some (.builtin "getset_descriptor.__get__"))) &&
  (decide (PySem.W.takesIn K (.builtin "object.__class__") = some true) && decide (PySem.W.mroIn K C (.type "object") = some true)))))))
def errsB (K : PySem.W.Frag) : Bool := (List.range 14).all fun i => (List.range 14).all (fun j => decide (PySem.W.kitOne K (.ref (eC K i)) (.ref (eC K j)) = some (decide (i = j)))) && (decide (PySem.W.kitOne K (.ref (eC K i)) (.type "ValueError") = some true) && (excB K (eC K i) && decide (PySem.W.exmOne K (.ref (eC K i)) (.ref (He.ga K "RoadError")) = some true)))
def freeL : List Str := ["isinstance", "len", "all", "any", "sum", "abs", "max", "min", "tuple", "list", "int", "str", "range", "enumerate", "zip", "bool", "sorted", "dict", "ValueError", "set"]
def faL : List He.Fa := freeL.map He.Fa.free ++ errs.map He.Fa.glo ++ errs.map He.Fa.exc ++ [He.Fa.glo "RoadError"]
section
variable {K : PySem.W.Frag} {h : Heap} {g : Glob} {fa : List He.Fa} {fn : List He.DefD}
theorem bi_of (X : g.K.In h) (G : h.Ns mainGlobals g.mg) (c : He.SaysD fa fn g.K) (hf : ∀ f ∈ faL, f ∈ fa) : Bi g := by
  have key : ∀ x, x ∈ freeL → g.mg x = none := fun x hx => He.free_ok X G (c.facts (hf _ (by
    unfold faL
    simp only [List.mem_append]
    exact .inl (.inl (.inl (List.mem_map.mpr ⟨x, hx, rfl⟩))))))
  exact ⟨key _ (by simp [freeL]), key _ (by simp [freeL]), key _ (by simp [freeL]), key _ (by simp [freeL]), key _ (by simp [freeL]), key _ (by simp [freeL]), key _ (by simp [freeL]), key _ (by simp [freeL]), key _ (by simp [freeL]), key _ (by simp [freeL]),
    key _ (by simp [freeL]), key _ (by simp [freeL]), key _ (by simp [freeL]), key _ (by simp [freeL]), key _ (by simp [freeL]), key _ (by simp [freeL]), key _ (by simp [freeL]), key _ (by simp [freeL]), key _ (by simp [freeL]), key _ (by simp [freeL])⟩
theorem errs_of (X : g.K.In h) (G : h.Ns mainGlobals g.mg) (c : He.SaysD fa fn g.K) (hf : ∀ f ∈ faL, f ∈ fa) (e : errsB g.K = true) : Errs g (eC g.K) := by
  have key : ∀ i, i < 14 → (List.range 14).all (fun j => decide (PySem.W.kitOne g.K (.ref (eC g.K i)) (.ref (eC g.K j)) = some (decide (i = j)))) = true ∧ PySem.W.kitOne g.K (.ref (eC g.K i)) (.type "ValueError") = some true ∧ excB g.K (eC g.K i) = true ∧ PySem.W.exmOne g.K (.ref (eC g.K i)) (.ref (He.ga g.K "RoadError")) = some true := fun i hi => by
    have := List.all_eq_true.mp e i (List.mem_range.mpr hi)
    obtain ⟨h1, h2⟩ := He.ba this
    obtain ⟨h3, h4⟩ := He.ba h2
    obtain ⟨h5, h6⟩ := He.ba h4
    exact ⟨h1, of_decide_eq_true h3, h5, of_decide_eq_true h6⟩
  have inF : ∀ x, x ∈ errs → He.Fa.glo x ∈ fa ∧ He.Fa.exc x ∈ fa := fun x hx => ⟨hf _ (by
    unfold faL
    simp only [List.mem_append]
    exact .inl (.inl (.inr (List.mem_map.mpr ⟨x, hx, rfl⟩)))), hf _ (by
    unfold faL
    simp only [List.mem_append]
    exact .inl (.inr (List.mem_map.mpr ⟨x, hx, rfl⟩)))⟩
  refine ⟨fun i j hi hj => ?_, fun i hi => (key i hi).2.1, fun i hi => ?_, fun i x hx => ?_, He.ga g.K "RoadError", He.glo_ok X G (c.facts (hf _ (by unfold faL; simp))), fun i hi => (key i hi).2.2.2⟩
  · exact of_decide_eq_true (List.all_eq_true.mp (key i hi).1 j (List.mem_range.mpr hj))
  · obtain ⟨h1, h⟩ := He.ba (key i hi).2.2.1
    obtain ⟨h2, h⟩ := He.ba h
    obtain ⟨h3, h⟩ := He.ba h
    obtain ⟨h4, h⟩ := He.ba h
    obtain ⟨h5, h⟩ := He.ba h
    obtain ⟨h6, h⟩ := He.ba h
    obtain ⟨h7, h8⟩ := He.ba h
    exact ⟨of_decide_eq_true h1, of_decide_eq_true h2, of_decide_eq_true h3, h4, of_decide_eq_true h5, of_decide_eq_true h6, of_decide_eq_true h7, of_decide_eq_true h8⟩
  · have hm := inF x (List.mem_of_getElem? hx)
    have ee : eC g.K i = He.ga g.K x := by
      unfold eC
      rw [List.getD_eq_getElem?_getD, hx]
      rfl
    obtain ⟨e1, e2, e3, e4⟩ := He.exc_ok (c.facts hm.2)
    rw [ee]
    exact ⟨He.glo_ok X G (c.facts hm.1), e1, e2, e3, e4⟩
theorem defAt_of (X : g.K.In h) (G : h.Ns mainGlobals g.mg) (c : He.SaysD fa fn g.K) {x : Str} {st : Stmt} (h1 : He.Fa.glo x ∈ fa) (h2 : dOf x st ∈ fn) : DefAt g x st := by
  obtain ⟨fd, F⟩ := c.defs h2
  exact ⟨_, fd, He.glo_ok X G (c.facts h1), F⟩
end
/-- what lets nothing out -/
theorem cx_no {P : Program} {w : World} (H : Hp) (s : Shared) (e : Value) (s' : Shared) (h : L2.CX P w [] H s (fun _ _ _ => False) e s') : False := by
  obtain ⟨_, _, _, _, _, _, _, _, _, _, _, _, z⟩ := h
  exact z
/-- the law's end, over facts of the head at every world -/
theorem walk_W {l : PySem.W.OpenLaw} {n k : Nat} {q : Program} {loose : List Str} {XP : (Str → Option Value) → Heap → Prop} {YP : World → Heap → Prop} {d : DefRec} {x : Str} (hn : l.most = some n) (hz : n ≤ sizeLine) (hd : d.params.defaults = []) (hr : Room k callerA)
    (F : ∀ (w : World) (mg : Str → Option Value) (f : Addr) (h : Heap), YP w h → h.Ns mainGlobals mg → mg d.name = some (.ref f) → ∃ (K : PySem.W.Frag) (fd : FuncData) (sp : Sp), K.In h ∧ (∀ (s : Shared) (u : Value), BindsTo s fd ⟨[u], []⟩ [(x, u)]) ∧
      (∀ (H : Hp) (a : Addr) (ns : List Int), ns.length ≤ n → Only H → SqL K H a (ns.map V.int) → sp [.ref a] H (fun v _ => v = .bl true) fun _ _ _ => False) ∧ ∀ base : Heap, K.In base → base.Ns mainGlobals mg → FnOk l.prog w K mg base (L2.CX l.prog w) k f fd [x] sp) :
    PySem.W.WalkO q loose XP YP l.row.toRowW d [] (fun f vs => PySem.call f vs) :=
  Att.attach_call hn hd fun w s0 s1 mg mb f o pm cd doc a vs ns G Y ho hd2 hcd hmg hobj hints hlen hg => by
    obtain ⟨K, fd, sp, KX, hb, hsp, hF⟩ := F w mg f _ Y G.T.g hmg
    exact law_call KX G.T.g G.T.b G.T.builtins G.T.nolimit hg hobj hints (Nat.le_trans hlen hz) hr hF hb (fun H hO hS => hsp H a ns hlen hO hS) fun H e s' => cx_no H s1 e s'
end JL

namespace JL
open PySem PySem.Spec L2
/-! ### a call of what a subscript gives -/
/-- the def at f does as R says -/
structure DefV (g : Glob) (f : Addr) (n k : Nat) (R : List D → Out → Prop) : Prop where
  ex : ∃ fd ps, FnOk g.P g.w g.K g.mg g.base (L2.CX g.P g.w) k f fd ps (spR n R) ∧ PySem.W.keepIn g.K (.ref f) = true ∧ Binds g.K fd ps []
theorem Def.atV {g : Glob} {x : Str} {n k : Nat} {R : List D → Out → Prop} (F : Def g x n k R) : ∃ f, g.mg x = some (.ref f) ∧ DefV g f n k R := by
  obtain ⟨f, fd, ps, FK, hm, kp, bs⟩ := F.ex
  exact ⟨f, hm, fd, ps, FK, kp, bs⟩
theorem eval_callSub (a b : Expr) (p : Pos) (args : List Expr) (keywords : List Keyword) (pos : Pos) (env : Env) : eval (.Call (.Subscript a b p) args keywords pos) env = (do
    callWith pos (← eval (.Subscript a b p) env) [] (backTo pos (starEach args env)) (backToKw pos (keywordEach keywords env))) := rfl
def tCallSub (f : Addr) (sp : Sp) (E : L2.St → XK) (tf : TE) (t : TA) : TE := fun σ H Q => tf σ H fun v H1 => v = .ref f ∧ t σ H1 fun vs H2 => sp vs H2 Q (E σ)
section
variable {X : Cx} {CX : CXT} {k : Nat} {f : Addr} {fd : FuncData} {ps : List Str} {sp : Sp} {E : L2.St → XK} {a b e : Expr} {es : List Expr} {p pos : Pos} {t : TA} {tf : TE}
theorem pe_callSub (F : FnOk X.prog X.w X.K X.mg X.base CX k f fd ps sp) (hr : Room k X.A) (hk : PySem.W.keepIn X.K (.ref f) = true) (hb : Binds X.K fd ps []) (hx : ∀ σ, PassesAt CX X σ (E σ)) (hf : PE X (.Subscript a b p) tf) (ha : PA X (e :: es) t)
    (he : starEach (e :: es) X.env = (false, eval e X.env) :: starEach es X.env := by rfl) (hpl : (backTo pos (starEach es X.env)).any (·.1) = false := by rfl) : PE X (.Call (.Subscript a b p) (e :: es) [] pos) (tCallSub f sp E tf t) := by
  refine ⟨fun pins s σ H Q I h => ?_⟩
  rw [eval_callSub]
  refine wpAny_bind (thn (hf.run pins s σ H _ I h) fun u s1 ⟨v, H1, I1, r1, q1⟩ => ?_)
  obtain ⟨rfl, ht⟩ := q1
  cases r1
  refine PySem.W.callWith_K (h₀ := X.base) I.ok.mod.kin hk (thn (ha.run pos pins s1 σ _ _ I1 ht) fun us s2 ⟨vs, H2, I2, r, q⟩ => ⟨I2.kIn, ?_⟩) he hpl
  exact run_fnS F hr hb (hx σ) I2 r q
end
section
variable {G : Ctx} {Z Z1 Z2 Z3 : State} {a b c e : Expr} {es : List Expr} {ds : List D} {pos pos' p p2 p3 : Pos} {d d1 d2 : D} {x : Str} {P : OutS → Prop} {n k : Nat} {R : List D → Out → Prop} {f C : Addr}
theorem je_callS (F : DefV G.g f n k R) (hk : k ≤ G.k) (hf : JE G (.Subscript a b p) Z (.ref f) Z1) (ha : JA G (e :: es) Z1 ds Z2) (hr : R ds (.ret d)) (hn : ds.length = n := by rfl) (he : ∀ env, starEach (e :: es) env = (false, eval e env) :: starEach es env := by intro _; rfl)
    (hpl : ∀ env, (backTo pos (starEach es env)).any (·.1) = false := by intro _; rfl) : JE G (.Call (.Subscript a b p) (e :: es) [] pos) Z d Z2 := by
  intro X t B σ H kk Q q
  obtain ⟨fd, ps, FK, kp, bs⟩ := F.ex
  refine ⟨_, pe_callSub (fnX t FK) (t.room.mono hk) (by rw [t.K]; exact kp) (by rw [t.K]; exact bs) (E := fun _ => E0) (fun σ pins H s e s' _ h => passL pins σ H s e s' ‹_› h) p_E p_A (he _) (hpl _), ?_⟩
  refine hf X t B σ H kk _ fun v H1 k1 p1 r1 => ⟨r1.inv_ref, ha X t B σ H1 k1 _ fun vs H2 k2 p2 r2 => ?_⟩
  exact ⟨by rw [r2.1]; exact hn, Z2.S, ds, .ret d, r2, k2.dom, hr, fun v H3 s r3 => q v H3 (k2.same s) ((p1.trans p2).trans (Kp.same s)) r3⟩
theorem jx_callS (F : DefV G.g f n k R) (hk : k ≤ G.k) (hf : JE G (.Subscript a b p) Z (.ref f) Z1) (ha : JA G (e :: es) Z1 ds Z2) (hr : R ds (.exc C)) (hn : ds.length = n := by rfl) (he : ∀ env, starEach (e :: es) env = (false, eval e env) :: starEach es env := by intro _; rfl)
    (hpl : ∀ env, (backTo pos (starEach es env)).any (·.1) = false := by intro _; rfl) : JX G (.Call (.Subscript a b p) (e :: es) [] pos) Z C Z2 := by
  intro X t B σ H kk W tk w Q
  obtain ⟨fd, ps, FK, kp, bs⟩ := F.ex
  refine ⟨_, pe_callSub (fnX t FK) (t.room.mono hk) (by rw [t.K]; exact kp) (by rw [t.K]; exact bs) (E := WE W) (fun σ => passAt tk σ) p_E p_A (he _) (hpl _), ?_⟩
  refine hf X t B σ H kk _ fun v H1 k1 p1 r1 => ⟨r1.inv_ref, ha X t B σ H1 k1 _ fun vs H2 k2 p2 r2 => ?_⟩
  exact ⟨by rw [r2.1]; exact hn, Z2.S, ds, .exc C, r2, k2.dom, hr, fun H3 s => w H3 (k2.same s)⟩
/-! ### list(range(..)), tuple(range(..)) -/
theorem je_listR1 {m : Int} (B : Bi G.g) (ha : JE G a Z (.int m) Z1) (hm : 0 ≤ m ∧ m ≤ 100000 := by decide) (hg : glB G.sc "list" = true := by kernel_rfl) (hg2 : glB G.sc "range" = true := by kernel_rfl) (n1 : ∀ env, starEach [a] env = (false, eval a env) :: starEach [] env := by intro _; rfl) (n2 : ∀ env, starEach [.Call (.Name "range" p2) [a] [] p3] env = (false, eval (.Call (.Name "range" p2) [a] [] p3) env) :: starEach [] env := by intro _; rfl) :
    JE G (.Call (.Name "list" p) [.Call (.Name "range" p2) [a] [] p3] [] pos) Z (.lst (rng 0 m)) Z1 := by
  intro X f B2 σ H k Q q
  obtain ⟨h1, h2, h3⟩ := gl_of f hg
  obtain ⟨g1, g2, g3⟩ := gl_of f hg2
  refine ⟨_, pe_listRg f.calm h1 (by rw [f.mg]; exact B.list_) (prg_1 g1 (by rw [f.mg]; exact B.range_) p_E (n1 _)) (n2 _), ha X f B2 σ H k _ fun v H1 k1 p1 r1 => ⟨m, r1.inv_int, RgOk.of_le (Int.le_refl _) (by omega) (by omega) hm.1, fun q' nq => ?_⟩⟩
  have s := same_upd (o := .lst (rgV 0 m)) nq
  exact q _ _ (k1.same s) (p1.trans (Kp.same s)) (rp_lst (k1.fresh nq) upd_same (rpa_of (fun i => .int _) _))
theorem je_tupR1 {m : Int} (B : Bi G.g) (ha : JE G a Z (.int m) Z1) (hm : 0 ≤ m ∧ m ≤ 100000 := by decide) (hg : glB G.sc "tuple" = true := by kernel_rfl) (hg2 : glB G.sc "range" = true := by kernel_rfl) (n1 : ∀ env, starEach [a] env = (false, eval a env) :: starEach [] env := by intro _; rfl) (n2 : ∀ env, starEach [.Call (.Name "range" p2) [a] [] p3] env = (false, eval (.Call (.Name "range" p2) [a] [] p3) env) :: starEach [] env := by intro _; rfl) :
    JE G (.Call (.Name "tuple" p) [.Call (.Name "range" p2) [a] [] p3] [] pos) Z (.tup (rng 0 m)) Z1 := by
  intro X f B2 σ H k Q q
  obtain ⟨h1, h2, h3⟩ := gl_of f hg
  obtain ⟨g1, g2, g3⟩ := gl_of f hg2
  refine ⟨_, pe_tupRg f.calm h1 (by rw [f.mg]; exact B.tuple_) (prg_1 g1 (by rw [f.mg]; exact B.range_) p_E (n1 _)) (n2 _), ha X f B2 σ H k _ fun v H1 k1 p1 r1 => ⟨m, r1.inv_int, RgOk.of_le (Int.le_refl _) (by omega) (by omega) hm.1, fun q' nq => ?_⟩⟩
  have s := same_upd (o := .tup (rgV 0 m)) nq
  exact q _ _ (k1.same s) (p1.trans (Kp.same s)) (rp_tup (k1.fresh nq) upd_same (rpa_of (fun i => .int _) _))
theorem je_listR2 {l m : Int} (B : Bi G.g) (ha : JE G a Z (.int l) Z1) (hb : JE G b Z1 (.int m) Z2) (hm : 0 ≤ l ∧ l ≤ 100000 ∧ 0 ≤ m ∧ m ≤ 100000 := by decide) (hg : glB G.sc "list" = true := by kernel_rfl) (hg2 : glB G.sc "range" = true := by kernel_rfl) (n1 : ∀ env, starEach [a, b] env = (false, eval a env) :: starEach [b] env := by intro _; rfl) (nb : ∀ env, starEach [b] env = (false, eval b env) :: starEach [] env := by intro _; rfl) (hpl : ∀ env, (backTo p3 (starEach [b] env)).any (·.1) = false := by intro _; rfl) (n2 : ∀ env, starEach [.Call (.Name "range" p2) [a, b] [] p3] env = (false, eval (.Call (.Name "range" p2) [a, b] [] p3) env) :: starEach [] env := by intro _; rfl) :
    JE G (.Call (.Name "list" p) [.Call (.Name "range" p2) [a, b] [] p3] [] pos) Z (.lst (rng l m)) Z2 := by
  intro X f B2 σ H k Q q
  obtain ⟨h1, h2, h3⟩ := gl_of f hg
  obtain ⟨g1, g2, g3⟩ := gl_of f hg2
  refine ⟨_, pe_listRg f.calm h1 (by rw [f.mg]; exact B.list_) (prg_2 g1 (by rw [f.mg]; exact B.range_) p_E p_E (n1 _) (nb _) (hpl _)) (n2 _), ha X f B2 σ H k _ fun v H1 k1 p1 r1 => hb X f B2 σ H1 k1 _ fun w H2 k2 p2 r2 => ⟨l, m, r1.inv_int, r2.inv_int, RgOk.of_le hm.1 (by omega) (by omega) hm.2.2.1, fun q' nq => ?_⟩⟩
  have s := same_upd (o := .lst (rgV l m)) nq
  exact q _ _ (k2.same s) ((p1.trans p2).trans (Kp.same s)) (rp_lst (k2.fresh nq) upd_same (rpa_of (fun i => .int _) _))
/-! ### x = x + [..], x a list of its own -/
theorem js_catOwn (i : Nat) {q : Addr} {es2 : List D} {p4 : Pos} (h : JE G e Z (.lst es2) Z1) (hi0 : Z.ρ[i]? = some (some (.own q ds))) (hi : Z1.ρ[i]? = some (some (.own q ds))) (hp : ∀ q', q' ∉ Z1.S → P (.nx ⟨q' :: Z1.S, Z1.ρ.set i (some (.own q' (ds ++ es2)))⟩)) (hz : ds.length + es2.length ≤ 100000 := by first | exact Nat.le_of_ble_eq_true rfl | omega)
    (hn : stB G.N G.sc G.fn i x = true := by kernel_rfl) (hn2 : nmB G.N G.sc i x = true := by kernel_rfl) (hs : ∀ env, swapsWith (.BinOp (.Name x p2) .Add e p4) (some (.Name x pos')) pos.line env = pure false := by intro _; rfl) :
    JS G (.Assign [.Name x pos'] (.BinOp (.Name x p2) .Add e p4) pos) Z P := by
  intro X f B σ H k W E tk en
  simp only [stB, Bool.and_eq_true, decide_eq_true_eq] at hn
  obtain ⟨l1, l2⟩ := loc_of f hn.2
  obtain ⟨o0, e0, e1, _⟩ := k.env i _ hi0
  subst e1
  refine ⟨_, ps_set (i := i) (by rw [f.N]; exact f.nd) (by rw [f.N]; exact hn.1) l1 (pe_op op_cat (pe_slot f hn2) p_E) (hs _) l2, .ref q, e0, h X f B σ H k _ fun v H1 k1 p1 r1 => ?_⟩
  obtain ⟨o1, e2, e3, hS1, xs, hl, rx⟩ := k1.env i _ hi
  obtain ⟨b, ys, rfl, nb, eb, rb⟩ := r1.inv_lst
  exact ⟨q, b, xs, ys, rfl, rfl, hl, eb, by rw [rx.1, rb.1]; exact sz5 hz, fun q' nq => en.nx _ _ _ (hp q' (k1.fresh nq)) (k1.own i nq (rx.append rb))⟩
/-- x = a + b, two lists of data: x's from now on -/
theorem js_ownCat (i : Nat) {es2 : List D} {p4 : Pos} (ha : JE G a Z (.lst ds) Z1) (hb : JE G b Z1 (.lst es2) Z2) (hp : ∀ q', q' ∉ Z2.S → P (.nx ⟨q' :: Z2.S, Z2.ρ.set i (some (.own q' (ds ++ es2)))⟩)) (hz : ds.length + es2.length ≤ 100000 := by first | exact Nat.le_of_ble_eq_true rfl | omega)
    (hn : stB G.N G.sc G.fn i x = true := by kernel_rfl) (hs : ∀ env, swapsWith (.BinOp a .Add b p4) (some (.Name x pos')) pos.line env = pure false := by intro _; rfl) :
    JS G (.Assign [.Name x pos'] (.BinOp a .Add b p4) pos) Z P := by
  intro X f B σ H k W E tk en
  simp only [stB, Bool.and_eq_true, decide_eq_true_eq] at hn
  obtain ⟨l1, l2⟩ := loc_of f hn.2
  refine ⟨_, ps_set (i := i) (by rw [f.N]; exact f.nd) (by rw [f.N]; exact hn.1) l1 (pe_op op_cat p_E p_E) (hs _) l2, ha X f B σ H k _ fun u H0 k0 p0 r0 => hb X f B σ H0 k0 _ fun v H1 k1 p1 r1 => ?_⟩
  obtain ⟨q, xs, rfl, nq0, hl, rx⟩ := (p1 _ _ r0).inv_lst
  obtain ⟨b, ys, rfl, nb, eb, rb⟩ := r1.inv_lst
  exact ⟨q, b, xs, ys, rfl, rfl, hl, eb, by rw [rx.1, rb.1]; exact sz5 hz, fun q' nq => en.nx _ _ _ (hp q' (k1.fresh nq)) (k1.own i nq (rx.append rb))⟩
/-- the target takes the value, the order of the stores told by the scope -/
theorem js_asgE {tg : Expr} (h : JE G e Z d Z1) (hg : JG G tg d Z1 Z2) (hp : P (.nx Z2)) (hw : ∀ env : Env, env.scope = G.sc → swappedStores [tg] e env = pure none) (hs : ∀ env, swapsWithSole [tg] e pos.line env = pure false := by intro _; rfl)
    (h1 : ∀ env, (assignEach [tg] env).map (·.2) = [assign tg env] := by intro _; rfl) : JS G (.Assign [tg] e pos) Z P := fun X f B σ H k W E tk en =>
  ⟨_, ps_asg p_E p_G (hs _) (hw _ f.sc) (h1 _), h X f B σ H k _ fun v H1 k1 p1 r1 => hg X f B σ H1 v k1 r1 _ fun σ' k' p' => en.nx _ _ H1 hp k'⟩
/-- () * n of a tuple -/
theorem je_repT {m : Int} (ha : JE G a Z (.tup ds) Z1) (hb : JE G b Z1 (.int m) Z2) (hne : ds ≠ []) (hm : 2 ≤ m ∧ m ≤ 1000) (hz : ds.length ≤ 100) : JE G (.BinOp a .Mult b pos) Z (.tup (List.replicate m.toNat ds).flatten) Z2 := by
  refine je_bin (r := fun X => rRepT X.K) (fun _ _ => op_repT) ha hb fun X f B σ H x y Q k r1 r2 q => ?_
  obtain ⟨l, xs, rfl, nl, el, rl⟩ := r1.inv_tup
  refine ⟨l, m, xs, rfl, r2.inv_int, .of el, fun z => hne (List.length_eq_zero_iff.mp (by rw [← rl.1, z]; rfl)), hm.1, hm.2, by rw [rl.1]; omega, fun p np => ?_⟩
  have s := same_upd (o := .tup (List.replicate m.toNat xs).flatten) np
  have key : ∀ j : Nat, RpA Z2.S H (List.replicate j xs).flatten (List.replicate j ds).flatten := fun j => by
    induction j with
    | zero => exact RpA.nil
    | succ j ih => rw [List.replicate_succ, List.replicate_succ, List.flatten_cons, List.flatten_cons]; exact rl.append ih
  exact q _ _ (k.same s) (Kp.same s) (rp_tup (k.fresh np) upd_same ((Kp.same s).all (key _)))
/-- [..] * n -/
theorem je_repL {m : Int} (ha : JE G a Z (.lst ds) Z1) (hb : JE G b Z1 (.int m) Z2) (hm : 0 ≤ m ∧ m ≤ 1000) (hz : ds.length ≤ 100) : JE G (.BinOp a .Mult b pos) Z (.lst (List.replicate m.toNat ds).flatten) Z2 := by
  refine je_bin (r := fun _ => rRep) (fun _ _ => op_rep) ha hb fun X f B σ H x y Q k r1 r2 q => ?_
  obtain ⟨l, xs, rfl, nl, el, rl⟩ := r1.inv_lst
  refine ⟨l, m, xs, rfl, r2.inv_int, el, by omega, by omega, ?_, fun p np => ?_⟩
  · rw [rl.1]
    exact sz5 (Nat.le_trans (Nat.mul_le_mul hz (show m.toNat ≤ 1000 by omega)) (by decide))
  have s := same_upd (o := .lst (List.replicate m.toNat xs).flatten) np
  have key : ∀ j : Nat, RpA Z2.S H (List.replicate j xs).flatten (List.replicate j ds).flatten := fun j => by
    induction j with
    | zero => exact RpA.nil
    | succ j ih => rw [List.replicate_succ, List.replicate_succ, List.flatten_cons, List.flatten_cons]; exact rl.append ih
  exact q _ _ (k.same s) (Kp.same s) (rp_lst (k.fresh np) upd_same ((Kp.same s).all (key _)))
end
end JL

namespace JL
open PySem PySem.Spec L2
/-! ### the checks of arguments -/
def R_degree (C : Nat → Addr) : List D → Out → Prop := fun ds o => ∃ d, known d = true ∧ ds = [d] ∧ o = if mBetween d 0 3 = true then .ret .non else .exc (C 2)
def bothO (C : Nat → Addr) (d1 d2 : D) : Out := if mGates d1 = true then (if mBetween d2 0 3 = true then .ret .non else .exc (C 2)) else .exc (C 0)
def R_both (C : Nat → Addr) : List D → Out → Prop := fun ds o => ∃ (m : Nat) (d1 d2 : D), dk m d1 = true ∧ known d2 = true ∧ ds = [d1, d2] ∧ o = bothO C d1 d2
def errK (kind : Nat) (d1 d2 d3 : D) : Option Nat := match kind with
  | 0 => if mGates d1 = true then (if mBetween d2 0 3 = true then none else some 2) else some 0
  | 1 => if mGates d1 = true then none else some 0
  | 2 => if mGates d1 = true then (if mBetween d2 0 3 = true then (if mBetween d3 0 3 = true then (if intOf d2 > 2 then some 12 else none) else some 7) else some 2) else some 0
  | _ => if mBetween d1 0 3 = true then none else some 2
def R_e (C : Nat → Addr) (kind n : Nat) : List D → Out → Prop := fun ds o => ds.length = n ∧ (∃ m, ∀ d ∈ ds, dk m d = true) ∧ ∃ c, errK kind (ds.getD 0 .non) (ds.getD 1 .non) (ds.getD 2 .non) = some c ∧ o = .exc (C c)
section
variable {C : Nat → Addr} {m c : Nat} {d1 d2 d3 : D}
theorem both_of (h1 : dk m d1 = true) (h2 : dk m d2 = true) (h : errK 0 d1 d2 d3 = some c) : R_both C [d1, d2] (.exc (C c)) := by
  refine ⟨m, d1, d2, h1, dk_known h2, rfl, ?_⟩
  have h : (if mGates d1 = true then (if mBetween d2 0 3 = true then none else some 2) else some 0) = some c := h
  unfold bothO
  by_cases g1 : mGates d1 = true
  · by_cases g2 : mBetween d2 0 3 = true
    · rw [if_pos g1, if_pos g2] at h; cases h
    · rw [if_pos g1, if_neg g2] at h ⊢; cases h; rfl
  · rw [if_neg g1] at h ⊢; cases h; rfl
theorem both_ok (h1 : dk m d1 = true) (g1 : mGates d1 = true) (g2 : mBetween d2 0 3 = true) : R_both C [d1, d2] (.ret .non) := by
  obtain ⟨i, rfl, _, _⟩ := mBetween_ex g2
  refine ⟨m, d1, _, h1, rfl, rfl, ?_⟩
  unfold bothO
  rw [if_pos g1, if_pos g2]
theorem check_of (h1 : dk m d1 = true) (h : errK 1 d1 d2 d3 = some c) : R_check C [d1] (.exc (C c)) := by
  refine ⟨m, d1, h1, rfl, ?_⟩
  have h : (if mGates d1 = true then none else some 0) = some c := h
  by_cases g1 : mGates d1 = true
  · rw [if_pos g1] at h; cases h
  · rw [if_neg g1] at h ⊢; cases h; rfl
theorem degree_of (h1 : dk m d1 = true) (h : errK 3 d1 d2 d3 = some c) : R_degree C [d1] (.exc (C c)) := by
  refine ⟨d1, dk_known h1, rfl, ?_⟩
  have h : (if mBetween d1 0 3 = true then none else some 2) = some c := h
  by_cases g1 : mBetween d1 0 3 = true
  · rw [if_pos g1] at h; cases h
  · rw [if_neg g1] at h ⊢; cases h; rfl
end
/-! ### fractions, roads -/
def R_divisor : List D → Out → Prop := fun ds o => ∃ a b : Int, ds = [.int a, .int b] ∧ o = .ret (.int (Int.gcd a b : Nat))
def mFrac (d : D) : Bool := match d with
  | .tup [.int a, .int b] => decide (0 < b) && decide (Int.gcd a b = 1)
  | _ => false
def R_isFrac : List D → Out → Prop := fun ds o => ∃ (n : Nat) (d : D), dk n d = true ∧ ds = [d] ∧ o = .ret (.bl (mFrac d))
def mRoad (d : D) : Bool := match d with
  | .tup l => l.all mFrac
  | _ => false
def lenT (d : D) : Nat := match d with
  | .tup l => l.length
  | _ => 0
def R_areRoad : List D → Out → Prop := fun ds o => ∃ (n : Nat) (d : D), dk n d = true ∧ lenT d ≤ 1000 ∧ ds = [d] ∧ o = .ret (.bl (mRoad d))
def R_isRoad (C : Nat → Addr) : List D → Out → Prop := fun ds o => R_e C 3 2 ds o ∨ ∃ (n : Nat) (i : Int) (d : D), 0 ≤ i ∧ i ≤ 3 ∧ dk n d = true ∧ lenT d ≤ 1000 ∧ ds = [.int i, d] ∧ o = .ret (.bl (mRoad d && decide ((lenT d : Int) = i + 1)))
/-- not entries, for they are no tuple -/
def R_noEnt : List D → Out → Prop := fun ds o => ∃ (d1 d2 : D) (v : D), known v = true ∧ isT v = false ∧ ds = [d1, d2, v] ∧ o = .ret (.bl false)
def R_noEntI : List D → Out → Prop := fun ds o => ∃ (d1 : D) (i : Int) (v : D), known v = true ∧ isT v = false ∧ ds = [d1, .int i, v] ∧ o = .ret (.bl false)
def R_isBar0 (C : Nat → Addr) : List D → Out → Prop := fun ds o => R_e C 0 3 ds o ∨ ∃ (gs : List Gt) (i : Int) (v : D), GatesOk gs ∧ 0 ≤ i ∧ i ≤ 3 ∧ known v = true ∧ isT v = false ∧ ds = [encGs gs, .int i, v] ∧ o = .ret (.bl false)
def R_isTies0 (C : Nat → Addr) : List D → Out → Prop := fun ds o => R_e C 0 4 ds o ∨ ∃ (gs : List Gt) (i : Int) (f v : D), GatesOk gs ∧ 0 ≤ i ∧ i ≤ 3 ∧ dk 1 f = true ∧ mFrac f = true ∧ known v = true ∧ isT v = false ∧ ds = [encGs gs, .int i, f, v] ∧ o = .ret (.bl false)
theorem bet_in {i lo hi : Int} (h1 : lo ≤ i) (h2 : i ≤ hi) : mBetween (.int i) lo hi = true := by
  show (decide (lo ≤ i) && decide (i ≤ hi)) = true
  rw [decide_eq_true h1, decide_eq_true h2]
  rfl
/-- the remainder step -/
theorem gcd_mod {a b : Nat} (h : 0 < b) : Int.gcd ((b : Nat) : Int) (((a : Nat) : Int) % ((b : Nat) : Int)) = Int.gcd (a : Int) (b : Int) := by
  rw [← Int.natCast_emod, Int.gcd_natCast_natCast, Int.gcd_natCast_natCast, Nat.gcd_comm a b, Nat.gcd_rec b a, Nat.gcd_comm]
end JL
namespace JL
theorem dk_up : ∀ {n : Nat} {d : D}, dk n d = true → dk (n + 1) d = true
  | n, .non, _ => rfl
  | n, .bl _, _ => rfl
  | n, .int _, _ => rfl
  | n, .str _, _ => rfl
  | n, .emp, _ => rfl
  | n, .ref _, h => by cases n <;> cases h
  | n, .ty _, h => by cases n <;> cases h
  | 0, .tup _, h => by cases h
  | 0, .lst _, h => by cases h
  | n + 1, .tup l, h => by
    have h : l.all (dk n) = true := h
    show l.all (dk (n + 1)) = true
    rw [List.all_eq_true] at h ⊢
    exact fun x hx => dk_up (h x hx)
  | n + 1, .lst l, h => by
    have h : l.all (dk n) = true := h
    show l.all (dk (n + 1)) = true
    rw [List.all_eq_true] at h ⊢
    exact fun x hx => dk_up (h x hx)
theorem dk_up2 {n : Nat} {d : D} (h : dk n d = true) : dk (n + 2) d = true := dk_up (dk_up h)
end JL
namespace JL
theorem JLc.cast {G : Ctx} {elt tg iter : PySem.Expr} {ifs : List PySem.Expr} {scope : PySem.Scope} {Z Z1 : State} {d d1 : D} (h : JLc G elt tg iter ifs scope Z d Z1) (e : d = d1) : JLc G elt tg iter ifs scope Z d1 Z1 := e ▸ h
end JL

namespace JL
open PySem PySem.Spec L2
def topS (i : Nat) : Stmt := PySem.Challenge.pw_gateroads_k01_argument_ends.main.body.getD i (.Pass ⟨0, 0, 0, 0⟩)

/-! _law_draw -/
theorem drawAt_lt {ns : List Int} {c : Int} (h : ns ≠ []) : drawAt ns c < ns.length := by
  have hl : 0 < ns.length := List.length_pos_iff.mpr h
  unfold drawAt
  have := Int.emod_lt_of_pos c (show (0 : Int) < ns.length by omega)
  have := Int.emod_nonneg c (show (ns.length : Int) ≠ 0 by omega)
  omega
theorem drawAt_cast {ns : List Int} {c : Int} (h : ns ≠ []) : ((drawAt ns c : Nat) : Int) = c % ns.length := by
  have hl : 0 < ns.length := List.length_pos_iff.mpr h
  unfold drawAt
  have := Int.emod_nonneg c (show (ns.length : Int) ≠ 0 by omega)
  omega
theorem atI_getD {α : Type} {xs : List α} {j : Nat} {d : α} (h : j < xs.length) : atI xs (j : Int) = some (xs.getD j d) := by
  refine atI_nat ?_
  rw [List.getElem?_eq_getElem h, List.getD_eq_getElem?_getD, List.getElem?_eq_getElem h]
  rfl
theorem bits_of {i : Int} {n : Nat} (h : i.natAbs < 2 ^ n) (h0 : 0 < n) : i.natAbs.log2 < n := PySem.Flt.log2_lt_of h0 h
theorem mulOk {i j : Int} {n : Nat} (hn : 0 < n ∧ n ≤ 400000) (h1 : i.natAbs < 2 ^ n) (h2 : j.natAbs < 2 ^ n) : CMulW i j := wide_mul h1 h2 hn.1 hn.1 (by omega)
theorem mulS {i j : Int} (h1 : i.natAbs < 1000000000000000000) (h2 : j.natAbs < 1000000000000000000) : CMulW i j := mulOk (n := 60) (by decide) (Nat.lt_trans h1 (by decide)) (Nat.lt_trans h2 (by decide))
theorem divS {i j : Int} (h : 0 < j) (h2 : j < 1000000000000000000) : CDivW i j := wide_div (b := 60) h (by
  have : 1000000000000000000 ≤ 2 ^ 60 := by decide
  omega) (by decide) (by decide)
theorem sc__law_draw : FnScope ["script", "town", "limit", "at", "left", "number"] ["script", "town", "limit"] (defScope (topS 101)) := ⟨rfl, rfl, rfl, by decide +kernel, rfl, by decide +kernel, by decide +kernel⟩
theorem ok__law_draw {g : Glob} {k : Nat} (h : DefAt g "_law_draw" (topS 101)) (B : Bi g) : DefS g "_law_draw" (k + 1) (spDraw g.K) := by
  refine defs_at h sc__law_draw (fun _ _ _ _ _ _ us hl => match us, hl with | [_, _, _], _ => rfl) (fun vs H Q E h => by obtain ⟨_, _, _, _, _, _, rfl, _⟩ := h; rfl) fun vs H Q E hsp => ?_
  obtain ⟨a, q, ns, ts, lim, m, rfl, hA, hQ, tk, hm, hl0, hl1, hQQ⟩ := hsp
  refine ⟨⟨H, [q], [q], fun _ _ => False, fun _ _ => False⟩, ⟨[q], [some (scr a g.K ns), some (twn q ts), some (.dat (.int lim)), none, none, none]⟩, postRt fun Z d => d = .int (drawR ns ts lim).1 ∧ Z.ρ[1]? = some (some (twn q (drawR ns ts lim).2)), ?_, ends_rt fun Z d v σ H' hp ok rv => ?_, ?_⟩
  · refine ok_start (N := ["script", "town", "limit", "at", "left", "number"]) (vs := [.ref a, .ref q, .int lim]) (evs := [scr a g.K ns, twn q ts, .dat (.int lim)]) rfl (by show 3 ≤ 6; decide) (fun i v ev h1 h2 => ?_) (fun i j e f h1 h2 b m1 m2 => ?_) (fun e he b hb => ?_) (fun e he q' ds z => ?_) (fun b hb => ?_) (fun b hb => hb)
    · match i with
      | 0 => cases h1; cases h2; exact ⟨rfl, (fun _ m => by cases m), hA, scr_sound⟩
      | 1 => cases h1; cases h2; exact ⟨rfl, fun _ m => m, hQ, twn_sound⟩
      | 2 => cases h1; cases h2; exact ⟨_, rfl, .int lim⟩
      | n + 3 => simp at h1
    · have w : ∀ (n : Nat) e, ([scr a g.K ns, twn q ts, .dat (.int lim)] : List EV)[n]? = some e → b ∈ e.foot → n = 1 := fun n e hn hb => by
        match n with
        | 0 => cases hn; cases hb
        | 1 => rfl
        | 2 => cases hn; cases hb
        | n + 3 => simp at hn
      rw [w i e h1 m1, w j f h2 m2]
    · simp only [List.mem_cons, List.not_mem_nil, or_false] at he
      rcases he with rfl | rfl | rfl
      · cases hb
      · exact hb
      · cases hb
    · simp only [List.mem_cons, List.not_mem_nil, or_false] at he
      rcases he with rfl | rfl | rfl <;> cases z
    · rw [List.mem_singleton.mp hb]
      exact ⟨_, hQ, fun z => z⟩
  · obtain ⟨rfl, hr⟩ := hp
    cases rv.inv_int
    obtain ⟨_, _, _, _, h2, _⟩ := ok.env 1 _ hr
    exact hQQ H' (fun b ob e n => ok.out b ob e fun m => n (List.mem_singleton.mp m)) h2
  · have hl := tk.len
    have hlo := tk.lo
    have hhi := tk.hi
    have hpos : 0 < ts.length := by omega
    generalize hc : ts.headD 0 + 1 = c
    have e0 : atI ts 0 = some (ts.headD 0) := by
      cases ts with
      | nil => simp at hpos
      | cons t ts => exact atI_nat (j := 0) rfl
    have i0 : ixN ts.length 0 = some 0 := by
      unfold ixN
      rw [if_pos (by decide), if_pos (by omega)]
      rfl
    have e1 : atI (ts.set 0 c) 0 = some c := by
      cases ts with
      | nil => simp at hpos
      | cons t ts => exact atI_nat (j := 0) rfl
    refine js_cons (js_twSet 1 (je_add (je_twIx 1 je_int rfl e0) je_int) je_int rfl i0 ?_)
    rw [hc]
    have eD : drawR ns ts lim = if ns = [] then (c * c * 7 / 3 % lim, ts.set 0 c) else if 10 ^ 18 ≤ ns.getD (drawAt ns c) 0 ∧ 0 < (ts.set 0 c).getD (1 + drawAt ns c) 0 then ((ts.set 0 c).getD (1 + drawAt ns c) 0 % lim, (ts.set 0 c).set (1 + drawAt ns c) ((ts.set 0 c).getD (1 + drawAt ns c) 0 / lim))
        else ((((ns.getD (drawAt ns c) 0 + 104729 * c) % 4294967291) ^ 5 % 4294967279 / 64 * 69621 + ((ns.getD (drawAt ns c) 0 + 104729 * c) % 4294967291) ^ 5 % 4294967279) % 4294967231 / 8 % lim, ts.set 0 c) := by
      unfold drawR
      rw [hc]
    have cS : c.natAbs < 1000000000000000000 := by omega
    have ccS : (c * c).natAbs < 1000000000000000000 := by
      rw [Int.natAbs_mul]
      have : c.natAbs ≤ 1000001 := by omega
      exact Nat.lt_of_le_of_lt (Nat.mul_le_mul this this) (by decide)
    refine js_cons (js_if (jt_scrNil 0 rfl) (fun hn => ?_) (fun hn => ?_))
    · have hn : ns = [] := of_decide_eq_true hn
      refine js_cons (js_ret (je_mod (je_fdiv (je_mul (je_mul (je_twIx 1 je_int rfl e1) (je_twIx 1 je_int rfl e1) (mulS cS cS)) je_int (mulS ccS (by decide))) je_int (divS (by decide) (by decide))) (nm 2 rfl) hl0) ⟨?_, ?_⟩)
      · rw [eD, if_pos hn]
      · rw [eD, if_pos hn]; rfl
    · have hn : ns ≠ [] := of_decide_eq_false hn
      have lt := drawAt_lt (c := c) hn
      have hlen : 0 < ns.length := List.length_pos_iff.mpr hn
      have ca := drawAt_cast (c := c) hn
      refine js_nil ?_
      show JSs _ _ _ _
      refine js_cons (js_set 3 (je_mod (je_twIx 1 je_int rfl e1) (je_scrLen B 0 rfl) (by omega)) ?_)
      rw [← ca]
      have l1 : 1 + drawAt ns c < (ts.set 0 c).length := by rw [List.length_set]; omega
      have ix : ixN (ts.set 0 c).length (1 + (drawAt ns c : Int)) = some (1 + drawAt ns c) := by
        unfold ixN
        rw [if_pos (by omega), if_pos (by omega)]
        congr 1
      have et : atI (ts.set 0 c) (1 + (drawAt ns c : Int)) = some ((ts.set 0 c).getD (1 + drawAt ns c) 0) := by
        have := atI_getD (d := (0 : Int)) l1
        rw [← this]
        congr 1
      have es : atI ns (drawAt ns c : Int) = some (ns.getD (drawAt ns c) 0) := atI_getD lt
      refine js_cons (js_set 4 (je_twIx 1 (je_add je_int (nm 3 rfl)) rfl et) ?_)
      generalize hL : (ts.set 0 c).getD (1 + drawAt ns c) 0 = left at *
      generalize hS : ns.getD (drawAt ns c) 0 = s at *
      refine js_cons (js_if (jt_w (jw_and (jt_ge (je_scrIx 0 (nm 3 rfl) rfl es) (je_pow je_int je_int ⟨by decide, by decide, by decide⟩)) fun _ => jw_and1 (jt_gt (nm 4 rfl) je_int))) (fun ht => ?_) (fun ht => ?_))
      · rw [Bool.and_eq_true, decide_eq_true_eq, decide_eq_true_eq] at ht
        have hc2 : 10 ^ 18 ≤ s ∧ 0 < left := ⟨ht.1, ht.2⟩
        refine js_cons (js_twSet 1 (je_fdiv (nm 4 rfl) (nm 2 rfl) (divS hl0 (by omega))) (je_add je_int (nm 3 rfl)) rfl ix ?_)
        refine js_cons (js_ret (je_mod (nm 4 rfl) (nm 2 rfl) hl0) ⟨?_, ?_⟩)
        · rw [eD, if_neg hn, if_pos hc2]
        · rw [eD, if_neg hn, if_pos hc2]; rfl
      · have hc2 : ¬ (10 ^ 18 ≤ s ∧ 0 < left) := fun z => by
          have w1 : decide ((10 : Int) ^ (Int.toNat 18) ≤ s) = true := decide_eq_true z.1
          have w2 : decide (0 < left) = true := decide_eq_true z.2
          rw [w1, w2] at ht
          cases ht
        refine js_nil ?_
        show JSs _ _ _ _
        refine js_cons (js_set 5 (je_mod (je_add (je_scrIx 0 (nm 3 rfl) rfl es) (je_mul je_int (je_twIx 1 je_int rfl e1) (mulS (by decide) cS))) je_int (by decide)) ?_)
        generalize hN1 : (s + 104729 * c) % 4294967291 = n1 at *
        have n1a : 0 ≤ n1 := by rw [← hN1]; exact Int.emod_nonneg _ (by decide)
        have n1b : n1 < 4294967291 := by rw [← hN1]; exact Int.emod_lt_of_pos _ (by decide)
        refine js_cons (js_set 5 (je_mod (je_pow (nm 5 rfl) je_int ⟨by decide, by decide, by omega⟩) je_int (by decide)) ?_)
        generalize hN2 : n1 ^ (Int.toNat 5) % 4294967279 = n2 at *
        have n2a : 0 ≤ n2 := by rw [← hN2]; exact Int.emod_nonneg _ (by decide)
        have n2b : n2 < 4294967279 := by rw [← hN2]; exact Int.emod_lt_of_pos _ (by decide)
        have hN2' : n1 ^ 5 % 4294967279 = n2 := hN2
        refine js_cons (js_ret (je_mod (je_fdiv (je_mod (je_add (je_mul (je_fdiv (nm 5 rfl) je_int (divS (by decide) (by decide))) je_int (mulS (by omega) (by decide))) (nm 5 rfl)) je_int (by decide)) je_int (divS (by decide) (by decide))) (nm 2 rfl) hl0) ⟨?_, ?_⟩)
        · rw [eD, if_neg hn, if_neg hc2, hN2']
        · rw [eD, if_neg hn, if_neg hc2]; rfl

/-! _law_town -/
theorem sc__law_town : FnScope ["script"] ["script"] (defScope (topS 100)) := ⟨rfl, rfl, rfl, by decide +kernel, rfl, by decide +kernel, by decide +kernel⟩
theorem ok__law_town {g : Glob} {k : Nat} (h : DefAt g "_law_town" (topS 100)) (B : Bi g) : DefS g "_law_town" (k + 1) (spTown g.K) := by
  refine defs_raw h sc__law_town (fun _ _ _ _ _ _ us hl => match us, hl with | [_], _ => rfl) (fun vs H Q E h => by obtain ⟨_, _, rfl, _⟩ := h; rfl) fun X vs H Q E f tk _ _ _ hsp => ?_
  obtain ⟨a, ns, rfl, hA, hl, q⟩ := hsp
  obtain ⟨h1, h2, h3⟩ := gl_of (x := "list") f (by kernel_rfl)
  refine ⟨_, pss_one (ps_ret (pe_op op_cat (pe_lst (pa_cons pe_int pa_nil)) (pe_callTy call_list_of h1 (by rw [f.mg]; exact B.list_) (by decide +kernel) (pa_cons (pe_slot f (i := 0) (by kernel_rfl)) pa_nil) h3 h2))), ?_⟩
  refine ⟨sz5 (by decide), fun p np => ⟨.ref a, rfl, a, ns.map V.int, rfl, .inl (by rw [f.K]; exact (hA.keep fun b o e _ => same_upd np b o e).sq), fun l nl => ?_⟩⟩
  have s1 := same_upd (o := .lst [V.int 0]) np
  have s2 := same_upd (o := .lst (ns.map V.int)) nl
  refine ⟨p, l, [.int 0], ns.map V.int, rfl, rfl, s2 _ _ upd_same, upd_same, sz5 (by rw [List.length_map]; simp; omega), fun r nr => ?_⟩
  have s3 := same_upd (o := .lst ([V.int 0] ++ ns.map V.int)) nr
  refine q r _ ?_ ((s1.trans s2).trans s3) upd_same
  exact s1.free (s2.free nr)

/-! _law_pick -/
theorem sc__law_pick : FnScope ["script", "town", "choices"] ["script", "town", "choices"] (defScope (topS 102)) := ⟨rfl, rfl, rfl, by decide +kernel, rfl, by decide +kernel, by decide +kernel⟩
theorem ok__law_pick {g : Glob} {k : Nat} (h : DefAt g "_law_pick" (topS 102)) (B : Bi g) (FD : DefS g "_law_draw" k (spDraw g.K)) : DefS g "_law_pick" (k + 1) (spPick g.K) := by
  refine defs_at h sc__law_pick (fun _ _ _ _ _ _ us hl => match us, hl with | [_, _, _], _ => rfl) (fun vs H Q E h => by obtain ⟨_, _, _, _, _, _, _, _, rfl, _⟩ := h; rfl) fun vs H Q E hsp => ?_
  obtain ⟨S, a, q, ns, ts, m, v, ds, rfl, rv, dm, hS, hA, hQ, tk, hm, hl0, hl1, hQQ⟩ := hsp
  refine ⟨⟨H, [q], S, fun _ _ => False, fun _ _ => False⟩, ⟨S, [some (scr a g.K ns), some (twn q ts), some (.dat (.lst ds))]⟩, postRt fun Z d => d = ds.getD (drawR ns ts ds.length).1.toNat .non ∧ Z.ρ[1]? = some (some (twn q (drawR ns ts ds.length).2)), ?_, ends_rt fun Z d v σ H' hp ok rv => ?_, ?_⟩
  · refine ok_start (N := ["script", "town", "choices"]) (vs := [.ref a, .ref q, v]) (evs := [scr a g.K ns, twn q ts, .dat (.lst ds)]) rfl (by show 3 ≤ 3; decide) (fun i w ev h1 h2 => ?_) (fun i j e f h1 h2 b m1 m2 => ?_) (fun e he b hb => ?_) (fun e he q' ds z => ?_) dm (fun b hb => by rw [List.mem_singleton.mp hb]; exact hS)
    · match i with
      | 0 => cases h1; cases h2; exact ⟨rfl, (fun _ m => by cases m), hA, scr_sound⟩
      | 1 => cases h1; cases h2; exact ⟨rfl, (fun _ m => by rw [List.mem_singleton.mp m]; exact hS), hQ, twn_sound⟩
      | 2 => cases h1; cases h2; exact ⟨_, rfl, rv⟩
      | n + 3 => simp at h1
    · have w : ∀ (n : Nat) e, ([scr a g.K ns, twn q ts, .dat (.lst ds)] : List EV)[n]? = some e → b ∈ e.foot → n = 1 := fun n e hn hb => by
        match n with
        | 0 => cases hn; cases hb
        | 1 => rfl
        | 2 => cases hn; cases hb
        | n + 3 => simp at hn
      rw [w i e h1 m1, w j f h2 m2]
    · simp only [List.mem_cons, List.not_mem_nil, or_false] at he
      rcases he with rfl | rfl | rfl
      · cases hb
      · exact hb
      · cases hb
    · simp only [List.mem_cons, List.not_mem_nil, or_false] at he
      rcases he with rfl | rfl | rfl <;> cases z
  · obtain ⟨rfl, hr⟩ := hp
    obtain ⟨_, _, _, _, h2, _⟩ := ok.env 1 _ hr
    exact hQQ v H' (fun b ob e n => ok.out b ob e fun m => n (List.mem_singleton.mp m)) h2 rv
  · obtain ⟨r, ts', hr, r0, r1, _⟩ := draw_ex (lim := (ds.length : Int)) tk (by omega)
    rw [hr]
    have hlt : r.toNat < ds.length := by omega
    refine js_cons (js_ret (je_ixL (nm 2 rfl) (je_draw FD (Nat.le_refl _) 0 1 (ja_cons (nmR 0 rfl) (ja_cons (nmR 1 rfl) (ja_cons (je_lenL B (ja_cons (nm 2 rfl) ja_nil)) ja_nil))) rfl rfl tk hr) (d := ds.getD r.toNat .non) ?_) ⟨rfl, rfl⟩)
    have := atI_getD (d := D.non) hlt
    rw [← this]
    congr 1
    omega

/-! _law_gates -/
abbrev n_gates : List Str := ["script", "town", "most", "places", "curve", "wide", "turn", "spot", "kind", "found", "middle", "low", "k", "one"]
theorem sc__law_gates : FnScope n_gates ["script", "town", "most"] (defScope (topS 106)) := ⟨rfl, rfl, rfl, by decide +kernel, rfl, by decide +kernel, by decide +kernel⟩
theorem rng_map (lo hi : Int) : rng lo hi = (List.range (hi - lo).toNat).map fun (i : Nat) => D.int (lo + (i : Int)) := rfl
theorem rng_get {lo hi : Int} {i : Nat} {d : D} (h : (rng lo hi)[i]? = some d) : d = .int (lo + i) ∧ (i : Int) < hi - lo := by
  rw [rng_map, List.getElem?_map] at h
  by_cases hi' : i < (hi - lo).toNat
  · rw [List.getElem?_range hi'] at h
    exact ⟨(Option.some.inj h).symm, by omega⟩
  · rw [List.getElem?_eq_none (by simpa using hi')] at h
    cases h
theorem ok__law_gates {g : Glob} {k : Nat} (h : DefAt g "_law_gates" (topS 106)) (B : Bi g) (FD : DefS g "_law_draw" k (spDraw g.K)) (FP : DefS g "_law_pick" k (spPick g.K)) : DefS g "_law_gates" (k + 1) (spGates g.K) := by
  refine defs_at h sc__law_gates (fun _ _ _ _ _ _ us hl => match us, hl with | [_, _, _], _ => rfl) (fun vs H Q E h => by obtain ⟨_, _, _, _, _, _, _, rfl, _⟩ := h; rfl) fun vs H Q E hsp => ?_
  obtain ⟨S, a, q, ns, ts, m, most, rfl, dm, hS, hA, hQ, tk, hm, hl0, hl1, hQQ⟩ := hsp
  refine ⟨⟨H, [q], S, fun _ _ => False, fun _ _ => False⟩, ⟨S, [some (scr a g.K ns), some (twn q ts), some (.dat (.int most)), none, none, none, none, none, none, none, none, none, none, none]⟩, postRt fun Z d => d = encGs (gatesR ns ts most).1 ∧ Z.ρ[1]? = some (some (twn q (gatesR ns ts most).2)), ?_, ends_rt fun Z d v σ H' hp ok rv => ?_, ?_⟩
  · refine ok_start (N := n_gates) (vs := [.ref a, .ref q, .int most]) (evs := [scr a g.K ns, twn q ts, .dat (.int most)]) rfl (by show 3 ≤ 14; decide) (fun i w ev h1 h2 => ?_) (fun i j e f h1 h2 b m1 m2 => ?_) (fun e he b hb => ?_) (fun e he q' ds z => ?_) dm (fun b hb => by rw [List.mem_singleton.mp hb]; exact hS)
    · match i with
      | 0 => cases h1; cases h2; exact ⟨rfl, (fun _ m => by cases m), hA, scr_sound⟩
      | 1 => cases h1; cases h2; exact ⟨rfl, (fun _ m => by rw [List.mem_singleton.mp m]; exact hS), hQ, twn_sound⟩
      | 2 => cases h1; cases h2; exact ⟨_, rfl, .int most⟩
      | n + 3 => simp at h1
    · have w : ∀ (n : Nat) e, ([scr a g.K ns, twn q ts, .dat (.int most)] : List EV)[n]? = some e → b ∈ e.foot → n = 1 := fun n e hn hb => by
        match n with
        | 0 => cases hn; cases hb
        | 1 => rfl
        | 2 => cases hn; cases hb
        | n + 3 => simp at hn
      rw [w i e h1 m1, w j f h2 m2]
    · simp only [List.mem_cons, List.not_mem_nil, or_false] at he
      rcases he with rfl | rfl | rfl
      · cases hb
      · exact hb
      · cases hb
    · simp only [List.mem_cons, List.not_mem_nil, or_false] at he
      rcases he with rfl | rfl | rfl <;> cases z
  · obtain ⟨rfl, hr⟩ := hp
    obtain ⟨_, _, _, _, h2, _⟩ := ok.env 1 _ hr
    exact hQQ v H' (fun b ob e n => ok.out b ob e fun m => n (List.mem_singleton.mp m)) h2 rv
  ·
    have tD := fun n => itD_ok (lim := 7) tk n
    refine js_cons (js_par 3 4 (ja_cons (je_lst ja_nil) (ja_cons (JLc.je (jlcI (tv := [12]) (own := [("k", 12)]) (S := S) (fun i => [some (scr a g.K ns), some (twn q (itD ns 7 ts i)), some (.dat (.int most)), none, none, none, none, none, none, none, none, none, none, none]) (fun _ => true) (fun i => .int ((drawR ns (itD ns 7 ts i) 7).1 - 3))
        (ji_r1 B (ja_cons je_int ja_nil) (by decide)) (by decide) (by kernel_rfl) ?d1 (fun _ => rfl) ?d2 ?d3 (by decide))) ja_nil)) ?_ (fun env he => by obtain ⟨_, _, _, _, _, _, _, _, _⟩ := env; cases he; kernel_rfl))
    case d1 =>
      intro i j d h
      match j with
      | 0 => cases h
      | 1 => cases h
      | 2 => exact h
      | j + 3 => exact h
    case d2 =>
      intro i j hj e he
      have : j = 12 := by simpa using hj
      subst this
      cases he
    case d3 =>
      intro T i d hd
      have hi := (rng_get hd).2
      refine ⟨_, jgw_name 12, jts_nil, (fun z => by cases z), fun _ => ⟨_, je_sub (je_draw FD (Nat.le_refl _) 0 1 (ja_cons (nmR 0 rfl) (ja_cons (nmR 1 rfl) (ja_cons je_int ja_nil))) rfl rfl (tD i) rfl (by decide) (by omega)) je_int, rfl⟩⟩
    have ecv : ((List.range (rng 0 3).length).filter fun _ => true).map (fun i => D.int ((drawR ns (itD ns 7 ts i) 7).1 - 3)) = (curveR ns ts).map D.int := rfl
    rw [ecv]
    generalize hcr : curveR ns ts = curve
    have hcl : curve.length = 3 := by rw [← hcr]; rfl
    have hcb : ∀ x ∈ curve, -3 ≤ x ∧ x ≤ 3 := fun x hx => by
      rw [← hcr] at hx
      obtain ⟨i, _, rfl⟩ := List.mem_map.mp hx
      have := draw_lo (ns := ns) (ts := itD ns 7 ts i) (lim := 7) (by decide)
      omega
    have t1 : TownOk ns (itD ns 7 ts 3) (m + 3) := tD 3
    have eG := gatesR.eq_1 ns ts most
    rw [hcr] at eG
    show JSs _ _ ⟨S, [some (scr a g.K ns), some (twn q (itD ns 7 ts 3)), some (.dat (.int most)), some (.dat (.lst [])), some (.dat (.lst (curve.map D.int))), none, none, none, none, none, none, none, none, none]⟩ _
    generalize itD ns 7 ts 3 = tA at *
    obtain ⟨w, tB, hw, w0, w1, t2⟩ := draw_ex (lim := 3) t1 (by decide)
    rw [hw] at eG
    dsimp only at eG
    have hwd : ([4, 4, 20] : List Int).getD w.toNat 0 = 4 ∨ ([4, 4, 20] : List Int).getD w.toNat 0 = 20 := by
      have : w = 0 ∨ w = 1 ∨ w = 2 := by omega
      rcases this with e | e | e <;> rw [e] <;> decide
    have hwD : ([D.int 4, D.int 4, D.int 20]).getD w.toNat .non = .int (([4, 4, 20] : List Int).getD w.toNat 0) := by
      have : w = 0 ∨ w = 1 ∨ w = 2 := by omega
      rcases this with e | e | e <;> rw [e] <;> rfl
    generalize hwide : ([4, 4, 20] : List Int).getD w.toNat 0 = wide at *
    refine js_cons (js_set 5 (je_pick FP (Nat.le_refl _) 0 1 (ja_cons (nmR 0 rfl) (ja_cons (nmR 1 rfl) (ja_cons (je_lst (ja_cons je_int (ja_cons je_int (ja_cons je_int ja_nil)))) ja_nil))) rfl rfl t1 hw hwD) ?_)
    show JSs _ _ ⟨S, [some (scr a g.K ns), some (twn q tB), some (.dat (.int most)), some (.dat (.lst [])), some (.dat (.lst (curve.map D.int))), some (.dat (.int wide)), none, none, none, none, none, none, none, none]⟩ _
    obtain ⟨c, tC, hc, c0, c1, t3⟩ := draw_ex (lim := most) t2 hl0
    rw [hc] at eG
    dsimp only at eG
    have hw4 : 4 ≤ wide ∧ wide ≤ 20 := by omega
    have r1 := fun n => run1_ok (wide := wide) (by omega) t3 n
    refine js_cons (js_for (ji_r1 B (ja_cons (je_add je_int (je_draw FD (Nat.le_refl _) 0 1 (ja_cons (nmR 0 rfl) (ja_cons (nmR 1 rfl) (ja_cons (nm 2 rfl) ja_nil))) rfl rfl t2 hc)) ja_nil))
      (fun i Z => ∃ e6 e7, Z = ⟨S, [some (scr a g.K ns), some (twn q (run1 ns wide ([], tC) i).2), some (.dat (.int most)), some (.dat (.lst ((run1 ns wide ([], tC) i).1.map D.int))), some (.dat (.lst (curve.map D.int))), some (.dat (.int wide)), e6, e7, none, none, none, none, none, none]⟩)
      ⟨none, none, rfl⟩ (fun i d Z hd hI => ?_) (fun Z hI => ?_))
    · obtain ⟨e6, e7, rfl⟩ := hI
      obtain ⟨rfl, hi⟩ := rng_get hd
      obtain ⟨q1, q2, q3, q4, q5⟩ := r1 i
      generalize hs : run1 ns wide ([], tC) i = s at *
      obtain ⟨d, tE, hdr, d0, d1, t5⟩ := draw_ex (lim := 2 * wide + 1) q4 (by omega)
      refine ⟨_, jg_name 6, ?_⟩
      refine js_cons (js_set 7 (je_sub (je_draw FD (Nat.le_refl _) 0 1 (ja_cons (nmR 0 rfl) (ja_cons (nmR 1 rfl) (ja_cons (je_add (je_mul je_int (nm 5 rfl) (mulS (by decide) (by omega))) je_int) ja_nil))) rfl rfl q4 hdr) (nm 5 rfl)) ?_)
      refine js_cons (js_set 3 (d := .lst ((step1 ns wide s).1.map D.int)) (JE.cast (je_catL (nm 3 rfl) (je_ifP (d := .lst (if d - wide ∈ s.1 then [] else [.int (d - wide)])) (jt_ninL (nm 7 rfl) (nm 3 rfl)) (fun ht => ?_) (fun ht => ?_)) ?_) ?_) ?_)
      · rw [if_neg (by simpa using ht)]
        exact je_lst (ja_cons (nm 7 rfl) ja_nil)
      · rw [if_pos (by simpa using ht)]
        exact je_lst ja_nil
      · rw [List.length_map]
        split <;> simp <;> omega
      · unfold step1
        rw [hdr]
        dsimp only
        split <;> simp
      · refine js_nil ⟨some (.dat (.int (0 + (i : Int)))), some (.dat (.int (d - wide))), ?_⟩
        show State.mk _ _ = State.mk _ _
        have er : run1 ns wide ([], tC) (i + 1) = step1 ns wide s := by rw [← hs]; rfl
        rw [er]
        have e2 : (step1 ns wide s).2 = tE := by unfold step1; rw [hdr]
        rw [e2]
        rfl
    · obtain ⟨e6, e7, rfl⟩ := hI
      rw [rng_len] at *
      have hn : (1 + c - 0).toNat = (1 + c).toNat := by rw [Int.sub_zero]
      rw [hn]
      obtain ⟨q1, q2, q3, q4, q5⟩ := r1 (1 + c).toNat
      generalize run1 ns wide ([], tC) (1 + c).toNat = pl at *
      show JSs _ _ _ _
      obtain ⟨kd, tK, hk, k0, k1, t6⟩ := draw_ex (lim := 4) q4 (by decide)
      rw [hk] at eG
      dsimp only at eG
      have hkk : 1 ≤ ([1, 2, 2, 3] : List Int).getD kd.toNat 0 ∧ ([1, 2, 2, 3] : List Int).getD kd.toNat 0 ≤ 3 := by
        have : kd = 0 ∨ kd = 1 ∨ kd = 2 ∨ kd = 3 := by omega
        rcases this with e | e | e | e <;> rw [e] <;> decide
      have hkD : ([D.int 1, D.int 2, D.int 2, D.int 3]).getD kd.toNat .non = .int (([1, 2, 2, 3] : List Int).getD kd.toNat 0) := by
        have : kd = 0 ∨ kd = 1 ∨ kd = 2 ∨ kd = 3 := by omega
        rcases this with e | e | e | e <;> rw [e] <;> rfl
      generalize ([1, 2, 2, 3] : List Int).getD kd.toNat 0 = kind at *
      refine js_cons (js_parO 8 9 (je_pick FP (Nat.le_refl _) 0 1 (ja_cons (nmR 0 rfl) (ja_cons (nmR 1 rfl) (ja_cons (je_lst (ja_cons je_int (ja_cons je_int (ja_cons je_int (ja_cons je_int ja_nil))))) ja_nil))) rfl rfl q4 hk hkD) ja_nil (fun f nf => ?_) (fun env he => by obtain ⟨_, _, _, _, _, _, _, _, _⟩ := env; cases he; kernel_rfl))
      have nf : f ∉ S := nf
      show JSs _ _ ⟨f :: S, [some (scr a g.K ns), some (twn q tK), some (.dat (.int most)), some (.dat (.lst (pl.1.map D.int))), some (.dat (.lst (curve.map D.int))), some (.dat (.int wide)), e6, e7, some (.dat (.int kind)), some (.own f []), none, none, none, none]⟩ _
      have pm := isort_perm pl.1
      have hlen := pm.length_eq
      have bd : ∀ x ∈ isort pl.1, -20 ≤ x ∧ x ≤ 20 := fun x hx => by
        have := q3 x (pm.mem_iff.mp hx)
        omega
      generalize hso : isort pl.1 = so at *
      have fo := fun i => fold2_ok (curve := curve) (kind := kind) (so.take i) ([], tK) _ t6 fun x hx => bd x (List.mem_of_mem_take hx)
      refine js_cons (js_for (ji_list (je_sortedI B (ja_cons (nm 3 rfl) ja_nil) (by omega)))
        (fun i Z => ∃ e7 e10 e11, Z = ⟨f :: S, [some (scr a g.K ns), some (twn q ((so.take i).foldl (step2 ns curve kind) ([], tK)).2), some (.dat (.int most)), some (.dat (.lst (pl.1.map D.int))), some (.dat (.lst (curve.map D.int))), some (.dat (.int wide)), e6, e7, some (.dat (.int kind)), some (.own f (((so.take i).foldl (step2 ns curve kind) ([], tK)).1.map encG)), e10, e11, none, none]⟩)
        ⟨_, _, _, rfl⟩ (fun i d Z hd hI => ?_) (fun Z hI => ?_))
      · obtain ⟨e7, e10, e11, rfl⟩ := hI
        rw [hso, List.getElem?_map] at hd
        cases hsx : so[i]? with
        | none => rw [hsx] at hd; cases hd
        | some spot =>
          rw [hsx] at hd
          cases hd
          have hb := bd spot (List.mem_of_getElem? hsx)
          obtain ⟨q1', q2', q3'⟩ := fo i
          have hil : i < so.length := (List.getElem?_eq_some_iff.mp hsx).1
          have htk : (so.take i).length = i := by rw [List.length_take]; omega
          rw [htk] at q1'
          have hst : ((so.take (i + 1)).foldl (step2 ns curve kind) ([], tK)) = step2 ns curve kind ((so.take i).foldl (step2 ns curve kind) ([], tK)) spot := by
            rw [List.take_add_one, hsx, List.foldl_append]
            rfl
          generalize hs : (so.take i).foldl (step2 ns curve kind) ([], tK) = s at *
          refine ⟨_, jg_name 7, ?_⟩
          have hsp : (spot * spot).natAbs < 1000000000000000000 := by
            rw [Int.natAbs_mul]
            have : spot.natAbs ≤ 20 := by omega
            exact Nat.lt_of_le_of_lt (Nat.mul_le_mul this this) (by decide)
          refine js_cons (js_set 10 (d := .int (midR curve kind spot)) (je_sum (ns := (curve.take kind.toNat).zipIdx.map fun p => p.1 * [1, spot, spot * spot].getD p.2 0) B (ja_cons (JE.cast (JLc.je (lc0 (xs := (curve.take kind.toNat).zipIdx) (enc := fun p => D.tup [.int (p.2 : Int), .int p.1]) (own := [("k", 12), ("one", 13)]) (tv := [12, 13]) (fun p => .int (p.1 * [1, spot, spot * spot].getD p.2 0))
            (JI.cast (ji_en B (ja_cons (je_slL (nm 4 rfl) jo_none (jo_some (nm 8 rfl))) ja_nil)) (by rw [cutD_take _ (by omega), numd_ints])) (by simp; omega) (fun T p hp => ?_))) (by rw [List.map_map]; rfl)) ja_nil)) ?_)
          · obtain ⟨one, kx⟩ := p
            have h1 := List.mem_zipIdx hp
            have hone : one ∈ curve := List.mem_of_mem_take (List.fst_mem_of_mem_zipIdx hp)
            have hbo := hcb one hone
            have hk3 : kx < 3 := by
              have := h1.2.1
              rw [List.length_take] at this
              omega
            refine ⟨_, jgw_tup (jgsw_cons (jgw_name 12) (jgsw_cons (jgw_name 13) jgsw_nil)), rfl, je_mul (nm 13 rfl) (je_ixT (je_tup (ja_cons je_int (ja_cons (nm 7 rfl) (ja_cons (je_mul (nm 7 rfl) (nm 7 rfl) (mulS (by omega) (by omega))) ja_nil)))) (nm 12 rfl) (d := .int ([1, spot, spot * spot].getD kx 0)) ?_) (mulS (by omega) ?_)⟩
            · have : kx = 0 ∨ kx = 1 ∨ kx = 2 := by omega
              rcases this with rfl | rfl | rfl
              · exact atI_nat (j := 0) rfl
              · exact atI_nat (j := 1) rfl
              · exact atI_nat (j := 2) rfl
            · have : kx = 0 ∨ kx = 1 ∨ kx = 2 := by omega
              rcases this with rfl | rfl | rfl
              · show (1 : Int).natAbs < _; decide
              · show spot.natAbs < _; omega
              · exact hsp
          obtain ⟨dA, tA', hdA, _, _, tkA⟩ := draw_ex (lim := 4) q1' (by decide)
          refine js_mid (fun Z => Z = ⟨f :: S, [some (scr a g.K ns), some (twn q (mid2 ns curve kind spot s.2).2), some (.dat (.int most)), some (.dat (.lst (pl.1.map D.int))), some (.dat (.lst (curve.map D.int))), some (.dat (.int wide)), e6, some (.dat (.int spot)), some (.dat (.int kind)), some (.own f (s.1.map encG)), some (.dat (.int (mid2 ns curve kind spot s.2).1)), e11, none, none]⟩)
            (js_if (jt_eqI (je_draw FD (Nat.le_refl _) 0 1 (ja_cons (nmR 0 rfl) (ja_cons (nmR 1 rfl) (ja_cons je_int ja_nil))) rfl rfl q1' hdA) je_int) (fun ht => ?_) (fun ht => ?_)) ?_
          · have ht : dA = 0 := of_decide_eq_true ht
            obtain ⟨dB, tB', hdB, _, _, tkB⟩ := draw_ex (lim := 19) tkA (by decide)
            refine js_cons (js_set 10 (je_sub (je_draw FD (Nat.le_refl _) 0 1 (ja_cons (nmR 0 rfl) (ja_cons (nmR 1 rfl) (ja_cons je_int ja_nil))) rfl rfl tkA hdB) je_int) (js_nil ?_))
            have em : mid2 ns curve kind spot s.2 = (dB - 9, tB') := by
              unfold mid2
              rw [hdA, if_pos ht, hdB]
            show State.mk _ _ = State.mk _ _
            rw [em]
            rfl
          · have ht : dA ≠ 0 := of_decide_eq_false ht
            refine js_nil ?_
            have em : mid2 ns curve kind spot s.2 = (midR curve kind spot, tA') := by
              unfold mid2
              rw [hdA, if_neg ht]
            show State.mk _ _ = State.mk _ _
            rw [em]
            rfl
          · rintro _ rfl
            have tM := mid2_ok (curve := curve) (kind := kind) (spot := spot) q1'
            generalize hmm : mid2 ns curve kind spot s.2 = mm at *
            refine js_cons (js_set 10 (d := .int (mx (-50) (mn 50 mm.1))) (je_max2 B (ja_cons (je_neg je_int) (ja_cons (je_min2 B (ja_cons je_int (ja_cons (nm 10 rfl) ja_nil))) ja_nil))) ?_)
            obtain ⟨d3, t3', hd3, _, _, tk3⟩ := draw_ex (lim := 4) tM (by decide)
            refine js_cons (js_set 11 (d := .int (mx (-50) (mx (-50) (mn 50 mm.1) - d3))) (je_max2 B (ja_cons (je_neg je_int) (ja_cons (je_sub (nm 10 rfl) (je_draw FD (Nat.le_refl _) 0 1 (ja_cons (nmR 0 rfl) (ja_cons (nmR 1 rfl) (ja_cons je_int ja_nil))) rfl rfl tM hd3)) ja_nil))) ?_)
            obtain ⟨d4, t4', hd4, _, _, tk4⟩ := draw_ex (lim := 4) tk3 (by decide)
            have eg : gate2 ns spot mm = ((spot, mx (-50) (mx (-50) (mn 50 mm.1) - d3), mn 50 (mx (mx (-50) (mx (-50) (mn 50 mm.1) - d3)) (mx (-50) (mn 50 mm.1) + d4 - 1))), t4') := by
              unfold gate2
              dsimp only
              rw [hd3]
              dsimp only
              rw [hd4]
            refine js_cons (js_app 9 (d := encG (gate2 ns spot mm).1) (JE.cast (je_tup (ja_cons (nm 7 rfl) (ja_cons (nm 11 rfl) (ja_cons (je_min2 B (ja_cons je_int (ja_cons (je_max2 B (ja_cons (nm 11 rfl) (ja_cons (je_sub (je_add (nm 10 rfl) (je_draw FD (Nat.le_refl _) 0 1 (ja_cons (nmR 0 rfl) (ja_cons (nmR 1 rfl) (ja_cons je_int ja_nil))) rfl rfl tk3 hd4)) je_int) ja_nil))) ja_nil))) ja_nil)))) (by rw [eg]; rfl)) rfl ?_ ⟨_, rfl⟩ ?_)
            · refine js_nil ⟨some (.dat (.int spot)), some (.dat (.int (mx (-50) (mn 50 mm.1)))), some (.dat (.int (mx (-50) (mx (-50) (mn 50 mm.1) - d3)))), ?_⟩
              show State.mk _ _ = State.mk _ _
              rw [hst]
              unfold step2
              rw [hmm, eg]
              dsimp only
              rw [List.map_append]
              rfl
            · rw [List.length_map]
              have := congrArg List.length q2'
              simp only [List.length_map, List.length_append, List.length_nil] at this
              omega
      · obtain ⟨e7', e10, e11, rfl⟩ := hI
        rw [List.length_map, hso, List.take_length]
        show JSs _ _ _ _
        refine js_melt 9 rfl nf ?_
        refine js_cons (js_ret (je_tupleL B (ja_cons (nm 9 rfl) ja_nil)) ⟨?_, ?_⟩)
        · rw [eG]; rfl
        · rw [eG]; rfl

/-! is_between -/
theorem sc_is_between : FnScope ["value", "low", "high"] ["value", "low", "high"] (defScope (topS 17)) := ⟨rfl, rfl, rfl, by decide +kernel, rfl, by decide +kernel, by decide +kernel⟩
theorem ok_is_between {g : Glob} {k : Nat} (h : DefAt g "is_between" (topS 17)) (B : Bi g) : Def g "is_between" 3 (k + 1) R_between := by
  refine def_at h sc_is_between (fun _ _ _ _ _ _ us hl => match us, hl with | [_, _, _], _ => rfl) fun T ds o hR hl => ?_
  obtain ⟨d, lo, hi, hk, rfl, rfl⟩ := hR
  refine js_cons (js_ret (d := .bl (isI d && (!isB d && mBetween d lo hi))) (je_and (je_isi B (ja_cons (nm 0 rfl) (ja_cons (je_ty B.int_) ja_nil)) hk (kit_int hk)) fun h1 =>
    je_and (je_not (je_isi B (ja_cons (nm 0 rfl) (ja_cons (je_ty B.bool_) ja_nil)) hk (kit_bool hk))) fun h2 => je_one ?_) ?_)
  · obtain ⟨i, rfl⟩ : ∃ i, d = .int i := by
      cases d <;> first | exact ⟨_, rfl⟩ | (cases h1; done) | (cases h2; done)
    exact je_lele (nm 1 rfl) (nm 0 rfl) (nm 2 rfl)
  · show Out.ret _ = Out.ret _
    cases d <;> rfl

/-! is_gate -/
theorem sc_is_gate : FnScope ["value"] ["value"] (defScope (topS 29)) := ⟨rfl, rfl, rfl, by decide +kernel, rfl, by decide +kernel, by decide +kernel⟩
theorem ok_is_gate {g : Glob} {k : Nat} (h : DefAt g "is_gate" (topS 29)) (B : Bi g) (FB : Def g "is_between" 3 k R_between) : Def g "is_gate" 1 (k + 1) R_gate := by
  refine def_at h sc_is_gate (fun _ _ _ _ _ _ us hl => match us, hl with | [_], _ => rfl) fun T ds o hR hl => ?_
  obtain ⟨n, d, hk, rfl, rfl⟩ := hR
  have kd := dk_known hk
  by_cases ht : isT d = true
  · obtain ⟨l, rfl⟩ := isT_ex ht
    obtain ⟨m, hm⟩ := dk_tup hk
    by_cases h3 : l.length = 3
    · match l, h3 with
      | [a, b, c], _ =>
        have ka := dk_known (hm a (by simp))
        have kb := dk_known (hm b (by simp))
        have kc := dk_known (hm c (by simp))
        refine js_cons (js_if (t := !mBetween a (-20) 20) (jt_w (jw_orF (jt_not (t := true) (jt_val (je_isi B (ja_cons (nm 0 rfl) (ja_cons (je_ty B.tuple_) ja_nil)) kd (kit_tuple kd)))) (jw_orF (JT.cast (jt_neI (je_lenT B (ja_cons (nm 0 rfl) ja_nil)) je_int) rfl)
          (jw_or1 (jt_not (jt_val (je_call FB (Nat.le_refl _) (ja_cons (je_ixT (nm 0 rfl) je_int (d := a) (by rfl)) (ja_cons (je_neg je_int) (ja_cons je_int ja_nil))) ⟨_, _, _, ka, rfl, rfl⟩))))))) (fun h1 => ?_) (fun h1 => ?_))
        · refine js_cons (js_ret je_bl ?_)
          show Out.ret (.bl (mBetween a (-20) 20 && _)) = Out.ret _
          rw [Bool.not_eq_true'] at h1
          rw [h1]
          rfl
        · refine js_nil (js_cons (js_ret (d := .bl (mBetween b (-50) 50 && mBetween c (intOf b) 50)) (je_and (je_call FB (Nat.le_refl _) (ja_cons (je_ixT (nm 0 rfl) je_int (d := b) (by rfl)) (ja_cons (je_neg je_int) (ja_cons je_int ja_nil))) ⟨_, _, _, kb, rfl, rfl⟩) fun h2 => je_one ?_) ?_))
          · obtain ⟨i, rfl, _, _⟩ := mBetween_ex h2
            exact je_call FB (Nat.le_refl _) (ja_cons (je_ixT (nm 0 rfl) je_int (d := c) (by rfl)) (ja_cons (je_ixT (nm 0 rfl) je_int (d := .int i) (by rfl)) (ja_cons je_int ja_nil))) ⟨_, _, _, kc, rfl, rfl⟩
          · show Out.ret (.bl (mBetween a (-20) 20 && _)) = Out.ret _
            rw [Bool.not_eq_false'] at h1
            rw [h1]
            rfl
    · have hg : mGate (.tup l) = false := by
        unfold mGate
        split
        · rename_i e; cases e; exact absurd rfl h3
        · rfl
      rw [hg]
      refine js_cons (js_if (t := true) (jt_w (jw_orF (jt_not (t := true) (jt_val (je_isi B (ja_cons (nm 0 rfl) (ja_cons (je_ty B.tuple_) ja_nil)) kd (kit_tuple kd)))) (JW.cast (jw_or (u := false) (jt_neI (je_lenT B (ja_cons (nm 0 rfl) ja_nil)) je_int) fun h => ?_) ?_))) (fun h1 => js_cons (js_ret je_bl rfl)) (fun h1 => by cases h1))
      · exact absurd (by simpa using h : (l.length : Int) = 3) (by omega)
      · have : ¬ (l.length : Int) = 3 := by omega
        rw [decide_eq_false this]
        rfl
  · rw [Bool.not_eq_true] at ht
    have hg : mGate d = false := by
      unfold mGate
      split
      · cases ht
      · rfl
    rw [hg]
    refine js_cons (js_if (t := true) (jt_w (JW.cast (jw_or (u := false) (jt_not (jt_val (je_isi B (ja_cons (nm 0 rfl) (ja_cons (je_ty B.tuple_) ja_nil)) kd (kit_tuple kd)))) fun h => ?_) ?_)) (fun h1 => js_cons (js_ret je_bl rfl)) (fun h1 => by cases h1))
    · rw [ht] at h; cases h
    · rw [ht]; rfl

/-! is_gates -/
theorem sc_is_gates : FnScope ["value", "one", "k"] ["value"] (defScope (topS 30)) := ⟨rfl, rfl, rfl, by decide +kernel, rfl, by decide +kernel, by decide +kernel⟩
theorem ok_is_gates {g : Glob} {k : Nat} (h : DefAt g "is_gates" (topS 30)) (B : Bi g) (FG : Def g "is_gate" 1 k R_gate) : Def g "is_gates" 1 (k + 1) R_isGates := by
  refine def_at h sc_is_gates (fun _ _ _ _ _ _ us hl => match us, hl with | [_], _ => rfl) fun T ds o hR hl => ?_
  obtain ⟨n, d, hk, rfl, rfl⟩ := hR
  have kd := dk_known hk
  by_cases ht : isT d = true
  · obtain ⟨l, rfl⟩ := isT_ex ht
    obtain ⟨m, hm⟩ := dk_tup hk
    by_cases h3 : (decide (1 ≤ l.length) && decide (l.length ≤ 8)) = true
    · have h3' := h3
      simp only [Bool.and_eq_true, decide_eq_true_eq] at h3'
      refine js_cons (js_if (t := !(l.map mGate).all id) (jt_w (jw_orF (jt_not (t := true) (jt_val (je_isi B (ja_cons (nm 0 rfl) (ja_cons (je_ty B.tuple_) ja_nil)) kd (kit_tuple kd)))) (jw_orF (JT.cast (jt_not (jt_lele je_int (je_lenT B (ja_cons (nm 0 rfl) ja_nil)) je_int)) (show (!(decide ((1 : Int) ≤ (l.length : Int)) && decide ((l.length : Int) ≤ 8))) = false by
          rw [decide_eq_true (by omega), decide_eq_true (by omega)]; rfl))
          (jw_or1 (jt_not (jt_val (je_all B (ja_cons (JE.cast (JLc.je (lc0 (xs := l) (enc := fun d => d) (own := [("one", 1)]) (tv := [1]) (fun d => .bl (mGate d)) (JI.cast (ji_tup (nm 0 rfl)) (List.map_id' l).symm) (by omega) (fun T x hx => ⟨_, jgw_name 1, rfl, je_call FG (Nat.le_refl _) (ja_cons (nm 1 rfl) ja_nil) ⟨m, x, hm x hx, rfl, rfl⟩⟩))) (by rw [List.map_map]; rfl)) ja_nil)))))))) (fun h1 => ?_) (fun h1 => ?_))
      · refine js_cons (js_ret je_bl ?_)
        show Out.ret (.bl (_ && (l.all mGate && _))) = Out.ret _
        rw [Bool.not_eq_true', List.all_map] at h1
        have h1 : l.all mGate = false := h1
        rw [h1]
        simp
      · rw [Bool.not_eq_false', List.all_map] at h1
        have h1 : l.all mGate = true := h1
        have h1' := h1
        rw [List.all_eq_true] at h1
        have el : l = (l.map decG).map encG := by
          rw [List.map_map]
          exact (List.map_id' l).symm.trans (List.map_congr_left fun x hx => (mGate_ex (h1 x hx)).1)
        have em : mGates (.tup l) = upL (l.map decG) := by
          show (_ && (l.all mGate && _)) = _
          rw [h3, h1']
          rfl
        rw [em]
        generalize l.map decG = gs at *
        subst el
        rw [List.length_map] at *
        refine js_nil (js_cons (js_ret (d := .bl (((List.range (gs.length - 1)).map fun k => decide ((gs.getD k (0, 0, 0)).1 < (gs.getD (k + 1) (0, 0, 0)).1)).all id)) (je_all B (ja_cons (JE.cast (JLc.je (lc0 (xs := List.range (gs.length - 1)) (enc := fun (i : Nat) => D.int (0 + (i : Int))) (own := [("k", 2)]) (tv := [2]) (fun k => .bl (decide ((gs.getD k (0, 0, 0)).1 < (gs.getD (k + 1) (0, 0, 0)).1)))
          (JI.cast (ji_r1 B (ja_cons (je_sub (je_lenT B (ja_cons (nm 0 rfl) ja_nil)) je_int) ja_nil) (by rw [List.length_map]; omega)) ?_) (by simp; omega) (fun T x hx => ⟨_, jgw_name 2, rfl, je_lt (i := (gs.getD x (0, 0, 0)).1) (j := (gs.getD (x + 1) (0, 0, 0)).1) (je_ixT (ds := [.int (gs.getD x (0, 0, 0)).1, .int (gs.getD x (0, 0, 0)).2.1, .int (gs.getD x (0, 0, 0)).2.2]) (je_ixT (nm 0 rfl) (nm 2 rfl) ?_) je_int rfl) (je_ixT (ds := [.int (gs.getD (x + 1) (0, 0, 0)).1, .int (gs.getD (x + 1) (0, 0, 0)).2.1, .int (gs.getD (x + 1) (0, 0, 0)).2.2]) (je_ixT (nm 0 rfl) (je_add (nm 2 rfl) je_int) ?_) je_int rfl)⟩))) (by rw [List.map_map]; rfl)) ja_nil)) ?_))
        · show (List.range _).map _ = _
          rw [List.length_map]
          congr 2
          omega
        · rw [List.mem_range] at hx
          rw [show (0 + (x : Int)) = ((x : Nat) : Int) by omega]
          refine atI_nat ?_
          rw [List.getElem?_map, List.getD_eq_getElem?_getD, List.getElem?_eq_getElem (by omega)]
          rfl
        · rw [List.mem_range] at hx
          rw [show (0 + (x : Int) + 1) = ((x + 1 : Nat) : Int) by omega]
          refine atI_nat ?_
          rw [List.getElem?_map, List.getD_eq_getElem?_getD, List.getElem?_eq_getElem (by omega)]
          rfl
        · show Out.ret _ = Out.ret _
          rw [List.all_map]
          rfl
    · have hg : mGates (.tup l) = false := by
        show (_ && (l.all mGate && _)) = _
        rw [Bool.not_eq_true] at h3
        rw [h3]
        rfl
      rw [hg]
      refine js_cons (js_if (t := true) (jt_w (jw_orF (jt_not (t := true) (jt_val (je_isi B (ja_cons (nm 0 rfl) (ja_cons (je_ty B.tuple_) ja_nil)) kd (kit_tuple kd)))) (JW.cast (jw_or (u := false) (jt_not (jt_lele je_int (je_lenT B (ja_cons (nm 0 rfl) ja_nil)) je_int)) fun h => ?_) ?_))) (fun h1 => js_cons (js_ret je_bl rfl)) (fun h1 => by cases h1))
      · exfalso
        refine h3 ?_
        simp only [Bool.not_eq_false', Bool.and_eq_true, decide_eq_true_eq] at h ⊢
        omega
      · simp only [Bool.and_eq_true, decide_eq_true_eq, Bool.or_false, Bool.not_eq_true', Bool.and_eq_false_iff, decide_eq_false_iff_not] at h3 ⊢
        omega
  · rw [Bool.not_eq_true] at ht
    have hg : mGates d = false := by
      unfold mGates
      split
      · cases ht
      · rfl
    rw [hg]
    refine js_cons (js_if (t := true) (jt_w (JW.cast (jw_or (u := false) (jt_not (jt_val (je_isi B (ja_cons (nm 0 rfl) (ja_cons (je_ty B.tuple_) ja_nil)) kd (kit_tuple kd)))) fun h => ?_) ?_)) (fun h1 => js_cons (js_ret je_bl rfl)) (fun h1 => by cases h1))
    · rw [ht] at h; cases h
    · rw [ht]; rfl

/-! check_gates -/
theorem sc_check_gates : FnScope ["value"] ["value"] (defScope (topS 31)) := ⟨rfl, rfl, rfl, by decide +kernel, rfl, by decide +kernel, by decide +kernel⟩
theorem ok_check_gates {g : Glob} {k : Nat} {C : Nat → Addr} (h : DefAt g "check_gates" (topS 31)) (B : Bi g) (Er : Errs g C) (FG : Def g "is_gates" 1 k R_isGates) : Def g "check_gates" 1 (k + 1) (R_check C) := by
  refine def_at h sc_check_gates (fun _ _ _ _ _ _ us hl => match us, hl with | [_], _ => rfl) fun T ds o hR hl => ?_
  obtain ⟨n, d, hk, rfl, rfl⟩ := hR
  refine js_cons (js_if (jt_not (jt_val (je_call FG (Nat.le_refl _) (ja_cons (nm 0 rfl) ja_nil) ⟨n, d, hk, rfl, rfl⟩))) (fun h1 => ?_) (fun h1 => ?_))
  · rw [Bool.not_eq_true'] at h1
    rw [h1]
    exact js_cons (js_raise (Er.mkx 0 _ rfl) rfl)
  · rw [Bool.not_eq_false'] at h1
    rw [h1]
    exact js_nil (js_nil rfl)

/-! _law_name -/
theorem sc__law_name : FnScope ["caught", "found"] ["caught"] (defScope (topS 104)) := ⟨rfl, rfl, rfl, by decide +kernel, rfl, by decide +kernel, by decide +kernel⟩
theorem ok__law_name {g : Glob} {k : Nat} {C : Nat → Addr} (h : DefAt g "_law_name" (topS 104)) (B : Bi g) (Er : Errs g C) : DefS g "_law_name" (k + 1) (spName C) := by
  refine defs_at h sc__law_name (fun _ _ _ _ _ _ us hl => match us, hl with | [_], _ => rfl) (fun vs H Q E h => by obtain ⟨_, _, rfl, _⟩ := h; rfl) fun vs H Q E hsp => ?_
  obtain ⟨a, c, rfl, hc, hA, hQ⟩ := hsp
  have dm : Dom [a] H := fun b hb => by rw [List.mem_singleton.mp hb]; exact ⟨_, hA, fun z => z⟩
  refine ⟨⟨H, [a], [a], fun _ _ => False, fun _ _ => False⟩, ⟨[a], [some (.res [a] (.ref a) (errP (C c) a)), none]⟩, postRt fun Z d => d = .int (c : Int) ∧ Z.ρ[0]? = some (some (.res [a] (.ref a) (errP (C c) a))), ?_, ends_rt fun Z d v σ H' hp ok rv => ?_, ?_⟩
  · refine ok_start (N := ["caught", "found"]) (vs := [.ref a]) (evs := [.res [a] (.ref a) (errP (C c) a)]) rfl (by show 1 ≤ 2; decide) (fun i w ev h1 h2 => ?_) (fun i j e f h1 h2 b m1 m2 => ?_) (fun e he b hb => ?_) (fun e he q' ds z => ?_) dm (fun b hb => hb)
    · match i with
      | 0 => cases h1; cases h2; exact ⟨rfl, (fun _ m => m), hA, err_sound⟩
      | n + 1 => simp at h1
    · match i, j with
      | 0, 0 => rfl
      | n + 1, _ => simp at h1
      | _, n + 1 => simp at h2
    · rw [List.mem_singleton.mp he] at hb; exact hb
    · rw [List.mem_singleton.mp he] at z; cases z
  · obtain ⟨rfl, hr⟩ := hp
    cases rv
    obtain ⟨_, _, _, _, h2, _⟩ := ok.env 0 _ hr
    refine hQ H' fun b o e => ?_
    by_cases hb : b = a
    · subst hb
      rw [hA] at e
      cases e
      exact h2
    · exact ok.out b o e fun m => hb (List.mem_singleton.mp m)
  · refine js_cons (js_if (jt_not (jt_val (je_isErrV 0 B Er hc rfl))) (fun z => by cases z) (fun _ => js_nil ?_))
    refine js_cons (js_set 1 (je_lst (ja_cons (je_isErr (j := 0) 0 B Er hc rfl rfl) (ja_cons (je_isErr (j := 1) 0 B Er hc rfl rfl) ja_nil))) ?_)
    refine js_cons (js_set 1 (je_catL (nm 1 rfl) (je_lst (ja_cons (je_isErr (j := 2) 0 B Er hc rfl rfl) (ja_cons (je_isErr (j := 3) 0 B Er hc rfl rfl) ja_nil))) (Nat.le_of_ble_eq_true rfl)) ?_)
    refine js_cons (js_set 1 (je_catL (nm 1 rfl) (je_lst (ja_cons (je_isErr (j := 4) 0 B Er hc rfl rfl) (ja_cons (je_isErr (j := 5) 0 B Er hc rfl rfl) ja_nil))) (Nat.le_of_ble_eq_true rfl)) ?_)
    refine js_cons (js_set 1 (je_catL (nm 1 rfl) (je_lst (ja_cons (je_isErr (j := 6) 0 B Er hc rfl rfl) (ja_cons (je_isErr (j := 7) 0 B Er hc rfl rfl) ja_nil))) (Nat.le_of_ble_eq_true rfl)) ?_)
    refine js_cons (js_set 1 (je_catL (nm 1 rfl) (je_lst (ja_cons (je_isErr (j := 8) 0 B Er hc rfl rfl) (ja_cons (je_isErr (j := 9) 0 B Er hc rfl rfl) ja_nil))) (Nat.le_of_ble_eq_true rfl)) ?_)
    refine js_cons (js_set 1 (je_catL (nm 1 rfl) (je_lst (ja_cons (je_isErr (j := 10) 0 B Er hc rfl rfl) (ja_cons (je_isErr (j := 11) 0 B Er hc rfl rfl) ja_nil))) (Nat.le_of_ble_eq_true rfl)) ?_)
    refine js_cons (js_set 1 (je_catL (nm 1 rfl) (je_lst (ja_cons (je_isErr (j := 12) 0 B Er hc rfl rfl) (ja_cons (je_isErr (j := 13) 0 B Er hc rfl rfl) ja_nil))) (Nat.le_of_ble_eq_true rfl)) ?_)
    show JSs _ _ ⟨[a], [some (.res [a] (.ref a) (errP (C c) a)), some (.dat (.lst ((is14 c).map D.bl)))]⟩ _
    exact js_cons (js_ret (d := .int (c : Int)) (je_ifP (jt_eqI (je_countB (nm 1 rfl) je_bl) je_int) (fun _ => je_indexB (nm 1 rfl) je_bl (is14_at c hc) (is14_min c hc)) (fun z => by rw [is14_one c hc] at z; cases z)) ⟨rfl, rfl⟩)

/-! _law_raises -/
theorem sc__law_raises : FnScope ["name", "some"] ["name"] (defScope (topS 105)) := ⟨rfl, rfl, rfl, by decide +kernel, rfl, by decide +kernel, by decide +kernel⟩
theorem ok__law_raises {g : Glob} {k : Nat} (h : DefAt g "_law_raises" (topS 105)) (B : Bi g) : Def g "_law_raises" 1 (k + 1) R_raises := by
  refine def_at h sc__law_raises (fun _ _ _ _ _ _ us hl => match us, hl with | [_], _ => rfl) fun T ds o hR hl => ?_
  obtain ⟨y, j, hj, rfl, rfl⟩ := hR
  have hj14 : j < 14 := (List.getElem?_eq_some_iff.mp hj).1
  refine js_cons (js_set 1 (je_lst (ja_cons je_str (ja_cons je_str (ja_cons je_str (ja_cons je_str (ja_cons je_str (ja_cons je_str (ja_cons je_str ja_nil)))))))) ?_)
  refine js_cons (js_set 1 (je_catL (nm 1 rfl) (je_lst (ja_cons je_str (ja_cons je_str (ja_cons je_str (ja_cons je_str (ja_cons je_str (ja_cons je_str (ja_cons je_str ja_nil)))))))) (by decide)) ?_)
  show JSs _ _ ⟨T, [some (.dat (.str y)), some (.dat (.lst (namesL.map D.str)))]⟩ _
  exact js_cons (js_ret (je_tup (ja_cons je_str (ja_cons (je_indexS (nm 1 rfl) (nm 0 rfl) hj fun m hm => by rw [← hj]; exact names_nodup j hj14 m hm) ja_nil))) rfl)

/-! _law_outcome -/
theorem sc__law_outcome : FnScope ["how", "arguments", "caught", "result", "error"] ["how", "arguments"] (defScope (topS 103)) := ⟨rfl, rfl, rfl, by decide +kernel, rfl, by decide +kernel, by decide +kernel⟩
theorem ok__law_outcome {g : Glob} {k : Nat} {C : Nat → Addr} {R : List D → Out → Prop} (h : DefAt g "_law_outcome" (topS 103)) (B : Bi g) (Er : Errs g C) (FC : Def g "_law_call" 2 k R) (FN : DefS g "_law_name" k (spName C)) : Def g "_law_outcome" 2 (k + 1) (R_out C R) := by
  refine def_at h sc__law_outcome (fun _ _ _ _ _ _ us hl => match us, hl with | [_, _], _ => rfl) fun T ds o hR hl => ?_
  obtain ⟨d1, d2, rfl⟩ : ∃ d1 d2, ds = [d1, d2] := match ds, hl with | [d1, d2], _ => ⟨d1, d2, rfl⟩
  obtain ⟨RE, hRE, hRd⟩ := Er.road
  refine js_cons (js_set 2 je_non (js_cons (js_set 3 je_non ?_)))
  rcases hR with ⟨d, hd, rfl⟩ | ⟨c, hc, hd, rfl⟩
  · refine js_cons (js_try 4 2 (fun o => match o with
      | .nx Z => Z = ⟨T, [some (.dat d1), some (.dat d2), some (.dat .non), some (.dat d), none]⟩
      | _ => False) (js_cons (js_set 3 (je_call FC (Nat.le_refl _) (ja_cons (nm 0 rfl) (ja_cons (nm 1 rfl) ja_nil)) hd) (js_nil rfl))) hRE (fun Z1 p => ?_) (fun _ _ z => z.elim) (fun _ _ z => z) (fun _ z => z) (fun _ z => z))
    subst p
    refine js_cons (js_if (jt_isN (nm 2 rfl)) (fun _ => js_cons (js_ret (je_tup (ja_cons je_str (ja_cons (nm 3 rfl) ja_nil))) rfl)) (fun z => by cases z))
  · refine js_cons (js_try 4 2 (fun o => match o with
      | .ex C' Z => C' = C c ∧ Z = ⟨T, [some (.dat d1), some (.dat d2), some (.dat .non), some (.dat .non), none]⟩
      | _ => False) (js_cons (jx_set 3 (jx_call FC (Nat.le_refl _) (ja_cons (nm 0 rfl) (ja_cons (nm 1 rfl) ja_nil)) hd) ⟨rfl, rfl⟩)) hRE (fun _ z => z.elim) (fun C' Z1 p => ?_) (fun _ _ z => z) (fun _ z => z) (fun _ z => z))
    obtain ⟨rfl, rfl⟩ := p
    refine ⟨hRd c hc, fun a na => ?_⟩
    show JSs _ _ ⟨a :: T, [some (.dat d1), some (.dat d2), some (.res [a] (.ref a) (errP (C c) a)), some (.dat .non), none]⟩ _
    refine js_cons (js_if (jt_isN (nmR 2 rfl)) (fun z => by cases z) (fun _ => js_nil ?_))
    exact js_cons (js_ret (je_tup (ja_cons je_str (ja_cons (je_name_of FN (Nat.le_refl _) 2 hc rfl) ja_nil))) rfl)

/-! divisor_of -/
theorem sc_divisor_of : FnScope ["one", "other"] ["one", "other"] (defScope (topS 18)) := ⟨rfl, rfl, rfl, by decide +kernel, rfl, by decide +kernel, by decide +kernel⟩
theorem abs_nat (a : Int) : (if a < 0 then -a else a) = (a.natAbs : Int) := by split <;> omega
theorem ok_divisor_of {g : Glob} {k : Nat} (h : DefAt g "divisor_of" (topS 18)) (B : Bi g) : Def g "divisor_of" 2 (k + 1) R_divisor := by
  refine def_at h sc_divisor_of (fun _ _ _ _ _ _ us hl => match us, hl with | [_, _], _ => rfl) fun T ds o hR hl => ?_
  obtain ⟨a, b, rfl, rfl⟩ := hR
  refine js_cons (js_par 0 1 (ja_cons (je_abs B (ja_cons (nm 0 rfl) ja_nil)) (ja_cons (je_abs B (ja_cons (nm 1 rfl) ja_nil)) ja_nil)) ?_ (fun env he => by obtain ⟨_, _, _, _, _, _, _, _, _⟩ := env; cases he; kernel_rfl))
  rw [abs_nat, abs_nat]
  refine js_mid (fun Z => Z = ⟨T, [some (.dat (.int (Int.gcd a b : Nat))), some (.dat (.int 0))]⟩) (js_while (fun m Z => ∃ x y : Nat, m = y ∧ Int.gcd (x : Int) (y : Int) = Int.gcd a b ∧ Z = ⟨T, [some (.dat (.int x)), some (.dat (.int y))]⟩) b.natAbs ⟨a.natAbs, b.natAbs, rfl, by rw [Int.gcd_natCast_natCast]; rfl, rfl⟩ (fun m Z hI => ?_)) ?_
  · obtain ⟨x, y, rfl, hg, rfl⟩ := hI
    refine ⟨!decide ((m : Int) = 0), _, jt_neI (nm 1 rfl) je_int, fun ht => ?_, fun ht => ?_⟩
    · have hy : 0 < m := by
        simp only [Bool.not_eq_true', decide_eq_false_iff_not] at ht
        omega
      refine js_cons (js_par 0 1 (ja_cons (nm 1 rfl) (ja_cons (je_mod (nm 0 rfl) (nm 1 rfl) (by omega)) ja_nil)) ?_ (fun env he => by obtain ⟨_, _, _, _, _, _, _, _, _⟩ := env; cases he; kernel_rfl))
      refine js_nil ⟨x % m, Nat.mod_lt _ hy, m, x % m, rfl, ?_, ?_⟩
      · rw [Int.natCast_emod, gcd_mod hy, hg]
      · show State.mk _ _ = State.mk _ _
        rw [Int.natCast_emod]
        rfl
    · have hy : m = 0 := by
        simp only [Bool.not_eq_false', decide_eq_true_eq] at ht
        omega
      subst hy
      show State.mk _ _ = State.mk _ _
      rw [← hg]
      simp
  · rintro _ rfl
    exact js_cons (js_ret (nm 0 rfl) rfl)

/-! is_fraction -/
theorem sc_is_fraction : FnScope ["value", "one"] ["value"] (defScope (topS 24)) := ⟨rfl, rfl, rfl, by decide +kernel, rfl, by decide +kernel, by decide +kernel⟩
def isIB (d : D) : Bool := isI d && !isB d
theorem isIB_ex {d : D} (h : isIB d = true) : ∃ i, d = .int i := by
  cases d <;> first | exact ⟨_, rfl⟩ | cases h
theorem ok_is_fraction {g : Glob} {k : Nat} (h : DefAt g "is_fraction" (topS 24)) (B : Bi g) (FD : Def g "divisor_of" 2 k R_divisor) : Def g "is_fraction" 1 (k + 1) R_isFrac := by
  refine def_at h sc_is_fraction (fun _ _ _ _ _ _ us hl => match us, hl with | [_], _ => rfl) fun T ds o hR hl => ?_
  obtain ⟨n, d, hk, rfl, rfl⟩ := hR
  have kd := dk_known hk
  by_cases ht : isT d = true
  · obtain ⟨l, rfl⟩ := isT_ex ht
    obtain ⟨m, hm⟩ := dk_tup hk
    by_cases h2 : l.length = 2
    · match l, h2 with
      | [a, b], _ =>
        have ka := dk_known (hm a (by simp))
        have kb := dk_known (hm b (by simp))
        have kx : ∀ x ∈ [a, b], known x = true := fun x hx => dk_known (hm x hx)
        refine js_cons (js_if (t := false) (jt_w (jw_orF (jt_not (t := true) (jt_val (je_isi B (ja_cons (nm 0 rfl) (ja_cons (je_ty B.tuple_) ja_nil)) kd (kit_tuple kd)))) (jw_or1 (JT.cast (jt_neI (je_lenT B (ja_cons (nm 0 rfl) ja_nil)) je_int) rfl)))) (fun z => by cases z) (fun _ => js_nil ?_))
        refine js_cons (js_if (t := !(([a, b] : List D).map isIB).all id) (jt_not (jt_val (je_all B (ja_cons (JE.cast (JLc.je (lc0 (xs := [a, b]) (enc := fun d => d) (own := [("one", 1)]) (tv := [1]) (fun d => .bl (isIB d)) (JI.cast (ji_tup (nm 0 rfl)) (List.map_id' _).symm) (Nat.le_of_ble_eq_true rfl) (fun T x hx => ⟨_, jgw_name 1, rfl, je_and (je_isi B (ja_cons (nm 1 rfl) (ja_cons (je_ty B.int_) ja_nil)) (kx x hx) (kit_int (kx x hx))) fun _ => je_one (je_not (je_isi B (ja_cons (nm 1 rfl) (ja_cons (je_ty B.bool_) ja_nil)) (kx x hx) (kit_bool (kx x hx))))⟩))) (by rw [List.map_map]; rfl)) ja_nil)))) (fun h1 => ?_) (fun h1 => ?_))
        · refine js_cons (js_ret je_bl ?_)
          show Out.ret (.bl (mFrac (.tup [a, b]))) = Out.ret _
          have : mFrac (.tup [a, b]) = false := by
            unfold mFrac
            split
            · rename_i e; cases e; cases h1
            · rfl
          rw [this]
        · rw [Bool.not_eq_false'] at h1
          have h1 : (isIB a && (isIB b && true)) = true := h1
          simp only [Bool.and_true, Bool.and_eq_true] at h1
          obtain ⟨i, rfl⟩ := isIB_ex h1.1
          obtain ⟨j, rfl⟩ := isIB_ex h1.2
          refine js_nil (js_cons (js_ret (d := .bl (decide (0 < j) && decide (((Int.gcd i j : Nat) : Int) = 1))) (je_and (je_gt (je_ixT (nm 0 rfl) je_int (d := .int j) rfl) je_int) fun _ => je_one (je_eqI (je_call FD (Nat.le_refl _) (ja_cons (je_ixT (nm 0 rfl) je_int (d := .int i) rfl) (ja_cons (je_ixT (nm 0 rfl) je_int (d := .int j) rfl) ja_nil)) ⟨i, j, rfl, rfl⟩) je_int)) ?_))
          show Out.ret (.bl (decide (0 < j) && decide (Int.gcd i j = 1))) = Out.ret _
          congr 4
          exact propext ⟨fun h => by omega, fun h => by omega⟩
    · have hg : mFrac (.tup l) = false := by
        unfold mFrac
        split
        · rename_i e; cases e; exact absurd rfl h2
        · rfl
      rw [hg]
      refine js_cons (js_if (t := true) (jt_w (jw_orF (jt_not (t := true) (jt_val (je_isi B (ja_cons (nm 0 rfl) (ja_cons (je_ty B.tuple_) ja_nil)) kd (kit_tuple kd)))) (jw_or1 (JT.cast (jt_neI (je_lenT B (ja_cons (nm 0 rfl) ja_nil)) je_int) ?_)))) (fun h1 => js_cons (js_ret je_bl rfl)) (fun h1 => by cases h1))
      have : ¬ (l.length : Int) = 2 := by omega
      rw [decide_eq_false this]
      rfl
  · rw [Bool.not_eq_true] at ht
    have hg : mFrac d = false := by
      unfold mFrac
      split
      · cases ht
      · rfl
    rw [hg]
    refine js_cons (js_if (t := true) (jt_w (JW.cast (jw_or (u := false) (jt_not (jt_val (je_isi B (ja_cons (nm 0 rfl) (ja_cons (je_ty B.tuple_) ja_nil)) kd (kit_tuple kd)))) fun h => ?_) ?_)) (fun h1 => js_cons (js_ret je_bl rfl)) (fun h1 => by cases h1))
    · rw [ht] at h; cases h
    · rw [ht]; rfl

/-! check_degree -/
theorem sc_check_degree : FnScope ["value"] ["value"] (defScope (topS 32)) := ⟨rfl, rfl, rfl, by decide +kernel, rfl, by decide +kernel, by decide +kernel⟩
theorem ok_check_degree {g : Glob} {k : Nat} {C : Nat → Addr} (h : DefAt g "check_degree" (topS 32)) (B : Bi g) (Er : Errs g C) (FB : Def g "is_between" 3 k R_between) : Def g "check_degree" 1 (k + 1) (R_degree C) := by
  refine def_at h sc_check_degree (fun _ _ _ _ _ _ us hl => match us, hl with | [_], _ => rfl) fun T ds o hR hl => ?_
  obtain ⟨d, hk, rfl, rfl⟩ := hR
  refine js_cons (js_if (jt_not (jt_val (je_call FB (Nat.le_refl _) (ja_cons (nm 0 rfl) (ja_cons je_int (ja_cons je_int ja_nil))) ⟨d, _, _, hk, rfl, rfl⟩))) (fun h1 => ?_) (fun h1 => ?_))
  · rw [Bool.not_eq_true'] at h1
    rw [h1]
    exact js_cons (js_raise (Er.mkx 2 _ rfl) rfl)
  · rw [Bool.not_eq_false'] at h1
    rw [h1]
    exact js_nil (js_nil rfl)

/-! check_both -/
theorem sc_check_both : FnScope ["gates", "degree"] ["gates", "degree"] (defScope (topS 33)) := ⟨rfl, rfl, rfl, by decide +kernel, rfl, by decide +kernel, by decide +kernel⟩
theorem ok_check_both {g : Glob} {k : Nat} {C : Nat → Addr} (h : DefAt g "check_both" (topS 33)) (FG : Def g "check_gates" 1 k (R_check C)) (FD : Def g "check_degree" 1 k (R_degree C)) : Def g "check_both" 2 (k + 1) (R_both C) := by
  refine def_at h sc_check_both (fun _ _ _ _ _ _ us hl => match us, hl with | [_, _], _ => rfl) fun T ds o hR hl => ?_
  obtain ⟨m, d1, d2, h1, h2, rfl, rfl⟩ := hR
  unfold bothO
  by_cases g1 : mGates d1 = true
  · rw [if_pos g1]
    refine js_cons (js_expr (je_call FG (Nat.le_refl _) (ja_cons (nm 0 rfl) ja_nil) ⟨m, d1, h1, rfl, (if_pos g1).symm⟩) ?_)
    by_cases g2 : mBetween d2 0 3 = true
    · rw [if_pos g2]
      exact js_cons (js_expr (je_call FD (Nat.le_refl _) (ja_cons (nm 1 rfl) ja_nil) ⟨d2, h2, rfl, (if_pos g2).symm⟩) (js_nil rfl))
    · rw [if_neg g2]
      exact js_cons (jx_expr (jx_call FD (Nat.le_refl _) (ja_cons (nm 1 rfl) ja_nil) ⟨d2, h2, rfl, (if_neg g2).symm⟩) rfl)
  · rw [if_neg g1]
    exact js_cons (jx_expr (jx_call FG (Nat.le_refl _) (ja_cons (nm 0 rfl) ja_nil) ⟨m, d1, h1, rfl, (if_neg g1).symm⟩) rfl)

/-! are_road, is_road -/
theorem sc_are_road : FnScope ["value", "one"] ["value"] (defScope (topS 34)) := ⟨rfl, rfl, rfl, by decide +kernel, rfl, by decide +kernel, by decide +kernel⟩
theorem ok_are_road {g : Glob} {k : Nat} (h : DefAt g "are_road" (topS 34)) (B : Bi g) (FF : Def g "is_fraction" 1 k R_isFrac) : Def g "are_road" 1 (k + 1) R_areRoad := by
  refine def_at h sc_are_road (fun _ _ _ _ _ _ us hl => match us, hl with | [_], _ => rfl) fun T ds o hR hl => ?_
  obtain ⟨n, d, hk, hz, rfl, rfl⟩ := hR
  have kd := dk_known hk
  refine js_cons (js_ret (d := .bl (isT d && mRoad d)) (je_and (je_isi B (ja_cons (nm 0 rfl) (ja_cons (je_ty B.tuple_) ja_nil)) kd (kit_tuple kd)) fun h1 => je_one ?_) ?_)
  · obtain ⟨l, rfl⟩ := isT_ex h1
    obtain ⟨m, hm⟩ := dk_tup hk
    have hz : l.length ≤ 1000 := hz
    exact JE.cast (je_all (bs := l.map mFrac) B (ja_cons (JE.cast (JLc.je (lc0 (xs := l) (enc := fun d => d) (own := [("one", 1)]) (tv := [1]) (fun d => .bl (mFrac d)) (JI.cast (ji_tup (nm 0 rfl)) (List.map_id' _).symm) (by omega) (fun T x hx => ⟨_, jgw_name 1, rfl, je_call FF (Nat.le_refl _) (ja_cons (nm 1 rfl) ja_nil) ⟨m, x, hm x hx, rfl, rfl⟩⟩))) (by rw [List.map_map]; rfl)) ja_nil)) (by rw [List.all_map]; rfl)
  · show Out.ret _ = Out.ret _
    cases d <;> rfl

theorem sc_is_road : FnScope ["degree", "value"] ["degree", "value"] (defScope (topS 35)) := ⟨rfl, rfl, rfl, by decide +kernel, rfl, by decide +kernel, by decide +kernel⟩
theorem ok_is_road {g : Glob} {k : Nat} {C : Nat → Addr} (h : DefAt g "is_road" (topS 35)) (B : Bi g) (FD : Def g "check_degree" 1 k (R_degree C)) (FA : Def g "are_road" 1 k R_areRoad) : Def g "is_road" 2 (k + 1) (R_isRoad C) := by
  refine def_at h sc_is_road (fun _ _ _ _ _ _ us hl => match us, hl with | [_, _], _ => rfl) fun T ds o hR hl => ?_
  rcases hR with ⟨hn, ⟨m, hm⟩, c, hc, rfl⟩ | ⟨n, i, d, i0, i3, hk, hz, rfl, rfl⟩
  · match ds, hn with
    | [d1, d2], _ => exact js_cons (jx_expr (jx_call FD (Nat.le_refl _) (ja_cons (nm 0 rfl) ja_nil) (degree_of (hm d1 (by simp)) hc)) rfl)
  · refine js_cons (js_expr (je_call FD (Nat.le_refl _) (ja_cons (nm 0 rfl) ja_nil) ⟨.int i, rfl, rfl, (if_pos (bet_in i0 i3)).symm⟩) ?_)
    refine js_cons (js_ret (je_and (je_call FA (Nat.le_refl _) (ja_cons (nm 1 rfl) ja_nil) ⟨n, d, hk, hz, rfl, rfl⟩) fun h1 => je_one ?_) rfl)
    obtain ⟨l, rfl⟩ : ∃ l, d = .tup l := by
      cases d <;> first | exact ⟨_, rfl⟩ | cases h1
    exact je_eqI (je_lenT B (ja_cons (nm 1 rfl) ja_nil)) (je_add (nm 0 rfl) je_int)

/-! defs that begin with a check -/
theorem sc_some_road : FnScope ["gates", "degree"] ["gates", "degree"] (defScope (topS 51)) := ⟨rfl, rfl, rfl, by decide +kernel, rfl, by decide +kernel, by decide +kernel⟩
theorem gd_some_road {g : Glob} {k : Nat} {C : Nat → Addr} (h : DefAt g "some_road" (topS 51)) (FB : Def g "check_both" 2 k (R_both C)) : Def g "some_road" 2 (k + 1) (R_e C 0 2) := by
  refine def_at h sc_some_road (fun _ _ _ _ _ _ us hl => match us, hl with | [_, _], _ => rfl) fun T ds o hR hl => ?_
  obtain ⟨hn, ⟨m, hm⟩, c, hc, rfl⟩ := hR
  match ds, hn with
  | [d1, d2], _ => exact js_cons (jx_expr (jx_call FB (Nat.le_refl _) (ja_cons (nm 0 rfl) (ja_cons (nm 1 rfl) ja_nil)) (both_of (hm d1 (by simp)) (hm d2 (by simp)) hc)) rfl)
theorem sc_bar : FnScope ["gates", "degree"] ["gates", "degree"] (defScope (topS 52)) := ⟨rfl, rfl, rfl, by decide +kernel, rfl, by decide +kernel, by decide +kernel⟩
theorem gd_bar {g : Glob} {k : Nat} {C : Nat → Addr} (h : DefAt g "bar" (topS 52)) (FB : Def g "check_both" 2 k (R_both C)) : Def g "bar" 2 (k + 1) (R_e C 0 2) := by
  refine def_at h sc_bar (fun _ _ _ _ _ _ us hl => match us, hl with | [_, _], _ => rfl) fun T ds o hR hl => ?_
  obtain ⟨hn, ⟨m, hm⟩, c, hc, rfl⟩ := hR
  match ds, hn with
  | [d1, d2], _ => exact js_cons (jx_expr (jx_call FB (Nat.le_refl _) (ja_cons (nm 0 rfl) (ja_cons (nm 1 rfl) ja_nil)) (both_of (hm d1 (by simp)) (hm d2 (by simp)) hc)) rfl)
theorem sc_needless : FnScope ["gates", "degree", "number"] ["gates", "degree"] (defScope (topS 60)) := ⟨rfl, rfl, rfl, by decide +kernel, rfl, by decide +kernel, by decide +kernel⟩
theorem gd_needless {g : Glob} {k : Nat} {C : Nat → Addr} (h : DefAt g "needless" (topS 60)) (FB : Def g "check_both" 2 k (R_both C)) : Def g "needless" 2 (k + 1) (R_e C 0 2) := by
  refine def_at h sc_needless (fun _ _ _ _ _ _ us hl => match us, hl with | [_, _], _ => rfl) fun T ds o hR hl => ?_
  obtain ⟨hn, ⟨m, hm⟩, c, hc, rfl⟩ := hR
  match ds, hn with
  | [d1, d2], _ => exact js_cons (jx_expr (jx_call FB (Nat.le_refl _) (ja_cons (nm 0 rfl) (ja_cons (nm 1 rfl) ja_nil)) (both_of (hm d1 (by simp)) (hm d2 (by simp)) hc)) rfl)
theorem sc_fewest_left : FnScope ["gates", "degree", "many", "size", "numbers", "k"] ["gates", "degree"] (defScope (topS 64)) := ⟨rfl, rfl, rfl, by decide +kernel, rfl, by decide +kernel, by decide +kernel⟩
theorem gd_fewest_left {g : Glob} {k : Nat} {C : Nat → Addr} (h : DefAt g "fewest_left" (topS 64)) (FB : Def g "check_both" 2 k (R_both C)) : Def g "fewest_left" 2 (k + 1) (R_e C 0 2) := by
  refine def_at h sc_fewest_left (fun _ _ _ _ _ _ us hl => match us, hl with | [_, _], _ => rfl) fun T ds o hR hl => ?_
  obtain ⟨hn, ⟨m, hm⟩, c, hc, rfl⟩ := hR
  match ds, hn with
  | [d1, d2], _ => exact js_cons (jx_expr (jx_call FB (Nat.le_refl _) (ja_cons (nm 0 rfl) (ja_cons (nm 1 rfl) ja_nil)) (both_of (hm d1 (by simp)) (hm d2 (by simp)) hc)) rfl)
theorem sc_fewest_roads : FnScope ["gates", "degree"] ["gates", "degree"] (defScope (topS 68)) := ⟨rfl, rfl, rfl, by decide +kernel, rfl, by decide +kernel, by decide +kernel⟩
theorem gd_fewest_roads {g : Glob} {k : Nat} {C : Nat → Addr} (h : DefAt g "fewest_roads" (topS 68)) (FB : Def g "check_both" 2 k (R_both C)) : Def g "fewest_roads" 2 (k + 1) (R_e C 0 2) := by
  refine def_at h sc_fewest_roads (fun _ _ _ _ _ _ us hl => match us, hl with | [_, _], _ => rfl) fun T ds o hR hl => ?_
  obtain ⟨hn, ⟨m, hm⟩, c, hc, rfl⟩ := hR
  match ds, hn with
  | [d1, d2], _ => exact js_cons (jx_expr (jx_call FB (Nat.le_refl _) (ja_cons (nm 0 rfl) (ja_cons (nm 1 rfl) ja_nil)) (both_of (hm d1 (by simp)) (hm d2 (by simp)) hc)) rfl)
theorem sc_road_groups : FnScope ["gates", "degree"] ["gates", "degree"] (defScope (topS 69)) := ⟨rfl, rfl, rfl, by decide +kernel, rfl, by decide +kernel, by decide +kernel⟩
theorem gd_road_groups {g : Glob} {k : Nat} {C : Nat → Addr} (h : DefAt g "road_groups" (topS 69)) (FB : Def g "check_both" 2 k (R_both C)) : Def g "road_groups" 2 (k + 1) (R_e C 0 2) := by
  refine def_at h sc_road_groups (fun _ _ _ _ _ _ us hl => match us, hl with | [_, _], _ => rfl) fun T ds o hR hl => ?_
  obtain ⟨hn, ⟨m, hm⟩, c, hc, rfl⟩ := hR
  match ds, hn with
  | [d1, d2], _ => exact js_cons (jx_expr (jx_call FB (Nat.le_refl _) (ja_cons (nm 0 rfl) (ja_cons (nm 1 rfl) ja_nil)) (both_of (hm d1 (by simp)) (hm d2 (by simp)) hc)) rfl)
theorem sc_stretches : FnScope ["gates", "degree"] ["gates", "degree"] (defScope (topS 71)) := ⟨rfl, rfl, rfl, by decide +kernel, rfl, by decide +kernel, by decide +kernel⟩
theorem gd_stretches {g : Glob} {k : Nat} {C : Nat → Addr} (h : DefAt g "stretches" (topS 71)) (FB : Def g "check_both" 2 k (R_both C)) : Def g "stretches" 2 (k + 1) (R_e C 0 2) := by
  refine def_at h sc_stretches (fun _ _ _ _ _ _ us hl => match us, hl with | [_, _], _ => rfl) fun T ds o hR hl => ?_
  obtain ⟨hn, ⟨m, hm⟩, c, hc, rfl⟩ := hR
  match ds, hn with
  | [d1, d2], _ => exact js_cons (jx_expr (jx_call FB (Nat.le_refl _) (ja_cons (nm 0 rfl) (ja_cons (nm 1 rfl) ja_nil)) (both_of (hm d1 (by simp)) (hm d2 (by simp)) hc)) rfl)
theorem sc_stretch_bars : FnScope ["gates", "degree", "some", "found", "one", "other", "numbers", "row", "number", "side", "weight"] ["gates", "degree"] (defScope (topS 72)) := ⟨rfl, rfl, rfl, by decide +kernel, rfl, by decide +kernel, by decide +kernel⟩
theorem gd_stretch_bars {g : Glob} {k : Nat} {C : Nat → Addr} (h : DefAt g "stretch_bars" (topS 72)) (FB : Def g "check_both" 2 k (R_both C)) : Def g "stretch_bars" 2 (k + 1) (R_e C 0 2) := by
  refine def_at h sc_stretch_bars (fun _ _ _ _ _ _ us hl => match us, hl with | [_, _], _ => rfl) fun T ds o hR hl => ?_
  obtain ⟨hn, ⟨m, hm⟩, c, hc, rfl⟩ := hR
  match ds, hn with
  | [d1, d2], _ => exact js_cons (jx_expr (jx_call FB (Nat.le_refl _) (ja_cons (nm 0 rfl) (ja_cons (nm 1 rfl) ja_nil)) (both_of (hm d1 (by simp)) (hm d2 (by simp)) hc)) rfl)
theorem sc_least_widening : FnScope ["gates", "degree"] ["gates", "degree"] (defScope (topS 76)) := ⟨rfl, rfl, rfl, by decide +kernel, rfl, by decide +kernel, by decide +kernel⟩
theorem gd_least_widening {g : Glob} {k : Nat} {C : Nat → Addr} (h : DefAt g "least_widening" (topS 76)) (FB : Def g "check_both" 2 k (R_both C)) : Def g "least_widening" 2 (k + 1) (R_e C 0 2) := by
  refine def_at h sc_least_widening (fun _ _ _ _ _ _ us hl => match us, hl with | [_, _], _ => rfl) fun T ds o hR hl => ?_
  obtain ⟨hn, ⟨m, hm⟩, c, hc, rfl⟩ := hR
  match ds, hn with
  | [d1, d2], _ => exact js_cons (jx_expr (jx_call FB (Nat.le_refl _) (ja_cons (nm 0 rfl) (ja_cons (nm 1 rfl) ja_nil)) (both_of (hm d1 (by simp)) (hm d2 (by simp)) hc)) rfl)
theorem sc_best_road : FnScope ["gates", "degree", "top", "bottom", "rows", "numbers", "end", "one"] ["gates", "degree"] (defScope (topS 77)) := ⟨rfl, rfl, rfl, by decide +kernel, rfl, by decide +kernel, by decide +kernel⟩
theorem gd_best_road {g : Glob} {k : Nat} {C : Nat → Addr} (h : DefAt g "best_road" (topS 77)) (FB : Def g "check_both" 2 k (R_both C)) : Def g "best_road" 2 (k + 1) (R_e C 0 2) := by
  refine def_at h sc_best_road (fun _ _ _ _ _ _ us hl => match us, hl with | [_, _], _ => rfl) fun T ds o hR hl => ?_
  obtain ⟨hn, ⟨m, hm⟩, c, hc, rfl⟩ := hR
  match ds, hn with
  | [d1, d2], _ => exact js_cons (jx_expr (jx_call FB (Nat.le_refl _) (ja_cons (nm 0 rfl) (ja_cons (nm 1 rfl) ja_nil)) (both_of (hm d1 (by simp)) (hm d2 (by simp)) hc)) rfl)
theorem sc_ties : FnScope ["gates", "degree", "some", "number", "side", "share"] ["gates", "degree"] (defScope (topS 78)) := ⟨rfl, rfl, rfl, by decide +kernel, rfl, by decide +kernel, by decide +kernel⟩
theorem gd_ties {g : Glob} {k : Nat} {C : Nat → Addr} (h : DefAt g "ties" (topS 78)) (FB : Def g "check_both" 2 k (R_both C)) : Def g "ties" 2 (k + 1) (R_e C 0 2) := by
  refine def_at h sc_ties (fun _ _ _ _ _ _ us hl => match us, hl with | [_, _], _ => rfl) fun T ds o hR hl => ?_
  obtain ⟨hn, ⟨m, hm⟩, c, hc, rfl⟩ := hR
  match ds, hn with
  | [d1, d2], _ => exact js_cons (jx_expr (jx_call FB (Nat.le_refl _) (ja_cons (nm 0 rfl) (ja_cons (nm 1 rfl) ja_nil)) (both_of (hm d1 (by simp)) (hm d2 (by simp)) hc)) rfl)
theorem sc_is_stretch_bars : FnScope ["gates", "degree", "value", "one", "k"] ["gates", "degree", "value"] (defScope (topS 73)) := ⟨rfl, rfl, rfl, by decide +kernel, rfl, by decide +kernel, by decide +kernel⟩
theorem gd_is_stretch_bars {g : Glob} {k : Nat} {C : Nat → Addr} (h : DefAt g "is_stretch_bars" (topS 73)) (FB : Def g "check_both" 2 k (R_both C)) : Def g "is_stretch_bars" 3 (k + 1) (R_e C 0 3) := by
  refine def_at h sc_is_stretch_bars (fun _ _ _ _ _ _ us hl => match us, hl with | [_, _, _], _ => rfl) fun T ds o hR hl => ?_
  obtain ⟨hn, ⟨m, hm⟩, c, hc, rfl⟩ := hR
  match ds, hn with
  | [d1, d2, d3], _ => exact js_cons (jx_expr (jx_call FB (Nat.le_refl _) (ja_cons (nm 0 rfl) (ja_cons (nm 1 rfl) ja_nil)) (both_of (hm d1 (by simp)) (hm d2 (by simp)) hc)) rfl)
theorem sc_check_all : FnScope ["gates", "degree", "place"] ["gates", "degree", "place"] (defScope (topS 81)) := ⟨rfl, rfl, rfl, by decide +kernel, rfl, by decide +kernel, by decide +kernel⟩
theorem gd_check_all {g : Glob} {k : Nat} {C : Nat → Addr} (h : DefAt g "check_all" (topS 81)) (FB : Def g "check_both" 2 k (R_both C)) : Def g "check_all" 3 (k + 1) (R_e C 0 3) := by
  refine def_at h sc_check_all (fun _ _ _ _ _ _ us hl => match us, hl with | [_, _, _], _ => rfl) fun T ds o hR hl => ?_
  obtain ⟨hn, ⟨m, hm⟩, c, hc, rfl⟩ := hR
  match ds, hn with
  | [d1, d2, d3], _ => exact js_cons (jx_expr (jx_call FB (Nat.le_refl _) (ja_cons (nm 0 rfl) (ja_cons (nm 1 rfl) ja_nil)) (both_of (hm d1 (by simp)) (hm d2 (by simp)) hc)) rfl)
theorem sc_heights : FnScope ["gates", "degree", "place", "low", "high"] ["gates", "degree", "place"] (defScope (topS 83)) := ⟨rfl, rfl, rfl, by decide +kernel, rfl, by decide +kernel, by decide +kernel⟩
theorem gd_heights {g : Glob} {k : Nat} {C : Nat → Addr} (h : DefAt g "heights" (topS 83)) (FB : Def g "check_all" 3 k (R_e C 0 3)) : Def g "heights" 3 (k + 1) (R_e C 0 3) := by
  refine def_at h sc_heights (fun _ _ _ _ _ _ us hl => match us, hl with | [_, _, _], _ => rfl) fun T ds o hR hl => ?_
  obtain ⟨hn, ⟨m, hm⟩, c, hc, rfl⟩ := hR
  match ds, hn with
  | [d1, d2, d3], _ => exact js_cons (jx_expr (jx_call FB (Nat.le_refl _) (ja_cons (nm 0 rfl) (ja_cons (nm 1 rfl) (ja_cons (nm 2 rfl) ja_nil))) ⟨rfl, ⟨m, fun d hd => hm d (by simp at hd ⊢; rcases hd with h | h | h <;> simp [h])⟩, c, hc, rfl⟩) rfl)
theorem sc_road_at : FnScope ["gates", "degree", "place", "number", "tops", "bottoms", "rows", "row", "by", "one", "weights", "numbers", "other", "end"] ["gates", "degree", "place", "number"] (defScope (topS 84)) := ⟨rfl, rfl, rfl, by decide +kernel, rfl, by decide +kernel, by decide +kernel⟩
theorem gd_road_at {g : Glob} {k : Nat} {C : Nat → Addr} (h : DefAt g "road_at" (topS 84)) (FB : Def g "check_all" 3 k (R_e C 0 3)) : Def g "road_at" 4 (k + 1) (R_e C 0 4) := by
  refine def_at h sc_road_at (fun _ _ _ _ _ _ us hl => match us, hl with | [_, _, _, _], _ => rfl) fun T ds o hR hl => ?_
  obtain ⟨hn, ⟨m, hm⟩, c, hc, rfl⟩ := hR
  match ds, hn with
  | [d1, d2, d3, d4], _ => exact js_cons (jx_expr (jx_call FB (Nat.le_refl _) (ja_cons (nm 0 rfl) (ja_cons (nm 1 rfl) (ja_cons (nm 2 rfl) ja_nil))) ⟨rfl, ⟨m, fun d hd => hm d (by simp at hd ⊢; rcases hd with h | h | h <;> simp [h])⟩, c, hc, rfl⟩) rfl)
theorem sc_bound : FnScope ["gates", "degree", "place", "side", "weights", "some", "number", "other", "weight"] ["gates", "degree", "place", "side"] (defScope (topS 86)) := ⟨rfl, rfl, rfl, by decide +kernel, rfl, by decide +kernel, by decide +kernel⟩
theorem gd_bound {g : Glob} {k : Nat} {C : Nat → Addr} (h : DefAt g "bound" (topS 86)) (FB : Def g "check_all" 3 k (R_e C 0 3)) : Def g "bound" 4 (k + 1) (R_e C 0 4) := by
  refine def_at h sc_bound (fun _ _ _ _ _ _ us hl => match us, hl with | [_, _, _, _], _ => rfl) fun T ds o hR hl => ?_
  obtain ⟨hn, ⟨m, hm⟩, c, hc, rfl⟩ := hR
  match ds, hn with
  | [d1, d2, d3, d4], _ => exact js_cons (jx_expr (jx_call FB (Nat.le_refl _) (ja_cons (nm 0 rfl) (ja_cons (nm 1 rfl) (ja_cons (nm 2 rfl) ja_nil))) ⟨rfl, ⟨m, fun d hd => hm d (by simp at hd ⊢; rcases hd with h | h | h <;> simp [h])⟩, c, hc, rfl⟩) rfl)
theorem sc_is_bound : FnScope ["gates", "degree", "place", "side", "number", "value", "sums", "tops", "bottoms", "one", "row", "two", "by"] ["gates", "degree", "place", "side", "number", "value"] (defScope (topS 87)) := ⟨rfl, rfl, rfl, by decide +kernel, rfl, by decide +kernel, by decide +kernel⟩
theorem gd_is_bound {g : Glob} {k : Nat} {C : Nat → Addr} (h : DefAt g "is_bound" (topS 87)) (FB : Def g "check_all" 3 k (R_e C 0 3)) : Def g "is_bound" 6 (k + 1) (R_e C 0 6) := by
  refine def_at h sc_is_bound (fun _ _ _ _ _ _ us hl => match us, hl with | [_, _, _, _, _, _], _ => rfl) fun T ds o hR hl => ?_
  obtain ⟨hn, ⟨m, hm⟩, c, hc, rfl⟩ := hR
  match ds, hn with
  | [d1, d2, d3, d4, d5, d6], _ => exact js_cons (jx_expr (jx_call FB (Nat.le_refl _) (ja_cons (nm 0 rfl) (ja_cons (nm 1 rfl) (ja_cons (nm 2 rfl) ja_nil))) ⟨rfl, ⟨m, fun d hd => hm d (by simp at hd ⊢; rcases hd with h | h | h <;> simp [h])⟩, c, hc, rfl⟩) rfl)
theorem sc_passed : FnScope ["gates", "road", "number", "gate"] ["gates", "road"] (defScope (topS 39)) := ⟨rfl, rfl, rfl, by decide +kernel, rfl, by decide +kernel, by decide +kernel⟩
theorem gd_passed {g : Glob} {k : Nat} {C : Nat → Addr} (h : DefAt g "passed" (topS 39)) (FB : Def g "check_gates" 1 k (R_check C)) : Def g "passed" 2 (k + 1) (R_e C 1 2) := by
  refine def_at h sc_passed (fun _ _ _ _ _ _ us hl => match us, hl with | [_, _], _ => rfl) fun T ds o hR hl => ?_
  obtain ⟨hn, ⟨m, hm⟩, c, hc, rfl⟩ := hR
  match ds, hn with
  | [d1, d2], _ => exact js_cons (jx_expr (jx_call FB (Nat.le_refl _) (ja_cons (nm 0 rfl) ja_nil) (check_of (hm d1 (by simp)) hc)) rfl)
theorem sc_format_gates : FnScope ["gates"] ["gates"] (defScope (topS 96)) := ⟨rfl, rfl, rfl, by decide +kernel, rfl, by decide +kernel, by decide +kernel⟩
theorem gd_format_gates {g : Glob} {k : Nat} {C : Nat → Addr} (h : DefAt g "format_gates" (topS 96)) (FB : Def g "check_gates" 1 k (R_check C)) : Def g "format_gates" 1 (k + 1) (R_e C 1 1) := by
  refine def_at h sc_format_gates (fun _ _ _ _ _ _ us hl => match us, hl with | [_], _ => rfl) fun T ds o hR hl => ?_
  obtain ⟨hn, ⟨m, hm⟩, c, hc, rfl⟩ := hR
  match ds, hn with
  | [d1], _ => exact js_cons (jx_expr (jx_call FB (Nat.le_refl _) (ja_cons (nm 0 rfl) ja_nil) (check_of (hm d1 (by simp)) hc)) rfl)
theorem sc_mirrored : FnScope ["gates", "place", "low", "high"] ["gates"] (defScope (topS 93)) := ⟨rfl, rfl, rfl, by decide +kernel, rfl, by decide +kernel, by decide +kernel⟩
theorem gd_mirrored {g : Glob} {k : Nat} {C : Nat → Addr} (h : DefAt g "mirrored" (topS 93)) (FB : Def g "check_gates" 1 k (R_check C)) : Def g "mirrored" 1 (k + 1) (R_e C 1 1) := by
  refine def_at h sc_mirrored (fun _ _ _ _ _ _ us hl => match us, hl with | [_], _ => rfl) fun T ds o hR hl => ?_
  obtain ⟨hn, ⟨m, hm⟩, c, hc, rfl⟩ := hR
  match ds, hn with
  | [d1], _ => exact js_cons (jx_expr (jx_call FB (Nat.le_refl _) (ja_cons (nm 0 rfl) ja_nil) (check_of (hm d1 (by simp)) hc)) rfl)
theorem sc_with_gate : FnScope ["gates", "gate"] ["gates", "gate"] (defScope (topS 90)) := ⟨rfl, rfl, rfl, by decide +kernel, rfl, by decide +kernel, by decide +kernel⟩
theorem gd_with_gate {g : Glob} {k : Nat} {C : Nat → Addr} (h : DefAt g "with_gate" (topS 90)) (FB : Def g "check_gates" 1 k (R_check C)) : Def g "with_gate" 2 (k + 1) (R_e C 1 2) := by
  refine def_at h sc_with_gate (fun _ _ _ _ _ _ us hl => match us, hl with | [_, _], _ => rfl) fun T ds o hR hl => ?_
  obtain ⟨hn, ⟨m, hm⟩, c, hc, rfl⟩ := hR
  match ds, hn with
  | [d1, d2], _ => exact js_cons (jx_expr (jx_call FB (Nat.le_refl _) (ja_cons (nm 0 rfl) ja_nil) (check_of (hm d1 (by simp)) hc)) rfl)
theorem sc_without : FnScope ["gates", "number"] ["gates", "number"] (defScope (topS 92)) := ⟨rfl, rfl, rfl, by decide +kernel, rfl, by decide +kernel, by decide +kernel⟩
theorem gd_without {g : Glob} {k : Nat} {C : Nat → Addr} (h : DefAt g "without" (topS 92)) (FB : Def g "check_gates" 1 k (R_check C)) : Def g "without" 2 (k + 1) (R_e C 1 2) := by
  refine def_at h sc_without (fun _ _ _ _ _ _ us hl => match us, hl with | [_, _], _ => rfl) fun T ds o hR hl => ?_
  obtain ⟨hn, ⟨m, hm⟩, c, hc, rfl⟩ := hR
  match ds, hn with
  | [d1, d2], _ => exact js_cons (jx_expr (jx_call FB (Nat.le_refl _) (ja_cons (nm 0 rfl) ja_nil) (check_of (hm d1 (by simp)) hc)) rfl)

/-! what is no bar, what are no ties: no tuple at all -/
theorem sc_are_entries : FnScope ["gates", "most", "value", "one", "k"] ["gates", "most", "value"] (defScope (topS 53)) := ⟨rfl, rfl, rfl, by decide +kernel, rfl, by decide +kernel, by decide +kernel⟩
theorem gd_are_entries {g : Glob} {k : Nat} (h : DefAt g "are_entries" (topS 53)) (B : Bi g) : Def g "are_entries" 3 (k + 1) R_noEnt := by
  refine def_at h sc_are_entries (fun _ _ _ _ _ _ us hl => match us, hl with | [_, _, _], _ => rfl) fun T ds o hR hl => ?_
  obtain ⟨d1, d2, v, kv, ht, rfl, rfl⟩ := hR
  refine js_cons (js_if (t := true) (jt_w (JW.cast (jw_or (u := false) (jt_not (jt_val (je_isi B (ja_cons (nm 2 rfl) (ja_cons (je_ty B.tuple_) ja_nil)) kv (kit_tuple kv)))) fun h => ?_) ?_)) (fun h1 => js_cons (js_ret je_bl rfl)) (fun h1 => by cases h1))
  · rw [ht] at h; cases h
  · rw [ht]; rfl
theorem sc_is_found_bar : FnScope ["gates", "degree", "value", "sums", "one", "row", "two"] ["gates", "degree", "value"] (defScope (topS 55)) := ⟨rfl, rfl, rfl, by decide +kernel, rfl, by decide +kernel, by decide +kernel⟩
theorem gd_is_found_bar {g : Glob} {k : Nat} (h : DefAt g "is_found_bar" (topS 55)) (FE : Def g "are_entries" 3 k R_noEnt) : Def g "is_found_bar" 3 (k + 1) R_noEntI := by
  refine def_at h sc_is_found_bar (fun _ _ _ _ _ _ us hl => match us, hl with | [_, _, _], _ => rfl) fun T ds o hR hl => ?_
  obtain ⟨d1, i, v, kv, ht, rfl, rfl⟩ := hR
  exact js_cons (js_if (t := true) (jt_not (t := false) (jt_val (je_call FE (Nat.le_refl _) (ja_cons (nm 0 rfl) (ja_cons (je_add (nm 1 rfl) je_int) (ja_cons (nm 2 rfl) ja_nil))) ⟨d1, _, v, kv, ht, rfl, rfl⟩))) (fun _ => js_cons (js_ret je_bl rfl)) (fun h1 => by cases h1))
theorem sc_is_bar : FnScope ["gates", "degree", "value"] ["gates", "degree", "value"] (defScope (topS 56)) := ⟨rfl, rfl, rfl, by decide +kernel, rfl, by decide +kernel, by decide +kernel⟩
theorem gd_is_bar {g : Glob} {k : Nat} {C : Nat → Addr} (h : DefAt g "is_bar" (topS 56)) (FB : Def g "check_both" 2 k (R_both C)) (FF : Def g "is_found_bar" 3 k R_noEntI) : Def g "is_bar" 3 (k + 1) (R_isBar0 C) := by
  refine def_at h sc_is_bar (fun _ _ _ _ _ _ us hl => match us, hl with | [_, _, _], _ => rfl) fun T ds o hR hl => ?_
  rcases hR with ⟨hn, ⟨m, hm⟩, c, hc, rfl⟩ | ⟨gs, i, v, hg, i0, i3, kv, ht, rfl, rfl⟩
  · match ds, hn with
    | [d1, d2, d3], _ => exact js_cons (jx_expr (jx_call FB (Nat.le_refl _) (ja_cons (nm 0 rfl) (ja_cons (nm 1 rfl) ja_nil)) (both_of (hm d1 (by simp)) (hm d2 (by simp)) hc)) rfl)
  · refine js_cons (js_expr (je_call FB (Nat.le_refl _) (ja_cons (nm 0 rfl) (ja_cons (nm 1 rfl) ja_nil)) (both_ok (dk_gates gs) (mGates_enc hg) (bet_in i0 i3))) ?_)
    exact js_cons (js_ret (je_call FF (Nat.le_refl _) (ja_cons (nm 0 rfl) (ja_cons (nm 1 rfl) (ja_cons (nm 2 rfl) ja_nil))) ⟨_, i, v, kv, ht, rfl, rfl⟩) rfl)
theorem sc_is_ties : FnScope ["gates", "degree", "number", "value", "sums", "one", "row", "two"] ["gates", "degree", "number", "value"] (defScope (topS 79)) := ⟨rfl, rfl, rfl, by decide +kernel, rfl, by decide +kernel, by decide +kernel⟩
theorem gd_is_ties {g : Glob} {k : Nat} {C : Nat → Addr} (h : DefAt g "is_ties" (topS 79)) (FB : Def g "check_both" 2 k (R_both C)) (FI : Def g "is_fraction" 1 k R_isFrac) (FE : Def g "are_entries" 3 k R_noEnt) : Def g "is_ties" 4 (k + 1) (R_isTies0 C) := by
  refine def_at h sc_is_ties (fun _ _ _ _ _ _ us hl => match us, hl with | [_, _, _, _], _ => rfl) fun T ds o hR hl => ?_
  rcases hR with ⟨hn, ⟨m, hm⟩, c, hc, rfl⟩ | ⟨gs, i, f, v, hg, i0, i3, kf, hf, kv, ht, rfl, rfl⟩
  · match ds, hn with
    | [d1, d2, d3, d4], _ => exact js_cons (jx_expr (jx_call FB (Nat.le_refl _) (ja_cons (nm 0 rfl) (ja_cons (nm 1 rfl) ja_nil)) (both_of (hm d1 (by simp)) (hm d2 (by simp)) hc)) rfl)
  · refine js_cons (js_expr (je_call FB (Nat.le_refl _) (ja_cons (nm 0 rfl) (ja_cons (nm 1 rfl) ja_nil)) (both_ok (dk_gates gs) (mGates_enc hg) (bet_in i0 i3))) ?_)
    refine js_cons (js_if (t := false) (jt_not (t := true) (jt_val (JE.cast (je_call FI (Nat.le_refl _) (ja_cons (nm 2 rfl) ja_nil) ⟨1, f, kf, rfl, rfl⟩) (by rw [hf])))) (fun z => by cases z) (fun _ => js_nil ?_))
    exact js_cons (js_if (t := true) (jt_not (t := false) (jt_val (je_call FE (Nat.le_refl _) (ja_cons (nm 0 rfl) (ja_cons (je_add (nm 1 rfl) je_int) (ja_cons (nm 3 rfl) ja_nil))) ⟨_, _, v, kv, ht, rfl, rfl⟩))) (fun _ => js_cons (js_ret je_bl rfl)) (fun h1 => by cases h1))
theorem sc_naive_pass : FnScope ["gates", "degree", "most", "rows", "power", "row", "one", "gate"] ["gates", "degree", "most"] (defScope (topS 98)) := ⟨rfl, rfl, rfl, by decide +kernel, rfl, by decide +kernel, by decide +kernel⟩
theorem gd_naive_pass {g : Glob} {k : Nat} {C : Nat → Addr} (h : DefAt g "naive_pass" (topS 98)) (Er : Errs g C) (FB : Def g "check_both" 2 k (R_both C)) (FI : Def g "is_between" 3 k R_between) : Def g "naive_pass" 3 (k + 1) (R_e C 2 3) := by
  refine def_at h sc_naive_pass (fun _ _ _ _ _ _ us hl => match us, hl with | [_, _, _], _ => rfl) fun T ds o hR hl => ?_
  obtain ⟨hn, ⟨m, hm⟩, c, hc, rfl⟩ := hR
  match ds, hn with
  | [d1, d2, d3], _ =>
    have k1 := hm d1 (by simp)
    have k2 := hm d2 (by simp)
    have k3 := dk_known (hm d3 (by simp))
    have hc : (if mGates d1 = true then (if mBetween d2 0 3 = true then (if mBetween d3 0 3 = true then (if intOf d2 > 2 then some 12 else none) else some 7) else some 2) else some 0) = some c := hc
    by_cases g1 : mGates d1 = true
    · by_cases g2 : mBetween d2 0 3 = true
      · rw [if_pos g1, if_pos g2] at hc
        refine js_cons (js_expr (je_call FB (Nat.le_refl _) (ja_cons (nm 0 rfl) (ja_cons (nm 1 rfl) ja_nil)) (both_ok k1 g1 g2)) ?_)
        refine js_cons (js_if (jt_not (jt_val (je_call FI (Nat.le_refl _) (ja_cons (nm 2 rfl) (ja_cons je_int (ja_cons je_int ja_nil))) ⟨d3, _, _, k3, rfl, rfl⟩))) (fun h1 => ?_) (fun h1 => js_nil ?_))
        · rw [Bool.not_eq_true'] at h1
          rw [if_neg (by rw [h1]; exact Bool.false_ne_true)] at hc
          cases hc
          exact js_cons (js_raise (Er.mkx 7 _ rfl) rfl)
        · rw [Bool.not_eq_false'] at h1
          rw [if_pos h1] at hc
          obtain ⟨i, rfl, _, _⟩ := mBetween_ex g2
          have hi : i > 2 := by
            by_cases hi : i > 2
            · exact hi
            · rw [if_neg (show ¬ intOf (.int i) > 2 from hi)] at hc; cases hc
          rw [if_pos (show intOf (.int i) > 2 from hi)] at hc
          cases hc
          exact js_cons (js_if (t := true) (JT.cast (jt_gt (nm 1 rfl) je_int) (decide_eq_true hi)) (fun _ => js_cons (js_raise (Er.mkx 12 _ rfl) rfl)) (fun z => by cases z))
      · rw [if_pos g1, if_neg g2] at hc
        cases hc
        exact js_cons (jx_expr (jx_call FB (Nat.le_refl _) (ja_cons (nm 0 rfl) (ja_cons (nm 1 rfl) ja_nil)) ⟨m, d1, d2, k1, dk_known k2, rfl, by unfold bothO; rw [if_pos g1, if_neg g2]⟩) rfl)
    · rw [if_neg g1] at hc
      cases hc
      exact js_cons (jx_expr (jx_call FB (Nat.le_refl _) (ja_cons (nm 0 rfl) (ja_cons (nm 1 rfl) ja_nil)) ⟨m, d1, d2, k1, dk_known k2, rfl, by unfold bothO; rw [if_neg g1]⟩) rfl)

/-! _law_call of k01 -/
def kinds : List Nat := [0, 0, 0, 0, 0, 0, 0, 0, 0, 0, 0, 1, 0, 0, 0, 2, 0, 0, 0, 1, 1, 1, 1, 3, 0]
def R_call01 (C : Nat → Addr) : List D → Out → Prop := fun ds o => ∃ (i : Nat) (d1 d2 d3 d4 : D) (m c : Nat), i < 25 ∧ (∀ d ∈ [d1, d2, d3, d4], dk m d = true) ∧ ds = [.int (i : Int), .tup [d1, d2, d3, d4]] ∧ errK (kinds.getD i 0) d1 d2 d3 = some c ∧ o = .exc (C c)
theorem sc__law_call : FnScope ["how", "arguments", "one", "two", "three", "four", "some"] ["how", "arguments"] (defScope (topS 107)) := ⟨rfl, rfl, rfl, by decide +kernel, rfl, by decide +kernel, by decide +kernel⟩
theorem ok__law_call {g : Glob} {k : Nat} {C : Nat → Addr} (h : DefAt g "_law_call" (topS 107)) (F0 : Def g "some_road" 2 k (R_e C 0 2)) (F1 : Def g "bar" 2 k (R_e C 0 2)) (F2 : Def g "needless" 2 k (R_e C 0 2)) (F3 : Def g "fewest_left" 2 k (R_e C 0 2)) (F4 : Def g "fewest_roads" 2 k (R_e C 0 2)) (F5 : Def g "road_groups" 2 k (R_e C 0 2)) (F6 : Def g "stretches" 2 k (R_e C 0 2)) (F7 : Def g "stretch_bars" 2 k (R_e C 0 2)) (F8 : Def g "least_widening" 2 k (R_e C 0 2)) (F9 : Def g "best_road" 2 k (R_e C 0 2)) (F10 : Def g "ties" 2 k (R_e C 0 2)) (F11 : Def g "passed" 2 k (R_e C 1 2)) (F12 : Def g "is_bar" 3 k (R_isBar0 C)) (F13 : Def g "is_stretch_bars" 3 k (R_e C 0 3)) (F14 : Def g "heights" 3 k (R_e C 0 3)) (F15 : Def g "naive_pass" 3 k (R_e C 2 3)) (F16 : Def g "is_ties" 4 k (R_isTies0 C)) (F17 : Def g "road_at" 4 k (R_e C 0 4)) (F18 : Def g "bound" 4 k (R_e C 0 4)) (F19 : Def g "format_gates" 1 k (R_e C 1 1)) (F20 : Def g "mirrored" 1 k (R_e C 1 1)) (F21 : Def g "with_gate" 2 k (R_e C 1 2)) (F22 : Def g "without" 2 k (R_e C 1 2)) (F23 : Def g "is_road" 2 k (R_isRoad C)) (F24 : Def g "is_bound" 6 k (R_e C 0 6)) : Def g "_law_call" 2 (k + 1) (R_call01 C) := by
  refine def_at h sc__law_call (fun _ _ _ _ _ _ us hl => match us, hl with | [_, _], _ => rfl) fun T ds o hR hl => ?_
  obtain ⟨i, d1, d2, d3, d4, m, c, hi, hm, rfl, hc, rfl⟩ := hR
  have k1 := hm d1 (by simp)
  have k2 := hm d2 (by simp)
  have k3 := hm d3 (by simp)
  have k4 := hm d4 (by simp)
  obtain ⟨a0, m0, V0⟩ := F0.atV
  obtain ⟨a1, m1, V1⟩ := F1.atV
  obtain ⟨a2, m2, V2⟩ := F2.atV
  obtain ⟨a3, m3, V3⟩ := F3.atV
  obtain ⟨a4, m4, V4⟩ := F4.atV
  obtain ⟨a5, m5, V5⟩ := F5.atV
  obtain ⟨a6, m6, V6⟩ := F6.atV
  obtain ⟨a7, m7, V7⟩ := F7.atV
  obtain ⟨a8, m8, V8⟩ := F8.atV
  obtain ⟨a9, m9, V9⟩ := F9.atV
  obtain ⟨a10, m10, V10⟩ := F10.atV
  obtain ⟨a11, m11, V11⟩ := F11.atV
  obtain ⟨a12, m12, V12⟩ := F12.atV
  obtain ⟨a13, m13, V13⟩ := F13.atV
  obtain ⟨a14, m14, V14⟩ := F14.atV
  obtain ⟨a15, m15, V15⟩ := F15.atV
  obtain ⟨a16, m16, V16⟩ := F16.atV
  obtain ⟨a17, m17, V17⟩ := F17.atV
  obtain ⟨a18, m18, V18⟩ := F18.atV
  obtain ⟨a21, m21, V21⟩ := F21.atV
  obtain ⟨a22, m22, V22⟩ := F22.atV
  obtain ⟨a23, m23, V23⟩ := F23.atV
  refine js_cons (js_asg (nm 1 rfl) (jg_tup (jgs_cons (jg_name 2) (jgs_cons (jg_name 3) (jgs_cons (jg_name 4) (jgs_cons (jg_name 5) jgs_nil))))) ?_)
  match i, hi with
  | 0, _ => exact js_cons (js_if (t := true) (JT.cast (jt_lt (nm 0 rfl) je_int) rfl) (fun _ => js_cons (js_set 6 (je_tup (ja_cons (je_glob m0) (ja_cons (je_glob m1) (ja_cons (je_glob m2) (ja_cons (je_glob m3) (ja_cons (je_glob m4) (ja_cons (je_glob m5) (ja_cons (je_glob m6) (ja_cons (je_glob m7) ja_nil))))))))) (js_cons (jx_ret (jx_callS V0 (Nat.le_refl _) (je_ixT (je_catT (nm 6 rfl) (je_tup (ja_cons (je_glob m8) (ja_cons (je_glob m9) (ja_cons (je_glob m10) (ja_cons (je_glob m11) ja_nil))))) (Nat.le_of_ble_eq_true rfl)) (nm 0 rfl) (d := .ref a0) rfl) (ja_cons (nm 2 rfl) (ja_cons (nm 3 rfl) ja_nil)) ⟨rfl, ⟨m, fun d hd => by simp only [List.mem_cons, List.not_mem_nil, or_false] at hd; rcases hd with rfl | rfl <;> assumption⟩, c, hc, rfl⟩) rfl)))) (fun z => by cases z))
  | 1, _ => exact js_cons (js_if (t := true) (JT.cast (jt_lt (nm 0 rfl) je_int) rfl) (fun _ => js_cons (js_set 6 (je_tup (ja_cons (je_glob m0) (ja_cons (je_glob m1) (ja_cons (je_glob m2) (ja_cons (je_glob m3) (ja_cons (je_glob m4) (ja_cons (je_glob m5) (ja_cons (je_glob m6) (ja_cons (je_glob m7) ja_nil))))))))) (js_cons (jx_ret (jx_callS V1 (Nat.le_refl _) (je_ixT (je_catT (nm 6 rfl) (je_tup (ja_cons (je_glob m8) (ja_cons (je_glob m9) (ja_cons (je_glob m10) (ja_cons (je_glob m11) ja_nil))))) (Nat.le_of_ble_eq_true rfl)) (nm 0 rfl) (d := .ref a1) rfl) (ja_cons (nm 2 rfl) (ja_cons (nm 3 rfl) ja_nil)) ⟨rfl, ⟨m, fun d hd => by simp only [List.mem_cons, List.not_mem_nil, or_false] at hd; rcases hd with rfl | rfl <;> assumption⟩, c, hc, rfl⟩) rfl)))) (fun z => by cases z))
  | 2, _ => exact js_cons (js_if (t := true) (JT.cast (jt_lt (nm 0 rfl) je_int) rfl) (fun _ => js_cons (js_set 6 (je_tup (ja_cons (je_glob m0) (ja_cons (je_glob m1) (ja_cons (je_glob m2) (ja_cons (je_glob m3) (ja_cons (je_glob m4) (ja_cons (je_glob m5) (ja_cons (je_glob m6) (ja_cons (je_glob m7) ja_nil))))))))) (js_cons (jx_ret (jx_callS V2 (Nat.le_refl _) (je_ixT (je_catT (nm 6 rfl) (je_tup (ja_cons (je_glob m8) (ja_cons (je_glob m9) (ja_cons (je_glob m10) (ja_cons (je_glob m11) ja_nil))))) (Nat.le_of_ble_eq_true rfl)) (nm 0 rfl) (d := .ref a2) rfl) (ja_cons (nm 2 rfl) (ja_cons (nm 3 rfl) ja_nil)) ⟨rfl, ⟨m, fun d hd => by simp only [List.mem_cons, List.not_mem_nil, or_false] at hd; rcases hd with rfl | rfl <;> assumption⟩, c, hc, rfl⟩) rfl)))) (fun z => by cases z))
  | 3, _ => exact js_cons (js_if (t := true) (JT.cast (jt_lt (nm 0 rfl) je_int) rfl) (fun _ => js_cons (js_set 6 (je_tup (ja_cons (je_glob m0) (ja_cons (je_glob m1) (ja_cons (je_glob m2) (ja_cons (je_glob m3) (ja_cons (je_glob m4) (ja_cons (je_glob m5) (ja_cons (je_glob m6) (ja_cons (je_glob m7) ja_nil))))))))) (js_cons (jx_ret (jx_callS V3 (Nat.le_refl _) (je_ixT (je_catT (nm 6 rfl) (je_tup (ja_cons (je_glob m8) (ja_cons (je_glob m9) (ja_cons (je_glob m10) (ja_cons (je_glob m11) ja_nil))))) (Nat.le_of_ble_eq_true rfl)) (nm 0 rfl) (d := .ref a3) rfl) (ja_cons (nm 2 rfl) (ja_cons (nm 3 rfl) ja_nil)) ⟨rfl, ⟨m, fun d hd => by simp only [List.mem_cons, List.not_mem_nil, or_false] at hd; rcases hd with rfl | rfl <;> assumption⟩, c, hc, rfl⟩) rfl)))) (fun z => by cases z))
  | 4, _ => exact js_cons (js_if (t := true) (JT.cast (jt_lt (nm 0 rfl) je_int) rfl) (fun _ => js_cons (js_set 6 (je_tup (ja_cons (je_glob m0) (ja_cons (je_glob m1) (ja_cons (je_glob m2) (ja_cons (je_glob m3) (ja_cons (je_glob m4) (ja_cons (je_glob m5) (ja_cons (je_glob m6) (ja_cons (je_glob m7) ja_nil))))))))) (js_cons (jx_ret (jx_callS V4 (Nat.le_refl _) (je_ixT (je_catT (nm 6 rfl) (je_tup (ja_cons (je_glob m8) (ja_cons (je_glob m9) (ja_cons (je_glob m10) (ja_cons (je_glob m11) ja_nil))))) (Nat.le_of_ble_eq_true rfl)) (nm 0 rfl) (d := .ref a4) rfl) (ja_cons (nm 2 rfl) (ja_cons (nm 3 rfl) ja_nil)) ⟨rfl, ⟨m, fun d hd => by simp only [List.mem_cons, List.not_mem_nil, or_false] at hd; rcases hd with rfl | rfl <;> assumption⟩, c, hc, rfl⟩) rfl)))) (fun z => by cases z))
  | 5, _ => exact js_cons (js_if (t := true) (JT.cast (jt_lt (nm 0 rfl) je_int) rfl) (fun _ => js_cons (js_set 6 (je_tup (ja_cons (je_glob m0) (ja_cons (je_glob m1) (ja_cons (je_glob m2) (ja_cons (je_glob m3) (ja_cons (je_glob m4) (ja_cons (je_glob m5) (ja_cons (je_glob m6) (ja_cons (je_glob m7) ja_nil))))))))) (js_cons (jx_ret (jx_callS V5 (Nat.le_refl _) (je_ixT (je_catT (nm 6 rfl) (je_tup (ja_cons (je_glob m8) (ja_cons (je_glob m9) (ja_cons (je_glob m10) (ja_cons (je_glob m11) ja_nil))))) (Nat.le_of_ble_eq_true rfl)) (nm 0 rfl) (d := .ref a5) rfl) (ja_cons (nm 2 rfl) (ja_cons (nm 3 rfl) ja_nil)) ⟨rfl, ⟨m, fun d hd => by simp only [List.mem_cons, List.not_mem_nil, or_false] at hd; rcases hd with rfl | rfl <;> assumption⟩, c, hc, rfl⟩) rfl)))) (fun z => by cases z))
  | 6, _ => exact js_cons (js_if (t := true) (JT.cast (jt_lt (nm 0 rfl) je_int) rfl) (fun _ => js_cons (js_set 6 (je_tup (ja_cons (je_glob m0) (ja_cons (je_glob m1) (ja_cons (je_glob m2) (ja_cons (je_glob m3) (ja_cons (je_glob m4) (ja_cons (je_glob m5) (ja_cons (je_glob m6) (ja_cons (je_glob m7) ja_nil))))))))) (js_cons (jx_ret (jx_callS V6 (Nat.le_refl _) (je_ixT (je_catT (nm 6 rfl) (je_tup (ja_cons (je_glob m8) (ja_cons (je_glob m9) (ja_cons (je_glob m10) (ja_cons (je_glob m11) ja_nil))))) (Nat.le_of_ble_eq_true rfl)) (nm 0 rfl) (d := .ref a6) rfl) (ja_cons (nm 2 rfl) (ja_cons (nm 3 rfl) ja_nil)) ⟨rfl, ⟨m, fun d hd => by simp only [List.mem_cons, List.not_mem_nil, or_false] at hd; rcases hd with rfl | rfl <;> assumption⟩, c, hc, rfl⟩) rfl)))) (fun z => by cases z))
  | 7, _ => exact js_cons (js_if (t := true) (JT.cast (jt_lt (nm 0 rfl) je_int) rfl) (fun _ => js_cons (js_set 6 (je_tup (ja_cons (je_glob m0) (ja_cons (je_glob m1) (ja_cons (je_glob m2) (ja_cons (je_glob m3) (ja_cons (je_glob m4) (ja_cons (je_glob m5) (ja_cons (je_glob m6) (ja_cons (je_glob m7) ja_nil))))))))) (js_cons (jx_ret (jx_callS V7 (Nat.le_refl _) (je_ixT (je_catT (nm 6 rfl) (je_tup (ja_cons (je_glob m8) (ja_cons (je_glob m9) (ja_cons (je_glob m10) (ja_cons (je_glob m11) ja_nil))))) (Nat.le_of_ble_eq_true rfl)) (nm 0 rfl) (d := .ref a7) rfl) (ja_cons (nm 2 rfl) (ja_cons (nm 3 rfl) ja_nil)) ⟨rfl, ⟨m, fun d hd => by simp only [List.mem_cons, List.not_mem_nil, or_false] at hd; rcases hd with rfl | rfl <;> assumption⟩, c, hc, rfl⟩) rfl)))) (fun z => by cases z))
  | 8, _ => exact js_cons (js_if (t := true) (JT.cast (jt_lt (nm 0 rfl) je_int) rfl) (fun _ => js_cons (js_set 6 (je_tup (ja_cons (je_glob m0) (ja_cons (je_glob m1) (ja_cons (je_glob m2) (ja_cons (je_glob m3) (ja_cons (je_glob m4) (ja_cons (je_glob m5) (ja_cons (je_glob m6) (ja_cons (je_glob m7) ja_nil))))))))) (js_cons (jx_ret (jx_callS V8 (Nat.le_refl _) (je_ixT (je_catT (nm 6 rfl) (je_tup (ja_cons (je_glob m8) (ja_cons (je_glob m9) (ja_cons (je_glob m10) (ja_cons (je_glob m11) ja_nil))))) (Nat.le_of_ble_eq_true rfl)) (nm 0 rfl) (d := .ref a8) rfl) (ja_cons (nm 2 rfl) (ja_cons (nm 3 rfl) ja_nil)) ⟨rfl, ⟨m, fun d hd => by simp only [List.mem_cons, List.not_mem_nil, or_false] at hd; rcases hd with rfl | rfl <;> assumption⟩, c, hc, rfl⟩) rfl)))) (fun z => by cases z))
  | 9, _ => exact js_cons (js_if (t := true) (JT.cast (jt_lt (nm 0 rfl) je_int) rfl) (fun _ => js_cons (js_set 6 (je_tup (ja_cons (je_glob m0) (ja_cons (je_glob m1) (ja_cons (je_glob m2) (ja_cons (je_glob m3) (ja_cons (je_glob m4) (ja_cons (je_glob m5) (ja_cons (je_glob m6) (ja_cons (je_glob m7) ja_nil))))))))) (js_cons (jx_ret (jx_callS V9 (Nat.le_refl _) (je_ixT (je_catT (nm 6 rfl) (je_tup (ja_cons (je_glob m8) (ja_cons (je_glob m9) (ja_cons (je_glob m10) (ja_cons (je_glob m11) ja_nil))))) (Nat.le_of_ble_eq_true rfl)) (nm 0 rfl) (d := .ref a9) rfl) (ja_cons (nm 2 rfl) (ja_cons (nm 3 rfl) ja_nil)) ⟨rfl, ⟨m, fun d hd => by simp only [List.mem_cons, List.not_mem_nil, or_false] at hd; rcases hd with rfl | rfl <;> assumption⟩, c, hc, rfl⟩) rfl)))) (fun z => by cases z))
  | 10, _ => exact js_cons (js_if (t := true) (JT.cast (jt_lt (nm 0 rfl) je_int) rfl) (fun _ => js_cons (js_set 6 (je_tup (ja_cons (je_glob m0) (ja_cons (je_glob m1) (ja_cons (je_glob m2) (ja_cons (je_glob m3) (ja_cons (je_glob m4) (ja_cons (je_glob m5) (ja_cons (je_glob m6) (ja_cons (je_glob m7) ja_nil))))))))) (js_cons (jx_ret (jx_callS V10 (Nat.le_refl _) (je_ixT (je_catT (nm 6 rfl) (je_tup (ja_cons (je_glob m8) (ja_cons (je_glob m9) (ja_cons (je_glob m10) (ja_cons (je_glob m11) ja_nil))))) (Nat.le_of_ble_eq_true rfl)) (nm 0 rfl) (d := .ref a10) rfl) (ja_cons (nm 2 rfl) (ja_cons (nm 3 rfl) ja_nil)) ⟨rfl, ⟨m, fun d hd => by simp only [List.mem_cons, List.not_mem_nil, or_false] at hd; rcases hd with rfl | rfl <;> assumption⟩, c, hc, rfl⟩) rfl)))) (fun z => by cases z))
  | 11, _ => exact js_cons (js_if (t := true) (JT.cast (jt_lt (nm 0 rfl) je_int) rfl) (fun _ => js_cons (js_set 6 (je_tup (ja_cons (je_glob m0) (ja_cons (je_glob m1) (ja_cons (je_glob m2) (ja_cons (je_glob m3) (ja_cons (je_glob m4) (ja_cons (je_glob m5) (ja_cons (je_glob m6) (ja_cons (je_glob m7) ja_nil))))))))) (js_cons (jx_ret (jx_callS V11 (Nat.le_refl _) (je_ixT (je_catT (nm 6 rfl) (je_tup (ja_cons (je_glob m8) (ja_cons (je_glob m9) (ja_cons (je_glob m10) (ja_cons (je_glob m11) ja_nil))))) (Nat.le_of_ble_eq_true rfl)) (nm 0 rfl) (d := .ref a11) rfl) (ja_cons (nm 2 rfl) (ja_cons (nm 3 rfl) ja_nil)) ⟨rfl, ⟨m, fun d hd => by simp only [List.mem_cons, List.not_mem_nil, or_false] at hd; rcases hd with rfl | rfl <;> assumption⟩, c, hc, rfl⟩) rfl)))) (fun z => by cases z))
  | 12, _ => exact js_cons (js_if (t := false) (JT.cast (jt_lt (nm 0 rfl) je_int) rfl) (fun z => by cases z) (fun _ => js_nil (js_cons (js_if (t := true) (JT.cast (jt_lt (nm 0 rfl) je_int) rfl) (fun _ => js_cons (jx_ret (jx_callS V12 (Nat.le_refl _) (je_ixT (je_tup (ja_cons (je_glob m12) (ja_cons (je_glob m13) (ja_cons (je_glob m14) (ja_cons (je_glob m15) ja_nil))))) (je_sub (nm 0 rfl) je_int) (d := .ref a12) rfl) (ja_cons (nm 2 rfl) (ja_cons (nm 3 rfl) (ja_cons (nm 4 rfl) ja_nil))) (.inl ⟨rfl, ⟨m, fun d hd => by simp only [List.mem_cons, List.not_mem_nil, or_false] at hd; rcases hd with rfl | rfl | rfl <;> assumption⟩, c, hc, rfl⟩)) rfl)) (fun z => by cases z)))))
  | 13, _ => exact js_cons (js_if (t := false) (JT.cast (jt_lt (nm 0 rfl) je_int) rfl) (fun z => by cases z) (fun _ => js_nil (js_cons (js_if (t := true) (JT.cast (jt_lt (nm 0 rfl) je_int) rfl) (fun _ => js_cons (jx_ret (jx_callS V13 (Nat.le_refl _) (je_ixT (je_tup (ja_cons (je_glob m12) (ja_cons (je_glob m13) (ja_cons (je_glob m14) (ja_cons (je_glob m15) ja_nil))))) (je_sub (nm 0 rfl) je_int) (d := .ref a13) rfl) (ja_cons (nm 2 rfl) (ja_cons (nm 3 rfl) (ja_cons (nm 4 rfl) ja_nil))) ⟨rfl, ⟨m, fun d hd => by simp only [List.mem_cons, List.not_mem_nil, or_false] at hd; rcases hd with rfl | rfl | rfl <;> assumption⟩, c, hc, rfl⟩) rfl)) (fun z => by cases z)))))
  | 14, _ => exact js_cons (js_if (t := false) (JT.cast (jt_lt (nm 0 rfl) je_int) rfl) (fun z => by cases z) (fun _ => js_nil (js_cons (js_if (t := true) (JT.cast (jt_lt (nm 0 rfl) je_int) rfl) (fun _ => js_cons (jx_ret (jx_callS V14 (Nat.le_refl _) (je_ixT (je_tup (ja_cons (je_glob m12) (ja_cons (je_glob m13) (ja_cons (je_glob m14) (ja_cons (je_glob m15) ja_nil))))) (je_sub (nm 0 rfl) je_int) (d := .ref a14) rfl) (ja_cons (nm 2 rfl) (ja_cons (nm 3 rfl) (ja_cons (nm 4 rfl) ja_nil))) ⟨rfl, ⟨m, fun d hd => by simp only [List.mem_cons, List.not_mem_nil, or_false] at hd; rcases hd with rfl | rfl | rfl <;> assumption⟩, c, hc, rfl⟩) rfl)) (fun z => by cases z)))))
  | 15, _ => exact js_cons (js_if (t := false) (JT.cast (jt_lt (nm 0 rfl) je_int) rfl) (fun z => by cases z) (fun _ => js_nil (js_cons (js_if (t := true) (JT.cast (jt_lt (nm 0 rfl) je_int) rfl) (fun _ => js_cons (jx_ret (jx_callS V15 (Nat.le_refl _) (je_ixT (je_tup (ja_cons (je_glob m12) (ja_cons (je_glob m13) (ja_cons (je_glob m14) (ja_cons (je_glob m15) ja_nil))))) (je_sub (nm 0 rfl) je_int) (d := .ref a15) rfl) (ja_cons (nm 2 rfl) (ja_cons (nm 3 rfl) (ja_cons (nm 4 rfl) ja_nil))) ⟨rfl, ⟨m, fun d hd => by simp only [List.mem_cons, List.not_mem_nil, or_false] at hd; rcases hd with rfl | rfl | rfl <;> assumption⟩, c, hc, rfl⟩) rfl)) (fun z => by cases z)))))
  | 16, _ => exact js_cons (js_if (t := false) (JT.cast (jt_lt (nm 0 rfl) je_int) rfl) (fun z => by cases z) (fun _ => js_nil (js_cons (js_if (t := false) (JT.cast (jt_lt (nm 0 rfl) je_int) rfl) (fun z => by cases z) (fun _ => js_nil (js_cons (js_if (t := true) (JT.cast (jt_lt (nm 0 rfl) je_int) rfl) (fun _ => js_cons (jx_ret (jx_callS V16 (Nat.le_refl _) (je_ixT (je_tup (ja_cons (je_glob m16) (ja_cons (je_glob m17) (ja_cons (je_glob m18) ja_nil)))) (je_sub (nm 0 rfl) je_int) (d := .ref a16) rfl) (ja_cons (nm 2 rfl) (ja_cons (nm 3 rfl) (ja_cons (nm 4 rfl) (ja_cons (nm 5 rfl) ja_nil)))) (.inl ⟨rfl, ⟨m, fun d hd => by simp only [List.mem_cons, List.not_mem_nil, or_false] at hd; rcases hd with rfl | rfl | rfl | rfl <;> assumption⟩, c, hc, rfl⟩)) rfl)) (fun z => by cases z))))))))
  | 17, _ => exact js_cons (js_if (t := false) (JT.cast (jt_lt (nm 0 rfl) je_int) rfl) (fun z => by cases z) (fun _ => js_nil (js_cons (js_if (t := false) (JT.cast (jt_lt (nm 0 rfl) je_int) rfl) (fun z => by cases z) (fun _ => js_nil (js_cons (js_if (t := true) (JT.cast (jt_lt (nm 0 rfl) je_int) rfl) (fun _ => js_cons (jx_ret (jx_callS V17 (Nat.le_refl _) (je_ixT (je_tup (ja_cons (je_glob m16) (ja_cons (je_glob m17) (ja_cons (je_glob m18) ja_nil)))) (je_sub (nm 0 rfl) je_int) (d := .ref a17) rfl) (ja_cons (nm 2 rfl) (ja_cons (nm 3 rfl) (ja_cons (nm 4 rfl) (ja_cons (nm 5 rfl) ja_nil)))) ⟨rfl, ⟨m, fun d hd => by simp only [List.mem_cons, List.not_mem_nil, or_false] at hd; rcases hd with rfl | rfl | rfl | rfl <;> assumption⟩, c, hc, rfl⟩) rfl)) (fun z => by cases z))))))))
  | 18, _ => exact js_cons (js_if (t := false) (JT.cast (jt_lt (nm 0 rfl) je_int) rfl) (fun z => by cases z) (fun _ => js_nil (js_cons (js_if (t := false) (JT.cast (jt_lt (nm 0 rfl) je_int) rfl) (fun z => by cases z) (fun _ => js_nil (js_cons (js_if (t := true) (JT.cast (jt_lt (nm 0 rfl) je_int) rfl) (fun _ => js_cons (jx_ret (jx_callS V18 (Nat.le_refl _) (je_ixT (je_tup (ja_cons (je_glob m16) (ja_cons (je_glob m17) (ja_cons (je_glob m18) ja_nil)))) (je_sub (nm 0 rfl) je_int) (d := .ref a18) rfl) (ja_cons (nm 2 rfl) (ja_cons (nm 3 rfl) (ja_cons (nm 4 rfl) (ja_cons (nm 5 rfl) ja_nil)))) ⟨rfl, ⟨m, fun d hd => by simp only [List.mem_cons, List.not_mem_nil, or_false] at hd; rcases hd with rfl | rfl | rfl | rfl <;> assumption⟩, c, hc, rfl⟩) rfl)) (fun z => by cases z))))))))
  | 19, _ => exact js_cons (js_if (t := false) (JT.cast (jt_lt (nm 0 rfl) je_int) rfl) (fun z => by cases z) (fun _ => js_nil (js_cons (js_if (t := false) (JT.cast (jt_lt (nm 0 rfl) je_int) rfl) (fun z => by cases z) (fun _ => js_nil (js_cons (js_if (t := false) (JT.cast (jt_lt (nm 0 rfl) je_int) rfl) (fun z => by cases z) (fun _ => js_nil (js_cons (js_if (t := true) (JT.cast (jt_lt (nm 0 rfl) je_int) rfl) (fun _ => js_cons (jx_ret (jx_if (t := true) (JT.cast (jt_eqI (nm 0 rfl) je_int) rfl) (fun _ => jx_call F19 (Nat.le_refl _) (ja_cons (nm 2 rfl) ja_nil) ⟨rfl, ⟨m, fun d hd => by simp only [List.mem_cons, List.not_mem_nil, or_false] at hd; rcases hd with rfl <;> assumption⟩, c, hc, rfl⟩) (fun z => by cases z)) rfl)) (fun z => by cases z)))))))))))
  | 20, _ => exact js_cons (js_if (t := false) (JT.cast (jt_lt (nm 0 rfl) je_int) rfl) (fun z => by cases z) (fun _ => js_nil (js_cons (js_if (t := false) (JT.cast (jt_lt (nm 0 rfl) je_int) rfl) (fun z => by cases z) (fun _ => js_nil (js_cons (js_if (t := false) (JT.cast (jt_lt (nm 0 rfl) je_int) rfl) (fun z => by cases z) (fun _ => js_nil (js_cons (js_if (t := true) (JT.cast (jt_lt (nm 0 rfl) je_int) rfl) (fun _ => js_cons (jx_ret (jx_if (t := false) (JT.cast (jt_eqI (nm 0 rfl) je_int) rfl) (fun z => by cases z) (fun _ => jx_call F20 (Nat.le_refl _) (ja_cons (nm 2 rfl) ja_nil) ⟨rfl, ⟨m, fun d hd => by simp only [List.mem_cons, List.not_mem_nil, or_false] at hd; rcases hd with rfl <;> assumption⟩, c, hc, rfl⟩)) rfl)) (fun z => by cases z)))))))))))
  | 21, _ => exact js_cons (js_if (t := false) (JT.cast (jt_lt (nm 0 rfl) je_int) rfl) (fun z => by cases z) (fun _ => js_nil (js_cons (js_if (t := false) (JT.cast (jt_lt (nm 0 rfl) je_int) rfl) (fun z => by cases z) (fun _ => js_nil (js_cons (js_if (t := false) (JT.cast (jt_lt (nm 0 rfl) je_int) rfl) (fun z => by cases z) (fun _ => js_nil (js_cons (js_if (t := false) (JT.cast (jt_lt (nm 0 rfl) je_int) rfl) (fun z => by cases z) (fun _ => js_nil (js_cons (js_if (t := true) (JT.cast (jt_lt (nm 0 rfl) je_int) rfl) (fun _ => js_cons (jx_ret (jx_callS V21 (Nat.le_refl _) (je_ixT (je_tup (ja_cons (je_glob m21) (ja_cons (je_glob m22) (ja_cons (je_glob m23) ja_nil)))) (je_sub (nm 0 rfl) je_int) (d := .ref a21) rfl) (ja_cons (nm 2 rfl) (ja_cons (nm 3 rfl) ja_nil)) ⟨rfl, ⟨m, fun d hd => by simp only [List.mem_cons, List.not_mem_nil, or_false] at hd; rcases hd with rfl | rfl <;> assumption⟩, c, hc, rfl⟩) rfl)) (fun z => by cases z))))))))))))))
  | 22, _ => exact js_cons (js_if (t := false) (JT.cast (jt_lt (nm 0 rfl) je_int) rfl) (fun z => by cases z) (fun _ => js_nil (js_cons (js_if (t := false) (JT.cast (jt_lt (nm 0 rfl) je_int) rfl) (fun z => by cases z) (fun _ => js_nil (js_cons (js_if (t := false) (JT.cast (jt_lt (nm 0 rfl) je_int) rfl) (fun z => by cases z) (fun _ => js_nil (js_cons (js_if (t := false) (JT.cast (jt_lt (nm 0 rfl) je_int) rfl) (fun z => by cases z) (fun _ => js_nil (js_cons (js_if (t := true) (JT.cast (jt_lt (nm 0 rfl) je_int) rfl) (fun _ => js_cons (jx_ret (jx_callS V22 (Nat.le_refl _) (je_ixT (je_tup (ja_cons (je_glob m21) (ja_cons (je_glob m22) (ja_cons (je_glob m23) ja_nil)))) (je_sub (nm 0 rfl) je_int) (d := .ref a22) rfl) (ja_cons (nm 2 rfl) (ja_cons (nm 3 rfl) ja_nil)) ⟨rfl, ⟨m, fun d hd => by simp only [List.mem_cons, List.not_mem_nil, or_false] at hd; rcases hd with rfl | rfl <;> assumption⟩, c, hc, rfl⟩) rfl)) (fun z => by cases z))))))))))))))
  | 23, _ => exact js_cons (js_if (t := false) (JT.cast (jt_lt (nm 0 rfl) je_int) rfl) (fun z => by cases z) (fun _ => js_nil (js_cons (js_if (t := false) (JT.cast (jt_lt (nm 0 rfl) je_int) rfl) (fun z => by cases z) (fun _ => js_nil (js_cons (js_if (t := false) (JT.cast (jt_lt (nm 0 rfl) je_int) rfl) (fun z => by cases z) (fun _ => js_nil (js_cons (js_if (t := false) (JT.cast (jt_lt (nm 0 rfl) je_int) rfl) (fun z => by cases z) (fun _ => js_nil (js_cons (js_if (t := true) (JT.cast (jt_lt (nm 0 rfl) je_int) rfl) (fun _ => js_cons (jx_ret (jx_callS V23 (Nat.le_refl _) (je_ixT (je_tup (ja_cons (je_glob m21) (ja_cons (je_glob m22) (ja_cons (je_glob m23) ja_nil)))) (je_sub (nm 0 rfl) je_int) (d := .ref a23) rfl) (ja_cons (nm 2 rfl) (ja_cons (nm 3 rfl) ja_nil)) (.inl ⟨rfl, ⟨m, fun d hd => by simp only [List.mem_cons, List.not_mem_nil, or_false] at hd; rcases hd with rfl | rfl <;> assumption⟩, c, hc, rfl⟩)) rfl)) (fun z => by cases z))))))))))))))
  | 24, _ => exact js_cons (js_if (t := false) (JT.cast (jt_lt (nm 0 rfl) je_int) rfl) (fun z => by cases z) (fun _ => js_nil (js_cons (js_if (t := false) (JT.cast (jt_lt (nm 0 rfl) je_int) rfl) (fun z => by cases z) (fun _ => js_nil (js_cons (js_if (t := false) (JT.cast (jt_lt (nm 0 rfl) je_int) rfl) (fun z => by cases z) (fun _ => js_nil (js_cons (js_if (t := false) (JT.cast (jt_lt (nm 0 rfl) je_int) rfl) (fun z => by cases z) (fun _ => js_nil (js_cons (js_if (t := false) (JT.cast (jt_lt (nm 0 rfl) je_int) rfl) (fun z => by cases z) (fun _ => js_nil (js_cons (jx_ret (jx_call F24 (Nat.le_refl _) (ja_cons (nm 2 rfl) (ja_cons (nm 3 rfl) (ja_cons (nm 4 rfl) (ja_cons (nm 5 rfl) (ja_cons (je_tup (ja_cons je_int (ja_cons je_int ja_nil))) (ja_cons (je_tup ja_nil) ja_nil)))))) ⟨rfl, ⟨m + 2, fun d hd => by simp only [List.mem_cons, List.not_mem_nil, or_false] at hd; rcases hd with rfl | rfl | rfl | rfl | rfl | rfl <;> first | (exact dk_up2 (by assumption)) | rfl⟩, c, hc, rfl⟩) rfl))))))))))))))))
  | n + 25, h => omega

/-! _law_no_gates of k01 -/
abbrev gate0 : D := .tup [.int 0, .int 0, .int 1]
def noG1 : List D := [.non, .int 5, .tup [], gate0, .lst [gate0], .tup [gate0, gate0], .tup [gate0, .tup [.int 0, .int 2, .int 3]], .tup [.tup [.int 1, .int 0, .int 0], gate0], .tup [.lst [.int 0, .int 0, .int 1]]]
def noG2 : List D := [.tup [.int 21, .int 0, .int 0], .tup [.int (-21), .int 0, .int 0], .tup [.int 0, .int (-51), .int 0], .tup [.int 0, .int 0, .int 51], .tup [.int 0, .int 1, .int 0], .tup [.int 0, .int 0], .tup [.bl true, .int 0, .int 0], .str "000", .non]
def noG3 : List D := [.tup ((List.range 9).map fun (k : Nat) => D.tup [.int (k : Int), .int 0, .int 0]), .tup [.tup [.int 0, .bl false, .int 1]], .tup [.tup [.int 0, .int 0, .str "1"]]]
def noG : List D := (noG1 ++ noG2.map fun d => D.tup [d]) ++ noG3
theorem noG_ok : (noG.all fun d => !mGates d && dk 3 d) = true := by decide +kernel
def R_noG : List D → Out → Prop := fun ds o => ds = [] ∧ o = .ret (.lst noG)
theorem sc__law_no_gates : FnScope ["gate", "found", "bad", "k"] [] (defScope (topS 108)) := ⟨rfl, rfl, rfl, by decide +kernel, rfl, by decide +kernel, by decide +kernel⟩
theorem ok__law_no_gates {g : Glob} {k : Nat} (h : DefAt g "_law_no_gates" (topS 108)) (B : Bi g) : Def g "_law_no_gates" 0 (k + 1) R_noG := by
  refine def_at h sc__law_no_gates (fun _ _ _ _ _ _ us hl => match us, hl with | [], _ => rfl) fun T ds o hR hl => ?_
  obtain ⟨rfl, rfl⟩ := hR
  refine js_cons (js_set 0 (d := gate0) (je_tup (ja_cons je_int (ja_cons je_int (ja_cons je_int ja_nil)))) ?_)
  refine js_cons (js_own 1 (ds := noG1) (ja_cons je_non (ja_cons je_int (ja_cons (je_tup ja_nil) (ja_cons (nm 0 rfl) (ja_cons (je_lst (ja_cons (nm 0 rfl) ja_nil)) (ja_cons (je_tup (ja_cons (nm 0 rfl) (ja_cons (nm 0 rfl) ja_nil))) (ja_cons (je_tup (ja_cons (nm 0 rfl) (ja_cons (je_tup (ja_cons je_int (ja_cons je_int (ja_cons je_int ja_nil)))) ja_nil))) (ja_cons (je_tup (ja_cons (je_tup (ja_cons je_int (ja_cons je_int (ja_cons je_int ja_nil)))) (ja_cons (nm 0 rfl) ja_nil))) (ja_cons (je_tup (ja_cons (je_listT B (ja_cons (nm 0 rfl) ja_nil)) ja_nil)) ja_nil))))))))) fun q hq => ?_)
  refine js_cons (js_for (ds := noG2) (ji_tup (je_tup (ja_cons (je_tup (ja_cons je_int (ja_cons je_int (ja_cons je_int ja_nil)))) (ja_cons (je_tup (ja_cons (je_neg je_int) (ja_cons je_int (ja_cons je_int ja_nil)))) (ja_cons (je_tup (ja_cons je_int (ja_cons (je_neg je_int) (ja_cons je_int ja_nil)))) (ja_cons (je_tup (ja_cons je_int (ja_cons je_int (ja_cons je_int ja_nil)))) (ja_cons (je_tup (ja_cons je_int (ja_cons je_int (ja_cons je_int ja_nil)))) (ja_cons (je_tup (ja_cons je_int (ja_cons je_int ja_nil))) (ja_cons (je_tup (ja_cons je_bl (ja_cons je_int (ja_cons je_int ja_nil)))) (ja_cons je_str (ja_cons je_non ja_nil))))))))))) (fun i Z => ∃ e2, Z = ⟨q :: T, [some (.dat gate0), some (.own q (noG1 ++ (noG2.take i).map fun d => D.tup [d])), e2, none]⟩) ⟨_, rfl⟩ (fun i d Z hd hI => ?_) (fun Z hI => ?_))
  · obtain ⟨e2, rfl⟩ := hI
    refine ⟨_, jg_name 2, js_cons (js_app 1 (je_tup (ja_cons (nm 2 rfl) ja_nil)) rfl (js_nil ⟨some (.dat d), ?_⟩) ⟨_, rfl⟩ ?_)⟩
    · show State.mk _ _ = State.mk _ _
      rw [List.take_add_one, hd, List.map_append, ← List.append_assoc]
      rfl
    · rw [List.length_append, List.length_map, List.length_take]
      show 9 + min i 9 < 100000
      omega
  · obtain ⟨e2, rfl⟩ := hI
    refine js_melt 1 rfl hq ?_
    exact js_cons (js_ret (d := .lst noG) (je_catL (nm 1 rfl) (je_lst (ja_cons (je_tupleL B (ja_cons (JE.cast (JLc.je (lc0 (xs := List.range 9) (enc := fun (i : Nat) => D.int (0 + (i : Int))) (own := [("k", 3)]) (tv := [3]) (fun k => .tup [.int (0 + (k : Int)), .int 0, .int 0]) (ji_r1 B (ja_cons je_int ja_nil) (by decide)) (by decide) (fun T x hx => ⟨_, jgw_name 3, rfl, je_tup (ja_cons (nm 3 rfl) (ja_cons je_int (ja_cons je_int ja_nil)))⟩))) rfl) ja_nil)) (ja_cons (je_tup (ja_cons (je_tup (ja_cons je_int (ja_cons je_bl (ja_cons je_int ja_nil)))) ja_nil)) (ja_cons (je_tup (ja_cons (je_tup (ja_cons je_int (ja_cons je_int (ja_cons je_str ja_nil)))) ja_nil)) ja_nil)))) (by decide)) rfl)

/-! law of k01 -/
abbrev n_law : List Str := ["script", "town", "gates", "calls", "bad", "some", "wrong", "wide", "k", "one"]
theorem sc_law : FnScope n_law ["script"] (defScope (topS 109)) := ⟨rfl, rfl, rfl, by decide +kernel, rfl, by decide +kernel, by decide +kernel⟩
abbrev Cl := Nat × List D × Str
def encC (c : Cl) : D := .tup [.int (c.1 : Int), .tup c.2.1, .str c.2.2]
abbrev fr01 : D := .tup [.int 0, .int 1]
def ks1 : List Nat := List.range 23 ++ [24]
def ks2 : List Nat := List.range 11 ++ (List.range 7).map (fun i => 12 + i) ++ [24]
def bad2 : List D := [.non, .int (-1), .int 4, .bl true, .str "1", .tup [.int 1]]
def bad3 : List D := [.non, .int (-1), .int 4, .bl true, .str "1"]
def f1 (bad : D) : List Cl := ks1.map fun k => (k, [bad, .int 1, fr01, fr01], "gates")
def f2 (gs : List Gt) (bad : D) : List Cl := (ks2.map fun k => (k, [encGs gs, bad, fr01, fr01], ("degree" : Str))) ++ [(23, [bad, .tup [fr01], .int 0, .int 0], ("degree" : Str))]
def f3 (gs : List Gt) (bad : D) : Cl := (15, [encGs gs, .int 2, bad, .int 0], "most")
def l4 (gs : List Gt) : List Cl := [(15, [encGs gs, .int 3, .int 2, .int 0], "many"), (15, [encGs gs, .int 3, .int 4, .int 0], "most")]
def allC (gs : List Gt) : List Cl := ((noG.flatMap f1 ++ bad2.flatMap (f2 gs)) ++ bad3.map (f3 gs)) ++ l4 gs
structure GoodC (c : Cl) : Prop where
  ex : ∃ d1 d2 d3 d4 x, c.2.1 = [d1, d2, d3, d4] ∧ c.1 < 25 ∧ (∀ d ∈ [d1, d2, d3, d4], dk 3 d = true) ∧ errK (kinds.getD c.1 0) d1 d2 d3 = some x ∧ namesL[x]? = some c.2.2 ∧ x < 14
theorem ks1_ok : ∀ k ∈ ks1, k < 25 ∧ kinds.getD k 0 < 3 := by decide +kernel
theorem ks2_ok : ∀ k ∈ ks2, k < 25 ∧ (kinds.getD k 0 = 0 ∨ kinds.getD k 0 = 2) := by decide +kernel
theorem bad2_ok : (bad2.all fun d => !mBetween d 0 3 && dk 3 d) = true := by decide +kernel
theorem bad3_ok : (bad3.all fun d => !mBetween d 0 3 && dk 3 d) = true := by decide +kernel
theorem errK_gates {kind : Nat} {d1 d2 d3 : D} (h : kind < 3) (g : mGates d1 = false) : errK kind d1 d2 d3 = some 0 := by
  match kind, h with
  | 0, _ => show (if mGates d1 = true then _ else _) = _; rw [g]; rfl
  | 1, _ => show (if mGates d1 = true then _ else _) = _; rw [g]; rfl
  | 2, _ => show (if mGates d1 = true then _ else _) = _; rw [g]; rfl
theorem errK_degree {kind : Nat} {d1 d2 d3 : D} (h : kind = 0 ∨ kind = 2) (g : mGates d1 = true) (b : mBetween d2 0 3 = false) : errK kind d1 d2 d3 = some 2 := by
  rcases h with rfl | rfl
  · show (if mGates d1 = true then (if mBetween d2 0 3 = true then _ else _) else _) = _; rw [g, b]; rfl
  · show (if mGates d1 = true then (if mBetween d2 0 3 = true then _ else _) else _) = _; rw [g, b]; rfl
theorem dk_gates3 (gs : List Gt) : dk 3 (encGs gs) = true := dk_up (dk_gates gs)
theorem all_good {gs : List Gt} (h : GatesOk gs) : ∀ c ∈ allC gs, GoodC c := by
  have eg := mGates_enc h
  have dg := dk_gates3 gs
  have n0 := List.all_eq_true.mp noG_ok
  have n2 := List.all_eq_true.mp bad2_ok
  have n3 := List.all_eq_true.mp bad3_ok
  intro c hc
  unfold allC at hc
  rcases List.mem_append.mp hc with hc | hc
  · rcases List.mem_append.mp hc with hc | hc
    · rcases List.mem_append.mp hc with hc | hc
      · obtain ⟨bad, hb, hc⟩ := List.mem_flatMap.mp hc
        obtain ⟨k, hk, rfl⟩ := List.mem_map.mp hc
        have hb := n0 bad hb
        simp only [Bool.and_eq_true, Bool.not_eq_true'] at hb
        exact ⟨_, _, _, _, 0, rfl, (ks1_ok k hk).1, (by intro d hd; simp only [List.mem_cons, List.not_mem_nil, or_false] at hd; rcases hd with rfl | rfl | rfl | rfl <;> first | exact hb.2 | rfl), errK_gates (ks1_ok k hk).2 hb.1, rfl, by decide⟩
      · obtain ⟨bad, hb, hc⟩ := List.mem_flatMap.mp hc
        have hb := n2 bad hb
        simp only [Bool.and_eq_true, Bool.not_eq_true'] at hb
        rcases List.mem_append.mp hc with hc | hc
        · obtain ⟨k, hk, rfl⟩ := List.mem_map.mp hc
          exact ⟨_, _, _, _, 2, rfl, (ks2_ok k hk).1, (by intro d hd; simp only [List.mem_cons, List.not_mem_nil, or_false] at hd; rcases hd with rfl | rfl | rfl | rfl <;> first | exact dg | exact hb.2 | rfl), errK_degree (ks2_ok k hk).2 eg hb.1, rfl, by decide⟩
        · rw [List.mem_singleton.mp hc]
          refine ⟨_, _, _, _, 2, rfl, (show 23 < 25 by decide), (by intro d hd; simp only [List.mem_cons, List.not_mem_nil, or_false] at hd; rcases hd with rfl | rfl | rfl | rfl <;> first | exact hb.2 | rfl), ?_, rfl, by decide⟩
          show (if mBetween bad 0 3 = true then _ else _) = _
          rw [hb.1]
          rfl
    · obtain ⟨bad, hb, rfl⟩ := List.mem_map.mp hc
      have hb := n3 bad hb
      simp only [Bool.and_eq_true, Bool.not_eq_true'] at hb
      refine ⟨_, _, _, _, 7, rfl, (show 15 < 25 by decide), (by intro d hd; simp only [List.mem_cons, List.not_mem_nil, or_false] at hd; rcases hd with rfl | rfl | rfl | rfl <;> first | exact dg | exact hb.2 | rfl), ?_, rfl, by decide⟩
      show (if mGates (encGs gs) = true then (if mBetween (.int 2) 0 3 = true then (if mBetween bad 0 3 = true then _ else _) else _) else _) = _
      rw [eg, hb.1]
      rfl
  · unfold l4 at hc
    simp only [List.mem_cons, List.not_mem_nil, or_false] at hc
    rcases hc with rfl | rfl
    · refine ⟨_, _, _, _, 12, rfl, (show 15 < 25 by decide), (by intro d hd; simp only [List.mem_cons, List.not_mem_nil, or_false] at hd; rcases hd with rfl | rfl | rfl | rfl <;> first | exact dg | rfl), ?_, rfl, by decide⟩
      show (if mGates (encGs gs) = true then _ else _) = _
      rw [eg]
      rfl
    · refine ⟨_, _, _, _, 7, rfl, (show 15 < 25 by decide), (by intro d hd; simp only [List.mem_cons, List.not_mem_nil, or_false] at hd; rcases hd with rfl | rfl | rfl | rfl <;> first | exact dg | rfl), ?_, rfl, by decide⟩
      show (if mGates (encGs gs) = true then _ else _) = _
      rw [eg]
      rfl
def roadL : List D := [.non, .tup [], .tup [.tup [.int 1, .int 1]], .lst [.tup [.int 1, .int 1], .tup [.int 1, .int 1]], .tup [.tup [.int 1, .int 1], .tup [.int 2, .int 2]], .tup [.tup [.int 1, .int 1], .int 1], .tup [.tup [.int 1, .int 1], .tup [.int 1, .int 1], .tup [.int 1, .int 1]], .tup [.tup [.int 1, .int 1], .tup [.int 1, .int 0]]]
theorem roadL_ok : (roadL.all fun d => !(mRoad d && decide ((lenT d : Int) = 1 + 1)) && (dk 3 d && decide (lenT d ≤ 1000))) = true := by decide +kernel
def wideG : List Gt := (List.range 8).map fun (k : Nat) => (5 * (0 + (k : Int)) - 20, -50, 50)
theorem wide_ok : mGates (encGs wideG) = true := by decide +kernel
theorem flat_take {α β : Type} (f : α → List β) (l : List α) (i : Nat) {d : α} (h : l[i]? = some d) : (l.take (i + 1)).flatMap f = (l.take i).flatMap f ++ f d := by
  rw [List.take_add_one, h, List.flatMap_append]
  simp
theorem f1_len (l : List D) : (l.flatMap f1).length = l.length * 24 := by
  induction l with
  | nil => rfl
  | cons d l ih => rw [List.flatMap_cons, List.length_append, ih, List.length_cons, Nat.succ_mul, Nat.add_comm]; rfl
theorem f2_len (gs : List Gt) (l : List D) : (l.flatMap (f2 gs)).length = l.length * 20 := by
  induction l with
  | nil => rfl
  | cons d l ih => rw [List.flatMap_cons, List.length_append, ih, List.length_cons, Nat.succ_mul, Nat.add_comm]; rfl
theorem f2_step (gs : List Gt) (d : D) (L A : List Cl) : List.map encC (L ++ (A ++ f2 gs d)) = (List.map encC (L ++ A) ++ (ks2.map fun k => encC (k, [encGs gs, d, fr01, fr01], "degree"))) ++ [encC (23, [d, .tup [fr01], .int 0, .int 0], "degree")] := by
  unfold f2
  rw [← List.append_assoc, ← List.append_assoc, List.map_append, List.map_append, List.map_map]
  rfl
theorem raised_ok (c : Nat) : okD 1 (.tup [.str "raised", .int (c : Int)]) = true := by
  show (PyData.strOk "raised" && (true && true)) = true
  rw [show PyData.strOk ("raised" : Str) = true by decide +kernel]
  rfl
theorem ok_law {g : Glob} {k : Nat} {C : Nat → Addr} {f : Addr} {fd : FuncData} (h : LawD g (topS 109) f fd) (B : Bi g) (FTn : DefS g "_law_town" k (spTown g.K)) (FG : DefS g "_law_gates" k (spGates g.K)) (FN : Def g "_law_no_gates" 0 k R_noG) (FI : Def g "is_gates" 1 k R_isGates)
    (FO : Def g "_law_outcome" 2 k (R_out C (R_call01 C))) (FR : Def g "_law_raises" 1 k R_raises) (FB : Def g "is_bar" 3 k (R_isBar0 C)) (FTi : Def g "is_ties" 4 k (R_isTies0 C)) (FRd : Def g "is_road" 2 k (R_isRoad C)) : LawOk g (k + 1) f fd := by
  refine law_at h sc_law (by decide) fun a ns hl => ?_
  refine js_cons (js_town 1 0 FTn (Nat.le_refl _) rfl hl fun q hq => ?_)
  have t0 := town0 ns
  obtain ⟨gs, tA, hgs, hg, hgl, t1⟩ := gates_ex (most := 8) t0 (by decide)
  have hmo := hg.most
  refine js_cons (js_asgE (je_tup (ja_cons (je_gates FG (Nat.le_refl _) 0 1 (ja_cons (nmR 0 rfl) (ja_cons (nmR 1 rfl) (ja_cons je_int ja_nil))) rfl rfl t0 hgs) (ja_cons (je_lst ja_nil) ja_nil))) (jg_tup (jgs_cons (jg_name 2) (jgs_cons (jg_name 3) jgs_nil))) ?_ (fun env he => by obtain ⟨_, _, _, _, _, _, _, _, _⟩ := env; cases he; kernel_rfl))
  show JSs _ _ ⟨[q], [some (scr a g.K ns), some (twn q tA), some (.dat (encGs gs)), some (.dat (.lst [])), none, none, none, none, none, none]⟩ _
  have hnl : noG.length = 21 := rfl
  refine js_cons (js_for (ji_list (je_call0 FN (Nat.le_refl _) ⟨rfl, rfl⟩)) (fun i Z => ∃ e4, Z = ⟨[q], [some (scr a g.K ns), some (twn q tA), some (.dat (encGs gs)), some (.dat (.lst (((noG.take i).flatMap f1).map encC))), e4, none, none, none, none, none]⟩)
    ⟨_, rfl⟩ (fun i d Z hd hI => ?_) (fun Z hI => ?_))
  · obtain ⟨e4, rfl⟩ := hI
    have hno := List.all_eq_true.mp noG_ok d (List.mem_of_getElem? hd)
    simp only [Bool.and_eq_true, Bool.not_eq_true'] at hno
    have hi21 : i < noG.length := (List.getElem?_eq_some_iff.mp hd).1
    refine ⟨_, jg_name 4, ?_⟩
    refine js_cons (js_set 3 (d := .lst (((noG.take (i + 1)).flatMap f1).map encC)) (JE.cast (je_catL (nm 3 rfl) (JE.cast (JLc.je (lc0 (xs := ks1) (enc := fun (k : Nat) => D.int (k : Int)) (own := [("k", 8)]) (tv := [8]) (fun k => encC (k, [d, .int 1, fr01, fr01], "gates")) (JI.cast (ji_list (je_catL (je_listR1 B je_int) (je_lst (ja_cons je_int ja_nil)) (by decide))) rfl) (by decide) (fun T x hx => ⟨_, jgw_name 8, rfl, je_tup (ja_cons (nm 8 rfl) (ja_cons (je_tup (ja_cons (nm 4 rfl) (ja_cons je_int (ja_cons (je_tup (ja_cons je_int (ja_cons je_int ja_nil))) (ja_cons (je_tup (ja_cons je_int (ja_cons je_int ja_nil))) ja_nil))))) (ja_cons je_str ja_nil)))⟩))) (show D.lst _ = D.lst ((f1 d).map encC) by unfold f1; rw [List.map_map]; rfl)) ?_) ?_) ?_)
    · rw [List.length_map, f1_len, List.length_take, List.length_map]
      show min i 21 * 24 + 24 ≤ 100000
      omega
    · rw [flat_take f1 noG i hd, List.map_append]
    · exact js_cons (js_if (t := false) (jt_val (JE.cast (je_call FI (Nat.le_refl _) (ja_cons (nm 4 rfl) ja_nil) ⟨3, d, hno.2, rfl, rfl⟩) (by rw [hno.1]))) (fun z => by cases z) (fun _ => js_nil (js_nil ⟨_, rfl⟩)))
  · obtain ⟨e4, rfl⟩ := hI
    rw [List.take_length]
    have l1 : (noG.flatMap f1).length = 504 := by rw [f1_len]; rfl
    generalize hL1 : noG.flatMap f1 = L1 at *
    refine js_cons (js_for (ds := bad2) (ji_tup (je_tup (ja_cons je_non (ja_cons (je_neg je_int) (ja_cons je_int (ja_cons je_bl (ja_cons je_str (ja_cons (je_tup (ja_cons je_int ja_nil)) ja_nil)))))))) (fun i Z => ∃ e4 e5, (i = 0 ∧ Z = ⟨[q], [some (scr a g.K ns), some (twn q tA), some (.dat (encGs gs)), some (.dat (.lst ((L1 ++ (bad2.take i).flatMap (f2 gs)).map encC))), e4, e5, none, none, none, none]⟩) ∨ ∃ c, c ∉ [q] ∧ Z = ⟨c :: [q], [some (scr a g.K ns), some (twn q tA), some (.dat (encGs gs)), some (.own c ((L1 ++ (bad2.take i).flatMap (f2 gs)).map encC)), e4, e5, none, none, none, none]⟩)
      ⟨e4, none, .inl ⟨rfl, by rw [List.take_zero, List.flatMap_nil, List.append_nil]⟩⟩ (fun i d Z hd hI => ?_) (fun Z hI => ?_))
    · obtain ⟨e4, e5, hZ⟩ := hI
      have hi6 : i < bad2.length := (List.getElem?_eq_some_iff.mp hd).1
      have hlen : ((L1 ++ (bad2.take i).flatMap (f2 gs)).map encC).length ≤ 624 := by
        rw [List.length_map, List.length_append, l1, f2_len, List.length_take]
        show 504 + min i 6 * 20 ≤ 624
        omega
      have h19 : (ks2.map fun k => encC (k, [encGs gs, d, fr01, fr01], "degree")).length = 19 := rfl
      rcases hZ with ⟨_, rfl⟩ | ⟨c, nc, rfl⟩
      · refine ⟨_, jg_name 4, ?_⟩
        refine js_cons (js_set 5 (d := .lst (ks2.map fun (k : Nat) => D.int (k : Int))) (JE.cast (je_catL (je_catL (je_listR1 B je_int) (je_listR2 B je_int je_int) (by decide)) (je_lst (ja_cons je_int ja_nil)) (by decide)) rfl) ?_)
        refine js_cons (js_ownCat 3 (es2 := (ks2.map fun k => encC (k, [encGs gs, d, fr01, fr01], "degree"))) (nm 3 rfl) (JLc.je (lc0 (xs := ks2) (enc := fun (k : Nat) => D.int (k : Int)) (own := [("k", 8)]) (tv := [8]) (fun k => encC (k, [encGs gs, d, fr01, fr01], "degree")) (ji_list (nm 5 rfl)) (by decide) (fun T x hx => ⟨_, jgw_name 8, rfl, je_tup (ja_cons (nm 8 rfl) (ja_cons (je_tup (ja_cons (nm 2 rfl) (ja_cons (nm 4 rfl) (ja_cons (je_tup (ja_cons je_int (ja_cons je_int ja_nil))) (ja_cons (je_tup (ja_cons je_int (ja_cons je_int ja_nil))) ja_nil))))) (ja_cons je_str ja_nil)))⟩))) (fun c' nc' => ?_) (by omega))
        refine js_cons (js_app 3 (d := encC (23, [d, .tup [fr01], .int 0, .int 0], "degree")) (je_tup (ja_cons je_int (ja_cons (je_tup (ja_cons (nm 4 rfl) (ja_cons (je_tup (ja_cons (je_tup (ja_cons je_int (ja_cons je_int ja_nil))) ja_nil)) (ja_cons je_int (ja_cons je_int ja_nil))))) (ja_cons je_str ja_nil)))) rfl (js_nil ⟨some (.dat d), some (.dat (.lst (ks2.map fun (k : Nat) => D.int (k : Int)))), .inr ⟨c', nc', ?_⟩⟩) ⟨_, rfl⟩ ?_)
        · show State.mk _ _ = State.mk _ _
          rw [flat_take (f2 gs) bad2 i hd, f2_step]
          rfl
        · rw [List.length_append]
          omega
      · refine ⟨_, jg_name 4, js_melt 3 rfl nc ?_⟩
        refine js_cons (js_set 5 (d := .lst (ks2.map fun (k : Nat) => D.int (k : Int))) (JE.cast (je_catL (je_catL (je_listR1 B je_int) (je_listR2 B je_int je_int) (by decide)) (je_lst (ja_cons je_int ja_nil)) (by decide)) rfl) ?_)
        refine js_cons (js_ownCat 3 (es2 := (ks2.map fun k => encC (k, [encGs gs, d, fr01, fr01], "degree"))) (nm 3 rfl) (JLc.je (lc0 (xs := ks2) (enc := fun (k : Nat) => D.int (k : Int)) (own := [("k", 8)]) (tv := [8]) (fun k => encC (k, [encGs gs, d, fr01, fr01], "degree")) (ji_list (nm 5 rfl)) (by decide) (fun T x hx => ⟨_, jgw_name 8, rfl, je_tup (ja_cons (nm 8 rfl) (ja_cons (je_tup (ja_cons (nm 2 rfl) (ja_cons (nm 4 rfl) (ja_cons (je_tup (ja_cons je_int (ja_cons je_int ja_nil))) (ja_cons (je_tup (ja_cons je_int (ja_cons je_int ja_nil))) ja_nil))))) (ja_cons je_str ja_nil)))⟩))) (fun c' nc' => ?_) (by omega))
        refine js_cons (js_app 3 (d := encC (23, [d, .tup [fr01], .int 0, .int 0], "degree")) (je_tup (ja_cons je_int (ja_cons (je_tup (ja_cons (nm 4 rfl) (ja_cons (je_tup (ja_cons (je_tup (ja_cons je_int (ja_cons je_int ja_nil))) ja_nil)) (ja_cons je_int (ja_cons je_int ja_nil))))) (ja_cons je_str ja_nil)))) rfl (js_nil ⟨some (.dat d), some (.dat (.lst (ks2.map fun (k : Nat) => D.int (k : Int)))), .inr ⟨c', nc', ?_⟩⟩) ⟨_, rfl⟩ ?_)
        · show State.mk _ _ = State.mk _ _
          rw [flat_take (f2 gs) bad2 i hd, f2_step]
          rfl
        · rw [List.length_append]
          omega
    · obtain ⟨e4, e5, hZ⟩ := hI
      obtain ⟨c, nc, rfl⟩ : ∃ c, c ∉ [q] ∧ Z = _ := hZ.resolve_left fun z => by cases z.1
      rw [List.take_length]
      have S0 : True := trivial
      have l2 : (L1 ++ bad2.flatMap (f2 gs)).length = 624 := by rw [List.length_append, l1, f2_len]; rfl
      generalize hL2 : L1 ++ bad2.flatMap (f2 gs) = L2 at *
      refine js_cons (js_for (ds := bad3) (ji_tup (je_tup (ja_cons je_non (ja_cons (je_neg je_int) (ja_cons je_int (ja_cons je_bl (ja_cons je_str ja_nil))))))) (fun i Z => ∃ e4, Z = ⟨c :: [q], [some (scr a g.K ns), some (twn q tA), some (.dat (encGs gs)), some (.own c ((L2 ++ (bad3.take i).map (f3 gs)).map encC)), e4, e5, none, none, none, none]⟩)
        ⟨e4, by rw [List.take_zero, List.map_nil, List.append_nil]⟩ (fun i d Z hd hI => ?_) (fun Z hI => ?_))
      · obtain ⟨e4, rfl⟩ := hI
        refine ⟨_, jg_name 4, ?_⟩
        refine js_cons (js_app 3 (d := encC (f3 gs d)) (je_tup (ja_cons je_int (ja_cons (je_tup (ja_cons (nm 2 rfl) (ja_cons je_int (ja_cons (nm 4 rfl) (ja_cons je_int ja_nil))))) (ja_cons je_str ja_nil)))) rfl (js_nil ⟨some (.dat d), ?_⟩) ⟨_, rfl⟩ ?_)
        · show State.mk _ _ = State.mk _ _
          rw [List.take_add_one, hd, List.map_append (l₁ := bad3.take i), ← List.append_assoc, List.map_append (l₁ := L2 ++ _)]
          rfl
        · rw [List.length_map, List.length_append, l2, List.length_map, List.length_take]
          show 624 + min i 5 < 100000
          omega
      · obtain ⟨e4, rfl⟩ := hI
        rw [List.take_length]
        have l3 : (L2 ++ bad3.map (f3 gs)).length = 629 := by rw [List.length_append, l2]; rfl
        have eAll : allC gs = (L2 ++ bad3.map (f3 gs)) ++ l4 gs := by unfold allC; rw [hL1, hL2]
        generalize hL3 : L2 ++ bad3.map (f3 gs) = L3 at *
        refine js_melt 3 rfl nc ?_
        refine js_cons (js_set 3 (d := .lst ((allC gs).map encC)) (JE.cast (je_catL (es := (l4 gs).map encC) (nm 3 rfl) (je_lst (ja_cons (je_tup (ja_cons je_int (ja_cons (je_tup (ja_cons (nm 2 rfl) (ja_cons je_int (ja_cons je_int (ja_cons je_int ja_nil))))) (ja_cons je_str ja_nil)))) (ja_cons (je_tup (ja_cons je_int (ja_cons (je_tup (ja_cons (nm 2 rfl) (ja_cons je_int (ja_cons je_int (ja_cons je_int ja_nil))))) (ja_cons je_str ja_nil)))) ja_nil))) (by rw [List.length_map, l3]; exact Nat.le_of_ble_eq_true rfl)) (by rw [← List.map_append, ← eAll])) ?_)
        have hgood := all_good hg
        have hall : (allC gs).length = 631 := by rw [eAll, List.length_append, l3]; rfl
        generalize allC gs = cs at *
        show JSs _ _ ⟨[q], [some (scr a g.K ns), some (twn q tA), some (.dat (encGs gs)), some (.dat (.lst (cs.map encC))), e4, e5, none, none, none, none]⟩ _
        refine js_cons (js_setLc 6 (d := .lst []) (JLc.cast (lc (xs := cs) (enc := encC) (own := [("one", 9)]) (tv := [9]) (fun _ => false) encC (ji_list (nm 3 rfl)) (by omega) (fun T x hx => ⟨_, jgw_name 9, jts_one ?_, rfl, (fun z => by cases z)⟩)) (by rw [filter_no])) ?_)
        · obtain ⟨d1, d2, d3, d4, x0, e1, e2, e3, e5, e6, e7⟩ := (hgood x hx).ex
          obtain ⟨i, l, w⟩ := x
          have e1 : l = [d1, d2, d3, d4] := e1
          subst e1
          exact JT.cast (jt_ne 1 (je_call FO (Nat.le_refl _) (ja_cons (je_ixT (nm 9 rfl) je_int (d := .int (i : Int)) rfl) (ja_cons (je_ixT (nm 9 rfl) je_int (d := .tup [d1, d2, d3, d4]) rfl) ja_nil)) (.inr ⟨x0, e7, ⟨i, d1, d2, d3, d4, 3, x0, e2, e3, rfl, e5, rfl⟩, rfl⟩)) (je_call FR (Nat.le_refl _) (ja_cons (je_ixT (nm 9 rfl) je_int (d := .str w) rfl) ja_nil) ⟨w, x0, e6, rfl, rfl⟩) (raised_ok x0) (raised_ok x0)) (by rw [eqD_refl (raised_ok x0)]; rfl)
        refine js_cons (js_if (t := false) (jt_w (jw_orF (JT.cast (jt_ne 1 (nm 6 rfl) (je_lst ja_nil) rfl rfl) rfl) (jw_orF (JT.cast (jt_lt (je_lenL B (ja_cons (nm 3 rfl) ja_nil)) je_int) (by rw [List.length_map, hall]; rfl)) (jw_orF (jt_val (je_call FB (Nat.le_refl _) (ja_cons (nm 2 rfl) (ja_cons je_int (ja_cons je_non ja_nil))) (.inr ⟨gs, 1, .non, hg, by decide, by decide, rfl, rfl, rfl, rfl⟩))) (jw_or1 (jt_val (je_call FTi (Nat.le_refl _) (ja_cons (nm 2 rfl) (ja_cons je_int (ja_cons (je_tup (ja_cons je_int (ja_cons je_int ja_nil))) (ja_cons je_non ja_nil)))) (.inr ⟨gs, 1, fr01, .non, hg, by decide, by decide, rfl, by decide +kernel, rfl, rfl, rfl, rfl⟩))))))))
          (fun z => by cases z) (fun _ => js_nil ?_))
        refine js_cons (js_for (ds := roadL) (ji_tup (je_tup (ja_cons je_non (ja_cons (je_tup ja_nil) (ja_cons (je_tup (ja_cons (je_tup (ja_cons je_int (ja_cons je_int ja_nil))) ja_nil)) (ja_cons (je_lst (ja_cons (je_tup (ja_cons je_int (ja_cons je_int ja_nil))) (ja_cons (je_tup (ja_cons je_int (ja_cons je_int ja_nil))) ja_nil))) (ja_cons (je_tup (ja_cons (je_tup (ja_cons je_int (ja_cons je_int ja_nil))) (ja_cons (je_tup (ja_cons je_int (ja_cons je_int ja_nil))) ja_nil))) (ja_cons (je_tup (ja_cons (je_tup (ja_cons je_int (ja_cons je_int ja_nil))) (ja_cons je_int ja_nil))) (ja_cons (je_repT (je_tup (ja_cons (je_tup (ja_cons je_int (ja_cons je_int ja_nil))) ja_nil)) je_int (by simp) (by decide) (by decide)) (ja_cons (je_tup (ja_cons (je_tup (ja_cons je_int (ja_cons je_int ja_nil))) (ja_cons (je_tup (ja_cons je_int (ja_cons je_int ja_nil))) ja_nil))) ja_nil)))))))))) (fun i Z => ∃ e4, Z = ⟨[q], [some (scr a g.K ns), some (twn q tA), some (.dat (encGs gs)), some (.dat (.lst (cs.map encC))), e4, e5, some (.dat (.lst [])), none, none, none]⟩)
          ⟨e4, rfl⟩ (fun i d Z hd hI => ?_) (fun Z hI => ?_))
        · obtain ⟨e4, rfl⟩ := hI
          have hr := List.all_eq_true.mp roadL_ok d (List.mem_of_getElem? hd)
          obtain ⟨hr1, hr2⟩ := He.ba hr
          obtain ⟨hr3, hr4⟩ := He.ba hr2
          rw [Bool.not_eq_true'] at hr1
          have hr4 := of_decide_eq_true hr4
          refine ⟨_, jg_name 4, ?_⟩
          exact js_cons (js_if (t := false) (jt_val (JE.cast (je_call FRd (Nat.le_refl _) (ja_cons je_int (ja_cons (nm 4 rfl) ja_nil)) (.inr ⟨3, 1, d, by decide, by decide, hr3, hr4, rfl, rfl⟩)) (by rw [hr1]))) (fun z => by cases z) (fun _ => js_nil (js_nil ⟨_, rfl⟩)))
        · obtain ⟨e4, rfl⟩ := hI
          refine js_cons (js_set 7 (d := encGs wideG) (je_tupleL B (ja_cons (JE.cast (JLc.je (lc0 (xs := List.range 8) (enc := fun (i : Nat) => D.int (0 + (i : Int))) (own := [("k", 8)]) (tv := [8]) (fun k => .tup [.int (5 * (0 + (k : Int)) - 20), .int (-50), .int 50]) (ji_r1 B (ja_cons je_int ja_nil) (by decide)) (by decide) (fun T x hx => ⟨_, jgw_name 8, rfl, je_tup (ja_cons (je_sub (je_mul je_int (nm 8 rfl) (mulS (by decide) (by rw [List.mem_range] at hx; omega))) je_int) (ja_cons (je_neg je_int) (ja_cons je_int ja_nil)))⟩))) rfl) ja_nil)) ?_)
          exact js_cons (js_ret (d := .bl true) (JE.cast (je_and (t := true) (u := true) (JE.cast (je_isB (je_call FI (Nat.le_refl _) (ja_cons (nm 2 rfl) ja_nil) ⟨2, _, dk_gates gs, rfl, rfl⟩) je_bl) (by rw [mGates_enc hg]; rfl)) fun _ => JE.cast (je_and (t := true) (u := true) (JE.cast (je_isB (je_call FI (Nat.le_refl _) (ja_cons (nm 7 rfl) ja_nil) ⟨2, _, dk_gates wideG, rfl, rfl⟩) je_bl) (by rw [wide_ok]; rfl)) fun _ => je_one (JE.cast (je_isB (je_call FRd (Nat.le_refl _) (ja_cons je_int (ja_cons (je_tup (ja_cons (je_tup (ja_cons je_int (ja_cons je_int ja_nil))) (ja_cons (je_tup (ja_cons je_int (ja_cons je_int ja_nil))) ja_nil))) ja_nil)) (.inr ⟨2, 1, .tup [.tup [.int 1, .int 2], .tup [.int 0, .int 1]], by decide, by decide, rfl, by decide +kernel, rfl, rfl⟩)) je_bl) (congrArg D.bl (by decide +kernel : decide (_ = true) = true)))) rfl) rfl) rfl)

/-! the head -/
def fn0 : List He.DefD := [dOf "is_between" (topS 17), dOf "divisor_of" (topS 18), dOf "is_fraction" (topS 24), dOf "is_gate" (topS 29), dOf "is_gates" (topS 30), dOf "check_gates" (topS 31), dOf "check_degree" (topS 32), dOf "check_both" (topS 33), dOf "are_road" (topS 34), dOf "is_road" (topS 35), dOf "passed" (topS 39), dOf "some_road" (topS 51), dOf "bar" (topS 52), dOf "are_entries" (topS 53), dOf "is_found_bar" (topS 55), dOf "is_bar" (topS 56), dOf "needless" (topS 60), dOf "fewest_left" (topS 64), dOf "fewest_roads" (topS 68), dOf "road_groups" (topS 69)]
def gl0 : List He.Fa := [.glo "is_between", .glo "divisor_of", .glo "is_fraction", .glo "is_gate", .glo "is_gates", .glo "check_gates", .glo "check_degree", .glo "check_both", .glo "are_road", .glo "is_road", .glo "passed", .glo "some_road", .glo "bar", .glo "are_entries", .glo "is_found_bar", .glo "is_bar", .glo "needless", .glo "fewest_left", .glo "fewest_roads", .glo "road_groups"]
def fn1 : List He.DefD := [dOf "stretches" (topS 71), dOf "stretch_bars" (topS 72), dOf "is_stretch_bars" (topS 73), dOf "least_widening" (topS 76), dOf "best_road" (topS 77), dOf "ties" (topS 78), dOf "is_ties" (topS 79), dOf "check_all" (topS 81), dOf "heights" (topS 83), dOf "road_at" (topS 84), dOf "bound" (topS 86), dOf "is_bound" (topS 87), dOf "with_gate" (topS 90), dOf "without" (topS 92), dOf "mirrored" (topS 93), dOf "format_gates" (topS 96), dOf "naive_pass" (topS 98), dOf "_law_town" (topS 100), dOf "_law_draw" (topS 101), dOf "_law_pick" (topS 102)]
def gl1 : List He.Fa := [.glo "stretches", .glo "stretch_bars", .glo "is_stretch_bars", .glo "least_widening", .glo "best_road", .glo "ties", .glo "is_ties", .glo "check_all", .glo "heights", .glo "road_at", .glo "bound", .glo "is_bound", .glo "with_gate", .glo "without", .glo "mirrored", .glo "format_gates", .glo "naive_pass", .glo "_law_town", .glo "_law_draw", .glo "_law_pick"]
def fn2 : List He.DefD := [dOf "_law_outcome" (topS 103), dOf "_law_name" (topS 104), dOf "_law_raises" (topS 105), dOf "_law_gates" (topS 106), dOf "_law_call" (topS 107), dOf "_law_no_gates" (topS 108), dOf "law" (topS 109)]
def gl2 : List He.Fa := [.glo "_law_outcome", .glo "_law_name", .glo "_law_raises", .glo "_law_gates", .glo "_law_call", .glo "_law_no_gates", .glo "law"]
def fnA : List He.DefD := fn0 ++ fn1 ++ fn2
def faA : List He.Fa := faL ++ gl0 ++ gl1 ++ gl2
def lo0 : List Str := ["RoadError", "InvalidGates", "InvalidGate", "InvalidDegree", "InvalidRoad", "InvalidPlace", "InvalidNumber", "InvalidSide", "InvalidMost", "InvalidText", "NoRoad", "Endless", "LastOne", "TooMany", "NothingToUndo", "is_between", "divisor_of", "shortened", "fraction", "plus", "by_factor", "is_below", "is_fraction", "common_bottom", "whole", "sum_of", "is_gate", "is_gates", "check_gates", "check_degree"]
def lo1 : List Str := ["check_both", "are_road", "is_road", "check_road", "found_height", "does_pass", "passed", "Equations", "cleared", "entries_of", "powers_of", "rows_of", "ends_of", "solved", "can_pass", "found_bar", "some_road", "bar", "are_entries", "sums_by", "is_found_bar", "is_bar", "place_powers", "extreme", "is_needless", "needless", "some_of", "some_numbers", "fewest_left", "grouped"]
def lo2 : List Str := ["all_rows", "found_groups", "fewest_roads", "road_groups", "found_stretches", "stretches", "stretch_bars", "is_stretch_bars", "tied", "least_widening", "best_road", "ties", "is_ties", "check_all", "check_passed", "heights", "road_at", "check_side", "bound", "is_bound", "put_in", "with_gate", "taken_out", "without", "mirrored", "gates_text", "format_gates", "naive_pass", "_law_town", "_law_draw"]
def lo3 : List Str := ["_law_pick", "_law_outcome", "_law_name", "_law_raises", "_law_gates", "_law_call", "_law_no_gates"]
def looseA : List Str := lo0 ++ lo1 ++ lo2 ++ lo3
abbrev RA : PySem.W.OpenRow := PySem.W.OpenLaw.row PySem.Challenge.rw_gateroads_k01_argument_ends
abbrev hkA : PySem.W.Hook := He.hookX 2 faA fnA [] [] errsB
def obA (s : PySem.W.SharedT) : He.AlX := He.obsX 2 faA fnA [] [] errsB (HandSHeadRun.getT s)
theorem obA_eq (s : PySem.W.SharedT) : obA s = hkA.obs s.abs := He.obsX_eq (HandSHeadRun.getT_eq s)
theorem runA (w : World) : HandSHeadRun.RunEq RA (PySem.W.view RA.prog [109]) hkA obA 40000 looseA w := by
  intro os
  kernel_rfl
/-! the end -/
theorem in_faL : ∀ f ∈ faL, f ∈ faA := fun f h => by unfold faA; simp [h]
theorem facts {P : Program} {w : World} {K : PySem.W.Frag} {h : Heap} {mg : Str → Option Value} {f : Addr} (X : K.In h) (G : h.Ns mainGlobals mg) (hfa : mg ("law" : Str) = some (.ref f)) (c : He.SaysD faA fnA K) (ce : errsB K = true) :
    ∃ fd : FuncData, (∀ (s : Shared) (v : Value), BindsTo s fd ⟨[v], []⟩ [("script", v)]) ∧ ∀ base : Heap, K.In base → base.Ns mainGlobals mg → FnOk P w K mg base (L2.CX P w) 10 f fd ["script"] (spLaw K) := by
  obtain ⟨fd, F⟩ := c.defs (d := dOf "law" (topS 109)) (by simp [fnA, fn0, fn1, fn2])
  have e := hfa.symm.trans (He.glo_ok X G (c.facts (f := .glo "law") (by simp [faA, gl0, gl1, gl2])))
  cases e
  have b := FunD.bindsA (ps := ["script"]) F fun _ _ _ _ _ _ us hl => match us, hl with | [_], _ => rfl
  refine ⟨fd, fun s v => b s [v] rfl, fun base _ _ => ?_⟩
  have B : Bi (⟨P, w, K, mg, base⟩ : Glob) := bi_of (g := ⟨P, w, K, mg, base⟩) X G c in_faL
  have Er : Errs (⟨P, w, K, mg, base⟩ : Glob) (eC K) := errs_of (g := ⟨P, w, K, mg, base⟩) X G c in_faL ce
  have D__law_draw : DefAt (⟨P, w, K, mg, base⟩ : Glob) "_law_draw" (topS 101) := defAt_of (g := ⟨P, w, K, mg, base⟩) X G c (by simp [faA, gl0, gl1, gl2]) (by simp [fnA, fn0, fn1, fn2])
  have F__law_draw := fun (k : Nat) => ok__law_draw (k := k + 0) D__law_draw B
  have D__law_town : DefAt (⟨P, w, K, mg, base⟩ : Glob) "_law_town" (topS 100) := defAt_of (g := ⟨P, w, K, mg, base⟩) X G c (by simp [faA, gl0, gl1, gl2]) (by simp [fnA, fn0, fn1, fn2])
  have F__law_town := fun (k : Nat) => ok__law_town (k := k + 0) D__law_town B
  have D__law_pick : DefAt (⟨P, w, K, mg, base⟩ : Glob) "_law_pick" (topS 102) := defAt_of (g := ⟨P, w, K, mg, base⟩) X G c (by simp [faA, gl0, gl1, gl2]) (by simp [fnA, fn0, fn1, fn2])
  have F__law_pick := fun (k : Nat) => ok__law_pick (k := k + 1) D__law_pick B (F__law_draw (k + 0))
  have D__law_gates : DefAt (⟨P, w, K, mg, base⟩ : Glob) "_law_gates" (topS 106) := defAt_of (g := ⟨P, w, K, mg, base⟩) X G c (by simp [faA, gl0, gl1, gl2]) (by simp [fnA, fn0, fn1, fn2])
  have F__law_gates := fun (k : Nat) => ok__law_gates (k := k + 2) D__law_gates B (F__law_draw (k + 1)) (F__law_pick (k + 0))
  have D_is_between : DefAt (⟨P, w, K, mg, base⟩ : Glob) "is_between" (topS 17) := defAt_of (g := ⟨P, w, K, mg, base⟩) X G c (by simp [faA, gl0, gl1, gl2]) (by simp [fnA, fn0, fn1, fn2])
  have F_is_between := fun (k : Nat) => ok_is_between (k := k + 0) D_is_between B
  have D_is_gate : DefAt (⟨P, w, K, mg, base⟩ : Glob) "is_gate" (topS 29) := defAt_of (g := ⟨P, w, K, mg, base⟩) X G c (by simp [faA, gl0, gl1, gl2]) (by simp [fnA, fn0, fn1, fn2])
  have F_is_gate := fun (k : Nat) => ok_is_gate (k := k + 1) D_is_gate B (F_is_between (k + 0))
  have D_is_gates : DefAt (⟨P, w, K, mg, base⟩ : Glob) "is_gates" (topS 30) := defAt_of (g := ⟨P, w, K, mg, base⟩) X G c (by simp [faA, gl0, gl1, gl2]) (by simp [fnA, fn0, fn1, fn2])
  have F_is_gates := fun (k : Nat) => ok_is_gates (k := k + 2) D_is_gates B (F_is_gate (k + 0))
  have D_check_gates : DefAt (⟨P, w, K, mg, base⟩ : Glob) "check_gates" (topS 31) := defAt_of (g := ⟨P, w, K, mg, base⟩) X G c (by simp [faA, gl0, gl1, gl2]) (by simp [fnA, fn0, fn1, fn2])
  have F_check_gates := fun (k : Nat) => ok_check_gates (k := k + 3) D_check_gates B Er (F_is_gates (k + 0))
  have D__law_name : DefAt (⟨P, w, K, mg, base⟩ : Glob) "_law_name" (topS 104) := defAt_of (g := ⟨P, w, K, mg, base⟩) X G c (by simp [faA, gl0, gl1, gl2]) (by simp [fnA, fn0, fn1, fn2])
  have F__law_name := fun (k : Nat) => ok__law_name (k := k + 0) D__law_name B Er
  have D__law_raises : DefAt (⟨P, w, K, mg, base⟩ : Glob) "_law_raises" (topS 105) := defAt_of (g := ⟨P, w, K, mg, base⟩) X G c (by simp [faA, gl0, gl1, gl2]) (by simp [fnA, fn0, fn1, fn2])
  have F__law_raises := fun (k : Nat) => ok__law_raises (k := k + 0) D__law_raises B
  have D_divisor_of : DefAt (⟨P, w, K, mg, base⟩ : Glob) "divisor_of" (topS 18) := defAt_of (g := ⟨P, w, K, mg, base⟩) X G c (by simp [faA, gl0, gl1, gl2]) (by simp [fnA, fn0, fn1, fn2])
  have F_divisor_of := fun (k : Nat) => ok_divisor_of (k := k + 0) D_divisor_of B
  have D_is_fraction : DefAt (⟨P, w, K, mg, base⟩ : Glob) "is_fraction" (topS 24) := defAt_of (g := ⟨P, w, K, mg, base⟩) X G c (by simp [faA, gl0, gl1, gl2]) (by simp [fnA, fn0, fn1, fn2])
  have F_is_fraction := fun (k : Nat) => ok_is_fraction (k := k + 1) D_is_fraction B (F_divisor_of (k + 0))
  have D_check_degree : DefAt (⟨P, w, K, mg, base⟩ : Glob) "check_degree" (topS 32) := defAt_of (g := ⟨P, w, K, mg, base⟩) X G c (by simp [faA, gl0, gl1, gl2]) (by simp [fnA, fn0, fn1, fn2])
  have F_check_degree := fun (k : Nat) => ok_check_degree (k := k + 1) D_check_degree B Er (F_is_between (k + 0))
  have D_check_both : DefAt (⟨P, w, K, mg, base⟩ : Glob) "check_both" (topS 33) := defAt_of (g := ⟨P, w, K, mg, base⟩) X G c (by simp [faA, gl0, gl1, gl2]) (by simp [fnA, fn0, fn1, fn2])
  have F_check_both := fun (k : Nat) => ok_check_both (k := k + 4) D_check_both (F_check_gates (k + 0)) (F_check_degree (k + 2))
  have D_are_road : DefAt (⟨P, w, K, mg, base⟩ : Glob) "are_road" (topS 34) := defAt_of (g := ⟨P, w, K, mg, base⟩) X G c (by simp [faA, gl0, gl1, gl2]) (by simp [fnA, fn0, fn1, fn2])
  have F_are_road := fun (k : Nat) => ok_are_road (k := k + 2) D_are_road B (F_is_fraction (k + 0))
  have D_is_road : DefAt (⟨P, w, K, mg, base⟩ : Glob) "is_road" (topS 35) := defAt_of (g := ⟨P, w, K, mg, base⟩) X G c (by simp [faA, gl0, gl1, gl2]) (by simp [fnA, fn0, fn1, fn2])
  have F_is_road := fun (k : Nat) => ok_is_road (k := k + 3) D_is_road B (F_check_degree (k + 1)) (F_are_road (k + 0))
  have D_some_road : DefAt (⟨P, w, K, mg, base⟩ : Glob) "some_road" (topS 51) := defAt_of (g := ⟨P, w, K, mg, base⟩) X G c (by simp [faA, gl0, gl1, gl2]) (by simp [fnA, fn0, fn1, fn2])
  have F_some_road := fun (k : Nat) => gd_some_road (k := k + 5) D_some_road (F_check_both (k + 0))
  have D_bar : DefAt (⟨P, w, K, mg, base⟩ : Glob) "bar" (topS 52) := defAt_of (g := ⟨P, w, K, mg, base⟩) X G c (by simp [faA, gl0, gl1, gl2]) (by simp [fnA, fn0, fn1, fn2])
  have F_bar := fun (k : Nat) => gd_bar (k := k + 5) D_bar (F_check_both (k + 0))
  have D_needless : DefAt (⟨P, w, K, mg, base⟩ : Glob) "needless" (topS 60) := defAt_of (g := ⟨P, w, K, mg, base⟩) X G c (by simp [faA, gl0, gl1, gl2]) (by simp [fnA, fn0, fn1, fn2])
  have F_needless := fun (k : Nat) => gd_needless (k := k + 5) D_needless (F_check_both (k + 0))
  have D_fewest_left : DefAt (⟨P, w, K, mg, base⟩ : Glob) "fewest_left" (topS 64) := defAt_of (g := ⟨P, w, K, mg, base⟩) X G c (by simp [faA, gl0, gl1, gl2]) (by simp [fnA, fn0, fn1, fn2])
  have F_fewest_left := fun (k : Nat) => gd_fewest_left (k := k + 5) D_fewest_left (F_check_both (k + 0))
  have D_fewest_roads : DefAt (⟨P, w, K, mg, base⟩ : Glob) "fewest_roads" (topS 68) := defAt_of (g := ⟨P, w, K, mg, base⟩) X G c (by simp [faA, gl0, gl1, gl2]) (by simp [fnA, fn0, fn1, fn2])
  have F_fewest_roads := fun (k : Nat) => gd_fewest_roads (k := k + 5) D_fewest_roads (F_check_both (k + 0))
  have D_road_groups : DefAt (⟨P, w, K, mg, base⟩ : Glob) "road_groups" (topS 69) := defAt_of (g := ⟨P, w, K, mg, base⟩) X G c (by simp [faA, gl0, gl1, gl2]) (by simp [fnA, fn0, fn1, fn2])
  have F_road_groups := fun (k : Nat) => gd_road_groups (k := k + 5) D_road_groups (F_check_both (k + 0))
  have D_stretches : DefAt (⟨P, w, K, mg, base⟩ : Glob) "stretches" (topS 71) := defAt_of (g := ⟨P, w, K, mg, base⟩) X G c (by simp [faA, gl0, gl1, gl2]) (by simp [fnA, fn0, fn1, fn2])
  have F_stretches := fun (k : Nat) => gd_stretches (k := k + 5) D_stretches (F_check_both (k + 0))
  have D_stretch_bars : DefAt (⟨P, w, K, mg, base⟩ : Glob) "stretch_bars" (topS 72) := defAt_of (g := ⟨P, w, K, mg, base⟩) X G c (by simp [faA, gl0, gl1, gl2]) (by simp [fnA, fn0, fn1, fn2])
  have F_stretch_bars := fun (k : Nat) => gd_stretch_bars (k := k + 5) D_stretch_bars (F_check_both (k + 0))
  have D_least_widening : DefAt (⟨P, w, K, mg, base⟩ : Glob) "least_widening" (topS 76) := defAt_of (g := ⟨P, w, K, mg, base⟩) X G c (by simp [faA, gl0, gl1, gl2]) (by simp [fnA, fn0, fn1, fn2])
  have F_least_widening := fun (k : Nat) => gd_least_widening (k := k + 5) D_least_widening (F_check_both (k + 0))
  have D_best_road : DefAt (⟨P, w, K, mg, base⟩ : Glob) "best_road" (topS 77) := defAt_of (g := ⟨P, w, K, mg, base⟩) X G c (by simp [faA, gl0, gl1, gl2]) (by simp [fnA, fn0, fn1, fn2])
  have F_best_road := fun (k : Nat) => gd_best_road (k := k + 5) D_best_road (F_check_both (k + 0))
  have D_ties : DefAt (⟨P, w, K, mg, base⟩ : Glob) "ties" (topS 78) := defAt_of (g := ⟨P, w, K, mg, base⟩) X G c (by simp [faA, gl0, gl1, gl2]) (by simp [fnA, fn0, fn1, fn2])
  have F_ties := fun (k : Nat) => gd_ties (k := k + 5) D_ties (F_check_both (k + 0))
  have D_is_stretch_bars : DefAt (⟨P, w, K, mg, base⟩ : Glob) "is_stretch_bars" (topS 73) := defAt_of (g := ⟨P, w, K, mg, base⟩) X G c (by simp [faA, gl0, gl1, gl2]) (by simp [fnA, fn0, fn1, fn2])
  have F_is_stretch_bars := fun (k : Nat) => gd_is_stretch_bars (k := k + 5) D_is_stretch_bars (F_check_both (k + 0))
  have D_check_all : DefAt (⟨P, w, K, mg, base⟩ : Glob) "check_all" (topS 81) := defAt_of (g := ⟨P, w, K, mg, base⟩) X G c (by simp [faA, gl0, gl1, gl2]) (by simp [fnA, fn0, fn1, fn2])
  have F_check_all := fun (k : Nat) => gd_check_all (k := k + 5) D_check_all (F_check_both (k + 0))
  have D_heights : DefAt (⟨P, w, K, mg, base⟩ : Glob) "heights" (topS 83) := defAt_of (g := ⟨P, w, K, mg, base⟩) X G c (by simp [faA, gl0, gl1, gl2]) (by simp [fnA, fn0, fn1, fn2])
  have F_heights := fun (k : Nat) => gd_heights (k := k + 6) D_heights (F_check_all (k + 0))
  have D_road_at : DefAt (⟨P, w, K, mg, base⟩ : Glob) "road_at" (topS 84) := defAt_of (g := ⟨P, w, K, mg, base⟩) X G c (by simp [faA, gl0, gl1, gl2]) (by simp [fnA, fn0, fn1, fn2])
  have F_road_at := fun (k : Nat) => gd_road_at (k := k + 6) D_road_at (F_check_all (k + 0))
  have D_bound : DefAt (⟨P, w, K, mg, base⟩ : Glob) "bound" (topS 86) := defAt_of (g := ⟨P, w, K, mg, base⟩) X G c (by simp [faA, gl0, gl1, gl2]) (by simp [fnA, fn0, fn1, fn2])
  have F_bound := fun (k : Nat) => gd_bound (k := k + 6) D_bound (F_check_all (k + 0))
  have D_is_bound : DefAt (⟨P, w, K, mg, base⟩ : Glob) "is_bound" (topS 87) := defAt_of (g := ⟨P, w, K, mg, base⟩) X G c (by simp [faA, gl0, gl1, gl2]) (by simp [fnA, fn0, fn1, fn2])
  have F_is_bound := fun (k : Nat) => gd_is_bound (k := k + 6) D_is_bound (F_check_all (k + 0))
  have D_passed : DefAt (⟨P, w, K, mg, base⟩ : Glob) "passed" (topS 39) := defAt_of (g := ⟨P, w, K, mg, base⟩) X G c (by simp [faA, gl0, gl1, gl2]) (by simp [fnA, fn0, fn1, fn2])
  have F_passed := fun (k : Nat) => gd_passed (k := k + 4) D_passed (F_check_gates (k + 0))
  have D_format_gates : DefAt (⟨P, w, K, mg, base⟩ : Glob) "format_gates" (topS 96) := defAt_of (g := ⟨P, w, K, mg, base⟩) X G c (by simp [faA, gl0, gl1, gl2]) (by simp [fnA, fn0, fn1, fn2])
  have F_format_gates := fun (k : Nat) => gd_format_gates (k := k + 4) D_format_gates (F_check_gates (k + 0))
  have D_mirrored : DefAt (⟨P, w, K, mg, base⟩ : Glob) "mirrored" (topS 93) := defAt_of (g := ⟨P, w, K, mg, base⟩) X G c (by simp [faA, gl0, gl1, gl2]) (by simp [fnA, fn0, fn1, fn2])
  have F_mirrored := fun (k : Nat) => gd_mirrored (k := k + 4) D_mirrored (F_check_gates (k + 0))
  have D_with_gate : DefAt (⟨P, w, K, mg, base⟩ : Glob) "with_gate" (topS 90) := defAt_of (g := ⟨P, w, K, mg, base⟩) X G c (by simp [faA, gl0, gl1, gl2]) (by simp [fnA, fn0, fn1, fn2])
  have F_with_gate := fun (k : Nat) => gd_with_gate (k := k + 4) D_with_gate (F_check_gates (k + 0))
  have D_without : DefAt (⟨P, w, K, mg, base⟩ : Glob) "without" (topS 92) := defAt_of (g := ⟨P, w, K, mg, base⟩) X G c (by simp [faA, gl0, gl1, gl2]) (by simp [fnA, fn0, fn1, fn2])
  have F_without := fun (k : Nat) => gd_without (k := k + 4) D_without (F_check_gates (k + 0))
  have D_are_entries : DefAt (⟨P, w, K, mg, base⟩ : Glob) "are_entries" (topS 53) := defAt_of (g := ⟨P, w, K, mg, base⟩) X G c (by simp [faA, gl0, gl1, gl2]) (by simp [fnA, fn0, fn1, fn2])
  have F_are_entries := fun (k : Nat) => gd_are_entries (k := k + 0) D_are_entries B
  have D_is_found_bar : DefAt (⟨P, w, K, mg, base⟩ : Glob) "is_found_bar" (topS 55) := defAt_of (g := ⟨P, w, K, mg, base⟩) X G c (by simp [faA, gl0, gl1, gl2]) (by simp [fnA, fn0, fn1, fn2])
  have F_is_found_bar := fun (k : Nat) => gd_is_found_bar (k := k + 1) D_is_found_bar (F_are_entries (k + 0))
  have D_is_bar : DefAt (⟨P, w, K, mg, base⟩ : Glob) "is_bar" (topS 56) := defAt_of (g := ⟨P, w, K, mg, base⟩) X G c (by simp [faA, gl0, gl1, gl2]) (by simp [fnA, fn0, fn1, fn2])
  have F_is_bar := fun (k : Nat) => gd_is_bar (k := k + 5) D_is_bar (F_check_both (k + 0)) (F_is_found_bar (k + 3))
  have D_is_ties : DefAt (⟨P, w, K, mg, base⟩ : Glob) "is_ties" (topS 79) := defAt_of (g := ⟨P, w, K, mg, base⟩) X G c (by simp [faA, gl0, gl1, gl2]) (by simp [fnA, fn0, fn1, fn2])
  have F_is_ties := fun (k : Nat) => gd_is_ties (k := k + 5) D_is_ties (F_check_both (k + 0)) (F_is_fraction (k + 3)) (F_are_entries (k + 4))
  have D_naive_pass : DefAt (⟨P, w, K, mg, base⟩ : Glob) "naive_pass" (topS 98) := defAt_of (g := ⟨P, w, K, mg, base⟩) X G c (by simp [faA, gl0, gl1, gl2]) (by simp [fnA, fn0, fn1, fn2])
  have F_naive_pass := fun (k : Nat) => gd_naive_pass (k := k + 5) D_naive_pass Er (F_check_both (k + 0)) (F_is_between (k + 4))
  have D__law_call : DefAt (⟨P, w, K, mg, base⟩ : Glob) "_law_call" (topS 107) := defAt_of (g := ⟨P, w, K, mg, base⟩) X G c (by simp [faA, gl0, gl1, gl2]) (by simp [fnA, fn0, fn1, fn2])
  have F__law_call := fun (k : Nat) => ok__law_call (k := k + 7) D__law_call (F_some_road (k + 1)) (F_bar (k + 1)) (F_needless (k + 1)) (F_fewest_left (k + 1)) (F_fewest_roads (k + 1)) (F_road_groups (k + 1)) (F_stretches (k + 1)) (F_stretch_bars (k + 1)) (F_least_widening (k + 1)) (F_best_road (k + 1)) (F_ties (k + 1)) (F_passed (k + 2)) (F_is_bar (k + 1)) (F_is_stretch_bars (k + 1)) (F_heights (k + 0)) (F_naive_pass (k + 1)) (F_is_ties (k + 1)) (F_road_at (k + 0)) (F_bound (k + 0)) (F_format_gates (k + 2)) (F_mirrored (k + 2)) (F_with_gate (k + 2)) (F_without (k + 2)) (F_is_road (k + 3)) (F_is_bound (k + 0))
  have D__law_outcome : DefAt (⟨P, w, K, mg, base⟩ : Glob) "_law_outcome" (topS 103) := defAt_of (g := ⟨P, w, K, mg, base⟩) X G c (by simp [faA, gl0, gl1, gl2]) (by simp [fnA, fn0, fn1, fn2])
  have F__law_outcome := fun (k : Nat) => ok__law_outcome (k := k + 8) D__law_outcome B Er (F__law_call (k + 0)) (F__law_name (k + 7))
  have D__law_no_gates : DefAt (⟨P, w, K, mg, base⟩ : Glob) "_law_no_gates" (topS 108) := defAt_of (g := ⟨P, w, K, mg, base⟩) X G c (by simp [faA, gl0, gl1, gl2]) (by simp [fnA, fn0, fn1, fn2])
  have F__law_no_gates := fun (k : Nat) => ok__law_no_gates (k := k + 0) D__law_no_gates B
  have F_law := fun (k : Nat) => ok_law (g := ⟨P, w, K, mg, base⟩) (k := k + 9) F B (F__law_town (k + 8)) (F__law_gates (k + 6)) (F__law_no_gates (k + 8)) (F_is_gates (k + 6)) (F__law_outcome (k + 0)) (F__law_raises (k + 8)) (F_is_bar (k + 3)) (F_is_ties (k + 3)) (F_is_road (k + 5))
  exact F_law 0
end JL
open PySem PySem.W PySem.Calls PyProof.Rows
theorem PySem.Challenge.cw_gateroads_k01_argument_ends_holds : PySem.Challenge.rw_gateroads_k01_argument_ends.Holds := by
  w_on; o_law
  refine HandSHeadRun.head_any (r := OpenLaw.row PySem.Challenge.rw_gateroads_k01_argument_ends) (q := view (OpenLaw.row PySem.Challenge.rw_gateroads_k01_argument_ends).prog [109]) (H := JL.hkA) (ob := JL.obA) (M := 40000) (loose := JL.looseA) (d := HandSHeadRun.topDef (OpenLaw.row PySem.Challenge.rw_gateroads_k01_argument_ends).prog 109) (kwd := []) JL.obA_eq
    (by kernel_rfl) (fun s => by kernel_rfl) JL.runA (by kernel_rfl) (by kernel_rfl) (by kernel_rfl) (by rfl) (by first | assumption | decide +kernel) (by decide +kernel) ⟨rfl, rfl, rfl, rfl, rfl, by decide +kernel⟩ ?hw ?hc
  case hw => w_witness2
  case hc =>
    refine JL.walk_W (l := PySem.Challenge.rw_gateroads_k01_argument_ends) (n := 63) (k := 10) (x := "script") rfl (by decide) (by kernel_rfl) ⟨rfl, by decide, by decide⟩ ?F
    case F =>
      intro w mg fa h Y G hmg0
      obtain ⟨K, KX, c⟩ := Y
      have hmg : mg ("law" : PySem.Str) = some (.ref fa) := by
        have e : (HandSHeadRun.topDef (OpenLaw.row PySem.Challenge.rw_gateroads_k01_argument_ends).prog 109).name = ("law" : PySem.Str) := by kernel_rfl
        rw [← e]
        exact hmg0
      obtain ⟨fd, hb, hF⟩ := JL.facts (P := (PySem.Challenge.rw_gateroads_k01_argument_ends).prog) (w := w) KX G hmg c.t.d c.more
      exact ⟨K, fd, JL.spLaw K, KX, hb, fun H a ns hl hO hS => ⟨a, ns, rfl, JL.scrIn_of hO hS, by omega, fun _ => rfl⟩, hF⟩
