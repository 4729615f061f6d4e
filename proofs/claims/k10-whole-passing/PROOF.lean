import PyProof.Rows.All
import Wide.All
import OpenK.AllK
import Wide.FinOn
import HandS.ForMost
import HandS.ForExc
import HandS.Flow
import HandS.Wide
import HandS.IsInst
import HandS.CallSlots
import HandS.Defaults
import HandS.TupAny
import HandS.FStr
import HandS.StrMore
import HandS.ExcValue
import HandS.ExcIs
import HandS.SetFor
import HandS.Style
import HandS.TupLe
import HandS.Walk
import HandS.Head0
import HandS.Head1
import HandS.Head2
import HandS.HeadEnd
import HandS.HeadHook1
import HandS.HeadHook2
import HandS.HeadHook3
import HandS.HeadHook4
import HandS.Conv
import HandS.TupMul
import KE.GoesEnum
import HandS.TupSets
import KE.KSortTupG
import PySem.Challenge.RW_gateroads_k10_whole_passing
set_option Elab.async false
set_option linter.all false
set_option maxRecDepth 100000
set_option autoImplicit false
set_option maxHeartbeats 4000000
/-! A layer of data over the hand layer: what a piece of a def makes of plain data. -/
namespace JL
open PySem PySem.Spec L2

/-! ### plain data -/
inductive D where
  | non | bl (b : Bool) | int (i : Int) | str (x : Str) | tup (l : List D) | lst (l : List D) | ref (a : Addr) | emp | ty (n : String)

/-- v in the heap H is the data d; none of its objects is among S -/
inductive Rp (S : List Addr) (H : Hp) : V → D → Prop
  | non : Rp S H .non .non
  | bl (b : Bool) : Rp S H (.bl b) (.bl b)
  | int (i : Int) : Rp S H (.int i) (.int i)
  | str (x : Str) : Rp S H (.str x) (.str x)
  | ty (n : String) : Rp S H (.ty n) (.ty n)
  | ref (a : Addr) : Rp S H (.ref a) (.ref a)
  | tup {a : Addr} {xs : List V} {ds : List D} : a ∉ S → H a = some (.tup xs) → xs.length = ds.length → (∀ (i : Nat) (x : V) (d : D), xs[i]? = some x → ds[i]? = some d → Rp S H x d) → Rp S H (.ref a) (.tup ds)
  | lst {a : Addr} {xs : List V} {ds : List D} : a ∉ S → H a = some (.lst xs) → xs.length = ds.length → (∀ (i : Nat) (x : V) (d : D), xs[i]? = some x → ds[i]? = some d → Rp S H x d) → Rp S H (.ref a) (.lst ds)
  | emp {a : Addr} : a ∉ S → H a = some (.dK []) → Rp S H (.ref a) .emp

def RpA (S : List Addr) (H : Hp) (xs : List V) (ds : List D) : Prop := xs.length = ds.length ∧ ∀ (i : Nat) (x : V) (d : D), xs[i]? = some x → ds[i]? = some d → Rp S H x d

/-- what H tracks outside S is in H' as it was -/
def Pres (S : List Addr) (H H' : Hp) : Prop := ∀ b o, H b = some o → b ∉ S → H' b = some o
theorem Pres.of_same {S : List Addr} {H H' : Hp} (h : Same H H') : Pres S H H' := fun b o e _ => h b o e

theorem Rp.keep {S S' : List Addr} {H H' : Hp} (hp : Pres S H H') (hs : ∀ a o, H a = some o → a ∈ S' → a ∈ S) {v : V} {d : D} (h : Rp S H v d) : Rp S' H' v d := by
  induction h with
  | non => exact .non
  | bl b => exact .bl b
  | int i => exact .int i
  | str x => exact .str x
  | ty n => exact .ty n
  | ref a => exact .ref a
  | tup n e l _ ih => exact .tup (fun z => n (hs _ _ e z)) (hp _ _ e n) l ih
  | lst n e l _ ih => exact .lst (fun z => n (hs _ _ e z)) (hp _ _ e n) l ih
  | emp n e => exact .emp (fun z => n (hs _ _ e z)) (hp _ _ e n)
theorem RpA.keep {S S' : List Addr} {H H' : Hp} (hp : Pres S H H') (hs : ∀ a o, H a = some o → a ∈ S' → a ∈ S) {xs : List V} {ds : List D} (h : RpA S H xs ds) : RpA S' H' xs ds :=
  ⟨h.1, fun i x d e1 e2 => (h.2 i x d e1 e2).keep hp hs⟩
theorem RpA.nil {S : List Addr} {H : Hp} : RpA S H [] [] := ⟨rfl, fun i x d e => by simp at e⟩
theorem RpA.cons {S : List Addr} {H : Hp} {x : V} {xs : List V} {d : D} {ds : List D} (h : Rp S H x d) (t : RpA S H xs ds) : RpA S H (x :: xs) (d :: ds) :=
  ⟨by simp [t.1], fun i y e h1 h2 => by
    cases i with
    | zero => simp at h1 h2; subst h1; subst h2; exact h
    | succ i => exact t.2 i y e (by simpa using h1) (by simpa using h2)⟩
theorem RpA.head {S : List Addr} {H : Hp} {x : V} {xs : List V} {d : D} {ds : List D} (t : RpA S H (x :: xs) (d :: ds)) : Rp S H x d := t.2 0 x d rfl rfl
theorem RpA.tail {S : List Addr} {H : Hp} {x : V} {xs : List V} {d : D} {ds : List D} (t : RpA S H (x :: xs) (d :: ds)) : RpA S H xs ds :=
  ⟨by simpa using t.1, fun i y e h1 h2 => t.2 (i + 1) y e (by simpa using h1) (by simpa using h2)⟩
theorem RpA.append {S : List Addr} {H : Hp} : ∀ {xs : List V} {ds : List D} {ys : List V} {es : List D}, RpA S H xs ds → RpA S H ys es → RpA S H (xs ++ ys) (ds ++ es)
  | [], [], _, _, _, h => h
  | x :: xs, d :: ds, _, _, h, t => RpA.cons h.head (RpA.append h.tail t)
  | [], _ :: _, _, _, h, _ => by have := h.1; simp at this
  | _ :: _, [], _, _, h, _ => by have := h.1; simp at this
theorem RpA.get {S : List Addr} {H : Hp} {xs : List V} {ds : List D} (h : RpA S H xs ds) {i : Nat} {d : D} (e : ds[i]? = some d) : ∃ x, xs[i]? = some x ∧ Rp S H x d := by
  have hi : i < ds.length := (List.getElem?_eq_some_iff.mp e).1
  have hx : i < xs.length := by rw [h.1]; exact hi
  exact ⟨xs[i], List.getElem?_eq_getElem hx, h.2 i _ d (List.getElem?_eq_getElem hx) e⟩
theorem RpA.at {S : List Addr} {H : Hp} {xs : List V} {ds : List D} (h : RpA S H xs ds) {i : Nat} {x : V} (e : xs[i]? = some x) : ∃ d, ds[i]? = some d ∧ Rp S H x d := by
  have hi : i < xs.length := (List.getElem?_eq_some_iff.mp e).1
  have hx : i < ds.length := by rw [← h.1]; exact hi
  exact ⟨ds[i], List.getElem?_eq_getElem hx, h.2 i x _ e (List.getElem?_eq_getElem hx)⟩
theorem RpA.take {S : List Addr} {H : Hp} {xs : List V} {ds : List D} (h : RpA S H xs ds) (n : Nat) : RpA S H (xs.take n) (ds.take n) :=
  ⟨by simp [h.1], fun i x d e1 e2 => by
    rw [List.getElem?_take] at e1 e2
    split at e1
    · rename_i hi; rw [if_pos hi] at e2; exact h.2 i x d e1 e2
    · cases e1⟩
theorem RpA.drop {S : List Addr} {H : Hp} {xs : List V} {ds : List D} (h : RpA S H xs ds) (n : Nat) : RpA S H (xs.drop n) (ds.drop n) :=
  ⟨by simp [h.1], fun i x d e1 e2 => by
    rw [List.getElem?_drop] at e1 e2
    exact h.2 _ x d e1 e2⟩
theorem RpA.set {S : List Addr} {H : Hp} {xs : List V} {ds : List D} (h : RpA S H xs ds) (n : Nat) {x : V} {d : D} (hx : Rp S H x d) : RpA S H (xs.set n x) (ds.set n d) :=
  ⟨by simp [h.1], fun i y e e1 e2 => by
    rw [List.getElem?_set] at e1 e2
    split at e1
    · rename_i hi
      rw [if_pos hi] at e2
      rw [h.1] at e1
      split at e1
      · rename_i hl; rw [if_pos hl] at e2; cases e1; cases e2; exact hx
      · cases e1
    · rename_i hi
      rw [if_neg hi] at e2
      exact h.2 i y e e1 e2⟩
theorem RpA.reverse {S : List Addr} {H : Hp} : ∀ {xs : List V} {ds : List D}, RpA S H xs ds → RpA S H xs.reverse ds.reverse
  | [], [], h => h
  | x :: xs, d :: ds, h => by
    rw [List.reverse_cons, List.reverse_cons]
    exact RpA.append (RpA.reverse h.tail) (RpA.cons h.head RpA.nil)
  | [], _ :: _, h => by have := h.1; simp at this
  | _ :: _, [], h => by have := h.1; simp at this
theorem rp_tup {S : List Addr} {H : Hp} {a : Addr} {xs : List V} {ds : List D} (n : a ∉ S) (e : H a = some (.tup xs)) (h : RpA S H xs ds) : Rp S H (.ref a) (.tup ds) := .tup n e h.1 h.2
theorem rp_lst {S : List Addr} {H : Hp} {a : Addr} {xs : List V} {ds : List D} (n : a ∉ S) (e : H a = some (.lst xs)) (h : RpA S H xs ds) : Rp S H (.ref a) (.lst ds) := .lst n e h.1 h.2
theorem Rp.inv_tup {S : List Addr} {H : Hp} {v : V} {ds : List D} (h : Rp S H v (.tup ds)) : ∃ a xs, v = .ref a ∧ a ∉ S ∧ H a = some (.tup xs) ∧ RpA S H xs ds := by
  cases h with
  | tup n e l k => exact ⟨_, _, rfl, n, e, l, k⟩
theorem Rp.inv_lst {S : List Addr} {H : Hp} {v : V} {ds : List D} (h : Rp S H v (.lst ds)) : ∃ a xs, v = .ref a ∧ a ∉ S ∧ H a = some (.lst xs) ∧ RpA S H xs ds := by
  cases h with
  | lst n e l k => exact ⟨_, _, rfl, n, e, l, k⟩
theorem Rp.inv_int {S : List Addr} {H : Hp} {v : V} {i : Int} (h : Rp S H v (.int i)) : v = .int i := by cases h; rfl
theorem Rp.inv_bl {S : List Addr} {H : Hp} {v : V} {i : Bool} (h : Rp S H v (.bl i)) : v = .bl i := by cases h; rfl
theorem Rp.inv_str {S : List Addr} {H : Hp} {v : V} {i : Str} (h : Rp S H v (.str i)) : v = .str i := by cases h; rfl
theorem Rp.inv_ref {S : List Addr} {H : Hp} {v : V} {i : Addr} (h : Rp S H v (.ref i)) : v = .ref i := by cases h; rfl
theorem Rp.inv_ty {S : List Addr} {H : Hp} {v : V} {i : String} (h : Rp S H v (.ty i)) : v = .ty i := by cases h; rfl
theorem Rp.inv_non {S : List Addr} {H : Hp} {v : V} (h : Rp S H v .non) : v = .non := by cases h; rfl

/-! ### slots -/
/-- a slot holds data; or a list of its own at q; or another thing v, of which P holds, at the addresses R -/
inductive EV where
  | dat (d : D)
  | own (q : Addr) (ds : List D)
  | res (R : List Addr) (v : V) (P : List Addr → Hp → Prop)
def EV.foot : EV → List Addr
  | .dat _ => []
  | .own q _ => [q]
  | .res R _ _ => R
/-- what never changes: tuples, things that are known as they lie (the script) -/
def Solid : HO → Prop
  | .tup _ => True
  | .frz _ _ => True
  | _ => False
/-- a thing's word: stands as long as its own objects, all data and all solid ones do -/
def Sound (R : List Addr) (P : List Addr → Hp → Prop) : Prop := ∀ (S S' : List Addr) (H H' : Hp), P S H → (∀ b o, H b = some o → (b ∈ R ∨ b ∉ S ∨ Solid o) → H' b = some o) → (∀ a o, H a = some o → a ∈ S' → a ∈ S) → P S' H'
def EvOk (S : List Addr) (H : Hp) (o : Option V) : EV → Prop
  | .dat d => ∃ v, o = some v ∧ Rp S H v d
  | .own q ds => o = some (.ref q) ∧ q ∈ S ∧ ∃ xs, H q = some (.lst xs) ∧ RpA S H xs ds
  | .res R v P => o = some v ∧ (∀ a ∈ R, a ∈ S) ∧ P S H ∧ Sound R P
abbrev Rho := List (Option EV)
structure State where
  S : List Addr
  ρ : Rho
/-- what an activation starts from: the heap, what it may change there, what the caller keeps apart; what must stay readable meanwhile; what stands apart meanwhile -/
structure Bs where
  H : Hp
  M : List Addr
  S : List Addr
  keep : V → D → Prop
  held : Addr → HO → Prop
structure Ok (B : Bs) (Z : State) (σ : St) (H : Hp) : Prop where
  len : Z.ρ.length = σ.length
  env : ∀ (i : Nat) (ev : EV), Z.ρ[i]? = some (some ev) → ∃ o, σ[i]? = some o ∧ EvOk Z.S H o ev
  sep : ∀ (i j : Nat) (e f : EV), Z.ρ[i]? = some (some e) → Z.ρ[j]? = some (some f) → ∀ a, a ∈ e.foot → a ∈ f.foot → i = j
  mine : ∀ (i : Nat) (e : EV), Z.ρ[i]? = some (some e) → ∀ a ∈ e.foot, a ∈ B.M ∨ B.H a = none
  dom : ∀ a ∈ Z.S, ∃ o, H a = some o ∧ ¬ Solid o
  out : ∀ b o, B.H b = some o → b ∉ B.M → H b = some o
  sub : ∀ a ∈ B.S, a ∈ Z.S
  tups : ∀ b o, B.H b = some o → Solid o → H b = some o
  bsd : ∀ a ∈ B.S, ∃ o, B.H a = some o
  kept : ∀ x c, B.keep x c → Rp Z.S H x c
  held : ∀ a o, B.held a o → a ∈ Z.S ∧ H a = some o ∧ ∀ (i : Nat) (e : EV), Z.ρ[i]? = some (some e) → a ∉ e.foot
  msub : ∀ a ∈ B.M, a ∈ Z.S
  ownM : ∀ (i : Nat) (q : Addr) (ds : List D), Z.ρ[i]? = some (some (.own q ds)) → q ∉ B.M

theorem Pres.refl {S : List Addr} {H : Hp} : Pres S H H := fun _ _ e _ => e
theorem Pres.trans {S : List Addr} {H H1 H2 : Hp} (a : Pres S H H1) (b : Pres S H1 H2) : Pres S H H2 := fun c o e n => b c o (a c o e n) n

theorem EvOk.same {S : List Addr} {H H' : Hp} {o : Option V} {e : EV} (s : Same H H') (h : EvOk S H o e) : EvOk S H' o e := by
  cases e with
  | dat d => obtain ⟨v, e, r⟩ := h; exact ⟨v, e, r.keep (Pres.of_same s) fun _ _ _ z => z⟩
  | own q ds => obtain ⟨e, m, xs, hq, r⟩ := h; exact ⟨e, m, xs, s _ _ hq, r.keep (Pres.of_same s) fun _ _ _ z => z⟩
  | res R v P => obtain ⟨e, m, p, sd⟩ := h; exact ⟨e, m, sd S S H H' p (fun b o e _ => s b o e) (fun _ _ _ z => z), sd⟩
theorem Ok.same {B : Bs} {Z : State} {σ : St} {H H' : Hp} (k : Ok B Z σ H) (s : Same H H') : Ok B Z σ H' :=
  ⟨k.len, fun i ev e => by obtain ⟨o, h1, h2⟩ := k.env i ev e; exact ⟨o, h1, h2.same s⟩, k.sep, k.mine, fun a m => by obtain ⟨o, e, n⟩ := k.dom a m; exact ⟨o, s _ _ e, n⟩, fun b o e n => s _ _ (k.out b o e n), k.sub, fun b o e n => s _ _ (k.tups b o e n), k.bsd,
    fun x c m => (k.kept x c m).keep (Pres.of_same s) fun _ _ _ z => z, fun a o m => by obtain ⟨h1, h2, h3⟩ := k.held a o m; exact ⟨h1, s _ _ h2, h3⟩, k.msub, k.ownM⟩
theorem Ok.fresh {B : Bs} {Z : State} {σ : St} {H : Hp} (k : Ok B Z σ H) {p : Addr} (h : H p = none) : p ∉ Z.S := fun m => by
  obtain ⟨o, e, _⟩ := k.dom p m
  rw [h] at e
  cases e
theorem same_upd {H : Hp} {p : Addr} {o : HO} (h : H p = none) : Same H (upd H p o) := fun b x e => by
  rw [upd_ne (ne_of_none e h)]
  exact e
theorem set_cases {ρ : Rho} {i j : Nat} {x e : EV} (h : (ρ.set i (some x))[j]? = some (some e)) : (i = j ∧ e = x ∧ i < ρ.length) ∨ (i ≠ j ∧ ρ[j]? = some (some e)) := by
  by_cases hij : i = j
  · subst hij
    have hl : i < ρ.length := by
      have := (List.getElem?_eq_some_iff.mp h).1
      simpa using this
    rw [List.getElem?_set_self hl] at h
    cases h
    exact .inl ⟨rfl, rfl, hl⟩
  · rw [List.getElem?_set_ne hij] at h
    exact .inr ⟨hij, h⟩
/-- slot i takes data -/
theorem Ok.set {B : Bs} {Z : State} {σ : St} {H : Hp} (k : Ok B Z σ H) (i : Nat) {v : V} {d : D} (r : Rp Z.S H v d) : Ok B ⟨Z.S, Z.ρ.set i (some (.dat d))⟩ (σ.set i (some v)) H := by
  refine ⟨by simp [k.len], fun j ev e => ?_, fun j l e f h1 h2 a m1 m2 => ?_, fun j e h a m => ?_, k.dom, k.out, k.sub, k.tups, k.bsd, k.kept, fun a o m => ?_, k.msub, fun j q ds h => (set_cases h).elim (fun z => by cases z.2.1) fun z => k.ownM j q ds z.2⟩
  · rcases set_cases e with ⟨rfl, rfl, hl⟩ | ⟨hij, e⟩
    · rw [List.getElem?_set_self (by rw [← k.len]; exact hl)]
      exact ⟨_, rfl, v, rfl, r⟩
    · rw [List.getElem?_set_ne hij]
      exact k.env j ev e
  · rcases set_cases h1 with ⟨rfl, rfl, _⟩ | ⟨_, h1⟩
    · cases m1
    · rcases set_cases h2 with ⟨rfl, rfl, _⟩ | ⟨_, h2⟩
      · cases m2
      · exact k.sep j l e f h1 h2 a m1 m2
  · rcases set_cases h with ⟨rfl, rfl, _⟩ | ⟨_, h⟩
    · cases m
    · exact k.mine j e h a m
  · obtain ⟨h1, h2, h3⟩ := k.held a o m
    refine ⟨h1, h2, fun j e h => ?_⟩
    rcases set_cases h with ⟨rfl, rfl, _⟩ | ⟨_, h⟩
    · intro z; cases z
    · exact h3 j e h
/-- less is asked -/
theorem Ok.less {B B' : Bs} {Z : State} {σ : St} {H : Hp} (k : Ok B Z σ H) (e1 : B'.H = B.H) (e2 : B'.M = B.M) (e3 : B'.S = B.S) (e4 : ∀ x c, B'.keep x c → B.keep x c) (e5 : ∀ a o, B'.held a o → B.held a o) : Ok B' Z σ H :=
  ⟨k.len, k.env, k.sep, by rw [e1, e2]; exact k.mine, k.dom, by rw [e1, e2]; exact k.out, by rw [e3]; exact k.sub, by rw [e1]; exact k.tups, by rw [e1, e3]; exact k.bsd, fun x c m => k.kept x c (e4 x c m), fun a o m => k.held a o (e5 a o m), by rw [e2]; exact k.msub, by rw [e2]; exact k.ownM⟩
/-- all that can be read here is kept -/
abbrev Bs.all (B : Bs) (S : List Addr) (H : Hp) : Bs := { B with keep := fun x c => B.keep x c ∨ Rp S H x c }
theorem Ok.all {B : Bs} {Z : State} {σ : St} {H : Hp} (k : Ok B Z σ H) : Ok (B.all Z.S H) Z σ H :=
  ⟨k.len, k.env, k.sep, k.mine, k.dom, k.out, k.sub, k.tups, k.bsd, fun x c m => m.elim (k.kept x c) id, k.held, k.msub, k.ownM⟩
theorem Ok.unall {B : Bs} {Z : State} {σ : St} {H H0 : Hp} {S : List Addr} (k : Ok (B.all S H0) Z σ H) : Ok B Z σ H := k.less rfl rfl rfl (fun _ _ m => .inl m) fun _ _ m => m
end JL

namespace JL
open PySem PySem.Spec L2
/-! ### where one stands -/
structure Glob where
  P : Program
  w : World
  K : PySem.W.Frag
  mg : Str → Option Value
  base : Heap
structure Ctx where
  g : Glob
  N : List Str
  sc : Scope
  k : Nat
  fn : Str → Bool
  top : Bool
structure Fits (G : Ctx) (X : Cx) : Prop where
  prog : X.prog = G.g.P
  w : X.w = G.g.w
  K : X.K = G.g.K
  mg : X.mg = G.g.mg
  base : X.base = G.g.base
  N : X.N = G.N
  sc : X.env.scope = G.sc
  room : Room G.k X.A
  calm : X.calm = true
  po : PassesOwn (model X.prog X.w) X.A X.env X.xe
  fn : ∀ x, G.fn x = true → X.fn x = true
  nd : G.N.Nodup
  top : G.top = true → X.stack = X.env :: X.outer ∧ X.env.frame = some X.env.locals ∧ X.ex = []
def Kp (S : List Addr) (H : Hp) (S' : List Addr) (H' : Hp) : Prop := ∀ x c, Rp S H x c → Rp S' H' x c
theorem Kp.refl {S : List Addr} {H : Hp} : Kp S H S H := fun _ _ h => h
theorem Kp.trans {S S1 S2 : List Addr} {H H1 H2 : Hp} (a : Kp S H S1 H1) (b : Kp S1 H1 S2 H2) : Kp S H S2 H2 := fun x c h => b x c (a x c h)
theorem Kp.same {S : List Addr} {H H' : Hp} (s : Same H H') : Kp S H S H' := fun _ _ h => h.keep (Pres.of_same s) fun _ _ _ z => z
theorem Kp.all {S S' : List Addr} {H H' : Hp} (k : Kp S H S' H') {xs : List V} {ds : List D} (h : RpA S H xs ds) : RpA S' H' xs ds := ⟨h.1, fun i x d e1 e2 => k _ _ (h.2 i x d e1 e2)⟩

def wE (X : Cx) (e : Expr) : TE := fun σ H Q => ∃ t, PE X e t ∧ t σ H Q
def wT (X : Cx) (e : Expr) : TT := fun σ H Q => ∃ t, PT X e t ∧ t σ H Q
def wW (X : Cx) (e : Expr) : TT := fun σ H Q => ∃ t, PW X e t ∧ t σ H Q
def wA (X : Cx) (es : List Expr) : TA := fun σ H Q => ∃ t, PA X es t ∧ t σ H Q
def wS (X : Cx) (st : Stmt) : TS := fun D σ H => ∃ t, PS X st t ∧ t D σ H
def wSs (X : Cx) (st : List Stmt) : TS := fun D σ H => ∃ t, PSs X st t ∧ t D σ H
theorem p_E {X : Cx} {e : Expr} : PE X e (wE X e) := ⟨fun pins s σ H Q I h => by obtain ⟨t, p, q⟩ := h; exact p.run pins s σ H Q I q⟩
theorem p_T {X : Cx} {e : Expr} : PT X e (wT X e) := ⟨fun pins s σ H Q I h => by obtain ⟨t, p, q⟩ := h; exact p.run pins s σ H Q I q⟩
theorem p_W {X : Cx} {e : Expr} : PW X e (wW X e) := ⟨fun wh pins s σ H Q I h => by obtain ⟨t, p, q⟩ := h; exact p.run wh pins s σ H Q I q⟩
theorem p_A {X : Cx} {es : List Expr} : PA X es (wA X es) := ⟨fun pos pins s σ H Q I h => by obtain ⟨t, p, q⟩ := h; exact p.run pos pins s σ H Q I q⟩
theorem p_S {X : Cx} {st : Stmt} : PS X st (wS X st) := ⟨fun pins s σ H D I h => by obtain ⟨t, p, q⟩ := h; exact p.run pins s σ H D I q⟩
theorem p_Ss {X : Cx} {st : List Stmt} : PSs X st (wSs X st) := ⟨fun pins s σ H D I h => by obtain ⟨t, p, q⟩ := h; exact p.run pins s σ H D I q⟩

/-- e gives d -/
def JE (G : Ctx) (e : Expr) (Z : State) (d : D) (Z' : State) : Prop :=
  ∀ (X : Cx), Fits G X → ∀ (B : Bs) (σ : St) (H : Hp), Ok B Z σ H → ∀ Q : VK, (∀ v H', Ok B Z' σ H' → Kp Z.S H Z'.S H' → Rp Z'.S H' v d → Q v H') → wE X e σ H Q
def JT (G : Ctx) (e : Expr) (Z : State) (b : Bool) (Z' : State) : Prop :=
  ∀ (X : Cx), Fits G X → ∀ (B : Bs) (σ : St) (H : Hp), Ok B Z σ H → ∀ Q : Bool → Hp → Prop, (∀ H', Ok B Z' σ H' → Kp Z.S H Z'.S H' → Q b H') → wT X e σ H Q
def JW (G : Ctx) (e : Expr) (Z : State) (b : Bool) (Z' : State) : Prop :=
  ∀ (X : Cx), Fits G X → ∀ (B : Bs) (σ : St) (H : Hp), Ok B Z σ H → ∀ Q : Bool → Hp → Prop, (∀ H', Ok B Z' σ H' → Kp Z.S H Z'.S H' → Q b H') → wW X e σ H Q
def JA (G : Ctx) (es : List Expr) (Z : State) (ds : List D) (Z' : State) : Prop :=
  ∀ (X : Cx), Fits G X → ∀ (B : Bs) (σ : St) (H : Hp), Ok B Z σ H → ∀ Q : List V → Hp → Prop, (∀ vs H', Ok B Z' σ H' → Kp Z.S H Z'.S H' → RpA Z'.S H' vs ds → Q vs H') → wA X es σ H Q
/-- e raises an error of the class at C -/
def JX (G : Ctx) (e : Expr) (Z : State) (C : Addr) (Z' : State) : Prop :=
  ∀ (X : Cx), Fits G X → ∀ (B : Bs) (σ : St) (H : Hp), Ok B Z σ H → ∀ (W : WX), Takes X W → (∀ H', Ok B Z' σ H' → W (.ref C) none σ H') → ∀ Q, wE X e σ H Q

section
variable {G : Ctx} {Z Z1 Z2 Z3 : State} {a b c : Expr} {pos : Pos} {d d1 d2 : D}

/-! ### names, constants -/
def visB (sc : Scope) (x : Str) : Bool := match sc.names.lookup x with
  | some .local => true
  | some .cell => true
  | some .free => true
  | _ => false
theorem vis_of {sc : Scope} {x : Str} (h : visB sc x = true) : Vis sc x := by
  unfold visB at h
  unfold Vis
  split at h <;> simp_all
def nmB (N : List Str) (sc : Scope) (i : Nat) (x : Str) : Bool := decide (N[i]? = some x) && (visB sc x && (!(x == ("__debug__" : Str)) && !(x == ("__classdict__" : Str))))
theorem je_name (i : Nat) {x : Str} (h : Z.ρ[i]? = some (some (.dat d))) (hn : nmB G.N G.sc i x = true) : JE G (.Name x pos) Z d Z := by
  intro X f B σ H k Q q
  simp only [nmB, Bool.and_eq_true, decide_eq_true_eq, Bool.not_eq_true'] at hn
  obtain ⟨h1, h2, h3, h4⟩ := hn
  obtain ⟨o, e, v, rfl, r⟩ := k.env i _ h
  exact ⟨tVar i, pe_var (by rw [f.N]; exact h1) (by rw [f.sc]; exact vis_of h2) h3 h4, v, e, q v H k Kp.refl r⟩
theorem nm (i : Nat) {x : Str} (h : Z.ρ[i]? = some (some (.dat d))) (hn : nmB G.N G.sc i x = true := by kernel_rfl) : JE G (.Name x pos) Z d Z := je_name i h hn
theorem je_int {i : Int} {j} : JE G (.Constant (.int i) j pos) Z (.int i) Z := fun X f B σ H k Q q => ⟨_, pe_int, q _ H k Kp.refl (.int i)⟩
theorem je_bl {i : Bool} {j} : JE G (.Constant (.bool i) j pos) Z (.bl i) Z := fun X f B σ H k Q q => ⟨_, pe_bl, q _ H k Kp.refl (.bl i)⟩
theorem je_non {j} : JE G (.Constant .none j pos) Z .non Z := fun X f B σ H k Q q => ⟨_, pe_non, q _ H k Kp.refl .non⟩
theorem je_str {x : Str} {j} : JE G (.Constant (.str x) j pos) Z (.str x) Z := fun X f B σ H k Q q => ⟨_, pe_str, q _ H k Kp.refl (.str x)⟩
def glB (sc : Scope) (x : Str) : Bool := (match sc.names.lookup x with
  | some .globalImplicit => true
  | _ => false) && (!(x == ("__debug__" : Str)) && decide (x ≠ "__name__"))
theorem gl_of {X : Cx} {x : Str} (f : Fits G X) (h : glB G.sc x = true) : Gl X x ∧ (x == ("__debug__" : Str)) = false ∧ x ≠ "__name__" := by
  simp only [glB, Bool.and_eq_true, Bool.not_eq_true', decide_eq_true_eq] at h
  obtain ⟨h1, h2, h3⟩ := h
  refine ⟨?_, h2, h3⟩
  unfold Gl Env.kindOf
  rw [f.sc]
  split at h1
  · assumption
  · cases h1
/-- a class or def of the module, as a value -/
theorem je_glob {x : Str} {u : Addr} (hm : G.g.mg x = some (.ref u)) (hg : glB G.sc x = true := by kernel_rfl) : JE G (.Name x pos) Z (.ref u) Z := by
  intro X f B σ H k Q q
  obtain ⟨h1, h2, _⟩ := gl_of f hg
  exact ⟨_, pe_glob (v := .ref u) h1 (by rw [f.mg]; exact hm) rfl h2, q _ H k Kp.refl (.ref u)⟩
/-- a built-in type, as a value -/
theorem je_ty {x : Str} {T : String} (hm : G.g.mg x = none) (hv : bootBuiltins x = some (.type T) := by decide +kernel) (hg : glB G.sc x = true := by kernel_rfl) : JE G (.Name x pos) Z (.ty T) Z := by
  intro X f B σ H k Q q
  obtain ⟨h1, h2, h3⟩ := gl_of f hg
  exact ⟨_, pe_bltn (v := .ty T) h1 (by rw [f.mg]; exact hm) hv rfl h3 h2, q _ H k Kp.refl (.ty T)⟩

/-! ### operators -/
theorem je_bin {op : Operator} {r : Cx → R2} (ho : ∀ X, Fits G X → OpR X (binaryOp op) (r X)) (ha : JE G a Z d1 Z1) (hb : JE G b Z1 d2 Z2)
    (hr : ∀ X, Fits G X → ∀ B σ H x y (Q : VK), Ok B Z2 σ H → Rp Z2.S H x d1 → Rp Z2.S H y d2 → (∀ v H', Ok B Z3 σ H' → Kp Z2.S H Z3.S H' → Rp Z3.S H' v d → Q v H') → r X x y H Q) : JE G (.BinOp a op b pos) Z d Z3 := by
  intro X f B σ H k Q q
  refine ⟨_, pe_op (ho X f) p_E p_E, ha X f B σ H k _ fun x H1 k1 p1 r1 => hb X f B σ H1 k1 _ fun y H2 k2 p2 r2 => ?_⟩
  exact hr X f B σ H2 x y Q k2 (p2 _ _ r1) r2 fun v H3 k3 p3 r3 => q v H3 k3 ((p1.trans p2).trans p3) r3
theorem je_cmp {op : CmpOp} {r : Cx → R2} (ho : ∀ X, Fits G X → OpR X (compareOp op) (r X)) (hm : behindInMarks op b = false) (ha : JE G a Z d1 Z1) (hb : JE G b Z1 d2 Z2)
    (hr : ∀ X, Fits G X → ∀ B σ H x y (Q : VK), Ok B Z2 σ H → Rp Z2.S H x d1 → Rp Z2.S H y d2 → (∀ v H', Ok B Z3 σ H' → Kp Z2.S H Z3.S H' → Rp Z3.S H' v d → Q v H') → r X x y H Q) : JE G (.Compare a [op] [b] pos) Z d Z3 := by
  intro X f B σ H k Q q
  refine ⟨_, pe_cmpR (ho X f) p_E p_E hm, ha X f B σ H k _ fun x H1 k1 p1 r1 => hb X f B σ H1 k1 _ fun y H2 k2 p2 r2 => ?_⟩
  exact hr X f B σ H2 x y Q k2 (p2 _ _ r1) r2 fun v H3 k3 p3 r3 => q v H3 k3 ((p1.trans p2).trans p3) r3
theorem jt_cmp {op : CmpOp} {r : Cx → R2} {t : Bool} (ho : ∀ X, Fits G X → OpR X (compareOp op) (r X)) (hm : behindInMarks op b = false) (ha : JE G a Z d1 Z1) (hb : JE G b Z1 d2 Z2)
    (hr : ∀ X, Fits G X → ∀ B σ H x y (Q : VK), Ok B Z2 σ H → Rp Z2.S H x d1 → Rp Z2.S H y d2 → (∀ v H', Ok B Z3 σ H' → Kp Z2.S H Z3.S H' → Rp Z3.S H' v (.bl t) → Q v H') → r X x y H Q) : JT G (.Compare a [op] [b] pos) Z t Z3 := by
  intro X f B σ H k Q q
  refine ⟨_, pt_cmpR (ho X f) p_E p_E hm, ha X f B σ H k _ fun x H1 k1 p1 r1 => hb X f B σ H1 k1 _ fun y H2 k2 p2 r2 => ?_⟩
  exact hr X f B σ H2 x y _ k2 (p2 _ _ r1) r2 fun v H3 k3 p3 r3 => ⟨t, r3.inv_bl, q H3 k3 ((p1.trans p2).trans p3)⟩
/-- the reading of an operator on two ints -/
theorem r_I {C : Int → Int → Prop} {g : Int → Int → V} {i j : Int} (hc : C i j) (hg : ∀ S H, Rp S H (g i j) d) : ∀ X : Cx, Fits G X → ∀ (B : Bs) (σ : St) (H : Hp) (x y : V) (Q : VK), Ok B Z σ H → Rp Z.S H x (.int i) → Rp Z.S H y (.int j) → (∀ v H', Ok B Z σ H' → Kp Z.S H Z.S H' → Rp Z.S H' v d → Q v H') → rI C g x y H Q :=
  fun X f B σ H x y Q k r1 r2 q => ⟨i, j, r1.inv_int, r2.inv_int, hc, q _ H k Kp.refl (hg _ _)⟩
theorem r_I0 {g : Int → Int → V} {i j : Int} (hg : ∀ S H, Rp S H (g i j) d) : ∀ X : Cx, Fits G X → ∀ (B : Bs) (σ : St) (H : Hp) (x y : V) (Q : VK), Ok B Z σ H → Rp Z.S H x (.int i) → Rp Z.S H y (.int j) → (∀ v H', Ok B Z σ H' → Kp Z.S H Z.S H' → Rp Z.S H' v d → Q v H') → rI0 g x y H Q :=
  fun X f B σ H x y Q k r1 r2 q => ⟨i, j, r1.inv_int, r2.inv_int, q _ H k Kp.refl (hg _ _)⟩
variable {i j l : Int}
theorem je_add (ha : JE G a Z (.int i) Z1) (hb : JE G b Z1 (.int j) Z2) : JE G (.BinOp a .Add b pos) Z (.int (i + j)) Z2 := je_bin (fun _ _ => op_add) ha hb (r_I0 fun _ _ => .int _)
theorem je_sub (ha : JE G a Z (.int i) Z1) (hb : JE G b Z1 (.int j) Z2) : JE G (.BinOp a .Sub b pos) Z (.int (i - j)) Z2 := je_bin (fun _ _ => op_sub) ha hb (r_I0 fun _ _ => .int _)
theorem je_mul (ha : JE G a Z (.int i) Z1) (hb : JE G b Z1 (.int j) Z2) (hc : CMulW i j) : JE G (.BinOp a .Mult b pos) Z (.int (i * j)) Z2 := je_bin (fun _ _ => op_mulW) ha hb (r_I hc fun _ _ => .int _)
theorem je_fdiv (ha : JE G a Z (.int i) Z1) (hb : JE G b Z1 (.int j) Z2) (hc : CDivW i j) : JE G (.BinOp a .FloorDiv b pos) Z (.int (i / j)) Z2 := je_bin (fun _ _ => op_fdivW) ha hb (r_I hc fun _ _ => .int _)
theorem je_mod (ha : JE G a Z (.int i) Z1) (hb : JE G b Z1 (.int j) Z2) (hc : 0 < j) : JE G (.BinOp a .Mod b pos) Z (.int (i % j)) Z2 := je_bin (fun _ _ => op_mod) ha hb (r_I hc fun _ _ => .int _)
theorem je_neg (ha : JE G a Z (.int i) Z1) : JE G (.UnaryOp .USub a pos) Z (.int (-i)) Z1 := fun X f B σ H k Q q =>
  ⟨_, pe_un un_neg p_E, ha X f B σ H k _ fun x H1 k1 p1 r1 => ⟨i, r1.inv_int, q _ H1 k1 p1 (.int _)⟩⟩
theorem je_lt (ha : JE G a Z (.int i) Z1) (hb : JE G b Z1 (.int j) Z2) : JE G (.Compare a [.Lt] [b] pos) Z (.bl (decide (i < j))) Z2 := je_cmp (fun _ _ => op_lt) (nomark _) ha hb (r_I0 fun _ _ => .bl _)
theorem je_le (ha : JE G a Z (.int i) Z1) (hb : JE G b Z1 (.int j) Z2) : JE G (.Compare a [.LtE] [b] pos) Z (.bl (decide (i ≤ j))) Z2 := je_cmp (fun _ _ => op_le) (nomark _) ha hb (r_I0 fun _ _ => .bl _)
theorem je_gt (ha : JE G a Z (.int i) Z1) (hb : JE G b Z1 (.int j) Z2) : JE G (.Compare a [.Gt] [b] pos) Z (.bl (decide (j < i))) Z2 := je_cmp (fun _ _ => op_gt) (nomark _) ha hb (r_I0 fun _ _ => .bl _)
theorem je_ge (ha : JE G a Z (.int i) Z1) (hb : JE G b Z1 (.int j) Z2) : JE G (.Compare a [.GtE] [b] pos) Z (.bl (decide (j ≤ i))) Z2 := je_cmp (fun _ _ => op_ge) (nomark _) ha hb (r_I0 fun _ _ => .bl _)
theorem jt_lt (ha : JE G a Z (.int i) Z1) (hb : JE G b Z1 (.int j) Z2) : JT G (.Compare a [.Lt] [b] pos) Z (decide (i < j)) Z2 := jt_cmp (fun _ _ => op_lt) (nomark _) ha hb (r_I0 fun _ _ => .bl _)
theorem jt_le (ha : JE G a Z (.int i) Z1) (hb : JE G b Z1 (.int j) Z2) : JT G (.Compare a [.LtE] [b] pos) Z (decide (i ≤ j)) Z2 := jt_cmp (fun _ _ => op_le) (nomark _) ha hb (r_I0 fun _ _ => .bl _)
theorem jt_gt (ha : JE G a Z (.int i) Z1) (hb : JE G b Z1 (.int j) Z2) : JT G (.Compare a [.Gt] [b] pos) Z (decide (j < i)) Z2 := jt_cmp (fun _ _ => op_gt) (nomark _) ha hb (r_I0 fun _ _ => .bl _)
theorem jt_ge (ha : JE G a Z (.int i) Z1) (hb : JE G b Z1 (.int j) Z2) : JT G (.Compare a [.GtE] [b] pos) Z (decide (j ≤ i)) Z2 := jt_cmp (fun _ _ => op_ge) (nomark _) ha hb (r_I0 fun _ _ => .bl _)
/-- == of two ints -/
theorem r_eqI {t : Bool} (ht : decide (i = j) = t) : ∀ X : Cx, Fits G X → ∀ (B : Bs) (σ : St) (H : Hp) (x y : V) (Q : VK), Ok B Z σ H → Rp Z.S H x (.int i) → Rp Z.S H y (.int j) → (∀ v H', Ok B Z σ H' → Kp Z.S H Z.S H' → Rp Z.S H' v (.bl t) → Q v H') → rEq x y H Q :=
  fun X f B σ H x y Q k r1 r2 q => by
    cases r1.inv_int; cases r2.inv_int
    refine ⟨rfl, ?_⟩
    have e : decide (V.int i = V.int j) = t := by rw [← ht]; simp
    rw [e]
    exact q _ H k Kp.refl (.bl _)
theorem r_neI {t : Bool} (ht : (!decide (i = j)) = t) : ∀ X : Cx, Fits G X → ∀ (B : Bs) (σ : St) (H : Hp) (x y : V) (Q : VK), Ok B Z σ H → Rp Z.S H x (.int i) → Rp Z.S H y (.int j) → (∀ v H', Ok B Z σ H' → Kp Z.S H Z.S H' → Rp Z.S H' v (.bl t) → Q v H') → rNe x y H Q :=
  fun X f B σ H x y Q k r1 r2 q => by
    cases r1.inv_int; cases r2.inv_int
    refine ⟨rfl, ?_⟩
    have e : (!decide (V.int i = V.int j)) = t := by rw [← ht]; simp
    rw [e]
    exact q _ H k Kp.refl (.bl _)
theorem je_eqI (ha : JE G a Z (.int i) Z1) (hb : JE G b Z1 (.int j) Z2) : JE G (.Compare a [.Eq] [b] pos) Z (.bl (decide (i = j))) Z2 := je_cmp (r := fun _ => rEq) (fun _ _ => op_eq) (nomark _) ha hb (r_eqI rfl)
theorem jt_eqI (ha : JE G a Z (.int i) Z1) (hb : JE G b Z1 (.int j) Z2) : JT G (.Compare a [.Eq] [b] pos) Z (decide (i = j)) Z2 := jt_cmp (r := fun _ => rEq) (fun _ _ => op_eq) (nomark _) ha hb (r_eqI rfl)
theorem je_neI (ha : JE G a Z (.int i) Z1) (hb : JE G b Z1 (.int j) Z2) : JE G (.Compare a [.NotEq] [b] pos) Z (.bl (!decide (i = j))) Z2 := je_cmp (r := fun _ => rNe) (fun _ _ => op_ne) (nomark _) ha hb (r_neI rfl)
theorem jt_neI (ha : JE G a Z (.int i) Z1) (hb : JE G b Z1 (.int j) Z2) : JT G (.Compare a [.NotEq] [b] pos) Z (!decide (i = j)) Z2 := jt_cmp (r := fun _ => rNe) (fun _ _ => op_ne) (nomark _) ha hb (r_neI rfl)
/-- i <= j <= l -/
theorem je_lele (ha : JE G a Z (.int i) Z1) (hb : JE G b Z1 (.int j) Z2) (hc : JE G c Z2 (.int l) Z2) (hm : lastMarks [CmpOp.LtE, CmpOp.LtE] [b, c] = false := by with_unfolding_all rfl) : JE G (.Compare a [.LtE, .LtE] [b, c] pos) Z (.bl (decide (i ≤ j) && decide (j ≤ l))) Z2 := by
  intro X f B σ H k Q q
  refine ⟨_, pe_chain op_le op_le p_E p_E p_E hm, ha X f B σ H k _ fun x H1 k1 p1 r1 => hb X f B σ H1 k1 _ fun y H2 k2 p2 r2 => ⟨i, j, r1.inv_int, r2.inv_int, _, rfl, ?_⟩⟩
  by_cases h : i ≤ j
  · rw [decide_eq_true h]
    refine (if_pos rfl).mpr ?_
    refine hc X f B σ H2 k2 _ fun z H3 k3 p3 r3 => ⟨j, l, r2.inv_int, r3.inv_int, ?_⟩
    have := q (.bl (decide (j ≤ l))) H3 k3 ((p1.trans p2).trans p3)
    rw [decide_eq_true h] at this
    exact this (.bl _)
  · rw [decide_eq_false h]
    refine (if_neg Bool.false_ne_true).mpr ?_
    have := q (.bl false) H2 k2 (p1.trans p2)
    rw [decide_eq_false h] at this
    exact this (.bl _)
theorem jt_lele (ha : JE G a Z (.int i) Z1) (hb : JE G b Z1 (.int j) Z2) (hc : JE G c Z2 (.int l) Z2) (hm : lastMarks [CmpOp.LtE, CmpOp.LtE] [b, c] = false := by with_unfolding_all rfl) : JT G (.Compare a [.LtE, .LtE] [b, c] pos) Z (decide (i ≤ j) && decide (j ≤ l)) Z2 := by
  intro X f B σ H k Q q
  refine ⟨_, pt_chain op_le op_le p_E p_E p_E hm, ha X f B σ H k _ fun x H1 k1 p1 r1 => hb X f B σ H1 k1 _ fun y H2 k2 p2 r2 => ⟨i, j, r1.inv_int, r2.inv_int, _, rfl, ?_⟩⟩
  by_cases h : i ≤ j
  · rw [decide_eq_true h]
    refine (if_pos rfl).mpr ?_
    refine hc X f B σ H2 k2 _ fun z H3 k3 p3 r3 => ⟨j, l, r2.inv_int, r3.inv_int, _, rfl, ?_⟩
    have := q H3 k3 ((p1.trans p2).trans p3)
    rw [decide_eq_true h] at this
    exact this
  · rw [decide_eq_false h]
    refine (if_neg Bool.false_ne_true).mpr ⟨false, rfl, ?_⟩
    have := q H2 k2 (p1.trans p2)
    rw [decide_eq_false h] at this
    exact this

/-! ### and, or, not, tests -/
theorem jt_val {t : Bool} (h : JE G a Z (.bl t) Z1) (he : ∀ env whole, isTrue a env whole = (do let v ← whole; standAt a.pos; holding [v] (truthy v)) := by intro _ _; rfl) : JT G a Z t Z1 := fun X f B σ H k Q q =>
  ⟨_, pt_val p_E (he X.env), h X f B σ H k _ fun x H1 k1 p1 r1 => ⟨t, r1.inv_bl, q H1 k1 p1⟩⟩
theorem jt_not {t : Bool} (h : JT G a Z t Z1) : JT G (.UnaryOp .Not a pos) Z (!t) Z1 := fun X f B σ H k Q q =>
  ⟨_, pt_not p_T, h X f B σ H k _ fun H1 k1 p1 => q H1 k1 p1⟩
theorem je_not {t : Bool} (h : JE G a Z (.bl t) Z1) : JE G (.UnaryOp .Not a pos) Z (.bl (!t)) Z1 := fun X f B σ H k Q q =>
  ⟨_, pe_not p_E, h X f B σ H k _ fun x H1 k1 p1 r1 => ⟨t, r1.inv_bl, q _ H1 k1 p1 (.bl _)⟩⟩
variable {rest : List Expr} {t u : Bool}
theorem jw_and1 (h : JT G a Z t Z1) : JW G (.BoolOp .And [a] pos) Z t Z1 := fun X f B σ H k Q q => ⟨_, pw_and1 p_T, h X f B σ H k Q q⟩
theorem jw_or1 (h : JT G a Z t Z1) : JW G (.BoolOp .Or [a] pos) Z t Z1 := fun X f B σ H k Q q => ⟨_, pw_or1 p_T, h X f B σ H k Q q⟩
theorem jw_and (ha : JT G a Z t Z) (hb : t = true → JW G (.BoolOp .And (b :: rest) pos) Z u Z) : JW G (.BoolOp .And (a :: b :: rest) pos) Z (t && u) Z := fun X f B σ H k Q q =>
  ⟨_, pw_and p_T p_W, ha X f B σ H k _ fun H1 k1 p1 => by
    cases t with
    | true => exact (if_pos rfl).mpr (hb rfl X f B σ H1 k1 Q fun H2 k2 p2 => q H2 k2 (p1.trans p2))
    | false => exact (if_neg Bool.false_ne_true).mpr (q H1 k1 p1)⟩
theorem jw_or (ha : JT G a Z t Z) (hb : t = false → JW G (.BoolOp .Or (b :: rest) pos) Z u Z) : JW G (.BoolOp .Or (a :: b :: rest) pos) Z (t || u) Z := fun X f B σ H k Q q =>
  ⟨_, pw_or p_T p_W, ha X f B σ H k _ fun H1 k1 p1 => by
    cases t with
    | true => exact (if_pos rfl).mpr (q H1 k1 p1)
    | false => exact (if_neg Bool.false_ne_true).mpr (hb rfl X f B σ H1 k1 Q fun H2 k2 p2 => q H2 k2 (p1.trans p2))⟩
/-- the left is false, and the thing goes on -/
theorem jw_orF (ha : JT G a Z false Z1) (hb : JW G (.BoolOp .Or (b :: rest) pos) Z1 u Z2) : JW G (.BoolOp .Or (a :: b :: rest) pos) Z u Z2 := fun X f B σ H k Q q =>
  ⟨_, pw_or p_T p_W, ha X f B σ H k _ fun H1 k1 p1 => (if_neg Bool.false_ne_true).mpr (hb X f B σ H1 k1 Q fun H2 k2 p2 => q H2 k2 (p1.trans p2))⟩
theorem jw_andT (ha : JT G a Z true Z1) (hb : JW G (.BoolOp .And (b :: rest) pos) Z1 u Z2) : JW G (.BoolOp .And (a :: b :: rest) pos) Z u Z2 := fun X f B σ H k Q q =>
  ⟨_, pw_and p_T p_W, ha X f B σ H k _ fun H1 k1 p1 => (if_pos rfl).mpr (hb X f B σ H1 k1 Q fun H2 k2 p2 => q H2 k2 (p1.trans p2))⟩
theorem jt_w (h : JW G a Z t Z1) : JT G a Z t Z1 := fun X f B σ H k Q q => ⟨_, (p_W (X := X) (e := a)).pt, h X f B σ H k Q q⟩
theorem je_one {op} (h : JE G a Z d Z1) : JE G (.BoolOp op [a] pos) Z d Z1 := fun X f B σ H k Q q => ⟨_, pe_one p_E, h X f B σ H k Q q⟩
theorem je_and (ha : JE G a Z (.bl t) Z) (hb : t = true → JE G (.BoolOp .And (b :: rest) pos) Z (.bl u) Z) : JE G (.BoolOp .And (a :: b :: rest) pos) Z (.bl (t && u)) Z := fun X f B σ H k Q q =>
  ⟨_, pe_and p_E p_E, ha X f B σ H k _ fun x H1 k1 p1 r1 => ⟨t, r1.inv_bl, by
    cases t with
    | true => exact (if_pos rfl).mpr (hb rfl X f B σ H1 k1 Q fun v H2 k2 p2 r2 => q v H2 k2 (p1.trans p2) r2)
    | false => exact (if_neg Bool.false_ne_true).mpr (q _ H1 k1 p1 (.bl _))⟩⟩
theorem je_or (ha : JE G a Z (.bl t) Z) (hb : t = false → JE G (.BoolOp .Or (b :: rest) pos) Z (.bl u) Z) : JE G (.BoolOp .Or (a :: b :: rest) pos) Z (.bl (t || u)) Z := fun X f B σ H k Q q =>
  ⟨_, pe_or p_E p_E, ha X f B σ H k _ fun x H1 k1 p1 r1 => ⟨t, r1.inv_bl, by
    cases t with
    | true => exact (if_pos rfl).mpr (q _ H1 k1 p1 (.bl _))
    | false => exact (if_neg Bool.false_ne_true).mpr (hb rfl X f B σ H1 k1 Q fun v H2 k2 p2 r2 => q v H2 k2 (p1.trans p2) r2)⟩⟩
theorem je_if {t : Bool} (hc : JT G c Z t Z1) (ha : t = true → JE G a Z1 d Z2) (hb : t = false → JE G b Z1 d Z2) : JE G (.IfExp c a b pos) Z d Z2 := fun X f B σ H k Q q =>
  ⟨_, pe_ifExp p_T p_E p_E, hc X f B σ H k _ fun H1 k1 p1 => by
    cases t with
    | true => exact (if_pos rfl).mpr (ha rfl X f B σ H1 k1 Q fun v H2 k2 p2 r2 => q v H2 k2 (p1.trans p2) r2)
    | false => exact (if_neg Bool.false_ne_true).mpr (hb rfl X f B σ H1 k1 Q fun v H2 k2 p2 r2 => q v H2 k2 (p1.trans p2) r2)⟩

/-! ### arguments, displays -/
variable {es : List Expr} {ds : List D}
theorem ja_nil : JA G [] Z [] Z := fun X f B σ H k Q q => ⟨_, pa_nil, q _ H k Kp.refl RpA.nil⟩
theorem ja_cons (ha : JE G a Z d Z1) (hr : JA G es Z1 ds Z2) (hs : ∀ env, starEach (a :: es) env = (false, eval a env) :: starEach es env := by intro _; rfl) : JA G (a :: es) Z (d :: ds) Z2 := fun X f B σ H k Q q =>
  ⟨_, pa_cons p_E p_A (hs _), ha X f B σ H k _ fun x H1 k1 p1 r1 => hr X f B σ H1 k1 _ fun vs H2 k2 p2 r2 => q _ H2 k2 (p1.trans p2) (RpA.cons (p2 _ _ r1) r2)⟩
theorem sz5 {n : Nat} (h : n ≤ 100000) : n ≤ sizeLine := Nat.le_trans h (by decide)
theorem je_tup {x1} (h : JA G es Z ds Z1) (hz : ds.length ≤ 100000 := by first | exact Nat.le_of_ble_eq_true rfl | omega) : JE G (.Tuple es x1 pos) Z (.tup ds) Z1 := fun X f B σ H k Q q =>
  ⟨_, pe_tup p_A, h X f B σ H k _ fun vs H1 k1 p1 r1 => ⟨by rw [r1.1]; exact sz5 hz, fun p np => by
    have s := same_upd (o := .tup vs) np
    exact q _ _ (k1.same s) (p1.trans (Kp.same s)) (rp_tup (k1.fresh np) upd_same ((Kp.same s).all r1))⟩⟩
theorem je_lst (h : JA G es Z ds Z1) (hz : ds.length ≤ 100000 := by first | exact Nat.le_of_ble_eq_true rfl | omega) : JE G (.List es pos) Z (.lst ds) Z1 := fun X f B σ H k Q q =>
  ⟨_, pe_lst p_A, h X f B σ H k _ fun vs H1 k1 p1 r1 => ⟨by rw [r1.1]; exact sz5 hz, fun p np => by
    have s := same_upd (o := .lst vs) np
    exact q _ _ (k1.same s) (p1.trans (Kp.same s)) (rp_lst (k1.fresh np) upd_same ((Kp.same s).all r1))⟩⟩
end
end JL

namespace JL
open PySem PySem.Spec L2
/-! ### statements -/
inductive OutS where
  | nx (Z : State)
  | rt (Z : State) (d : D)
  | ex (C : Addr) (Z : State)
  | bk (Z : State)
  | ct (Z : State)
structure EndsOk (B : Bs) (W : WX) (E : Ends) (P : OutS → Prop) : Prop where
  nx : ∀ Z σ H, P (.nx Z) → Ok B Z σ H → E.nx σ H
  rt : ∀ Z d v σ H, P (.rt Z d) → Ok B Z σ H → Rp B.S H v d → E.rt v H
  ex : ∀ Z C σ H, P (.ex C Z) → Ok B Z σ H → W (.ref C) none σ H
  bk : ∀ Z σ H, P (.bk Z) → Ok B Z σ H → E.bk σ H
  ct : ∀ Z σ H, P (.ct Z) → Ok B Z σ H → E.ct σ H
def JS (G : Ctx) (st : Stmt) (Z : State) (P : OutS → Prop) : Prop :=
  ∀ (X : Cx), Fits G X → ∀ (B : Bs) (σ : St) (H : Hp), Ok B Z σ H → ∀ (W : WX) (E : Ends), Takes X W → EndsOk B W E P → wS X st E σ H
def JSs (G : Ctx) (st : List Stmt) (Z : State) (P : OutS → Prop) : Prop :=
  ∀ (X : Cx), Fits G X → ∀ (B : Bs) (σ : St) (H : Hp), Ok B Z σ H → ∀ (W : WX) (E : Ends), Takes X W → EndsOk B W E P → wSs X st E σ H
/-- what is wanted behind the first of two -/
def andThen (G : Ctx) (rest : List Stmt) (P : OutS → Prop) : OutS → Prop
  | .nx Z => JSs G rest Z P
  | .rt Z d => P (.rt Z d)
  | .ex C Z => P (.ex C Z)
  | .bk Z => P (.bk Z)
  | .ct Z => P (.ct Z)
section
variable {G : Ctx} {Z Z1 Z2 Z3 : State} {a b c e : Expr} {pos pos' : Pos} {d d1 d2 : D} {P : OutS → Prop} {st : Stmt} {rest : List Stmt}
theorem JS.imp {P' : OutS → Prop} (h : JS G st Z P) (hp : ∀ o, P o → P' o) : JS G st Z P' := fun X f B σ H k W E tk en =>
  h X f B σ H k W E tk ⟨fun Z σ H p => en.nx Z σ H (hp _ p), fun Z d v σ H p => en.rt Z d v σ H (hp _ p), fun Z C σ H p => en.ex Z C σ H (hp _ p), fun Z σ H p => en.bk Z σ H (hp _ p), fun Z σ H p => en.ct Z σ H (hp _ p)⟩
theorem JSs.imp {sts : List Stmt} {P' : OutS → Prop} (h : JSs G sts Z P) (hp : ∀ o, P o → P' o) : JSs G sts Z P' := fun X f B σ H k W E tk en =>
  h X f B σ H k W E tk ⟨fun Z σ H p => en.nx Z σ H (hp _ p), fun Z d v σ H p => en.rt Z d v σ H (hp _ p), fun Z C σ H p => en.ex Z C σ H (hp _ p), fun Z σ H p => en.bk Z σ H (hp _ p), fun Z σ H p => en.ct Z σ H (hp _ p)⟩
theorem js_nil (h : P (.nx Z)) : JSs G [] Z P := fun X f B σ H k W E tk en => ⟨_, pss_nil, en.nx Z σ H h k⟩
theorem js_cons (h : JS G st Z (andThen G rest P)) : JSs G (st :: rest) Z P := fun X f B σ H k W E tk en =>
  ⟨_, pss_cons p_S p_Ss, h X f B σ H k W { E with nx := fun σ H => wSs X rest E σ H } tk
    ⟨fun Z σ H p k => p X f B σ H k W E tk en, fun Z d v σ H p => en.rt Z d v σ H p, fun Z C σ H p => en.ex Z C σ H p, fun Z σ H p => en.bk Z σ H p, fun Z σ H p => en.ct Z σ H p⟩⟩
theorem js_ret (h : JE G e Z d Z1) (hp : P (.rt Z1 d)) : JS G (.Return (some e) pos) Z P := fun X f B σ H k W E tk en =>
  ⟨_, ps_ret p_E, h X f B σ H k _ fun v H1 k1 p1 r1 => en.rt Z1 d v σ H1 hp k1 (r1.keep Pres.refl fun a o _ m => k1.sub a m)⟩
theorem js_retN (hp : P (.rt Z .non)) : JS G (.Return none pos) Z P := fun X f B σ H k W E tk en => ⟨_, ps_retN, en.rt Z .non .non σ H hp k .non⟩
theorem js_expr (h : JE G e Z d Z1) (hp : P (.nx Z1)) (hs : ∀ env, swapsWith e none pos.line env = pure false := by intro _; rfl) : JS G (.Expr e pos) Z P := fun X f B σ H k W E tk en =>
  ⟨_, ps_expr p_E (hs _), h X f B σ H k _ fun v H1 k1 p1 r1 => en.nx Z1 σ H1 hp k1⟩
theorem js_if {t : Bool} {A A' : List Stmt} (hc : JT G c Z t Z1) (ha : t = true → JSs G A Z1 P) (hb : t = false → JSs G A' Z1 P) : JS G (.If c A A' pos) Z P := fun X f B σ H k W E tk en =>
  ⟨_, ps_if p_T p_Ss p_Ss, hc X f B σ H k _ fun H1 k1 p1 => by
    cases t with
    | true => exact (if_pos rfl).mpr (ha rfl X f B σ H1 k1 W E tk en)
    | false => exact (if_neg Bool.false_ne_true).mpr (hb rfl X f B σ H1 k1 W E tk en)⟩
def locB (sc : Scope) (fn : Str → Bool) (x : Str) : Bool := match sc.names.lookup x with
  | some .local => true
  | some .cell => fn x
  | _ => false
theorem loc_of {X : Cx} {x : Str} (f : Fits G X) (h : locB G.sc G.fn x = true) : L2.Loc X.env.scope x ∧ (X.fn x = true ∨ X.env.scope.names.lookup x = some .local) := by
  unfold locB at h
  rw [f.sc]
  unfold L2.Loc
  split at h
  · rename_i e; exact ⟨.inl e, .inr e⟩
  · rename_i e; exact ⟨.inr e, .inl (f.fn x h)⟩
  · cases h
def stB (N : List Str) (sc : Scope) (fn : Str → Bool) (i : Nat) (x : Str) : Bool := decide (N[i]? = some x) && locB sc fn x
abbrev State.put (Z : State) (i : Nat) (d : D) : State := ⟨Z.S, Z.ρ.set i (some (.dat d))⟩
theorem js_set (i : Nat) {x : Str} (h : JE G e Z d Z1) (hp : P (.nx (Z1.put i d))) (hn : stB G.N G.sc G.fn i x = true := by kernel_rfl)
    (hs : ∀ env, swapsWith e (some (.Name x pos')) pos.line env = pure false := by intro _; rfl) : JS G (.Assign [.Name x pos'] e pos) Z P := by
  intro X f B σ H k W E tk en
  simp only [stB, Bool.and_eq_true, decide_eq_true_eq] at hn
  obtain ⟨l1, l2⟩ := loc_of f hn.2
  exact ⟨_, ps_set (i := i) (by rw [f.N]; exact f.nd) (by rw [f.N]; exact hn.1) l1 p_E (hs _) l2, h X f B σ H k _ fun v H1 k1 p1 r1 => en.nx _ _ H1 hp (k1.set i r1)⟩

/-! ### targets -/
def gW (X : Cx) (tg : Expr) : TG := fun v σ H Q => ∃ g, PG X tg g ∧ g v σ H Q
theorem p_G {X : Cx} {tg : Expr} : PG X tg (gW X tg) := ⟨fun pins s σ H v u Q I r h => by obtain ⟨g, p, q⟩ := h; exact p.run pins s σ H v u Q I r q⟩
def gsW (X : Cx) (tg : List Expr) : TGs := fun v σ H Q => ∃ g, PGs X tg g ∧ g v σ H Q
theorem p_Gs {X : Cx} {tg : List Expr} : PGs X tg (gsW X tg) := ⟨fun pins s σ H v u Q I r h => by obtain ⟨g, p, q⟩ := h; exact p.run pins s σ H v u Q I r q⟩
/-- the target takes data d, and slots change -/
def JG (G : Ctx) (tg : Expr) (d : D) (Z : State) (Z' : State) : Prop :=
  ∀ (X : Cx), Fits G X → ∀ (B : Bs) (σ : St) (H : Hp) (v : V), Ok B Z σ H → Rp Z.S H v d → ∀ Q : St → Hp → Prop, (∀ σ', Ok B Z' σ' H → Kp Z.S H Z'.S H → Q σ' H) → gW X tg v σ H Q
def JGs (G : Ctx) (tg : List Expr) (ds : List D) (Z : State) (Z' : State) : Prop :=
  ∀ (X : Cx), Fits G X → ∀ (B : Bs) (σ : St) (H : Hp) (vs : List V), Ok B Z σ H → RpA Z.S H vs ds → ∀ Q : St → Hp → Prop, (∀ σ', Ok B Z' σ' H → Kp Z.S H Z'.S H → Q σ' H) → gsW X tg vs σ H Q
theorem jg_name (i : Nat) {x : Str} (hn : stB G.N G.sc G.fn i x = true := by kernel_rfl) : JG G (.Name x pos) d Z (Z.put i d) := by
  intro X f B σ H v k r Q q
  simp only [stB, Bool.and_eq_true, decide_eq_true_eq] at hn
  obtain ⟨l1, l2⟩ := loc_of f hn.2
  exact ⟨_, pg_name (i := i) (by rw [f.N]; exact f.nd) (by rw [f.N]; exact hn.1) l1 l2, q _ (k.set i r) Kp.refl⟩
theorem jgs_nil : JGs G [] [] Z Z := fun X f B σ H vs k r Q q => ⟨_, pgs_nil, by
  cases vs with
  | nil => exact ⟨rfl, q σ k Kp.refl⟩
  | cons v vs => have := r.1; simp at this⟩
theorem jgs_cons {tg : Expr} {tgs : List Expr} {ds : List D} (h1 : JG G tg d Z Z1) (h2 : JGs G tgs ds Z1 Z2) (hs : ∀ env, (assignEach (tg :: tgs) env).map (·.2) = assign tg env :: (assignEach tgs env).map (·.2) := by intro _; rfl) : JGs G (tg :: tgs) (d :: ds) Z Z2 :=
  fun X f B σ H vs k r Q q => ⟨_, pgs_cons p_G p_Gs (hs _), by
    cases vs with
    | nil => have := r.1; simp at this
    | cons v vs => exact ⟨v, vs, rfl, h1 X f B σ H v k r.head _ fun σ' k' p' => h2 X f B σ' H vs k' (p'.all r.tail) Q fun σ2 k2 p2 => q σ2 k2 (p'.trans p2)⟩⟩
theorem jg_tup {tgs : List Expr} {ds : List D} {kk : Nat} (h : JGs G tgs ds Z Z1) (hn : ∀ env, (assignEach tgs env).length = ds.length := by intro _; rfl) (hst : ∀ env, (assignEach tgs env).findIdx? (·.1) = none := by intro _; rfl) : JG G (.Tuple tgs kk pos) (.tup ds) Z Z1 :=
  fun X f B σ H v k r Q q => by
    obtain ⟨a, xs, rfl, na, e, ra⟩ := r.inv_tup
    exact ⟨_, pg_tup f.calm p_Gs (n := ds.length) (hn _) (hst _), a, xs, rfl, .of e, ra.1, h X f B σ H xs k ra Q q⟩
theorem js_asg {tg : Expr} (h : JE G e Z d Z1) (hg : JG G tg d Z1 Z2) (hp : P (.nx Z2)) (hs : ∀ env, swapsWithSole [tg] e pos.line env = pure false := by intro _; rfl) (hw : ∀ env, swappedStores [tg] e env = pure none := by intro _; rfl)
    (h1 : ∀ env, (assignEach [tg] env).map (·.2) = [assign tg env] := by intro _; rfl) : JS G (.Assign [tg] e pos) Z P := fun X f B σ H k W E tk en =>
  ⟨_, ps_asg p_E p_G (hs _) (hw _) (h1 _), h X f B σ H k _ fun v H1 k1 p1 r1 => hg X f B σ H1 v k1 r1 _ fun σ' k' p' => en.nx _ _ H1 hp k'⟩
def locL (sc : Scope) (x : Str) : Bool := match sc.names.lookup x with
  | some .local => true
  | _ => false
theorem locL_of {sc : Scope} {x : Str} (h : locL sc x = true) : sc.names.lookup x = some .local := by
  unfold locL at h
  split at h
  · assumption
  · cases h
/-- a, b = e1, e2 -/
theorem js_par (i j : Nat) {x y : Str} {px py pt : Pos} {kt k2 pt2} (ha : JA G [a, b] Z [d1, d2] Z1) (hp : P (.nx ((Z1.put i d1).put j d2)))
    (hw : ∀ env : Env, env.scope = G.sc → swappedStores [.Tuple [.Name x px, .Name y py] kt pt] (.Tuple [a, b] k2 pt2) env = pure (some [x, y]))
    (hn : (decide (G.N[i]? = some x) && (decide (G.N[j]? = some y) && (locL G.sc x && (locL G.sc y && !(i == j))))) = true := by kernel_rfl)
    (hs : ∀ env, swapsWithSole [.Tuple [.Name x px, .Name y py] kt pt] (.Tuple [a, b] k2 pt2) pos.line env = pure false := by intro _; rfl) :
    JS G (.Assign [.Tuple [.Name x px, .Name y py] kt pt] (.Tuple [a, b] k2 pt2) pos) Z P := by
  intro X f B σ H k W E tk en
  simp only [Bool.and_eq_true, decide_eq_true_eq, Bool.not_eq_true', beq_eq_false_iff_ne] at hn
  obtain ⟨h1, h2, h3, h4, h5⟩ := hn
  refine ⟨_, ps_par (i := i) (j := j) f.calm (by rw [f.N]; exact f.nd) (by rw [f.N]; exact h1) (by rw [f.N]; exact h2) h5 (by rw [f.sc]; exact locL_of h3) (by rw [f.sc]; exact locL_of h4) p_A (hw _ f.sc) (hs _), ha X f B σ H k _ fun vs H1 k1 p1 r1 => ?_⟩
  obtain ⟨v, w, rfl⟩ : ∃ v w, vs = [v, w] := by
    have := r1.1
    match vs, this with
    | [v, w], _ => exact ⟨v, w, rfl⟩
  exact ⟨v, w, rfl, en.nx _ _ H1 hp ((k1.set i r1.head).set j r1.tail.head)⟩

/-! ### raising -/
theorem jx_ret {C : Addr} (h : JX G e Z C Z1) (hp : P (.ex C Z1)) : JS G (.Return (some e) pos) Z P := fun X f B σ H k W E tk en =>
  ⟨_, ps_ret p_E, h X f B σ H k W tk (fun H1 k1 => en.ex Z1 C σ H1 hp k1) _⟩
theorem jx_expr {C : Addr} (h : JX G e Z C Z1) (hp : P (.ex C Z1)) (hs : ∀ env, swapsWith e none pos.line env = pure false := by intro _; rfl) : JS G (.Expr e pos) Z P := fun X f B σ H k W E tk en =>
  ⟨_, ps_expr p_E (hs _), h X f B σ H k W tk (fun H1 k1 => en.ex Z1 C σ H1 hp k1) _⟩
theorem jx_set {C : Addr} (i : Nat) {x : Str} (h : JX G e Z C Z1) (hp : P (.ex C Z1)) (hn : stB G.N G.sc G.fn i x = true := by kernel_rfl)
    (hs : ∀ env, swapsWith e (some (.Name x pos')) pos.line env = pure false := by intro _; rfl) : JS G (.Assign [.Name x pos'] e pos) Z P := by
  intro X f B σ H k W E tk en
  simp only [stB, Bool.and_eq_true, decide_eq_true_eq] at hn
  obtain ⟨l1, l2⟩ := loc_of f hn.2
  exact ⟨_, ps_set (i := i) (by rw [f.N]; exact f.nd) (by rw [f.N]; exact hn.1) l1 p_E (hs _) l2, h X f B σ H k W tk (fun H1 k1 => en.ex Z1 C σ H1 hp k1) _⟩
/-- raise X('..') of an own class over ValueError, or over an own class over it -/
structure ExcK (g : Glob) (x : Str) (C : Addr) : Prop where
  mg : g.mg x = some (.ref C)
  ex : PySem.W.excIn g.K C [.type "ValueError", .type "Exception", .type "BaseException", .type "object"] "ValueError.__new__" = true
  kp : PySem.W.keepIn g.K (.ref C) = true
  sb : PySem.W.subIn g.K (.ref C) (.type "BaseException") = some true
  ty : PySem.W.typeIn g.K (.ref C) = some (.type "type")
theorem js_raise {x m : Str} {C : Addr} {j : Nat} {p p2 pos2 : Pos} (K : ExcK G.g x C) (hp : P (.ex C Z)) (hg : glB G.sc x = true := by kernel_rfl) : JS G (.Raise (some (.Call (.Name x p) [.Constant (.str m) j p2] [] pos2)) none pos) Z P := by
  intro X f B σ H k W E tk en
  obtain ⟨h1, h2, _⟩ := gl_of f hg
  refine ⟨_, ps_raise f.calm tk (pmk_own PySem.F.excBase_ValueError (by rw [f.K]; exact K.ex) (by rw [f.mg]; exact K.mg) (by rw [f.K]; exact K.kp) (raises_own (by rw [f.K]; exact K.sb) (by rw [f.K]; exact K.ty)) h1 h2), ?_⟩
  exact en.ex Z C σ H hp k
end

/-! ### defs -/
inductive Out where
  | ret (d : D)
  | exc (C : Addr)
def Dom (S : List Addr) (H : Hp) : Prop := ∀ a ∈ S, ∃ o, H a = some o ∧ ¬ Solid o
def outOk (S : List Addr) (H : Hp) (Q : VK) (E : XK) : Out → Prop
  | .ret d => ∀ v H', Same H H' → Rp S H' v d → Q v H'
  | .exc C => ∀ H', Same H H' → E (.ref C) none H'
def spR (n : Nat) (R : List D → Out → Prop) : Sp := fun vs H Q E => vs.length = n ∧ ∃ (S : List Addr) (ds : List D) (o : Out), RpA S H vs ds ∧ Dom S H ∧ R ds o ∧ outOk S H Q E o
/-- the module's name x is a def of n parameters that does as R says, within k calls -/
structure Def (g : Glob) (x : Str) (n k : Nat) (R : List D → Out → Prop) : Prop where
  ex : ∃ f fd ps, FnOk g.P g.w g.K g.mg g.base (L2.CX g.P g.w) k f fd ps (spR n R) ∧ g.mg x = some (.ref f) ∧ PySem.W.keepIn g.K (.ref f) = true ∧ Binds g.K fd ps []
theorem fnX {G : Ctx} {X : Cx} {k : Nat} {f : Addr} {fd : FuncData} {ps : List Str} {sp : Sp} (t : Fits G X) (F : FnOk G.g.P G.g.w G.g.K G.g.mg G.g.base (L2.CX G.g.P G.g.w) k f fd ps sp) : FnOk X.prog X.w X.K X.mg X.base (L2.CX X.prog X.w) k f fd ps sp := by
  rw [t.prog, t.w, t.K, t.mg, t.base]
  exact F
section
variable {G : Ctx} {Z Z1 Z2 Z3 : State} {a b c e : Expr} {es : List Expr} {ds : List D} {pos p : Pos} {d d1 d2 : D} {x : Str} {n k : Nat} {R : List D → Out → Prop} {C : Addr}
theorem je_call (F : Def G.g x n k R) (hk : k ≤ G.k) (ha : JA G (e :: es) Z ds Z1) (hr : R ds (.ret d)) (hn : ds.length = n := by rfl) (hg : glB G.sc x = true := by kernel_rfl) (he : ∀ env, starEach (e :: es) env = (false, eval e env) :: starEach es env := by intro _; rfl)
    (hpl : ∀ env, (backTo pos (starEach es env)).any (·.1) = false := by intro _; rfl) : JE G (.Call (.Name x p) (e :: es) [] pos) Z d Z1 := by
  intro X f B σ H kk Q q
  obtain ⟨fa, fd, ps, FK, hm, kp, bs⟩ := F.ex
  obtain ⟨h1, h2, _⟩ := gl_of f hg
  refine ⟨_, pe_call (fnX f FK) (f.room.mono hk) h1 (by rw [f.mg]; exact hm) (by rw [f.K]; exact kp) (by rw [f.K]; exact bs) .nil (E := E0) passL p_A h2 (he _) (hpl _), ?_⟩
  refine ha X f B σ H kk _ fun vs H1 k1 p1 r1 => ?_
  rw [List.append_nil]
  refine ⟨by rw [r1.1]; exact hn, Z1.S, ds, .ret d, r1, k1.dom, hr, fun v H2 s r2 => q v H2 (k1.same s) (p1.trans (Kp.same s)) r2⟩
theorem je_call0 (F : Def G.g x 0 k R) (hk : k ≤ G.k) (hr : R [] (.ret d)) (hg : glB G.sc x = true := by kernel_rfl) : JE G (.Call (.Name x p) [] [] pos) Z d Z := by
  intro X f B σ H kk Q q
  obtain ⟨fa, fd, ps, FK, hm, kp, bs⟩ := F.ex
  obtain ⟨h1, h2, _⟩ := gl_of f hg
  refine ⟨_, pe_call0 (fnX f FK) (f.room.mono hk) h1 (by rw [f.mg]; exact hm) (by rw [f.K]; exact kp) (by rw [f.K]; exact bs) .nil (E := E0) passL h2, ?_⟩
  exact ⟨rfl, Z.S, [], .ret d, RpA.nil, kk.dom, hr, fun v H2 s r2 => q v H2 (kk.same s) (Kp.same s) r2⟩
theorem jx_call (F : Def G.g x n k R) (hk : k ≤ G.k) (ha : JA G (e :: es) Z ds Z1) (hr : R ds (.exc C)) (hn : ds.length = n := by rfl) (hg : glB G.sc x = true := by kernel_rfl) (he : ∀ env, starEach (e :: es) env = (false, eval e env) :: starEach es env := by intro _; rfl)
    (hpl : ∀ env, (backTo pos (starEach es env)).any (·.1) = false := by intro _; rfl) : JX G (.Call (.Name x p) (e :: es) [] pos) Z C Z1 := by
  intro X f B σ H kk W tk q Q
  obtain ⟨fa, fd, ps, FK, hm, kp, bs⟩ := F.ex
  obtain ⟨h1, h2, _⟩ := gl_of f hg
  refine ⟨_, pe_callS (fnX f FK) (f.room.mono hk) h1 (by rw [f.mg]; exact hm) (by rw [f.K]; exact kp) (by rw [f.K]; exact bs) (E := WE W) (fun σ => passAt tk σ) p_A h2 (he _) (hpl _), ?_⟩
  refine ha X f B σ H kk _ fun vs H1 k1 p1 r1 => ?_
  exact ⟨by rw [r1.1]; exact hn, Z1.S, ds, .exc C, r1, k1.dom, hr, fun H2 s => q H2 (k1.same s)⟩
end

/-! ### a def by its body -/
def rho0 (N : List Str) (ds : List D) : Rho := ds.map (fun d => some (.dat d)) ++ List.replicate (N.length - ds.length) none
def Post (o : Out) : OutS → Prop
  | .rt _ d => o = .ret d
  | .nx _ => o = .ret .non
  | .ex C _ => o = .exc C
  | _ => False
theorem ok0 {N : List Str} {S : List Addr} {H : Hp} {vs : List V} {ds : List D} (hl : ds.length ≤ N.length) (r : RpA S H vs ds) (dm : Dom S H) : Ok ⟨H, [], S, fun _ _ => False, fun _ _ => False⟩ ⟨S, rho0 N ds⟩ (L2.start N vs) H := by
  have key : ∀ (i : Nat) (ev : EV), (rho0 N ds)[i]? = some (some ev) → ∃ d, ds[i]? = some d ∧ ev = .dat d := fun i ev e => by
    unfold rho0 at e
    by_cases hi : i < ds.length
    · rw [List.getElem?_append_left (by simpa using hi), List.getElem?_map] at e
      cases q : ds[i]? with
      | none => rw [q] at e; cases e
      | some d => rw [q] at e; cases e; exact ⟨d, rfl, rfl⟩
    · rw [List.getElem?_append_right (by simpa using hi), List.getElem?_replicate] at e
      split at e <;> cases e
  refine ⟨?_, fun i ev e => ?_, fun i j e f h1 h2 a m1 m2 => ?_, fun i e h a m => ?_, dm, fun b o e _ => e, fun a m => m, fun b o e _ => e, fun a m => by obtain ⟨o, e, _⟩ := dm a m; exact ⟨o, e⟩, fun _ _ m => m.elim, fun _ _ m => m.elim, fun a m => (by simp at m), fun _ _ _ _ m => (by simp at m)⟩
  · have := r.1
    simp [rho0, L2.start, this]
  · obtain ⟨d, e1, rfl⟩ := key i ev e
    obtain ⟨v, e2, rv⟩ := r.get e1
    have hi : i < vs.length := (List.getElem?_eq_some_iff.mp e2).1
    refine ⟨some v, ?_, v, rfl, rv⟩
    unfold L2.start
    rw [List.getElem?_append_left (by simpa using hi), List.getElem?_map, e2]
    rfl
  · obtain ⟨d, _, rfl⟩ := key i e h1
    cases m1
  · obtain ⟨d, _, rfl⟩ := key i e h
    cases m
theorem fits_cx {g : Glob} {N : List Str} {qual : Str} {sc : Scope} {f : Addr} {cdv : Value} {A : Around} {outer : List Env} {s : Shared} {H : Hp} {E : XK} {k : Nat} (nd : N.Nodup) (hr : Room k (A.deeper (PyProof.Rows.envOfC qual sc s.heap.objs.size f cdv))) :
    Fits ⟨g, N, sc, k, fun _ => true, true⟩ (cxOf (L2.CX g.P g.w) g.P g.w g.K g.mg g.base N qual sc f cdv A outer s H E) :=
  ⟨rfl, rfl, rfl, rfl, rfl, rfl, rfl, hr, rfl, passes_of rfl, fun _ _ => rfl, nd, fun _ => ⟨rfl, rfl, rfl⟩⟩
/-- THE RULE for a def -/
theorem def_mk {g : Glob} {x : Str} {st : Stmt} {f : Addr} {fd : FuncData} {N ps : List Str} {k : Nat} {R : List D → Out → Prop} (hm : g.mg x = some (.ref f)) (F : FunD g.K x x (defArgs st) (defBody st) (defScope st) [] [] f fd) (S : FnScope N ps (defScope st))
    (hb : ∀ (kV doc pm : Value) (an : Option Addr) (cdv ct : Value) (us : List Value), us.length = ps.length → bindArgs (PySem.W.fnOf x x (defArgs st) (defBody st) (defScope st) .none kV doc pm an cdv ct) ⟨us, []⟩ = pure (ps.zip us))
    (body : ∀ (T : List Addr) (ds : List D) (o : Out), R ds o → ds.length = ps.length → JSs ⟨g, N, defScope st, k, fun _ => true, true⟩ (defBody st) ⟨T, rho0 N ds⟩ (Post o)) : Def g x ps.length (k + 1) R := by
  refine ⟨f, fd, ps, ?_, hm, F.kp, F.bindsN hb⟩
  refine F.ok S (fun vs H Q E h => h.1) (fun cdv A outer s H vs Q E hr h => ?_)
  obtain ⟨hl, T, ds, o, r, dm, hR, ho⟩ := h
  have hl : vs.length = ps.length := hl
  have hd : ds.length = ps.length := by rw [← r.1]; exact hl
  have hp : ps.length ≤ N.length := by
    have := congrArg List.length S.pre
    rw [List.length_take] at this
    omega
  refine body T ds o hR hd _ (fits_cx S.nd hr) ⟨H, [], T, fun _ _ => False, fun _ _ => False⟩ _ H (ok0 (by omega) r dm) (fun cls d _ H => E cls d H) _ (takes_of rfl rfl rfl rfl) ⟨fun Z σ H1 p k1 => ?_, fun Z d v σ H1 p k1 rv => ?_, fun Z C σ H1 p k1 => ?_, fun Z σ H1 p => p.elim, fun Z σ H1 p => p.elim⟩
  · have p : o = .ret .non := p
    subst p
    exact ho .non H1 (fun b u e => k1.out b u e (by simp)) .non
  · have p : o = .ret d := p
    subst p
    exact ho v H1 (fun b u e => k1.out b u e (by simp)) rv
  · have p : o = .exc C := p
    subst p
    exact ho H1 (fun b u e => k1.out b u e (by simp))
end JL

namespace JL
open PySem PySem.Spec L2
/-! ### what a loop walks -/
def wI (X : Cx) (tg e : Expr) : TI := fun σ H R => ∃ t, PI X tg e t ∧ t σ H R
theorem p_I {X : Cx} {tg e : Expr} : PI X tg e (wI X tg e) := ⟨fun pins s σ H R I h => by obtain ⟨t, p, q⟩ := h; exact p.run pins s σ H R I q⟩
abbrev Kept (kf : List (V × D)) (S : List Addr) (H : Hp) : Prop := ∀ p ∈ kf, Rp S H p.1 p.2
/-- ds is walked by J, as long as what is in kf stays readable -/
structure Goes (J : It) (ds : List D) (kf : List (V × D)) : Prop where
  go : ∀ S H i, Kept kf S H → i < ds.length → J.go i H
  stop : ∀ S H, Kept kf S H → J.stop ds.length H
  yld : ∀ S H (i : Nat) x H' d, Dom S H → Kept kf S H → ds[i]? = some d → J.yld i H x H' → Same H H' ∧ Rp S H' x d
theorem Goes.walk {J : It} {ds : List D} {kf : List (V × D)} (g : Goes J ds kf) : Walk J ds.length (fun H => ∃ S, Dom S H ∧ Kept kf S H) (fun i H x H' => ∀ S d, Dom S H → Kept kf S H → ds[i]? = some d → Same H H' ∧ Rp S H' x d) :=
  ⟨fun i H hi h => by obtain ⟨S, _, h⟩ := h; exact g.go S H i h hi, fun H h => by obtain ⟨S, _, h⟩ := h; exact g.stop S H h, fun i H x H' hi h y S d dm kp e => g.yld S H i x H' d dm kp e y⟩
def JI (G : Ctx) (tg iter : Expr) (Z : State) (ds : List D) (Z' : State) : Prop :=
  ∀ (X : Cx), Fits G X → ∀ (B : Bs) (σ : St) (H : Hp), Ok B Z σ H → ∀ R : It → Hp → Prop,
    (∀ J H1 kf, Ok B Z' σ H1 → Kp Z.S H Z'.S H1 → Kept kf Z'.S H1 → Goes J ds kf → R J H1) → wI X tg iter σ H R
def loopPost (I : State → Prop) (P : OutS → Prop) : OutS → Prop
  | .nx Z => I Z
  | .ct Z => I Z
  | .bk Z => P (.nx Z)
  | .rt Z d => P (.rt Z d)
  | .ex C Z => P (.ex C Z)
theorem kept1 {S : List Addr} {H : Hp} {v : V} {d : D} (h : Rp S H v d) : Kept [(v, d)] S H := fun p m => by
  have e : p = (v, d) := by simpa using m
  subst e
  exact h
section
variable {G : Ctx} {Z Z1 Z2 Z3 : State} {tg a b c e iter : Expr} {es : List Expr} {ds : List D} {pos p : Pos} {d d1 d2 : D} {x : Str} {P : OutS → Prop}
theorem sql_track {K : PySem.W.Frag} {H : Hp} {a : Addr} {xs : List V} (h : H a = some (.lst xs)) : SqL K H a xs := .of h
theorem ji_list (h : JE G iter Z (.lst ds) Z1) : JI G tg iter Z ds Z1 := fun X f B σ H k R q =>
  ⟨_, pi_list p_E, h X f B σ H k _ fun v H1 k1 p1 r1 => by
    obtain ⟨a, xs, rfl, na, e, ra⟩ := r1.inv_lst
    refine ⟨a, rfl, ⟨xs, .of e⟩, q _ H1 [(.ref a, .lst ds)] k1 p1 (kept1 r1) ⟨fun S H i kp hi => ?_, fun S H kp => ?_, fun S H i x H' d dm kp ed y => ?_⟩⟩
    · obtain ⟨a', xs', e1, _, e', ra'⟩ := (kp (.ref a, .lst ds) (by simp)).inv_lst
      cases e1
      have hl : i < xs'.length := by rw [ra'.1]; exact hi
      exact ⟨xs', xs'[i], .of e', List.getElem?_eq_getElem hl⟩
    · obtain ⟨a', xs', e1, _, e', ra'⟩ := (kp (.ref a, .lst ds) (by simp)).inv_lst
      cases e1
      exact ⟨xs', .of e', by rw [ra'.1]; exact Nat.le_refl _⟩
    · obtain ⟨a', xs', e1, _, e', ra'⟩ := (kp (.ref a, .lst ds) (by simp)).inv_lst
      cases e1
      obtain ⟨rfl, y⟩ := y
      exact ⟨Same.refl _, ra'.2 i x d (y xs' (.of e')) ed⟩⟩
theorem ji_tup (h : JE G iter Z (.tup ds) Z1) : JI G tg iter Z ds Z1 := fun X f B σ H k R q =>
  ⟨_, pi_tup p_E, h X f B σ H k _ fun v H1 k1 p1 r1 => by
    obtain ⟨a, xs, rfl, na, e, ra⟩ := r1.inv_tup
    refine ⟨a, rfl, ⟨xs, .of e⟩, q _ H1 [(.ref a, .tup ds)] k1 p1 (kept1 r1) ⟨fun S H i kp hi => ?_, fun S H kp => ?_, fun S H i x H' d dm kp ed y => ?_⟩⟩
    · obtain ⟨a', xs', e1, _, e', ra'⟩ := (kp (.ref a, .tup ds) (by simp)).inv_tup
      cases e1
      have hl : i < xs'.length := by rw [ra'.1]; exact hi
      exact ⟨xs', xs'[i], .of e', List.getElem?_eq_getElem hl⟩
    · obtain ⟨a', xs', e1, _, e', ra'⟩ := (kp (.ref a, .tup ds) (by simp)).inv_tup
      cases e1
      exact ⟨xs', .of e', by rw [ra'.1]; exact Nat.le_refl _⟩
    · obtain ⟨a', xs', e1, _, e', ra'⟩ := (kp (.ref a, .tup ds) (by simp)).inv_tup
      cases e1
      obtain ⟨rfl, y⟩ := y
      exact ⟨Same.refl _, ra'.2 i x d (y xs' (.of e')) ed⟩⟩
/-- the ints lo, lo + 1, .. below hi -/
def rng (lo hi : Int) : List D := (List.range (hi - lo).toNat).map fun (i : Nat) => D.int (lo + (i : Int))
theorem rng_len {lo hi : Int} : (rng lo hi).length = (hi - lo).toNat := by simp [rng]
theorem goes_rng {lo hi : Int} : Goes (Itr lo (hi - lo).toNat) (rng lo hi) [] := by
  refine ⟨fun S H i _ hi => by rw [rng_len] at hi; exact hi, fun S H _ => by rw [rng_len]; exact Nat.le_refl _, fun S H i x H' d _ _ e y => ?_⟩
  obtain ⟨rfl, rfl⟩ := y
  refine ⟨Same.refl _, ?_⟩
  unfold rng at e
  rw [List.getElem?_map] at e
  cases q : (List.range (hi - lo).toNat)[i]? with
  | none => rw [q] at e; cases e
  | some j =>
    rw [q] at e
    obtain ⟨h1, h2⟩ := List.getElem?_eq_some_iff.mp q
    rw [List.getElem_range] at h2
    subst h2
    cases e
    exact .int _
theorem ji_range1 {n : Int} (hm : G.g.mg "range" = none) (hg : glB G.sc "range" = true) (h : JA G [a] Z [.int n] Z1) (hn : -1000000 ≤ n ∧ n ≤ 1000000 := by omega) (hs : ∀ env, starEach [a] env = [(false, eval a env)] := by intro _; rfl) : JI G tg (.Call (.Name "range" p) [a] [] pos) Z (rng 0 n) Z1 := fun X f B σ H k R q =>
  ⟨_, pi_range1 (gl_of f hg).1 (by rw [f.mg]; exact hm) p_A (hs _), h X f B σ H k _ fun vs H1 k1 p1 r1 => by
    obtain ⟨v, rfl⟩ : ∃ v, vs = [v] := by
      have := r1.1
      match vs, this with
      | [v], _ => exact ⟨v, rfl⟩
    cases r1.head.inv_int
    refine ⟨n, rfl, by omega, by omega, q _ H1 [] k1 p1 (fun p m => (by simp at m)) ?_⟩
    have := goes_rng (lo := 0) (hi := n)
    rw [Int.sub_zero] at this
    exact this⟩
theorem ji_range2 {n m : Int} (hm : G.g.mg "range" = none) (hg : glB G.sc "range" = true) (h : JA G [a, b] Z [.int m, .int n] Z1) (hn : -1000000 ≤ n ∧ n ≤ 1000000 ∧ -1000000 ≤ m ∧ m ≤ 1000000 := by omega)
    (hs : ∀ env, starEach [a, b] env = [(false, eval a env), (false, eval b env)] := by intro _; rfl) (hs2 : ∀ env, starEach [b] env = [(false, eval b env)] := by intro _; rfl) : JI G tg (.Call (.Name "range" p) [a, b] [] pos) Z (rng m n) Z1 := fun X f B σ H k R q =>
  ⟨_, pi_range2 (gl_of f hg).1 (by rw [f.mg]; exact hm) p_A (hs _) (hs2 _), h X f B σ H k _ fun vs H1 k1 p1 r1 => by
    obtain ⟨v, w, rfl⟩ : ∃ v w, vs = [v, w] := by
      have := r1.1
      match vs, this with
      | [v, w], _ => exact ⟨v, w, rfl⟩
    cases r1.head.inv_int
    cases r1.tail.head.inv_int
    exact ⟨m, n, rfl, ⟨by omega, by omega, by omega, by omega⟩, q _ H1 [] k1 p1 (fun p m => (by simp at m)) goes_rng⟩⟩
/-- pairs of numbers and items -/
def numd (ds : List D) : List D := (List.range ds.length).zipWith (fun (i : Nat) d => D.tup [.int (i : Int), d]) ds
theorem pair_new {S : List Addr} {H : Hp} {T : Addr} {x y : V} {c d : D} (dm : Dom S H) (nT : H T = none) (rx : Rp S H x c) (ry : Rp S H y d) : Same H (upd H T (.tup [x, y])) ∧ Rp S (upd H T (.tup [x, y])) (.ref T) (.tup [c, d]) := by
  have s := same_upd (o := .tup [x, y]) nT
  refine ⟨s, rp_tup (fun m => ?_) upd_same ((Kp.same s).all (RpA.cons rx (RpA.cons ry RpA.nil)))⟩
  obtain ⟨o, e, _⟩ := dm T m
  rw [nT] at e
  cases e
theorem numd_len : (numd ds).length = ds.length := by simp [numd]
theorem numd_get {i : Nat} {e : D} (h : (numd ds)[i]? = some e) : ∃ d, ds[i]? = some d ∧ e = .tup [.int (i : Int), d] := by
  unfold numd at h
  rw [List.getElem?_zipWith] at h
  have hi : i < ds.length := by
    by_cases hi : i < ds.length
    · exact hi
    · rw [List.getElem?_eq_none (by simpa using hi)] at h
      cases h
  rw [List.getElem?_range hi, List.getElem?_eq_getElem hi] at h
  exact ⟨ds[i], List.getElem?_eq_getElem hi, (Option.some.inj h).symm⟩
theorem ji_enumL {elts : List Expr} {kk : Nat} {tpos : Pos} (hm : G.g.mg "enumerate" = none) (hg : glB G.sc "enumerate" = true) (h : JA G [a] Z [.lst ds] Z1) (hs : ∀ env, starEach [a] env = [(false, eval a env)] := by intro _; rfl) :
    JI G (.Tuple elts kk tpos) (.Call (.Name "enumerate" p) [a] [] pos) Z (numd ds) Z1 := fun X f B σ H k R q =>
  ⟨_, pi_enum (gl_of f hg).1 (by rw [f.mg]; exact hm) p_A (hs _), h X f B σ H k _ fun vs H1 k1 p1 r1 => by
    obtain ⟨v, rfl⟩ : ∃ v, vs = [v] := by
      have := r1.1
      match vs, this with
      | [v], _ => exact ⟨v, rfl⟩
    have r := r1.head
    obtain ⟨a, xs, rfl, na, e, ra⟩ := r.inv_lst
    refine ⟨a, xs, rfl, .of e, q _ H1 [(.ref a, .lst ds)] k1 p1 (kept1 r) ⟨fun S H i kp hi => ?_, fun S H kp => ?_, fun S H i x H' d dm kp ed y => ?_⟩⟩
    · obtain ⟨a', xs', e1, _, e', ra'⟩ := (kp (.ref a, .lst ds) (by simp)).inv_lst
      cases e1
      have hl : i < xs'.length := by rw [ra'.1, ← numd_len]; exact hi
      exact ⟨xs', xs'[i], .of e', List.getElem?_eq_getElem hl⟩
    · obtain ⟨a', xs', e1, _, e', ra'⟩ := (kp (.ref a, .lst ds) (by simp)).inv_lst
      cases e1
      exact ⟨xs', .of e', by rw [ra'.1, numd_len]; exact Nat.le_refl _⟩
    · obtain ⟨a', xs', e1, _, e', ra'⟩ := (kp (.ref a, .lst ds) (by simp)).inv_lst
      cases e1
      obtain ⟨T, z, rfl, nT, rfl, y⟩ := y
      obtain ⟨d', e2, rfl⟩ := numd_get ed
      exact pair_new dm nT (.int _) (ra'.2 i z d' (y xs' (.of e')) e2)⟩
def zipd (ds es : List D) : List D := ds.zipWith (fun c d => D.tup [c, d]) es
theorem zipd_get {ds es : List D} {i : Nat} {e : D} (h : (zipd ds es)[i]? = some e) : ∃ c d, ds[i]? = some c ∧ es[i]? = some d ∧ e = .tup [c, d] := by
  unfold zipd at h
  rw [List.getElem?_zipWith] at h
  cases h1 : ds[i]? with
  | none => rw [h1] at h; cases h
  | some c =>
    cases h2 : es[i]? with
    | none => rw [h1, h2] at h; cases h
    | some d => rw [h1, h2] at h; exact ⟨c, d, rfl, rfl, (Option.some.inj h).symm⟩
theorem ji_zipL {ds es : List D} {elts : List Expr} {kk : Nat} {tpos : Pos} (hm : G.g.mg "zip" = none) (hg : glB G.sc "zip" = true) (h : JA G [a, b] Z [.lst ds, .lst es] Z1) (hs : ∀ env, starEach [a, b] env = (false, eval a env) :: starEach [b] env := by intro _; rfl)
    (hpl : ∀ env, (backTo pos (starEach [b] env)).any (·.1) = false := by intro _; rfl) : JI G (.Tuple elts kk tpos) (.Call (.Name "zip" p) [a, b] [] pos) Z (zipd ds es) Z1 := fun X f B σ H k R q =>
  ⟨_, pi_zip (gl_of f hg).1 (by rw [f.mg]; exact hm) p_A (hs _) (hpl _), h X f B σ H k _ fun vs H1 k1 p1 r1 => by
    obtain ⟨v, w, rfl⟩ : ∃ v w, vs = [v, w] := by
      have := r1.1
      match vs, this with
      | [v, w], _ => exact ⟨v, w, rfl⟩
    have r := r1.head
    have r' := r1.tail.head
    obtain ⟨a, xs, rfl, na, e, ra⟩ := r.inv_lst
    obtain ⟨b, ys, rfl, nb, e', rb⟩ := r'.inv_lst
    have hz : (zipd ds es).length = min ds.length es.length := by simp [zipd]
    refine ⟨a, b, xs, ys, rfl, .of e, .of e', q _ H1 [(.ref a, .lst ds), (.ref b, .lst es)] k1 p1 (fun p m => ?_) ⟨fun S H i kp hi => ?_, fun S H kp => ?_, fun S H i x H' d dm kp ed y => ?_⟩⟩
    · simp only [List.mem_cons, List.not_mem_nil, or_false] at m
      rcases m with rfl | rfl
      · exact r
      · exact r'
    · obtain ⟨a1, xs1, e1, _, f1, ra1⟩ := (kp (.ref a, .lst ds) (by simp)).inv_lst
      obtain ⟨b1, ys1, e2, _, f2, rb1⟩ := (kp (.ref b, .lst es) (by simp)).inv_lst
      cases e1; cases e2
      have hl : i < xs1.length := by rw [ra1.1]; omega
      have hl2 : i < ys1.length := by rw [rb1.1]; omega
      exact ⟨xs1, ys1, xs1[i], ys1[i], .of f1, .of f2, List.getElem?_eq_getElem hl, List.getElem?_eq_getElem hl2⟩
    · obtain ⟨a1, xs1, e1, _, f1, ra1⟩ := (kp (.ref a, .lst ds) (by simp)).inv_lst
      obtain ⟨b1, ys1, e2, _, f2, rb1⟩ := (kp (.ref b, .lst es) (by simp)).inv_lst
      cases e1; cases e2
      exact ⟨xs1, ys1, .of f1, .of f2, by rw [ra1.1, rb1.1, hz]; omega⟩
    · obtain ⟨a1, xs1, e1, _, f1, ra1⟩ := (kp (.ref a, .lst ds) (by simp)).inv_lst
      obtain ⟨b1, ys1, e2, _, f2, rb1⟩ := (kp (.ref b, .lst es) (by simp)).inv_lst
      cases e1; cases e2
      obtain ⟨T, z, u, rfl, nT, rfl, y1, y2⟩ := y
      obtain ⟨c, d', h1, h2, rfl⟩ := zipd_get ed
      exact pair_new dm nT (ra1.2 i z c (y1 xs1 (.of f1)) h1) (rb1.2 i u d' (y2 ys1 (.of f2)) h2)⟩
/-- sign by sign -/
def signs (x : Str) : List D := x.cps.toList.map fun c => D.str ⟨#[c]⟩
theorem ji_str {x : Str} (h : JE G iter Z (.str x) Z1) : JI G tg iter Z (signs x) Z1 := fun X f B σ H k R q =>
  ⟨_, pi_str p_E, h X f B σ H k _ fun v H1 k1 p1 r1 => by
    cases r1.inv_str
    have hl : (signs x).length = x.cps.size := by simp [signs]
    refine ⟨x, rfl, q _ H1 [] k1 p1 (fun p m => (by simp at m)) ⟨fun S H i kp hi => by rw [hl] at hi; exact hi, fun S H kp => by rw [hl]; exact Nat.le_refl _, fun S H i v H' d dm kp ed y => ?_⟩⟩
    obtain ⟨rfl, c, hc, rfl⟩ := y
    refine ⟨Same.refl _, ?_⟩
    unfold signs at ed
    rw [List.getElem?_map, Array.getElem?_toList, hc] at ed
    cases ed
    exact .str _⟩
/-! ### for, while -/
theorem js_for {body : List Stmt} (hi : JI G tg iter Z ds Z1) (I : Nat → State → Prop) (h0 : I 0 Z1) (hs : ∀ i d Z, ds[i]? = some d → I i Z → ∃ Z2, JG G tg d Z Z2 ∧ JSs G body Z2 (loopPost (I (i + 1)) P)) (hd : ∀ Z, I ds.length Z → P (.nx Z))
    (hf : ∀ env x, foldedSetIterable iter env x = pure x := by intro _ _; rfl) : JS G (.For tg iter body [] pos) Z P := by
  intro X f B σ H k W E tk en
  refine ⟨_, ps_for f.po f.calm p_I p_G p_Ss (hf _), hi X f B σ H k _ fun J H1 kf k1 p1 kp gs => ?_⟩
  refine for_it gs.walk (fun i σ H => ∃ Z, I i Z ∧ Ok (B.all Z1.S H1) Z σ H) ⟨Z1, h0, k1.all⟩ (fun i σ H _ h => ?_) (fun i x σ H H' hi h y => ?_) fun σ H h => ?_
  · obtain ⟨Z, _, k⟩ := h
    exact ⟨Z.S, k.dom, fun p m => k.kept _ _ (.inr (kp p m))⟩
  · obtain ⟨Zi, hI, ki⟩ := h
    have ed : ds[i]? = some ds[i] := List.getElem?_eq_getElem hi
    obtain ⟨sm, rx⟩ := y Zi.S ds[i] ki.dom (fun p m => ki.kept _ _ (.inr (kp p m))) ed
    obtain ⟨Z2, hg, hb⟩ := hs i _ Zi ed hI
    refine hg X f _ σ H' x (ki.same sm) rx _ fun σ2 k2 p2 => ?_
    exact hb X f _ σ2 H' k2 W _ tk ⟨fun Z σ H p k => ⟨Z, p, k⟩, fun Z d v σ H p k => en.rt Z d v σ H p k.unall, fun Z C σ H p k => en.ex Z C σ H p k.unall, fun Z σ H p k => en.nx Z σ H p k.unall, fun Z σ H p k => ⟨Z, p, k⟩⟩
  · obtain ⟨Z, hI, k⟩ := h
    exact en.nx Z σ H (hd Z hI) k.unall
theorem js_while {body : List Stmt} (I : Nat → State → Prop) (m0 : Nat) (h0 : I m0 Z) (hs : ∀ m Z, I m Z → ∃ t Z1, JT G c Z t Z1 ∧ (t = true → JSs G body Z1 (loopPost (fun Z' => ∃ m', m' < m ∧ I m' Z') P)) ∧ (t = false → P (.nx Z1))) : JS G (.While c body [] pos) Z P := by
  intro X f B σ H k W E tk en
  refine ⟨_, ps_while f.po p_T p_Ss, fun m σ H => ∃ Z, I m Z ∧ Ok B Z σ H, ⟨m0, Z, h0, k⟩, fun m σ H h => ?_⟩
  obtain ⟨Z, hI, k⟩ := h
  obtain ⟨t, Z1, ht, hT, hF⟩ := hs m Z hI
  refine ht X f B σ H k _ fun H1 k1 p1 => ?_
  cases t with
  | true =>
    refine (if_pos rfl).mpr ⟨fun σ H => ∃ Z', (∃ m', m' < m ∧ I m' Z') ∧ Ok B Z' σ H, fun σ' H' h => ?_, ?_⟩
    · obtain ⟨Z', ⟨m', hm, hI'⟩, k'⟩ := h
      exact ⟨m', hm, Z', hI', k'⟩
    · exact hT rfl X f B σ H1 k1 W _ tk ⟨fun Z σ H p k => ⟨Z, p, k⟩, fun Z d v σ H p k => en.rt Z d v σ H p k, fun Z C σ H p k => en.ex Z C σ H p k, fun Z σ H p k => en.nx Z σ H p k, fun Z σ H p k => ⟨Z, p, k⟩⟩
  | false => exact (if_neg Bool.false_ne_true).mpr (en.nx Z1 σ H1 (hF rfl) k1)
end
end JL

namespace JL
open PySem PySem.Spec L2
/-! ### comprehensions -/
abbrev Ctx.blk (G : Ctx) (scope : Scope) : Ctx := ⟨G.g, G.N, relS scope G.sc, G.k, fun x => scope.names.lookup x == some .cell, false⟩
theorem Fits.blk {G : Ctx} {X : Cx} (f : Fits G X) (scope : Scope) (s : Shared) (H : Hp) (C : Addr) (cl : List (Str × Addr)) (fp : List Addr) : Fits (G.blk scope) (X.blk s H scope (compEnvC scope cl C X.env) fp) :=
  ⟨f.prog, f.w, f.K, f.mg, f.base, f.N, by
    show (compEnvC scope cl C X.env).scope = relS scope G.sc
    rw [← f.sc]
    rfl, f.room, f.calm, PassesOwn.never, fun x h => h, f.nd, fun h => by cases h⟩
def wipeR (ρ : Rho) : List Nat → Rho
  | [] => ρ
  | v :: vs => (wipeR ρ vs).set v none
theorem wipeR_len (ρ : Rho) : ∀ vs, (wipeR ρ vs).length = ρ.length
  | [] => rfl
  | v :: vs => by unfold wipeR; rw [List.length_set, wipeR_len ρ vs]
theorem wipeR_some {ρ : Rho} {i : Nat} {x : EV} : ∀ {vs : List Nat}, (wipeR ρ vs)[i]? = some (some x) → ρ[i]? = some (some x) ∧ i ∉ vs
  | [], h => ⟨h, by simp⟩
  | v :: vs, h => by
    unfold wipeR at h
    by_cases hi : v = i
    · subst hi
      by_cases hv : v < (wipeR ρ vs).length
      · rw [List.getElem?_set_self hv] at h; cases h
      · rw [List.getElem?_eq_none (by simpa using hv)] at h; cases h
    · rw [List.getElem?_set_ne hi] at h
      obtain ⟨h1, h2⟩ := wipeR_some h
      exact ⟨h1, by simp only [List.mem_cons, not_or]; exact ⟨fun e => hi e.symm, h2⟩⟩
theorem wipeR_out {ρ : Rho} {i : Nat} : ∀ {vs : List Nat}, i ∉ vs → (wipeR ρ vs)[i]? = ρ[i]?
  | [], _ => rfl
  | v :: vs, h => by
    simp only [List.mem_cons, not_or] at h
    unfold wipeR
    rw [List.getElem?_set_ne (fun e => h.1 e.symm)]
    exact wipeR_out h.2
theorem Ok.wipe {B : Bs} {S : List Addr} {ρ : Rho} {σ : St} {H : Hp} (k : Ok B ⟨S, ρ⟩ σ H) (vs : List Nat) : Ok B ⟨S, wipeR ρ vs⟩ (wipe σ vs) H := by
  refine ⟨?_, fun i ev e => ?_, fun i j e f h1 h2 => k.sep i j e f (wipeR_some h1).1 (wipeR_some h2).1, fun i e h => k.mine i e (wipeR_some h).1, k.dom, k.out, k.sub, k.tups, k.bsd, k.kept, fun a o m => ?_, k.msub, fun i q ds h => k.ownM i q ds (wipeR_some h).1⟩
  · show (wipeR ρ vs).length = _
    rw [wipeR_len, wipe_length]
    exact k.len
  · obtain ⟨h1, h2⟩ := wipeR_some e
    rw [wipe_out h2]
    exact k.env i ev h1
  · obtain ⟨h1, h2, h3⟩ := k.held a o m
    exact ⟨h1, h2, fun i e h => h3 i e (wipeR_some h).1⟩
theorem wipe_mem {σ : St} {i : Nat} : ∀ {vs : List Nat}, i ∈ vs → (wipe σ vs)[i]? = if i < σ.length then some none else none
  | v :: vs, h => by
    unfold wipe
    by_cases hi : v = i
    · subst hi
      by_cases hv : v < σ.length
      · rw [if_pos hv, List.getElem?_set_self (by rw [wipe_length]; exact hv)]
      · rw [if_neg hv, List.getElem?_eq_none (by rw [List.length_set, wipe_length]; omega)]
    · rw [List.getElem?_set_ne hi]
      exact wipe_mem (by simpa [Ne.symm hi, fun e : i = v => hi e.symm] using h)
theorem wipe_set {σ : St} {i : Nat} {o : Option V} {vs : List Nat} (h : i ∈ vs) : wipe (σ.set i o) vs = wipe σ vs := by
  apply List.ext_getElem?
  intro j
  by_cases hj : j ∈ vs
  · rw [wipe_mem hj, wipe_mem hj, List.length_set]
  · rw [wipe_out hj, wipe_out hj, List.getElem?_set_ne (fun e => hj (by rw [← e]; exact h))]
/-- as JG, and the slots beside tv are as they were -/
def JGw (G : Ctx) (tg : Expr) (tv : List Nat) (d : D) (Z : State) (Z' : State) : Prop :=
  ∀ (X : Cx), Fits G X → ∀ (B : Bs) (σ : St) (H : Hp) (v : V), Ok B Z σ H → Rp Z.S H v d → ∀ Q : St → Hp → Prop, (∀ σ', Ok B Z' σ' H → Kp Z.S H Z'.S H → (∀ vs : List Nat, (∀ i ∈ tv, i ∈ vs) → wipe σ' vs = wipe σ vs) → Q σ' H) → gW X tg v σ H Q
def JGsw (G : Ctx) (tg : List Expr) (tv : List Nat) (ds : List D) (Z : State) (Z' : State) : Prop :=
  ∀ (X : Cx), Fits G X → ∀ (B : Bs) (σ : St) (H : Hp) (vs : List V), Ok B Z σ H → RpA Z.S H vs ds → ∀ Q : St → Hp → Prop, (∀ σ', Ok B Z' σ' H → Kp Z.S H Z'.S H → (∀ vs : List Nat, (∀ i ∈ tv, i ∈ vs) → wipe σ' vs = wipe σ vs) → Q σ' H) → gsW X tg vs σ H Q
section
variable {G : Ctx} {Z Z1 Z2 Z3 : State} {tg a b c e iter elt : Expr} {tgs es : List Expr} {ds : List D} {pos p : Pos} {d d1 d2 : D} {x : Str} {P : OutS → Prop} {tv tv2 : List Nat}
theorem jgw_name (i : Nat) {x : Str} (hn : stB G.N G.sc G.fn i x = true := by kernel_rfl) : JGw G (.Name x pos) [i] d Z (Z.put i d) := by
  intro X f B σ H v k r Q q
  simp only [stB, Bool.and_eq_true, decide_eq_true_eq] at hn
  obtain ⟨l1, l2⟩ := loc_of f hn.2
  exact ⟨_, pg_name (i := i) (by rw [f.N]; exact f.nd) (by rw [f.N]; exact hn.1) l1 l2, q _ (k.set i r) Kp.refl fun vs h => wipe_set (h i (by simp))⟩
theorem jgsw_nil : JGsw G [] [] [] Z Z := fun X f B σ H vs k r Q q => ⟨_, pgs_nil, by
  cases vs with
  | nil => exact ⟨rfl, q σ k Kp.refl fun _ _ => rfl⟩
  | cons v vs => have := r.1; simp at this⟩
theorem jgsw_cons (h1 : JGw G tg tv d Z Z1) (h2 : JGsw G tgs tv2 ds Z1 Z2) (hs : ∀ env, (assignEach (tg :: tgs) env).map (·.2) = assign tg env :: (assignEach tgs env).map (·.2) := by intro _; rfl) : JGsw G (tg :: tgs) (tv ++ tv2) (d :: ds) Z Z2 :=
  fun X f B σ H vs k r Q q => ⟨_, pgs_cons p_G p_Gs (hs _), by
    cases vs with
    | nil => have := r.1; simp at this
    | cons v vs => exact ⟨v, vs, rfl, h1 X f B σ H v k r.head _ fun σ' k' p' w' => h2 X f B σ' H vs k' (p'.all r.tail) Q fun σ2 k2 p2 w2 => q σ2 k2 (p'.trans p2) fun us hu => (w2 us fun i m => hu i (List.mem_append_right _ m)).trans (w' us fun i m => hu i (List.mem_append_left _ m))⟩⟩
theorem jgw_tup {kk : Nat} (h : JGsw G tgs tv ds Z Z1) (hn : ∀ env, (assignEach tgs env).length = ds.length := by intro _; rfl) (hst : ∀ env, (assignEach tgs env).findIdx? (·.1) = none := by intro _; rfl) : JGw G (.Tuple tgs kk pos) tv (.tup ds) Z Z1 :=
  fun X f B σ H v k r Q q => by
    obtain ⟨a, xs, rfl, na, e, ra⟩ := r.inv_tup
    exact ⟨_, pg_tup f.calm p_Gs (n := ds.length) (hn _) (hst _), a, xs, rfl, .of e, ra.1, h X f B σ H xs k ra Q q⟩
theorem JGw.jg (h : JGw G tg tv d Z Z1) : JG G tg d Z Z1 := fun X f B σ H v k r Q q => h X f B σ H v k r Q fun σ' k' p' _ => q σ' k' p'

/-- the tests of a clause -/
def tsW (X : Cx) (ifs : List Expr) : TT := fun σ H Q => ∃ t, PTs X ifs t ∧ t σ H Q
theorem p_Ts {X : Cx} {ifs : List Expr} : PTs X ifs (tsW X ifs) := ⟨fun pins s σ H Q I h => by obtain ⟨t, p, q⟩ := h; exact p.run pins s σ H Q I q⟩
def JTs (G : Ctx) (ifs : List Expr) (Z : State) (b : Bool) (Z' : State) : Prop :=
  ∀ (X : Cx), Fits G X → ∀ (B : Bs) (σ : St) (H : Hp), Ok B Z σ H → ∀ Q : Bool → Hp → Prop, (∀ H', Ok B Z' σ H' → Kp Z.S H Z'.S H' → Q b H') → tsW X ifs σ H Q
theorem jts_nil : JTs G [] Z true Z := fun X f B σ H k Q q => ⟨_, pts_nil, q H k Kp.refl⟩
theorem jts_one {t : Bool} (h : JT G c Z t Z1) : JTs G [c] Z t Z1 := fun X f B σ H k Q q => ⟨_, pts_one p_T, h X f B σ H k Q q⟩

def gU (G : Ctx) (tg : Expr) : TG := fun v σ H Q => ∀ X', Fits G X' → gW X' tg v σ H Q
def tU (G : Ctx) (ifs : List Expr) : TT := fun σ H Q => ∀ X', Fits G X' → tsW X' ifs σ H Q
def eU (G : Ctx) (elt : Expr) : TE := fun σ H Q => ∀ X', Fits G X' → wE X' elt σ H Q
/-- an object that stands apart is changed -/
theorem Ok.turn {B : Bs} {Z : State} {σ : St} {H : Hp} {Dl : Addr} {xs ys : List V} (k : Ok { B with held := fun a o => B.held a o ∨ (a = Dl ∧ o = .lst xs) } Z σ H) (hB : ∀ a o, B.held a o → a ≠ Dl) (hH : B.H Dl = none ∨ Dl ∈ B.M) :
    Ok { B with held := fun a o => B.held a o ∨ (a = Dl ∧ o = .lst ys) } Z σ (upd H Dl (.lst ys)) ∧ Kp Z.S H Z.S (upd H Dl (.lst ys)) := by
  obtain ⟨hS, hl, hf⟩ := k.held Dl _ (.inr ⟨rfl, rfl⟩)
  have pr : Pres Z.S H (upd H Dl (.lst ys)) := fun b o e n => by
    rw [upd_ne (fun z => n (by rw [z]; exact hS))]
    exact e
  have kp : Kp Z.S H Z.S (upd H Dl (.lst ys)) := fun x c r => r.keep pr fun _ _ _ z => z
  have tp : ∀ b o, H b = some o → Solid o → (upd H Dl (.lst ys)) b = some o := fun b o e n => by
    rw [upd_ne (fun z => by rw [z, hl] at e; cases e; exact n)]
    exact e
  refine ⟨⟨k.len, fun i ev e => ?_, k.sep, k.mine, fun a m => ?_, fun b o e n => ?_, k.sub, fun b o e n => tp b o (k.tups b o e n) n, k.bsd, fun x c m => kp _ _ (k.kept x c m), fun a o m => ?_, k.msub, k.ownM⟩, kp⟩
  · obtain ⟨o, h1, h2⟩ := k.env i ev e
    refine ⟨o, h1, ?_⟩
    have nf := hf i ev e
    cases ev with
    | dat d => obtain ⟨v, e, r⟩ := h2; exact ⟨v, e, kp _ _ r⟩
    | own q ds =>
      obtain ⟨e, m, zs, hq, r⟩ := h2
      exact ⟨e, m, zs, by rw [upd_ne (fun z => nf (by rw [← z]; exact List.mem_singleton.mpr rfl))]; exact hq, kp.all r⟩
    | res R v P =>
      obtain ⟨e, m, p, sd⟩ := h2
      refine ⟨e, m, sd _ _ H _ p (fun b o e hb => ?_) (fun _ _ _ z => z), sd⟩
      rcases hb with hb | hb | hb
      · rw [upd_ne (fun z => nf (by rw [← z]; exact hb))]
        exact e
      · exact pr b o e hb
      · exact tp b o e hb
  · by_cases z : a = Dl
    · subst z
      exact ⟨_, upd_same, fun z => z⟩
    · obtain ⟨o, e, n⟩ := k.dom a m
      exact ⟨o, by rw [upd_ne z]; exact e, n⟩
  · have n : b ∉ B.M := n
    have e : B.H b = some o := e
    rw [upd_ne (fun z => by
      subst z
      rcases hH with q | q
      · rw [e] at q; cases q
      · exact n q)]
    exact k.out b o e n
  · rcases m with m | ⟨rfl, rfl⟩
    · obtain ⟨h1, h2, h3⟩ := k.held a o (.inl m)
      exact ⟨h1, by rw [upd_ne (hB a o m)]; exact h2, h3⟩
    · exact ⟨hS, upd_same, hf⟩
/-- a new object stands apart from now on -/
theorem Ok.apart {B : Bs} {S : List Addr} {ρ : Rho} {σ : St} {H : Hp} {Dl : Addr} {xs : List V} (k : Ok B ⟨S, ρ⟩ σ H) (hn : H Dl = none) :
    Ok { B with held := fun a o => B.held a o ∨ (a = Dl ∧ o = .lst xs) } ⟨Dl :: S, ρ⟩ σ (upd H Dl (.lst xs)) ∧ Kp S H (Dl :: S) (upd H Dl (.lst xs)) := by
  have s := same_upd (o := .lst xs) hn
  have kp : Kp S H (Dl :: S) (upd H Dl (.lst xs)) := fun x c r => r.keep (Pres.of_same s) fun a o e m => by
    rcases List.mem_cons.mp m with z | z
    · rw [z, hn] at e; cases e
    · exact z
  have nS : Dl ∉ S := k.fresh hn
  have fS : ∀ (i : Nat) (e : EV), ρ[i]? = some (some e) → ∀ a ∈ e.foot, a ∈ S := fun i e h a m => by
    obtain ⟨o, _, h2⟩ := k.env i e h
    cases e with
    | dat d => cases m
    | own q ds => rw [List.mem_singleton.mp m]; exact h2.2.1
    | res R v P => exact h2.2.1 a m
  refine ⟨⟨k.len, fun i ev e => ?_, k.sep, k.mine, fun a m => ?_, fun b o e n => s _ _ (k.out b o e n), fun a m => List.mem_cons_of_mem _ (k.sub a m), fun b o e n => s _ _ (k.tups b o e n), k.bsd, fun x c m => kp _ _ (k.kept x c m), fun a o m => ?_, fun a m => List.mem_cons_of_mem _ (k.msub a m), k.ownM⟩, kp⟩
  · obtain ⟨o, h1, h2⟩ := k.env i ev e
    refine ⟨o, h1, ?_⟩
    cases ev with
    | dat d => obtain ⟨v, e, r⟩ := h2; exact ⟨v, e, kp _ _ r⟩
    | own q ds => obtain ⟨e, m, zs, hq, r⟩ := h2; exact ⟨e, List.mem_cons_of_mem _ m, zs, s _ _ hq, kp.all r⟩
    | res R v P => obtain ⟨e, m, p, sd⟩ := h2; exact ⟨e, fun a z => List.mem_cons_of_mem _ (m a z), sd _ _ H _ p (fun b o e _ => s b o e) (fun a o e z => (List.mem_cons.mp z).resolve_left fun y => by rw [y, hn] at e; cases e), sd⟩
  · rcases List.mem_cons.mp m with z | z
    · rw [z]; exact ⟨_, upd_same, fun z => z⟩
    · obtain ⟨o, e, n⟩ := k.dom a z
      exact ⟨o, s _ _ e, n⟩
  · rcases m with m | ⟨rfl, rfl⟩
    · obtain ⟨h1, h2, h3⟩ := k.held a o m
      exact ⟨List.mem_cons_of_mem _ h1, s _ _ h2, h3⟩
    · exact ⟨List.mem_cons_self .., upd_same, fun i e h m => nS (fS i e h _ m)⟩

/-- a comprehension's reading, whatever its parts' readings are -/
def wLc (X : Cx) (elt tg iter : Expr) (ifs : List Expr) (scope : Scope) : TE := fun σ H Q => ∃ (wi : TI) (g : TG) (tt : TT) (te : TE) (own : List (Str × Nat)), PI X tg iter wi ∧ BlkOk X.N X.env.scope scope own ∧
  (∀ (s : Shared) (H : Hp) (C : Addr) (cl : List (Str × Addr)) (fp : List Addr), PG (X.blk s H scope (compEnvC scope cl C X.env) fp) tg g) ∧ (∀ (s : Shared) (H : Hp) (C : Addr) (cl : List (Str × Addr)) (fp : List Addr), PTs (X.blk s H scope (compEnvC scope cl C X.env) fp) ifs tt) ∧
  (∀ (s : Shared) (H : Hp) (C : Addr) (cl : List (Str × Addr)) (fp : List Addr), PE (X.blk s H scope (compEnvC scope cl C X.env) fp) elt te) ∧ (∀ x, foldedSetIterable iter X.env x = pure x) ∧ tLc wi g tt te (own.map (·.2)) σ H Q
def JLc (G : Ctx) (elt tg iter : Expr) (ifs : List Expr) (scope : Scope) (Z : State) (d : D) (Z' : State) : Prop :=
  ∀ (X : Cx), Fits G X → ∀ (B : Bs) (σ : St) (H : Hp), Ok B Z σ H → ∀ Q : VK, (∀ v H', Ok B Z' σ H' → Kp Z.S H Z'.S H' → Rp Z'.S H' v d → Q v H') → wLc X elt tg iter ifs scope σ H Q
theorem JLc.je {ifs : List Expr} {scope : Scope} (h : JLc G elt tg iter ifs scope Z d Z1) : JE G (.ListComp elt [⟨tg, iter, ifs, 0⟩] scope pos) Z d Z1 := fun X f B σ H k Q q => by
  obtain ⟨wi, g, tt, te, own, h1, h2, h3, h4, h5, h6, h7⟩ := h X f B σ H k Q q
  exact ⟨_, pe_lc f.calm (by rw [f.N]; exact f.nd) h1 h2 h3 h4 h5 h6, h7⟩
/-- name = [..] on one line, the name a plain local -/
theorem js_setLc (i : Nat) {y : Str} {py spos : Pos} {ifs : List Expr} {scope : Scope} (h : JLc G elt tg iter ifs scope Z d Z1) (hp : P (.nx (Z1.put i d))) (hn : (decide (G.N[i]? = some y) && locL G.sc y) = true := by kernel_rfl)
    (hsw : ∀ env : Env, env.scope = G.sc → swapsWith (.ListComp elt [⟨tg, iter, ifs, 0⟩] scope pos) (some (.Name y py)) spos.line env = pure true := by intro env he; exact sw_true (by rw [he]; rfl) (by rw [he]; kernel_rfl) rfl (by decide +kernel)) :
    JS G (.Assign [.Name y py] (.ListComp elt [⟨tg, iter, ifs, 0⟩] scope pos) spos) Z P := by
  intro X f B σ H k W E tk en
  simp only [Bool.and_eq_true, decide_eq_true_eq] at hn
  obtain ⟨wi, g, tt, te, own, h1, h2, h3, h4, h5, h6, h7⟩ := h X f B σ H k (fun v H1 => E.nx (σ.set i (some v)) H1) fun v H1 k1 p1 r1 => en.nx _ _ H1 hp (k1.set i r1)
  exact ⟨_, ps_setLc (i := i) f.calm (by rw [f.N]; exact f.nd) (by rw [f.N]; exact hn.1) (by rw [f.sc]; exact locL_of hn.2) (hsw _ f.sc) h1 h2 h3 h4 h5 h6, h7⟩
/-- q stands apart, a list of xs -/
abbrev HB (B : Bs) (q : Addr) (xs : List V) : Bs := { B with held := fun a o => B.held a o ∨ (a = q ∧ o = .lst xs) }
theorem Ok.freshB {B : Bs} {Z : State} {σ : St} {H : Hp} (k : Ok B Z σ H) {q : Addr} (h : H q = none) : q ∉ B.M ∧ B.H q = none ∧ q ∉ Z.S ∧ ∀ a o, B.held a o → a ≠ q := by
  have n1 : q ∉ Z.S := k.fresh h
  have n2 : q ∉ B.M := fun m => n1 (k.msub q m)
  refine ⟨n2, ?_, n1, fun a o m z => ?_⟩
  · cases e : B.H q with
    | none => rfl
    | some o => rw [k.out q o e n2] at h; cases h
  · obtain ⟨_, h2, _⟩ := k.held a o m
    rw [z, h] at h2
    cases h2
/-- what stood apart is plain data -/
theorem Ok.unhold {B : Bs} {S : List Addr} {ρ : Rho} {σ : St} {H : Hp} {q : Addr} {xs : List V} {ds : List D} (k : Ok (HB B q xs) ⟨q :: S, ρ⟩ σ H) (hM : q ∉ B.M) (hH : B.H q = none) (nq : q ∉ S) (hh : ∀ a o, B.held a o → a ≠ q) (r : RpA (q :: S) H xs ds) : Ok B ⟨S, ρ⟩ σ H ∧ Rp S H (.ref q) (.lst ds) ∧ ∀ x c, Rp (q :: S) H x c → Rp S H x c := by
  obtain ⟨hS, hl, hf⟩ := k.held q _ (.inr ⟨rfl, rfl⟩)
  have dn : ∀ x c, Rp (q :: S) H x c → Rp S H x c := fun x c r => r.keep Pres.refl fun a o _ m => List.mem_cons_of_mem _ m
  have dnA : ∀ xs cs, RpA (q :: S) H xs cs → RpA S H xs cs := fun xs cs r => ⟨r.1, fun i x d e1 e2 => dn _ _ (r.2 i x d e1 e2)⟩
  refine ⟨⟨k.len, fun j ev e => ?_, k.sep, k.mine, fun a m => k.dom a (List.mem_cons_of_mem _ m), k.out, fun a m => ?_, k.tups, k.bsd, fun x c m => dn _ _ (k.kept x c m), fun a o m => ?_, fun a m => (List.mem_cons.mp (k.msub a m)).resolve_left fun z => hM (by rw [← z]; exact m), k.ownM⟩, rp_lst nq hl (dnA _ _ r), dn⟩
  · obtain ⟨o, h1, h2⟩ := k.env j ev e
    refine ⟨o, h1, ?_⟩
    have nf := hf j ev e
    cases ev with
    | dat d => obtain ⟨v, e, r⟩ := h2; exact ⟨v, e, dn _ _ r⟩
    | own q2 ds2 =>
      obtain ⟨e, m, zs, hq, r⟩ := h2
      exact ⟨e, (List.mem_cons.mp m).resolve_left fun z => nf (by rw [← z]; exact List.mem_singleton.mpr rfl), zs, hq, dnA _ _ r⟩
    | res R v P =>
      obtain ⟨e, m, p, sd⟩ := h2
      exact ⟨e, fun a ha => (List.mem_cons.mp (m a ha)).resolve_left fun z => nf (by rw [← z]; exact ha), sd _ _ _ _ p (fun _ _ e _ => e) (fun a o _ z => List.mem_cons_of_mem _ z), sd⟩
  · refine (List.mem_cons.mp (k.sub a m)).resolve_left fun z => ?_
    obtain ⟨o, e⟩ := k.bsd a m
    rw [z, hH] at e
    cases e
  · obtain ⟨h1, h2, h3⟩ := k.held a o (.inl m)
    exact ⟨(List.mem_cons.mp h1).resolve_left (hh a o m), h2, h3⟩
/-- a comprehension, its list standing apart -/
def JLcF (G : Ctx) (elt tg iter : Expr) (ifs : List Expr) (scope : Scope) (Z : State) (ds : List D) (Z' : State) : Prop :=
  ∀ (X : Cx), Fits G X → ∀ (B : Bs) (σ : St) (H : Hp), Ok B Z σ H → ∀ Q : VK, (∀ q xs H', (∀ a o, B.held a o → a ≠ q) → q ∉ B.M → B.H q = none → q ∉ Z'.S → Ok (HB B q xs) ⟨q :: Z'.S, Z'.ρ⟩ σ H' → Kp Z.S H (q :: Z'.S) H' → RpA (q :: Z'.S) H' xs ds → Q (.ref q) H') → wLc X elt tg iter ifs scope σ H Q
theorem JLcF.lc {ifs : List Expr} {scope : Scope} (h : JLcF G elt tg iter ifs scope Z ds Z1) : JLc G elt tg iter ifs scope Z (.lst ds) Z1 := fun X f B σ H k Q q =>
  h X f B σ H k Q fun l xs H' h1 h2 h3 h4 k1 p1 r1 => by
    obtain ⟨k2, r2, dn⟩ := k1.unhold h2 h3 h4 h1 r1
    exact q _ H' k2 (fun x c r => dn _ _ (p1 x c r)) r2
/-- [elt for tg in iter if ..], item by item; what is at the slots besides may change by elt (ρf) -/
theorem jlcIF {ifs : List Expr} {scope : Scope} {own : List (Str × Nat)} {S : List Addr} (ρf : Nat → Rho) (tf : Nat → Bool) (ef : Nat → D) (hi : JI G tg iter Z ds ⟨S, ρf 0⟩) (hz : ds.length ≤ 100000)
    (ok : blkC G.N G.sc scope own = true)
    (hdat : ∀ i (j : Nat) d, (ρf i)[j]? = some (some (.dat d)) → (ρf 0)[j]? = some (some (.dat d))) (hlen : ∀ i, (ρf i).length = (ρf 0).length) (hvs : ∀ i, ∀ j ∈ own.map (·.2), ∀ e, (ρf i)[j]? = some (some e) → ∃ d, e = .dat d)
    (turn : ∀ (T : List Addr) (i : Nat) (d : D), ds[i]? = some d → ∃ ρ1, JGw (G.blk scope) tg tv d ⟨T, wipeR (ρf i) (own.map (·.2))⟩ ⟨T, ρ1⟩ ∧ JTs (G.blk scope) ifs ⟨T, ρ1⟩ (tf i) ⟨T, ρ1⟩ ∧
      (tf i = false → wipeR ρ1 (own.map (·.2)) = wipeR (ρf (i + 1)) (own.map (·.2))) ∧
      (tf i = true → ∃ ρ2, JE (G.blk scope) elt ⟨T, ρ1⟩ (ef i) ⟨T, ρ2⟩ ∧ wipeR ρ2 (own.map (·.2)) = wipeR (ρf (i + 1)) (own.map (·.2))))
    (htv : ∀ i ∈ tv, i ∈ own.map (·.2)) (hs : ∀ env x, foldedSetIterable iter env x = pure x := by intro _ _; rfl) :
    JLcF G elt tg iter ifs scope Z (((List.range ds.length).filter tf).map ef) ⟨S, ρf ds.length⟩ := by
  intro X f B σ H k Q q
  refine ⟨wI X tg iter, gU (G.blk scope) tg, tU (G.blk scope) ifs, eU (G.blk scope) elt, own, p_I, (by rw [f.N, f.sc]; exact blkOk_by ok),
      (fun s H C cl fp => ⟨fun pins s' σ H v u Q I r h => p_G.run pins s' σ H v u Q I r (h _ (f.blk scope s _ C cl fp))⟩),
      (fun s H C cl fp => ⟨fun pins s' σ H Q I h => p_Ts.run pins s' σ H Q I (h _ (f.blk scope s _ C cl fp))⟩),
      (fun s H C cl fp => ⟨fun pins s' σ H Q I h => p_E.run pins s' σ H Q I (h _ (f.blk scope s _ C cl fp))⟩), hs _, ?_⟩
  refine hi X f B σ H k _ fun J H1 kf k1 p1 kp gs Dl hD => ?_
  have hBH : (B.all S H1).H Dl = none ∨ Dl ∈ (B.all S H1).M := by
    by_cases m : Dl ∈ B.M
    · exact .inr m
    · refine .inl ?_
      cases e : B.H Dl with
      | none => rfl
      | some o => rw [k1.out Dl o e m] at hD; cases hD
  have hheld : ∀ a o, (B.all S H1).held a o → a ≠ Dl := fun a o m z => by
    obtain ⟨_, h2, _⟩ := k1.held a o m
    rw [z, hD] at h2
    cases h2
  obtain ⟨k2, kp2⟩ := k1.all.apart (xs := []) hD
  let res : Nat → List D := fun i => ((List.range i).filter tf).map ef
  have reslen : ∀ i, (res i).length ≤ i := fun i => by
    have := List.length_filter_le tf (List.range i)
    simpa [res] using this
  refine lc_it gs.walk (g := gU (G.blk scope) tg) (tt := tU (G.blk scope) ifs) (te := eU (G.blk scope) elt) (Qd := fun H => Q (.ref Dl) H) (σ := σ) (vs := own.map (·.2)) (fun i H => ∃ acc : List V, Ok { (B.all S H1) with held := fun a o => (B.all S H1).held a o ∨ (a = Dl ∧ o = .lst acc) } ⟨Dl :: S, wipeR (ρf i) (own.map (·.2))⟩ (wipe σ (own.map (·.2))) H ∧ RpA (Dl :: S) H acc (res i) ∧ (∀ (j : Nat) (e : EV), (ρf i)[j]? = some (some e) → (ρf i)[j]? = some (some e))) ⟨[], k2.wipe _, RpA.nil, fun _ _ h => h⟩ (fun i H _ h => ?_) (fun i x H H' hi h y => ?_) fun H h => ?_
  · obtain ⟨acc, ki, _, _⟩ := h
    exact ⟨Dl :: S, ki.dom, fun p m => ki.kept _ _ (.inr (kp p m))⟩
  · obtain ⟨acc, ki, ra, _⟩ := h
    have ed : ds[i]? = some ds[i] := List.getElem?_eq_getElem hi
    obtain ⟨sm, rx⟩ := y (Dl :: S) ds[i] ki.dom (fun p m => ki.kept _ _ (.inr (kp p m))) ed
    obtain ⟨ρ1, hg, ht, hF, hT⟩ := turn (Dl :: S) i ds[i] ed
    intro X' f'
    refine hg X' f' _ _ H' x (ki.same sm) rx _ fun σ2 k2 p2 w2 => ⟨(w2 _ htv).trans (by
      apply List.ext_getElem?
      intro j
      by_cases hj : j ∈ own.map (·.2)
      · rw [wipe_mem hj, wipe_mem hj, wipe_length]
      · rw [wipe_out hj]), fun X2 f2 => ht X2 f2 _ σ2 H' k2 _ fun H3 k3 p3 => ?_⟩
    have wσ : wipe σ2 (own.map (·.2)) = wipe σ (own.map (·.2)) := (w2 _ htv).trans (by
      apply List.ext_getElem?
      intro j
      by_cases hj : j ∈ own.map (·.2)
      · rw [wipe_mem hj, wipe_mem hj, wipe_length]
      · rw [wipe_out hj])
    have ra3 : RpA (Dl :: S) H3 acc (res i) := p3.all (p2.all ((Kp.same sm).all ra))
    cases hb : tf i with
    | false =>
      refine (if_neg Bool.false_ne_true).mpr ⟨acc, ?_, ?_, fun _ _ h => h⟩
      · have := k3.wipe (own.map (·.2))
        rw [hF hb, wσ] at this
        exact this
      · show RpA _ _ acc (((List.range (i + 1)).filter tf).map ef)
        rw [List.range_succ, List.filter_append, List.map_append, List.filter_cons, if_neg (by rw [hb]; decide)]
        simpa using ra3
    | true =>
      refine (if_pos rfl).mpr fun X3 f3 => ?_
      obtain ⟨ρ2, he, hw⟩ := hT hb
      refine he X3 f3 _ σ2 H3 k3 _ fun y H4 k4 p4 r4 => ?_
      obtain ⟨_, hl4, _⟩ := k4.held Dl _ (.inr ⟨rfl, rfl⟩)
      obtain ⟨k5, p5⟩ := k4.turn (ys := acc ++ [y]) hheld hBH
      refine ⟨acc, hl4, ?_, acc ++ [y], ?_, ?_, fun _ _ h => h⟩
      · have := ra.1
        have := reslen i
        exact Nat.lt_of_lt_of_le (show acc.length < 100001 by omega) (by decide)
      · have := k5.wipe (own.map (·.2))
        rw [hw, wσ] at this
        exact this
      · show RpA _ _ (acc ++ [y]) (((List.range (i + 1)).filter tf).map ef)
        rw [List.range_succ, List.filter_append, List.map_append, List.filter_cons, if_pos hb]
        exact RpA.append (p5.all (p4.all ra3)) (RpA.cons (p5 _ _ r4) RpA.nil)
  · obtain ⟨acc, ki, ra, _⟩ := h
    obtain ⟨hS, hl, hf⟩ := ki.held Dl _ (.inr ⟨rfl, rfl⟩)
    have nS : Dl ∉ S := k1.fresh hD
    obtain ⟨fM, fH, _, fh⟩ := k1.freshB hD
    have kpE : Kp Z.S _ (Dl :: S) H := fun x c r => ki.kept x c (.inr (p1 x c r))
    have dj : ∀ (j : Nat) (e : EV) (a : Addr), (ρf ds.length)[j]? = some (some e) → a ∈ e.foot → (wipeR (ρf ds.length) (own.map (·.2)))[j]? = some (some e) := fun j e a h m => by
      have hj : j ∉ own.map (·.2) := fun m' => by
        obtain ⟨d, z⟩ := hvs _ j m' _ h
        subst z
        cases m
      rw [wipeR_out hj]
      exact h
    refine q Dl acc H (fun a o m => fh a o m) fM fH nS ⟨?_, fun j ev e => ?_, fun j l e f h1 h2 a m1 m2 => ?_, fun j e h a m => ?_, ki.dom, ki.out, fun a m => ki.sub a m, ki.tups, k1.bsd, fun x c m => ki.kept x c (.inl m), fun a o m => ?_, fun a m => ki.msub a m, fun j q2 ds2 e => ?_⟩ kpE ra
    · show (ρf ds.length).length = _
      rw [hlen]
      exact k1.len
    · cases ev with
      | dat d =>
        obtain ⟨o, h1, v, rfl, r⟩ := k1.env j _ (hdat _ j d e)
        exact ⟨_, h1, v, rfl, ki.kept _ _ (.inr r)⟩
      | own q2 ds2 =>
        have e' := dj j _ q2 e (List.mem_singleton.mpr rfl)
        obtain ⟨o, h1, h2⟩ := ki.env j _ e'
        have hj : j ∉ own.map (·.2) := (wipeR_some e').2
        rw [wipe_out hj] at h1
        exact ⟨o, h1, h2⟩
      | res R v Pp =>
        have hj : j ∉ own.map (·.2) := fun m => by
          obtain ⟨d, z⟩ := hvs _ j m _ e
          cases z
        have e' : (wipeR (ρf ds.length) (own.map (·.2)))[j]? = some (some (.res R v Pp)) := by rw [wipeR_out hj]; exact e
        obtain ⟨o, h1, h2⟩ := ki.env j _ e'
        rw [wipe_out hj] at h1
        exact ⟨o, h1, h2⟩
    · exact ki.sep j l e f (dj j e a h1 m1) (dj l f a h2 m2) a m1 m2
    · exact ki.mine j e (dj j e a h m) a m
    · obtain ⟨h1, h2, h3⟩ := ki.held a o m
      exact ⟨h1, h2, fun j e h m2 => h3 j e (dj j e a h m2) m2⟩
    · exact ki.ownM j q2 ds2 (dj j _ q2 e (List.mem_singleton.mpr rfl))
end
end JL

namespace JL
open PySem PySem.Spec L2
/-! ### built-ins -/
/-- the built-in names are not bound by the module -/
structure Bi (g : Glob) : Prop where
  isinstance_ : g.mg "isinstance" = none
  len_ : g.mg "len" = none
  all_ : g.mg "all" = none
  any_ : g.mg "any" = none
  sum_ : g.mg "sum" = none
  abs_ : g.mg "abs" = none
  max_ : g.mg "max" = none
  min_ : g.mg "min" = none
  tuple_ : g.mg "tuple" = none
  list_ : g.mg "list" = none
  int_ : g.mg "int" = none
  str_ : g.mg "str" = none
  range_ : g.mg "range" = none
  enumerate_ : g.mg "enumerate" = none
  zip_ : g.mg "zip" = none
  bool_ : g.mg "bool" = none
  sorted_ : g.mg "sorted" = none
  dict_ : g.mg "dict" = none
  ValueError_ : g.mg "ValueError" = none
  set_ : g.mg "set" = none
section
variable {G : Ctx} {Z Z1 Z2 Z3 : State} {a b c e : Expr} {es : List Expr} {ds : List D} {pos p : Pos} {d d1 d2 : D} {x : Str}
/-- a built-in by its name -/
theorem je_callB {id : String} {r : Cx → List V → Hp → VK → Prop} (hc : ∀ X, Fits G X → CallR X (.builtin id) (r X)) (hm : G.g.mg x = none) (hv : bootBuiltins x = some (.builtin id)) (hg : glB G.sc x = true) (ha : JA G (e :: es) Z ds Z1)
    (hr : ∀ X, Fits G X → ∀ B σ H vs (Q : VK), Ok B Z1 σ H → RpA Z1.S H vs ds → (∀ v H', Same H H' → Rp Z1.S H' v d → Q v H') → r X vs H Q)
    (he : ∀ env, starEach (e :: es) env = (false, eval e env) :: starEach es env := by intro _; rfl) (hpl : ∀ env, (backTo pos (starEach es env)).any (·.1) = false := by intro _; rfl) : JE G (.Call (.Name x p) (e :: es) [] pos) Z d Z1 := by
  intro X f B σ H k Q q
  obtain ⟨h1, h2, h3⟩ := gl_of f hg
  exact ⟨_, pe_callB (hc X f) h1 (by rw [f.mg]; exact hm) hv p_A h3 h2 (he _) (hpl _), ha X f B σ H k _ fun vs H1 k1 p1 r1 => hr X f B σ H1 vs Q k1 r1 fun v H2 s r2 => q v H2 (k1.same s) (p1.trans (Kp.same s)) r2⟩
theorem je_callTy {T : String} {r : Cx → List V → Hp → VK → Prop} (hc : ∀ X, Fits G X → CallR X (.type T) (r X)) (hm : G.g.mg x = none) (hv : bootBuiltins x = some (.type T)) (hg : glB G.sc x = true) (ha : JA G (e :: es) Z ds Z1)
    (hr : ∀ X, Fits G X → ∀ B σ H vs (Q : VK), Ok B Z1 σ H → RpA Z1.S H vs ds → (∀ v H', Same H H' → Rp Z1.S H' v d → Q v H') → r X vs H Q)
    (he : ∀ env, starEach (e :: es) env = (false, eval e env) :: starEach es env := by intro _; rfl) (hpl : ∀ env, (backTo pos (starEach es env)).any (·.1) = false := by intro _; rfl) : JE G (.Call (.Name x p) (e :: es) [] pos) Z d Z1 := by
  intro X f B σ H k Q q
  obtain ⟨h1, h2, h3⟩ := gl_of f hg
  exact ⟨_, pe_callTy (hc X f) h1 (by rw [f.mg]; exact hm) hv p_A h3 h2 (he _) (hpl _), ha X f B σ H k _ fun vs H1 k1 p1 r1 => hr X f B σ H1 vs Q k1 r1 fun v H2 s r2 => q v H2 (k1.same s) (p1.trans (Kp.same s)) r2⟩
theorem one_of {S : List Addr} {H : Hp} {vs : List V} (r : RpA S H vs [d]) : ∃ v, vs = [v] ∧ Rp S H v d := by
  have := r.1
  match vs, this with
  | [v], _ => exact ⟨v, rfl, r.head⟩
theorem two_of {S : List Addr} {H : Hp} {vs : List V} (r : RpA S H vs [d1, d2]) : ∃ v w, vs = [v, w] ∧ Rp S H v d1 ∧ Rp S H w d2 := by
  have := r.1
  match vs, this with
  | [v, w], _ => exact ⟨v, w, rfl, r.head, r.tail.head⟩
/-! types -/
def tyS : D → String
  | .non => "NoneType"
  | .bl _ => "bool"
  | .int _ => "int"
  | .str _ => "str"
  | .tup _ => "tuple"
  | .lst _ => "list"
  | .emp => "dict"
  | .ref _ => ""
  | .ty _ => ""
def known : D → Bool
  | .ref _ => false
  | .ty _ => false
  | _ => true
theorem tyx_of {K : PySem.W.Frag} {S : List Addr} {H : Hp} {v : V} (hk : known d = true) (r : Rp S H v d) : TyX K H v (.type (tyS d)) := by
  cases r with
  | non => exact .base .non
  | bl b => exact .base (.bl b)
  | int i => exact .base (.int i)
  | str x => exact .base (.str x)
  | ty n => cases hk
  | ref a => cases hk
  | tup _ e _ _ => exact .base (.tup e)
  | lst _ e _ _ => exact .base (.lst e)
  | emp _ e => exact .base (.dK e)
theorem je_isi {T : String} {t : Bool} (B : Bi G.g) (ha : JA G [a, b] Z [d, .ty T] Z1) (hk : known d = true) (ht : kitB (tyS d) T = some t)
    (hg : glB G.sc "isinstance" = true := by kernel_rfl) (he : ∀ env, starEach [a, b] env = (false, eval a env) :: starEach [b] env := by intro _; rfl) (hpl : ∀ env, (backTo pos (starEach [b] env)).any (·.1) = false := by intro _; rfl) : JE G (.Call (.Name "isinstance" p) [a, b] [] pos) Z (.bl t) Z1 :=
  je_callB (r := fun X => rIsi X.K) (fun X _ => call_isi) B.isinstance_ (by decide +kernel) hg ha (fun X f B2 σ H vs Q k r q => by
    obtain ⟨v, w, rfl, r1, r2⟩ := two_of r
    cases r2.inv_ty
    exact ⟨v, .ty T, .type (tyS d), .type T, t, rfl, .ty T, tyx_of hk r1, kit_ty ht, q _ H (Same.refl H) (.bl t)⟩) he hpl
/-! lengths, all, any, sum .. -/
theorem lenD {g : D → Prop} : True := trivial
theorem je_lenT (B : Bi G.g) (ha : JA G [a] Z [.tup ds] Z1) (hg : glB G.sc "len" = true := by kernel_rfl) (he : ∀ env, starEach [a] env = (false, eval a env) :: starEach [] env := by intro _; rfl) (hpl : ∀ env, (backTo pos (starEach [] env)).any (·.1) = false := by intro _; rfl) : JE G (.Call (.Name "len" p) [a] [] pos) Z (.int ds.length) Z1 :=
  je_callB (r := fun X xs H Q => ∃ p ys, xs = [.ref p] ∧ (SqL X.K H p ys ∨ SqT X.K H p ys) ∧ Q (.int ys.length) H) (fun X _ => call_len_seq) B.len_ PySem.boot_len hg ha (fun X f B2 σ H vs Q k r q => by
    obtain ⟨v, rfl, rr⟩ := one_of r
    obtain ⟨a, xs, rfl, na, e, ra⟩ := rr.inv_tup
    refine ⟨a, xs, rfl, .inr (.of e), q _ H (Same.refl H) ?_⟩
    rw [ra.1]
    exact .int _) he hpl
theorem je_lenL (B : Bi G.g) (ha : JA G [a] Z [.lst ds] Z1) (hg : glB G.sc "len" = true := by kernel_rfl) (he : ∀ env, starEach [a] env = (false, eval a env) :: starEach [] env := by intro _; rfl) (hpl : ∀ env, (backTo pos (starEach [] env)).any (·.1) = false := by intro _; rfl) : JE G (.Call (.Name "len" p) [a] [] pos) Z (.int ds.length) Z1 :=
  je_callB (r := fun X xs H Q => ∃ p ys, xs = [.ref p] ∧ (SqL X.K H p ys ∨ SqT X.K H p ys) ∧ Q (.int ys.length) H) (fun X _ => call_len_seq) B.len_ PySem.boot_len hg ha (fun X f B2 σ H vs Q k r q => by
    obtain ⟨v, rfl, rr⟩ := one_of r
    obtain ⟨a, xs, rfl, na, e, ra⟩ := rr.inv_lst
    refine ⟨a, xs, rfl, .inl (.of e), q _ H (Same.refl H) ?_⟩
    rw [ra.1]
    exact .int _) he hpl
theorem je_lenS {z : Str} (B : Bi G.g) (ha : JA G [a] Z [.str z] Z1) (hz : z.length ≤ 100000) (hg : glB G.sc "len" = true := by kernel_rfl) (he : ∀ env, starEach [a] env = (false, eval a env) :: starEach [] env := by intro _; rfl) (hpl : ∀ env, (backTo pos (starEach [] env)).any (·.1) = false := by intro _; rfl) : JE G (.Call (.Name "len" p) [a] [] pos) Z (.int z.length) Z1 :=
  je_callB (r := fun X xs H Q => ∃ z, xs = [.str z] ∧ z.length ≤ sizeLine ∧ Q (.int z.length) H) (fun X _ => call_len_str) B.len_ PySem.boot_len hg ha (fun X f B2 σ H vs Q k r q => by
    obtain ⟨v, rfl, rr⟩ := one_of r
    cases rr.inv_str
    exact ⟨z, rfl, sz5 hz, q _ H (Same.refl H) (.int _)⟩) he hpl
theorem rpa_map {α : Type} {S : List Addr} {H : Hp} {f : α → D} {g : α → V} (h : ∀ x v, Rp S H v (f x) → v = g x) : ∀ {l : List α} {vs : List V}, RpA S H vs (l.map f) → vs = l.map g
  | [], [], _ => rfl
  | x :: l, v :: vs, r => by
    have e1 := h x v r.head
    have e2 := rpa_map h r.tail
    rw [e1, e2]
    rfl
  | [], _ :: _, r => by have := r.1; simp at this
  | _ :: _, [], r => by have := r.1; simp at this
theorem je_all {bs : List Bool} (B : Bi G.g) (ha : JA G [a] Z [.lst (bs.map D.bl)] Z1) (hg : glB G.sc "all" = true := by kernel_rfl) (he : ∀ env, starEach [a] env = (false, eval a env) :: starEach [] env := by intro _; rfl) (hpl : ∀ env, (backTo pos (starEach [] env)).any (·.1) = false := by intro _; rfl) : JE G (.Call (.Name "all" p) [a] [] pos) Z (.bl (bs.all id)) Z1 :=
  je_callB (r := fun X => rAll X.K) (fun X f => cr_all f.calm) B.all_ (by decide +kernel) hg ha (fun X f B2 σ H vs Q k r q => by
    obtain ⟨v, rfl, rr⟩ := one_of r
    obtain ⟨a, xs, rfl, na, e, ra⟩ := rr.inv_lst
    have ex : xs = bs.map V.bl := rpa_map (fun b v r => r.inv_bl) ra
    subst ex
    exact ⟨a, bs, rfl, .of e, q _ H (Same.refl H) (.bl _)⟩) he hpl
theorem je_any {bs : List Bool} (B : Bi G.g) (ha : JA G [a] Z [.lst (bs.map D.bl)] Z1) (hg : glB G.sc "any" = true := by kernel_rfl) (he : ∀ env, starEach [a] env = (false, eval a env) :: starEach [] env := by intro _; rfl) (hpl : ∀ env, (backTo pos (starEach [] env)).any (·.1) = false := by intro _; rfl) : JE G (.Call (.Name "any" p) [a] [] pos) Z (.bl (bs.any id)) Z1 :=
  je_callB (r := fun X => rAny X.K) (fun X f => cr_any f.calm) B.any_ (by decide +kernel) hg ha (fun X f B2 σ H vs Q k r q => by
    obtain ⟨v, rfl, rr⟩ := one_of r
    obtain ⟨a, xs, rfl, na, e, ra⟩ := rr.inv_lst
    have ex : xs = bs.map V.bl := rpa_map (fun b v r => r.inv_bl) ra
    subst ex
    exact ⟨a, bs, rfl, .of e, q _ H (Same.refl H) (.bl _)⟩) he hpl
theorem je_sum {ns : List Int} (B : Bi G.g) (ha : JA G [a] Z [.lst (ns.map D.int)] Z1) (hg : glB G.sc "sum" = true := by kernel_rfl) (he : ∀ env, starEach [a] env = (false, eval a env) :: starEach [] env := by intro _; rfl) (hpl : ∀ env, (backTo pos (starEach [] env)).any (·.1) = false := by intro _; rfl) : JE G (.Call (.Name "sum" p) [a] [] pos) Z (.int ns.sum) Z1 :=
  je_callB (r := fun X => rSum X.K) (fun X f => cr_sum f.calm) B.sum_ (by decide +kernel) hg ha (fun X f B2 σ H vs Q k r q => by
    obtain ⟨v, rfl, rr⟩ := one_of r
    obtain ⟨a, xs, rfl, na, e, ra⟩ := rr.inv_lst
    have ex : xs = ns.map V.int := rpa_map (fun b v r => r.inv_int) ra
    subst ex
    exact ⟨a, ns, rfl, .of e, q _ H (Same.refl H) (.int _)⟩) he hpl
theorem je_abs {i : Int} (B : Bi G.g) (ha : JA G [a] Z [.int i] Z1) (hg : glB G.sc "abs" = true := by kernel_rfl) (he : ∀ env, starEach [a] env = (false, eval a env) :: starEach [] env := by intro _; rfl) (hpl : ∀ env, (backTo pos (starEach [] env)).any (·.1) = false := by intro _; rfl) : JE G (.Call (.Name "abs" p) [a] [] pos) Z (.int (if i < 0 then -i else i)) Z1 :=
  je_callB (r := fun X xs H Q => ∃ i, xs = [.int i] ∧ Q (.int (if i < 0 then -i else i)) H) (fun X f => call_abs) B.abs_ (by decide +kernel) hg ha (fun X f B2 σ H vs Q k r q => by
    obtain ⟨v, rfl, rr⟩ := one_of r
    cases rr.inv_int
    exact ⟨i, rfl, q _ H (Same.refl H) (.int _)⟩) he hpl
theorem je_max2 {i j : Int} (B : Bi G.g) (ha : JA G [a, b] Z [.int i, .int j] Z1) (hg : glB G.sc "max" = true := by kernel_rfl) (he : ∀ env, starEach [a, b] env = (false, eval a env) :: starEach [b] env := by intro _; rfl) (hpl : ∀ env, (backTo pos (starEach [b] env)).any (·.1) = false := by intro _; rfl) : JE G (.Call (.Name "max" p) [a, b] [] pos) Z (.int (if j > i then j else i)) Z1 :=
  je_callB (r := fun X xs H Q => ∃ i j, xs = [.int i, .int j] ∧ Q (.int (if j > i then j else i)) H) (fun X f => call_max2 f.calm) B.max_ (by decide +kernel) hg ha (fun X f B2 σ H vs Q k r q => by
    obtain ⟨v, w, rfl, r1, r2⟩ := two_of r
    cases r1.inv_int
    cases r2.inv_int
    exact ⟨i, j, rfl, q _ H (Same.refl H) (.int _)⟩) he hpl
theorem je_min2 {i j : Int} (B : Bi G.g) (ha : JA G [a, b] Z [.int i, .int j] Z1) (hg : glB G.sc "min" = true := by kernel_rfl) (he : ∀ env, starEach [a, b] env = (false, eval a env) :: starEach [b] env := by intro _; rfl) (hpl : ∀ env, (backTo pos (starEach [b] env)).any (·.1) = false := by intro _; rfl) : JE G (.Call (.Name "min" p) [a, b] [] pos) Z (.int (if j < i then j else i)) Z1 :=
  je_callB (r := fun X xs H Q => ∃ i j, xs = [.int i, .int j] ∧ Q (.int (if j < i then j else i)) H) (fun X f => call_min2 f.calm) B.min_ (by decide +kernel) hg ha (fun X f B2 σ H vs Q k r q => by
    obtain ⟨v, w, rfl, r1, r2⟩ := two_of r
    cases r1.inv_int
    cases r2.inv_int
    exact ⟨i, j, rfl, q _ H (Same.refl H) (.int _)⟩) he hpl
theorem je_tupleL (B : Bi G.g) (ha : JA G [a] Z [.lst ds] Z1) (hg : glB G.sc "tuple" = true := by kernel_rfl) (he : ∀ env, starEach [a] env = (false, eval a env) :: starEach [] env := by intro _; rfl) (hpl : ∀ env, (backTo pos (starEach [] env)).any (·.1) = false := by intro _; rfl) : JE G (.Call (.Name "tuple" p) [a] [] pos) Z (.tup ds) Z1 :=
  je_callTy (r := fun X xs H Q => ∃ p ys, xs = [.ref p] ∧ ((SqL X.K H p ys ∧ ∀ l, H l = none → Q (.ref l) (upd H l (.tup ys))) ∨ (SqT X.K H p ys ∧ Q (.ref p) H))) (fun X _ => call_tuple_of) B.tuple_ (by decide +kernel) hg ha (fun X f B2 σ H vs Q k r q => by
    obtain ⟨v, rfl, rr⟩ := one_of r
    obtain ⟨a, xs, rfl, na, e, ra⟩ := rr.inv_lst
    refine ⟨a, xs, rfl, .inl ⟨.of e, fun l nl => ?_⟩⟩
    have s := same_upd (o := .tup xs) nl
    exact q _ _ s (rp_tup (k.fresh nl) upd_same ((Kp.same s).all ra))) he hpl
theorem je_listT (B : Bi G.g) (ha : JA G [a] Z [.tup ds] Z1) (hg : glB G.sc "list" = true := by kernel_rfl) (he : ∀ env, starEach [a] env = (false, eval a env) :: starEach [] env := by intro _; rfl) (hpl : ∀ env, (backTo pos (starEach [] env)).any (·.1) = false := by intro _; rfl) : JE G (.Call (.Name "list" p) [a] [] pos) Z (.lst ds) Z1 :=
  je_callTy (r := fun X xs H Q => ∃ p ys, xs = [.ref p] ∧ (SqL X.K H p ys ∨ SqT X.K H p ys) ∧ ∀ l, H l = none → Q (.ref l) (upd H l (.lst ys))) (fun X _ => call_list_of) B.list_ (by decide +kernel) hg ha (fun X f B2 σ H vs Q k r q => by
    obtain ⟨v, rfl, rr⟩ := one_of r
    obtain ⟨a, xs, rfl, na, e, ra⟩ := rr.inv_tup
    refine ⟨a, xs, rfl, .inr (.of e), fun l nl => ?_⟩
    have s := same_upd (o := .lst xs) nl
    exact q _ _ s (rp_lst (k.fresh nl) upd_same ((Kp.same s).all ra))) he hpl
theorem je_listL (B : Bi G.g) (ha : JA G [a] Z [.lst ds] Z1) (hg : glB G.sc "list" = true := by kernel_rfl) (he : ∀ env, starEach [a] env = (false, eval a env) :: starEach [] env := by intro _; rfl) (hpl : ∀ env, (backTo pos (starEach [] env)).any (·.1) = false := by intro _; rfl) : JE G (.Call (.Name "list" p) [a] [] pos) Z (.lst ds) Z1 :=
  je_callTy (r := fun X xs H Q => ∃ p ys, xs = [.ref p] ∧ (SqL X.K H p ys ∨ SqT X.K H p ys) ∧ ∀ l, H l = none → Q (.ref l) (upd H l (.lst ys))) (fun X _ => call_list_of) B.list_ (by decide +kernel) hg ha (fun X f B2 σ H vs Q k r q => by
    obtain ⟨v, rfl, rr⟩ := one_of r
    obtain ⟨a, xs, rfl, na, e, ra⟩ := rr.inv_lst
    refine ⟨a, xs, rfl, .inl (.of e), fun l nl => ?_⟩
    have s := same_upd (o := .lst xs) nl
    exact q _ _ s (rp_lst (k.fresh nl) upd_same ((Kp.same s).all ra))) he hpl
theorem je_intB {t : Bool} (B : Bi G.g) (ha : JA G [a] Z [.bl t] Z1) (hg : glB G.sc "int" = true := by kernel_rfl) (he : ∀ env, starEach [a] env = (false, eval a env) :: starEach [] env := by intro _; rfl) (hpl : ∀ env, (backTo pos (starEach [] env)).any (·.1) = false := by intro _; rfl) : JE G (.Call (.Name "int" p) [a] [] pos) Z (.int (if t then 1 else 0)) Z1 :=
  je_callTy (r := fun X xs H Q => (∃ i, xs = [.int i] ∧ Q (.int i) H) ∨ ∃ k, xs = [.bl k] ∧ Q (.int (if k then 1 else 0)) H) (fun X _ => call_int1) B.int_ (by decide +kernel) hg ha (fun X f B2 σ H vs Q k r q => by
    obtain ⟨v, rfl, rr⟩ := one_of r
    cases rr.inv_bl
    exact .inr ⟨t, rfl, q _ H (Same.refl H) (.int _)⟩) he hpl
theorem je_intS {z : Str} {n : Int} (B : Bi G.g) (ha : JA G [a] Z [.str z] Z1) (hn : PySem.intText? z = some n) (hz : z.length ≤ 640) (hg : glB G.sc "int" = true := by kernel_rfl) (he : ∀ env, starEach [a] env = (false, eval a env) :: starEach [] env := by intro _; rfl) (hpl : ∀ env, (backTo pos (starEach [] env)).any (·.1) = false := by intro _; rfl) : JE G (.Call (.Name "int" p) [a] [] pos) Z (.int n) Z1 :=
  je_callTy (r := fun X xs H Q => ∃ a n, xs = [.str a] ∧ PySem.intText? a = some n ∧ a.length ≤ 640 ∧ Q (.int n) H) (fun X _ => call_int_str) B.int_ (by decide +kernel) hg ha (fun X f B2 σ H vs Q k r q => by
    obtain ⟨v, rfl, rr⟩ := one_of r
    cases rr.inv_str
    exact ⟨z, n, rfl, hn, hz, q _ H (Same.refl H) (.int _)⟩) he hpl
theorem je_strI {i : Int} (B : Bi G.g) (ha : JA G [a] Z [.int i] Z1) (hz : i.natAbs.log2 < 1920) (hg : glB G.sc "str" = true := by kernel_rfl) (he : ∀ env, starEach [a] env = (false, eval a env) :: starEach [] env := by intro _; rfl) (hpl : ∀ env, (backTo pos (starEach [] env)).any (·.1) = false := by intro _; rfl) : JE G (.Call (.Name "str" p) [a] [] pos) Z (.str (toString i)) Z1 :=
  je_callTy (r := fun X xs H Q => ∃ i : Int, xs = [.int i] ∧ i.natAbs.log2 < 1920 ∧ Q (.str (toString i)) H) (fun X _ => call_str_int) B.str_ (by decide +kernel) hg ha (fun X f B2 σ H vs Q k r q => by
    obtain ⟨v, rfl, rr⟩ := one_of r
    cases rr.inv_int
    exact ⟨i, rfl, hz, q _ H (Same.refl H) (.str _)⟩) he hpl
/-! subscripts, slices -/
theorem atI_rp {S : List Addr} {H : Hp} {xs : List V} {i : Int} (ra : RpA S H xs ds) (h : atI ds i = some d) : ∃ v, atI xs i = some v ∧ Rp S H v d := by
  unfold atI at h ⊢
  rw [ra.1]
  cases q : ixN ds.length i with
  | none => rw [q] at h; cases h
  | some j =>
    rw [q] at h
    exact ra.get h
theorem je_ixT {i : Int} (ha : JE G a Z (.tup ds) Z1) (hb : JE G b Z1 (.int i) Z2) (h : atI ds i = some d) (hs : PlainIx b := by intro _ _; rfl) : JE G (.Subscript a b pos) Z d Z2 := fun X f B σ H k Q q =>
  ⟨_, pe_ix ix_tup p_E p_E hs, ha X f B σ H k _ fun x H1 k1 p1 r1 => hb X f B σ H1 k1 _ fun y H2 k2 p2 r2 => by
    obtain ⟨a, xs, rfl, na, e, ra⟩ := (p2 _ _ r1).inv_tup
    obtain ⟨v, e1, rv⟩ := atI_rp ra h
    exact ⟨a, xs, i, v, rfl, r2.inv_int, .of e, e1, q v H2 k2 (p1.trans p2) rv⟩⟩
theorem je_ixL {i : Int} (ha : JE G a Z (.lst ds) Z1) (hb : JE G b Z1 (.int i) Z2) (h : atI ds i = some d) (hs : PlainIx b := by intro _ _; rfl) : JE G (.Subscript a b pos) Z d Z2 := fun X f B σ H k Q q =>
  ⟨_, pe_ix ix_list p_E p_E hs, ha X f B σ H k _ fun x H1 k1 p1 r1 => hb X f B σ H1 k1 _ fun y H2 k2 p2 r2 => by
    obtain ⟨a, xs, rfl, na, e, ra⟩ := (p2 _ _ r1).inv_lst
    obtain ⟨v, e1, rv⟩ := atI_rp ra h
    exact ⟨a, xs, i, v, rfl, r2.inv_int, .of e, e1, q v H2 k2 (p1.trans p2) rv⟩⟩
def oW (X : Cx) (e : Option Expr) : TO := fun σ H Q => ∃ t, PO X e t ∧ t σ H Q
theorem p_O {X : Cx} {e : Option Expr} : PO X e (oW X e) := ⟨fun pins s σ H Q I h => by obtain ⟨t, p, q⟩ := h; exact p.run pins s σ H Q I q⟩
def JO (G : Ctx) (e : Option Expr) (Z : State) (o : Option Int) : Prop :=
  ∀ (X : Cx), Fits G X → ∀ (B : Bs) (σ : St) (H : Hp), Ok B Z σ H → ∀ Q : Option Int → Hp → Prop, (∀ H', Ok B Z σ H' → Kp Z.S H Z.S H' → Q o H') → oW X e σ H Q
theorem jo_none : JO G none Z none := fun X f B σ H k Q q => ⟨_, po_none, q H k Kp.refl⟩
theorem jo_some {i : Int} (h : JE G e Z (.int i) Z) : JO G (some e) Z (some i) := fun X f B σ H k Q q => ⟨_, po_some p_E, h X f B σ H k _ fun x H1 k1 p1 r1 => ⟨i, r1.inv_int, q H1 k1 p1⟩⟩
def cutD (xs : List D) (lo hi : Option Int) : List D := (xs.drop (HT.sIx xs.length 0 lo)).take (HT.sIx xs.length xs.length hi - HT.sIx xs.length 0 lo)
theorem cut_rp {S : List Addr} {H : Hp} {xs : List V} (ra : RpA S H xs ds) (lo hi : Option Int) : RpA S H (cutV xs lo hi) (cutD ds lo hi) := by
  unfold cutV cutD
  rw [ra.1]
  exact (ra.drop _).take _
variable {lo hi : Option Expr} {l u : Option Int} {p2 : Pos}
theorem je_slL (ha : JE G a Z (.lst ds) Z1) (hl : JO G lo Z1 l) (hu : JO G hi Z1 u) : JE G (.Subscript a (.Slice lo hi none p2) pos) Z (.lst (cutD ds l u)) Z1 := fun X f B σ H k Q q =>
  ⟨_, pe_slice sl_list p_E p_O p_O, ha X f B σ H k _ fun x H1 k1 p1 r1 => hl X f B σ H1 k1 _ fun H2 k2 p2 => hu X f B σ H2 k2 _ fun H3 k3 p3 => by
    obtain ⟨a, xs, rfl, na, e, ra⟩ := (p3 _ _ (p2 _ _ r1)).inv_lst
    refine ⟨a, xs, rfl, .of e, fun n nn => ?_⟩
    have s := same_upd (o := .lst (cutV xs l u)) nn
    exact q _ _ (k3.same s) (((p1.trans p2).trans p3).trans (Kp.same s)) (rp_lst (k3.fresh nn) upd_same ((Kp.same s).all (cut_rp ra l u)))⟩
theorem je_slT (ha : JE G a Z (.tup ds) Z1) (hl : JO G lo Z1 l) (hu : JO G hi Z1 u) : JE G (.Subscript a (.Slice lo hi none p2) pos) Z (.tup (cutD ds l u)) Z1 := fun X f B σ H k Q q =>
  ⟨_, pe_slice sl_tupA p_E p_O p_O, ha X f B σ H k _ fun x H1 k1 p1 r1 => hl X f B σ H1 k1 _ fun H2 k2 p2 => hu X f B σ H2 k2 _ fun H3 k3 p3 => by
    obtain ⟨a, xs, rfl, na, e, ra⟩ := (p3 _ _ (p2 _ _ r1)).inv_tup
    refine ⟨a, xs, rfl, .of e, fun w => ?_, fun _ n nn => ?_⟩
    · have ec : cutD ds l u = ds := by
        unfold cutD
        rw [ra.1] at w
        rw [w.1, w.2]
        simp
      rw [ec] at q
      exact q _ H3 k3 ((p1.trans p2).trans p3) (rp_tup na e ra)
    · have s := same_upd (o := .tup (cutV xs l u)) nn
      exact q _ _ (k3.same s) (((p1.trans p2).trans p3).trans (Kp.same s)) (rp_tup (k3.fresh nn) upd_same ((Kp.same s).all (cut_rp ra l u)))⟩
theorem je_slS {z : Str} (ha : JE G a Z (.str z) Z1) (hl : JO G lo Z1 l) (hu : JO G hi Z1 u) (hz : z.length ≤ 100000) : JE G (.Subscript a (.Slice lo hi none p2) pos) Z (.str (cutS z l u)) Z1 := fun X f B σ H k Q q =>
  ⟨_, pe_slice sl_str p_E p_O p_O, ha X f B σ H k _ fun x H1 k1 p1 r1 => hl X f B σ H1 k1 _ fun H2 k2 p2 => hu X f B σ H2 k2 _ fun H3 k3 p3 => by
    cases r1.inv_str
    exact ⟨z, rfl, sz5 hz, q _ H3 k3 ((p1.trans p2).trans p3) (.str _)⟩⟩
/-! + of sequences -/
theorem je_catL {es : List D} (ha : JE G a Z (.lst ds) Z1) (hb : JE G b Z1 (.lst es) Z2) (hz : ds.length + es.length ≤ 100000) : JE G (.BinOp a .Add b pos) Z (.lst (ds ++ es)) Z2 :=
  je_bin (r := fun _ => rCat) (fun _ _ => op_cat) ha hb fun X f B σ H x y Q k r1 r2 q => by
    obtain ⟨a, xs, rfl, na, e1, ra⟩ := r1.inv_lst
    obtain ⟨b, ys, rfl, nb, e2, rb⟩ := r2.inv_lst
    refine ⟨a, b, xs, ys, rfl, rfl, e1, e2, by rw [ra.1, rb.1]; exact sz5 hz, fun n nn => ?_⟩
    have s := same_upd (o := .lst (xs ++ ys)) nn
    exact q _ _ (k.same s) (Kp.same s) (rp_lst (k.fresh nn) upd_same ((Kp.same s).all (ra.append rb)))
theorem je_catT {es : List D} (ha : JE G a Z (.tup ds) Z1) (hb : JE G b Z1 (.tup es) Z2) (hz : ds.length + es.length ≤ 100000) : JE G (.BinOp a .Add b pos) Z (.tup (ds ++ es)) Z2 :=
  je_bin (r := fun X => rCatA X.K) (fun _ _ => op_catA) ha hb fun X f B σ H x y Q k r1 r2 q => by
    obtain ⟨a, xs, rfl, na, e1, ra⟩ := r1.inv_tup
    obtain ⟨b, ys, rfl, nb, e2, rb⟩ := r2.inv_tup
    refine ⟨a, b, xs, ys, rfl, rfl, .of e1, .of e2, by rw [ra.1, rb.1]; exact sz5 hz, fun h => ?_, fun _ h => ?_, fun _ _ n nn => ?_⟩
    · subst h
      have : ds = [] := List.length_eq_zero_iff.mp ra.1.symm
      subst this
      exact q _ H k Kp.refl (rp_tup nb e2 rb)
    · subst h
      have : es = [] := List.length_eq_zero_iff.mp rb.1.symm
      subst this
      rw [List.append_nil] at q
      exact q _ H k Kp.refl (rp_tup na e1 ra)
    · have s := same_upd (o := .tup (xs ++ ys)) nn
      exact q _ _ (k.same s) (Kp.same s) (rp_tup (k.fresh nn) upd_same ((Kp.same s).all (ra.append rb)))
theorem je_catS {z w : Str} (ha : JE G a Z (.str z) Z1) (hb : JE G b Z1 (.str w) Z2) (hz : z.length + w.length ≤ 100000) : JE G (.BinOp a .Add b pos) Z (.str (z ++ w)) Z2 :=
  je_bin (r := fun _ x y H Q => ∃ i j, x = .str i ∧ y = .str j ∧ i.length + j.length ≤ sizeLine ∧ Q (.str (i ++ j)) H) (fun _ _ => op_add_str) ha hb fun X f B σ H x y Q k r1 r2 q =>
    ⟨z, w, r1.inv_str, r2.inv_str, sz5 hz, q _ H k Kp.refl (.str _)⟩
/-! == of data -/
def okD : Nat → D → Bool
  | _, .non => true
  | _, .bl _ => true
  | _, .int _ => true
  | _, .str x => PyData.strOk x
  | n + 1, .tup l => l.all (okD n)
  | n + 1, .lst l => l.all (okD n)
  | _, _ => false
def py : Nat → D → PyData
  | _, .bl b => .bool b
  | _, .int i => .int i
  | _, .str x => .str x
  | n + 1, .tup l => .tuple (l.map (py n))
  | n + 1, .lst l => .list (l.map (py n))
  | _, _ => .none
def eqL (f : D → D → Bool) : List D → List D → Bool
  | [], [] => true
  | x :: xs, y :: ys => f x y && eqL f xs ys
  | _, _ => false
def eqD : Nat → D → D → Bool
  | n, x, y => PyData.eqv (py n x) (py n y)
theorem dpAll_of {K : PySem.W.Frag} {H : Hp} {g : D → PyData} : ∀ {xs : List V} {ds : List D}, xs.length = ds.length → (∀ (i : Nat) x d, xs[i]? = some x → ds[i]? = some d → Dp K H x (g d)) → DpAll K H xs (ds.map g)
  | [], [], _, _ => .nil
  | x :: xs, d :: ds, hl, h => .cons (h 0 x d rfl rfl) (dpAll_of (by simpa using hl) fun i y e h1 h2 => h (i + 1) y e (by simpa using h1) (by simpa using h2))
  | [], _ :: _, hl, _ => by simp at hl
  | _ :: _, [], hl, _ => by simp at hl
theorem dp_of {K : PySem.W.Frag} {S : List Addr} {H : Hp} : ∀ (n : Nat) (d : D) (v : V), okD n d = true → Rp S H v d → Dp K H v (py n d)
  | n, .non, v, _, r => by cases r; cases n <;> exact .non
  | n, .bl b, v, _, r => by cases r; cases n <;> exact .bl b
  | n, .int i, v, _, r => by cases r; cases n <;> exact .int i
  | n, .str x, v, _, r => by cases r; cases n <;> exact .str x
  | n + 1, .tup l, v, ho, r => by
    obtain ⟨a, xs, rfl, na, e, ra⟩ := r.inv_tup
    have ho : l.all (okD n) = true := ho
    rw [List.all_eq_true] at ho
    exact .tup (.of e) (dpAll_of ra.1 fun i x d h1 h2 => dp_of n d x (ho d (List.mem_of_getElem? h2)) (ra.2 i x d h1 h2))
  | n + 1, .lst l, v, ho, r => by
    obtain ⟨a, xs, rfl, na, e, ra⟩ := r.inv_lst
    have ho : l.all (okD n) = true := ho
    rw [List.all_eq_true] at ho
    exact .lst (.of e) (dpAll_of ra.1 fun i x d h1 h2 => dp_of n d x (ho d (List.mem_of_getElem? h2)) (ra.2 i x d h1 h2))
  | n, .ref _, v, ho, _ => by cases n <;> cases ho
  | n, .emp, v, ho, _ => by cases n <;> cases ho
  | n, .ty _, v, ho, _ => by cases n <;> cases ho
  | 0, .tup _, v, ho, _ => by cases ho
  | 0, .lst _, v, ho, _ => by cases ho
theorem lay_all {g : D → PyData} : ∀ {ds : List D}, (∀ d ∈ ds, (g d).canLay0 = true) → PyData.canLayAll0 (ds.map g) = true
  | [], _ => rfl
  | d :: ds, h => by
    show ((g d).canLay0 && PyData.canLayAll0 (ds.map g)) = true
    rw [h d (by simp), lay_all fun e m => h e (by simp [m])]
    rfl
theorem dep_all {g : D → PyData} {n : Nat} : ∀ {ds : List D}, (∀ d ∈ ds, (g d).depth ≤ n) → PyData.depthAll (ds.map g) ≤ n
  | [], _ => Nat.zero_le _
  | d :: ds, h => by
    show max (g d).depth (PyData.depthAll (ds.map g)) ≤ n
    exact Nat.max_le.mpr ⟨h d (by simp), dep_all fun e m => h e (by simp [m])⟩
theorem py_lay : ∀ (n : Nat) (d : D), okD n d = true → (py n d).canLay0 = true ∧ (py n d).depth ≤ n
  | n, .non, _ => by cases n <;> exact ⟨rfl, Nat.zero_le _⟩
  | n, .bl b, _ => by cases n <;> exact ⟨rfl, Nat.zero_le _⟩
  | n, .int i, _ => by cases n <;> exact ⟨rfl, Nat.zero_le _⟩
  | n, .str x, h => by cases n <;> exact ⟨h, Nat.zero_le _⟩
  | n + 1, .tup l, ho => by
    have ho : l.all (okD n) = true := ho
    rw [List.all_eq_true] at ho
    exact ⟨lay_all fun d m => (py_lay n d (ho d m)).1, Nat.succ_le_succ (dep_all fun d m => (py_lay n d (ho d m)).2)⟩
  | n + 1, .lst l, ho => by
    have ho : l.all (okD n) = true := ho
    rw [List.all_eq_true] at ho
    exact ⟨lay_all fun d m => (py_lay n d (ho d m)).1, Nat.succ_le_succ (dep_all fun d m => (py_lay n d (ho d m)).2)⟩
  | n, .ref _, ho => by cases n <;> cases ho
  | n, .emp, ho => by cases n <;> cases ho
  | n, .ty _, ho => by cases n <;> cases ho
  | 0, .tup _, ho => by cases ho
  | 0, .lst _, ho => by cases ho
theorem shp {n : Nat} (hn : n ≤ 64) (h : okD n d = true) : SeqAt.shaped (py n d) = true := by
  obtain ⟨h1, h2⟩ := py_lay n d h
  unfold SeqAt.shaped
  rw [h1, decide_eq_true (Nat.le_trans h2 hn)]
  rfl
theorem r_eqD {n : Nat} (hn : n ≤ 64) (h1 : okD n d1 = true) (h2 : okD n d2 = true) : ∀ X : Cx, Fits G X → ∀ (B : Bs) (σ : St) (H : Hp) (x y : V) (Q : VK), Ok B Z σ H → Rp Z.S H x d1 → Rp Z.S H y d2 → (∀ v H', Ok B Z σ H' → Kp Z.S H Z.S H' → Rp Z.S H' v (.bl (eqD n d1 d2)) → Q v H') → rEqD X.K x y H Q :=
  fun X f B σ H x y Q k r1 r2 q => ⟨_, _, dp_of n d1 x h1 r1, dp_of n d2 y h2 r2, shp hn h1, shp hn h2, q _ H k Kp.refl (.bl _)⟩
theorem r_neD {n : Nat} (hn : n ≤ 64) (h1 : okD n d1 = true) (h2 : okD n d2 = true) : ∀ X : Cx, Fits G X → ∀ (B : Bs) (σ : St) (H : Hp) (x y : V) (Q : VK), Ok B Z σ H → Rp Z.S H x d1 → Rp Z.S H y d2 → (∀ v H', Ok B Z σ H' → Kp Z.S H Z.S H' → Rp Z.S H' v (.bl (!eqD n d1 d2)) → Q v H') → rNeD X.K x y H Q :=
  fun X f B σ H x y Q k r1 r2 q => ⟨_, _, dp_of n d1 x h1 r1, dp_of n d2 y h2 r2, shp hn h1, shp hn h2, q _ H k Kp.refl (.bl _)⟩
theorem je_eq (n : Nat) (ha : JE G a Z d1 Z1) (hb : JE G b Z1 d2 Z2) (h1 : okD n d1 = true) (h2 : okD n d2 = true) (hn : n ≤ 64 := by decide) : JE G (.Compare a [.Eq] [b] pos) Z (.bl (eqD n d1 d2)) Z2 := je_cmp (r := fun X => rEqD X.K) (fun _ f => op_eqD f.room.units) (nomark _) ha hb (r_eqD hn h1 h2)
theorem jt_eq (n : Nat) (ha : JE G a Z d1 Z1) (hb : JE G b Z1 d2 Z2) (h1 : okD n d1 = true) (h2 : okD n d2 = true) (hn : n ≤ 64 := by decide) : JT G (.Compare a [.Eq] [b] pos) Z (eqD n d1 d2) Z2 := jt_cmp (r := fun X => rEqD X.K) (fun _ f => op_eqD f.room.units) (nomark _) ha hb (r_eqD hn h1 h2)
theorem je_ne (n : Nat) (ha : JE G a Z d1 Z1) (hb : JE G b Z1 d2 Z2) (h1 : okD n d1 = true) (h2 : okD n d2 = true) (hn : n ≤ 64 := by decide) : JE G (.Compare a [.NotEq] [b] pos) Z (.bl (!eqD n d1 d2)) Z2 := je_cmp (r := fun X => rNeD X.K) (fun _ f => op_neD f.room.units) (nomark _) ha hb (r_neD hn h1 h2)
theorem jt_ne (n : Nat) (ha : JE G a Z d1 Z1) (hb : JE G b Z1 d2 Z2) (h1 : okD n d1 = true) (h2 : okD n d2 = true) (hn : n ≤ 64 := by decide) : JT G (.Compare a [.NotEq] [b] pos) Z (!eqD n d1 d2) Z2 := jt_cmp (r := fun X => rNeD X.K) (fun _ f => op_neD f.room.units) (nomark _) ha hb (r_neD hn h1 h2)
/-! is -/
def isNon : D → Bool
  | .non => true
  | _ => false
theorem isN_rp {S : List Addr} {H : Hp} {v : V} (r : Rp S H v d) : decide (v = .non) = isNon d := by
  cases r <;> simp [isNon]
theorem jt_isN {j pos'} (ha : JE G a Z d Z1) : JT G (.Compare a [.Is] [.Constant .none j pos'] pos) Z (isNon d) Z1 := fun X f B σ H k Q q =>
  ⟨_, pt_cmp (pc_isN p_E), ha X f B σ H k _ fun x H1 k1 p1 r1 => by
    rw [isN_rp r1]
    exact ⟨_, rfl, q H1 k1 p1⟩⟩
theorem jt_notN {j pos'} (ha : JE G a Z d Z1) : JT G (.Compare a [.IsNot] [.Constant .none j pos'] pos) Z (!isNon d) Z1 := fun X f B σ H k Q q =>
  ⟨_, pt_cmp (pc_notN p_E), ha X f B σ H k _ fun x H1 k1 p1 r1 => by
    rw [isN_rp r1]
    exact ⟨_, rfl, q H1 k1 p1⟩⟩
theorem je_isN {j pos'} (ha : JE G a Z d Z1) : JE G (.Compare a [.Is] [.Constant .none j pos'] pos) Z (.bl (isNon d)) Z1 := fun X f B σ H k Q q =>
  ⟨_, pe_cmp (pc_isN p_E), ha X f B σ H k _ fun x H1 k1 p1 r1 => by
    rw [isN_rp r1]
    exact q _ H1 k1 p1 (.bl _)⟩
theorem je_notN {j pos'} (ha : JE G a Z d Z1) : JE G (.Compare a [.IsNot] [.Constant .none j pos'] pos) Z (.bl (!isNon d)) Z1 := fun X f B σ H k Q q =>
  ⟨_, pe_cmp (pc_notN p_E), ha X f B σ H k _ fun x H1 k1 p1 r1 => by
    rw [isN_rp r1]
    exact q _ H1 k1 p1 (.bl _)⟩
theorem jt_isB {t w : Bool} (ha : JE G a Z (.bl t) Z1) (hb : JE G b Z1 (.bl w) Z2) : JT G (.Compare a [.Is] [b] pos) Z (decide (t = w)) Z2 :=
  jt_cmp (r := fun _ x y H Q => ∃ a b, x = .bl a ∧ y = .bl b ∧ Q (.bl (decide (a = b))) H) (fun _ _ => op_is_bl) (nomark _) ha hb fun X f B σ H x y Q k r1 r2 q => ⟨t, w, r1.inv_bl, r2.inv_bl, q _ H k Kp.refl (.bl _)⟩
theorem je_isB {t w : Bool} (ha : JE G a Z (.bl t) Z1) (hb : JE G b Z1 (.bl w) Z2) : JE G (.Compare a [.Is] [b] pos) Z (.bl (decide (t = w))) Z2 :=
  je_cmp (r := fun _ x y H Q => ∃ a b, x = .bl a ∧ y = .bl b ∧ Q (.bl (decide (a = b))) H) (fun _ _ => op_is_bl) (nomark _) ha hb fun X f B σ H x y Q k r1 r2 q => ⟨t, w, r1.inv_bl, r2.inv_bl, q _ H k Kp.refl (.bl _)⟩
theorem jt_notB {t w : Bool} (ha : JE G a Z (.bl t) Z1) (hb : JE G b Z1 (.bl w) Z2) : JT G (.Compare a [.IsNot] [b] pos) Z (!decide (t = w)) Z2 :=
  jt_cmp (r := fun _ x y H Q => ∃ a b, x = .bl a ∧ y = .bl b ∧ Q (.bl (!decide (a = b))) H) (fun _ _ => op_isnot_bl) (nomark _) ha hb fun X f B σ H x y Q k r1 r2 q => ⟨t, w, r1.inv_bl, r2.inv_bl, q _ H k Kp.refl (.bl _)⟩
end
end JL

namespace JL
open PySem PySem.Spec L2
section
variable {G : Ctx} {Z Z1 Z2 Z3 : State} {tg a b c e iter elt : Expr} {es : List Expr} {ds : List D} {pos pos' p : Pos} {d d1 d2 : D} {x : Str} {P : OutS → Prop}
/-! ### walks, by short names -/
theorem ji_r1 {n : Int} (B : Bi G.g) (h : JA G [a] Z [.int n] Z1) (hn : -1000000 ≤ n ∧ n ≤ 1000000 := by omega) (hg : glB G.sc "range" = true := by kernel_rfl) (hs : ∀ env, starEach [a] env = [(false, eval a env)] := by intro _; rfl) : JI G tg (.Call (.Name "range" p) [a] [] pos) Z (rng 0 n) Z1 := ji_range1 B.range_ hg h hn hs
theorem ji_r2 {n m : Int} (B : Bi G.g) (h : JA G [a, b] Z [.int m, .int n] Z1) (hn : -1000000 ≤ n ∧ n ≤ 1000000 ∧ -1000000 ≤ m ∧ m ≤ 1000000 := by omega) (hg : glB G.sc "range" = true := by kernel_rfl)
    (hs : ∀ env, starEach [a, b] env = [(false, eval a env), (false, eval b env)] := by intro _; rfl) (hs2 : ∀ env, starEach [b] env = [(false, eval b env)] := by intro _; rfl) : JI G tg (.Call (.Name "range" p) [a, b] [] pos) Z (rng m n) Z1 := ji_range2 B.range_ hg h hn hs hs2
theorem ji_en {elts : List Expr} {kk : Nat} {tpos : Pos} (B : Bi G.g) (h : JA G [a] Z [.lst ds] Z1) (hg : glB G.sc "enumerate" = true := by kernel_rfl) (hs : ∀ env, starEach [a] env = [(false, eval a env)] := by intro _; rfl) :
    JI G (.Tuple elts kk tpos) (.Call (.Name "enumerate" p) [a] [] pos) Z (numd ds) Z1 := ji_enumL B.enumerate_ hg h hs
theorem ji_zp {ds es : List D} {elts : List Expr} {kk : Nat} {tpos : Pos} (B : Bi G.g) (h : JA G [a, b] Z [.lst ds, .lst es] Z1) (hg : glB G.sc "zip" = true := by kernel_rfl) (hs : ∀ env, starEach [a, b] env = (false, eval a env) :: starEach [b] env := by intro _; rfl)
    (hpl : ∀ env, (backTo pos (starEach [b] env)).any (·.1) = false := by intro _; rfl) : JI G (.Tuple elts kk tpos) (.Call (.Name "zip" p) [a, b] [] pos) Z (zipd ds es) Z1 := ji_zipL B.zip_ hg h hs hpl
theorem JI.cast {ds es : List D} (h : JI G tg iter Z ds Z1) (e : ds = es) : JI G tg iter Z es Z1 := e ▸ h
theorem JE.cast (h : JE G e Z d Z1) (q : d = d1) : JE G e Z d1 Z1 := q ▸ h
theorem JT.cast {t u : Bool} (h : JT G e Z t Z1) (q : t = u) : JT G e Z u Z1 := q ▸ h
/-! ### comprehensions over typed items -/
def noRes (ρ : Rho) (vs : List Nat) : Bool := vs.all fun j => match ρ[j]? with
  | some (some (.own _ _)) => false
  | some (some (.res _ _ _)) => false
  | _ => true
theorem noRes_of {ρ : Rho} {vs : List Nat} (h : noRes ρ vs = true) : ∀ j ∈ vs, ∀ e, ρ[j]? = some (some e) → ∃ d, e = .dat d := fun j m e q => by
  unfold noRes at h
  rw [List.all_eq_true] at h
  have := h j m
  rw [q] at this
  cases e with
  | dat d => exact ⟨d, rfl⟩
  | own _ _ => cases this
  | res _ _ _ => cases this
theorem filter_ix {α : Type} (f : α → Bool) (g : α → D) : ∀ xs : List α, ((List.range xs.length).filter fun i => (xs[i]?.map f).getD false).map (fun i => (xs[i]?.map g).getD .non) = (xs.filter f).map g
  | [] => rfl
  | x :: xs => by
    have ih := filter_ix f g xs
    rw [List.length_cons, List.range_succ_eq_map, List.filter_cons, List.filter_map]
    have e1 : ((fun i => ((x :: xs)[i]?.map f).getD false) ∘ Nat.succ) = fun i => (xs[i]?.map f).getD false := by
      funext i
      simp
    rw [e1]
    have e2 : ∀ l : List Nat, (l.map Nat.succ).map (fun i => ((x :: xs)[i]?.map g).getD D.non) = l.map fun i => (xs[i]?.map g).getD D.non := fun l => by
      rw [List.map_map]
      apply List.map_congr_left
      intro i _
      simp
    by_cases h : f x = true
    · rw [if_pos (show ((x :: xs)[0]?.map f).getD false = true by simpa using h), List.filter_cons, if_pos h, List.map_cons, List.map_cons, e2, ih]
      rfl
    · rw [if_neg (show ¬ ((x :: xs)[0]?.map f).getD false = true by simpa using h), List.filter_cons, if_neg h, e2, ih]
/-- [elt for tg in iter if ..], nothing else changing -/
theorem lcF {α : Type} {xs : List α} {enc : α → D} {ifs : List Expr} {scope : Scope} {own : List (Str × Nat)} {tv : List Nat} (tf : α → Bool) (ef : α → D) (hi : JI G tg iter Z (xs.map enc) Z1) (hz : xs.length ≤ 100000)
    (turn : ∀ (T : List Addr) (x : α), x ∈ xs → ∃ ρ1, JGw (G.blk scope) tg tv (enc x) ⟨T, wipeR Z1.ρ (own.map (·.2))⟩ ⟨T, ρ1⟩ ∧ JTs (G.blk scope) ifs ⟨T, ρ1⟩ (tf x) ⟨T, ρ1⟩ ∧ wipeR ρ1 (own.map (·.2)) = wipeR Z1.ρ (own.map (·.2)) ∧
      (tf x = true → JE (G.blk scope) elt ⟨T, ρ1⟩ (ef x) ⟨T, ρ1⟩))
    (htv : ∀ i ∈ tv, i ∈ own.map (·.2) := by decide) (hvs : noRes Z1.ρ (own.map (·.2)) = true := by rfl) (ok : blkC G.N G.sc scope own = true := by kernel_rfl) (hs : ∀ env x, foldedSetIterable iter env x = pure x := by intro _ _; rfl) :
    JLcF G elt tg iter ifs scope Z ((xs.filter tf).map ef) Z1 := by
  have := jlcIF (G := G) (Z := Z) (elt := elt) (ifs := ifs) (tv := tv) (S := Z1.S) (fun _ => Z1.ρ) (fun i => (xs[i]?.map tf).getD false) (fun i => (xs[i]?.map ef).getD .non) hi (by simpa using hz) ok (fun _ _ _ h => h) (fun _ => rfl) (fun _ => noRes_of hvs) (fun T i d e => by
    rw [List.getElem?_map] at e
    cases q : xs[i]? with
    | none => rw [q] at e; cases e
    | some x =>
      rw [q] at e
      cases e
      obtain ⟨ρ1, h1, h2, h3, h4⟩ := turn T x (List.mem_of_getElem? q)
      exact ⟨ρ1, h1, h2, fun _ => h3, fun h => ⟨ρ1, h4 h, h3⟩⟩) htv hs
  rw [List.length_map, filter_ix] at this
  exact this
theorem lc {α : Type} {xs : List α} {enc : α → D} {ifs : List Expr} {scope : Scope} {own : List (Str × Nat)} {tv : List Nat} (tf : α → Bool) (ef : α → D) (hi : JI G tg iter Z (xs.map enc) Z1) (hz : xs.length ≤ 100000)
    (turn : ∀ (T : List Addr) (x : α), x ∈ xs → ∃ ρ1, JGw (G.blk scope) tg tv (enc x) ⟨T, wipeR Z1.ρ (own.map (·.2))⟩ ⟨T, ρ1⟩ ∧ JTs (G.blk scope) ifs ⟨T, ρ1⟩ (tf x) ⟨T, ρ1⟩ ∧ wipeR ρ1 (own.map (·.2)) = wipeR Z1.ρ (own.map (·.2)) ∧
      (tf x = true → JE (G.blk scope) elt ⟨T, ρ1⟩ (ef x) ⟨T, ρ1⟩))
    (htv : ∀ i ∈ tv, i ∈ own.map (·.2) := by decide) (hvs : noRes Z1.ρ (own.map (·.2)) = true := by rfl) (ok : blkC G.N G.sc scope own = true := by kernel_rfl) (hs : ∀ env x, foldedSetIterable iter env x = pure x := by intro _ _; rfl) :
    JLc G elt tg iter ifs scope Z (.lst ((xs.filter tf).map ef)) Z1 := (lcF tf ef hi hz turn htv hvs ok hs).lc
/-- .. without a test -/
theorem lc0F {α : Type} {xs : List α} {enc : α → D} {scope : Scope} {own : List (Str × Nat)} {tv : List Nat} (ef : α → D) (hi : JI G tg iter Z (xs.map enc) Z1) (hz : xs.length ≤ 100000)
    (turn : ∀ (T : List Addr) (x : α), x ∈ xs → ∃ ρ1, JGw (G.blk scope) tg tv (enc x) ⟨T, wipeR Z1.ρ (own.map (·.2))⟩ ⟨T, ρ1⟩ ∧ wipeR ρ1 (own.map (·.2)) = wipeR Z1.ρ (own.map (·.2)) ∧ JE (G.blk scope) elt ⟨T, ρ1⟩ (ef x) ⟨T, ρ1⟩)
    (htv : ∀ i ∈ tv, i ∈ own.map (·.2) := by decide) (hvs : noRes Z1.ρ (own.map (·.2)) = true := by rfl) (ok : blkC G.N G.sc scope own = true := by kernel_rfl) (hs : ∀ env x, foldedSetIterable iter env x = pure x := by intro _ _; rfl) :
    JLcF G elt tg iter [] scope Z (xs.map ef) Z1 := by
  have := lcF (G := G) (elt := elt) (ifs := []) (fun _ : α => true) ef hi hz (fun T x m => by
    obtain ⟨ρ1, h1, h2, h3⟩ := turn T x m
    exact ⟨ρ1, h1, jts_nil, h2, fun _ => h3⟩) htv hvs ok hs
  rw [show xs.filter (fun _ => true) = xs by simp] at this
  exact this
theorem lc0 {α : Type} {xs : List α} {enc : α → D} {scope : Scope} {own : List (Str × Nat)} {tv : List Nat} (ef : α → D) (hi : JI G tg iter Z (xs.map enc) Z1) (hz : xs.length ≤ 100000)
    (turn : ∀ (T : List Addr) (x : α), x ∈ xs → ∃ ρ1, JGw (G.blk scope) tg tv (enc x) ⟨T, wipeR Z1.ρ (own.map (·.2))⟩ ⟨T, ρ1⟩ ∧ wipeR ρ1 (own.map (·.2)) = wipeR Z1.ρ (own.map (·.2)) ∧ JE (G.blk scope) elt ⟨T, ρ1⟩ (ef x) ⟨T, ρ1⟩)
    (htv : ∀ i ∈ tv, i ∈ own.map (·.2) := by decide) (hvs : noRes Z1.ρ (own.map (·.2)) = true := by rfl) (ok : blkC G.N G.sc scope own = true := by kernel_rfl) (hs : ∀ env x, foldedSetIterable iter env x = pure x := by intro _ _; rfl) :
    JLc G elt tg iter [] scope Z (.lst (xs.map ef)) Z1 := (lc0F ef hi hz turn htv hvs ok hs).lc
end
end JL

namespace JL
open PySem PySem.Spec L2
/-! ### lists of one's own -/
/-- an address of a slot's own thing is one of S -/
theorem Ok.footS {B : Bs} {Z : State} {σ : St} {H : Hp} (k : Ok B Z σ H) {i : Nat} {e : EV} (h : Z.ρ[i]? = some (some e)) : ∀ a ∈ e.foot, a ∈ Z.S := fun a m => by
  obtain ⟨o, _, h2⟩ := k.env i e h
  cases e with
  | dat d => cases m
  | own q ds => rw [List.mem_singleton.mp m]; exact h2.2.1
  | res R v P => exact h2.2.1 a m
/-- a new list at q becomes slot i's own -/
theorem Ok.own {B : Bs} {Z : State} {σ : St} {H : Hp} (k : Ok B Z σ H) (i : Nat) {q : Addr} {xs : List V} {ds : List D} (hq : H q = none) (r : RpA Z.S H xs ds) :
    Ok B ⟨q :: Z.S, Z.ρ.set i (some (.own q ds))⟩ (σ.set i (some (.ref q))) (upd H q (.lst xs)) := by
  have s := same_upd (o := .lst xs) hq
  have kp : Kp Z.S H (q :: Z.S) (upd H q (.lst xs)) := fun x c r => r.keep (Pres.of_same s) fun a o e m => by
    rcases List.mem_cons.mp m with z | z
    · rw [z, hq] at e; cases e
    · exact z
  have nS : q ∉ Z.S := k.fresh hq
  refine ⟨by simp [k.len], fun j ev e => ?_, fun j l e f h1 h2 a m1 m2 => ?_, fun j e h a m => ?_, fun a m => ?_, fun b o e n => s _ _ (k.out b o e n), fun a m => List.mem_cons_of_mem _ (k.sub a m), fun b o e n => s _ _ (k.tups b o e n), k.bsd, fun x c m => kp _ _ (k.kept x c m), fun a o m => ?_, fun a m => List.mem_cons_of_mem _ (k.msub a m), fun j q2 ds2 h => (set_cases h).elim (fun z => by cases z.2.1; exact fun m => nS (k.msub _ m)) fun z => k.ownM j q2 ds2 z.2⟩
  · rcases set_cases e with ⟨rfl, rfl, hl⟩ | ⟨hij, e⟩
    · rw [List.getElem?_set_self (by rw [← k.len]; exact hl)]
      exact ⟨_, rfl, rfl, List.mem_cons_self .., xs, upd_same, kp.all r⟩
    · rw [List.getElem?_set_ne hij]
      obtain ⟨o, h1, h2⟩ := k.env j ev e
      refine ⟨o, h1, ?_⟩
      cases ev with
      | dat d => obtain ⟨v, e, r⟩ := h2; exact ⟨v, e, kp _ _ r⟩
      | own q ds => obtain ⟨e, m, zs, hq, r⟩ := h2; exact ⟨e, List.mem_cons_of_mem _ m, zs, s _ _ hq, kp.all r⟩
      | res R v P => obtain ⟨e, m, p, sd⟩ := h2; exact ⟨e, fun a z => List.mem_cons_of_mem _ (m a z), sd _ _ H _ p (fun b o e _ => s b o e) (fun a o e z => (List.mem_cons.mp z).resolve_left fun y => by rw [y, hq] at e; cases e), sd⟩
  · rcases set_cases h1 with ⟨rfl, rfl, _⟩ | ⟨n1, h1⟩
    · rcases set_cases h2 with ⟨rfl, rfl, _⟩ | ⟨n2, h2⟩
      · rfl
      · rw [List.mem_singleton.mp m1] at m2
        exact absurd (k.footS h2 _ m2) nS
    · rcases set_cases h2 with ⟨rfl, rfl, _⟩ | ⟨n2, h2⟩
      · rw [List.mem_singleton.mp m2] at m1
        exact absurd (k.footS h1 _ m1) nS
      · exact k.sep j l e f h1 h2 a m1 m2
  · rcases set_cases h with ⟨rfl, rfl, _⟩ | ⟨_, h⟩
    · rw [List.mem_singleton.mp m]
      by_cases hm : q ∈ B.M
      · exact .inl hm
      · refine .inr ?_
        cases e : B.H q with
        | none => rfl
        | some o => rw [k.out q o e hm] at hq; cases hq
    · exact k.mine j e h a m
  · rcases List.mem_cons.mp m with z | z
    · rw [z]; exact ⟨_, upd_same, fun z => z⟩
    · obtain ⟨o, e, n⟩ := k.dom a z
      exact ⟨o, s _ _ e, n⟩
  · obtain ⟨h1, h2, h3⟩ := k.held a o m
    refine ⟨List.mem_cons_of_mem _ h1, s _ _ h2, fun j e h => ?_⟩
    rcases set_cases h with ⟨rfl, rfl, _⟩ | ⟨_, h⟩
    · intro z
      rw [List.mem_singleton.mp z, hq] at h2
      cases h2
    · exact h3 j e h
/-- slot i's own list is changed -/
theorem Ok.mut {B : Bs} {Z : State} {σ : St} {H : Hp} (k : Ok B Z σ H) {i : Nat} {q : Addr} {ds ds' : List D} {ys : List V} (h : Z.ρ[i]? = some (some (.own q ds))) (r : RpA Z.S H ys ds') :
    Ok B ⟨Z.S, Z.ρ.set i (some (.own q ds'))⟩ σ (upd H q (.lst ys)) ∧ Kp Z.S H Z.S (upd H q (.lst ys)) := by
  obtain ⟨o0, e0, e1, hS, xs, hl, _⟩ := k.env i _ h
  subst e1
  have pr : Pres Z.S H (upd H q (.lst ys)) := fun b o e n => by
    rw [upd_ne (fun z => n (by rw [z]; exact hS))]
    exact e
  have kp : Kp Z.S H Z.S (upd H q (.lst ys)) := fun x c r => r.keep pr fun _ _ _ z => z
  have tp : ∀ b o, H b = some o → Solid o → (upd H q (.lst ys)) b = some o := fun b o e n => by
    rw [upd_ne (fun z => by rw [z, hl] at e; cases e; exact n)]
    exact e
  have qi : q ∈ (EV.own q ds).foot := List.mem_singleton.mpr rfl
  refine ⟨⟨by simp [k.len], fun j ev e => ?_, fun j l e f h1 h2 a m1 m2 => ?_, fun j e h' a m => ?_, fun a m => ?_, fun b o e n => ?_, k.sub, fun b o e n => tp b o (k.tups b o e n) n, k.bsd, fun x c m => kp _ _ (k.kept x c m), fun a o m => ?_, k.msub, fun j q2 ds2 h' => (set_cases h').elim (fun z => by cases z.2.1; exact k.ownM i q ds h) fun z => k.ownM j q2 ds2 z.2⟩, kp⟩
  · rcases set_cases e with ⟨rfl, rfl, hl'⟩ | ⟨hij, e⟩
    · exact ⟨_, e0, rfl, hS, ys, upd_same, kp.all r⟩
    · obtain ⟨o, h1, h2⟩ := k.env j ev e
      refine ⟨o, h1, ?_⟩
      have nf : q ∉ ev.foot := fun m => hij (k.sep i j _ ev h e q qi m)
      cases ev with
      | dat d => obtain ⟨v, e, r⟩ := h2; exact ⟨v, e, kp _ _ r⟩
      | own q2 ds2 =>
        obtain ⟨e, m, zs, hq, r⟩ := h2
        exact ⟨e, m, zs, by rw [upd_ne (fun z => nf (by rw [← z]; exact List.mem_singleton.mpr rfl))]; exact hq, kp.all r⟩
      | res R v P =>
        obtain ⟨e, m, p, sd⟩ := h2
        refine ⟨e, m, sd _ _ H _ p (fun b o e hb => ?_) (fun _ _ _ z => z), sd⟩
        rcases hb with hb | hb | hb
        · rw [upd_ne (fun z => nf (by rw [← z]; exact hb))]
          exact e
        · exact pr b o e hb
        · exact tp b o e hb
  · rcases set_cases h1 with ⟨rfl, rfl, _⟩ | ⟨n1, h1⟩
    · rcases set_cases h2 with ⟨rfl, rfl, _⟩ | ⟨n2, h2⟩
      · rfl
      · exact k.sep i l _ f h h2 a m1 m2
    · rcases set_cases h2 with ⟨rfl, rfl, _⟩ | ⟨n2, h2⟩
      · exact k.sep j i e _ h1 h a m1 m2
      · exact k.sep j l e f h1 h2 a m1 m2
  · rcases set_cases h' with ⟨rfl, rfl, _⟩ | ⟨_, h'⟩
    · exact k.mine i _ h a m
    · exact k.mine j e h' a m
  · by_cases z : a = q
    · rw [z]; exact ⟨_, upd_same, fun z => z⟩
    · obtain ⟨o, e, n⟩ := k.dom a m
      exact ⟨o, by rw [upd_ne z]; exact e, n⟩
  · rw [upd_ne (fun z => by
      subst z
      rcases k.mine i _ h b qi with w | w
      · exact n w
      · rw [w] at e; cases e)]
    exact k.out b o e n
  · obtain ⟨h1, h2, h3⟩ := k.held a o m
    refine ⟨h1, by rw [upd_ne (fun z => h3 i _ h (by rw [z]; exact qi))]; exact h2, fun j e h' => ?_⟩
    rcases set_cases h' with ⟨hj, he, _⟩ | ⟨_, h'⟩
    · rw [he]; exact h3 i (.own q ds) h
    · exact h3 j e h'
/-- an own list becomes plain data -/
theorem Ok.melt {B : Bs} {S : List Addr} {ρ : Rho} {σ : St} {H : Hp} {i : Nat} {q : Addr} {ds : List D} (k : Ok B ⟨q :: S, ρ⟩ σ H) (h : ρ[i]? = some (some (.own q ds))) (nq : q ∉ S) (nB : q ∉ B.S) :
    Ok B ⟨S, ρ.set i (some (.dat (.lst ds)))⟩ σ H := by
  obtain ⟨o0, e0, e1, hS, xs, hl, rx⟩ := k.env i _ h
  subst e1
  have dn : ∀ x c, Rp (q :: S) H x c → Rp S H x c := fun x c r => r.keep Pres.refl fun a o _ m => List.mem_cons_of_mem _ m
  have dnA : ∀ xs cs, RpA (q :: S) H xs cs → RpA S H xs cs := fun xs cs r => ⟨r.1, fun i x d e1 e2 => dn _ _ (r.2 i x d e1 e2)⟩
  have qi : q ∈ (EV.own q ds).foot := List.mem_singleton.mpr rfl
  refine ⟨by simpa using k.len, fun j ev e => ?_, fun j l e f h1 h2 a m1 m2 => ?_, fun j e h' a m => ?_, fun a m => k.dom a (List.mem_cons_of_mem _ m), k.out, fun a m => ?_, k.tups, k.bsd, fun x c m => dn _ _ (k.kept x c m), fun a o m => ?_, fun a m => (List.mem_cons.mp (k.msub a m)).resolve_left fun z => k.ownM i q ds h (by rw [← z]; exact m), fun j q2 ds2 h' => (set_cases h').elim (fun z => by cases z.2.1) fun z => k.ownM j q2 ds2 z.2⟩
  · rcases set_cases e with ⟨rfl, rfl, hl'⟩ | ⟨hij, e⟩
    · exact ⟨_, e0, .ref q, rfl, rp_lst nq hl (dnA _ _ rx)⟩
    · obtain ⟨o, h1, h2⟩ := k.env j ev e
      refine ⟨o, h1, ?_⟩
      have nf : q ∉ ev.foot := fun m => hij (k.sep i j _ ev h e q qi m)
      cases ev with
      | dat d => obtain ⟨v, e, r⟩ := h2; exact ⟨v, e, dn _ _ r⟩
      | own q2 ds2 =>
        obtain ⟨e, m, zs, hq, r⟩ := h2
        exact ⟨e, (List.mem_cons.mp m).resolve_left fun z => nf (by rw [← z]; exact List.mem_singleton.mpr rfl), zs, hq, dnA _ _ r⟩
      | res R v P =>
        obtain ⟨e, m, p, sd⟩ := h2
        exact ⟨e, fun a ha => (List.mem_cons.mp (m a ha)).resolve_left fun z => nf (by rw [← z]; exact ha), sd _ _ _ _ p (fun _ _ e _ => e) (fun a o _ z => List.mem_cons_of_mem _ z), sd⟩
  · rcases set_cases h1 with ⟨rfl, rfl, _⟩ | ⟨n1, h1⟩
    · cases m1
    · rcases set_cases h2 with ⟨rfl, rfl, _⟩ | ⟨n2, h2⟩
      · cases m2
      · exact k.sep j l e f h1 h2 a m1 m2
  · rcases set_cases h' with ⟨rfl, rfl, _⟩ | ⟨_, h'⟩
    · cases m
    · exact k.mine j e h' a m
  · rcases List.mem_cons.mp (k.sub a m) with z | z
    · rw [z] at m; exact absurd m nB
    · exact z
  · obtain ⟨h1, h2, h3⟩ := k.held a o m
    refine ⟨(List.mem_cons.mp h1).resolve_left fun z => h3 i _ h (by rw [z]; exact qi), h2, fun j e h' => ?_⟩
    rcases set_cases h' with ⟨rfl, rfl, _⟩ | ⟨_, h'⟩
    · intro z; cases z
    · exact h3 j e h'
section
variable {G : Ctx} {Z Z1 Z2 Z3 : State} {tg a b c e iter elt : Expr} {es : List Expr} {ds : List D} {pos pos' p p2 apos : Pos} {d d1 d2 : D} {x : Str} {P : OutS → Prop} {q : Addr} {S : List Addr} {ρ : Rho}
/-- x = [..], to be changed later -/
theorem js_own (i : Nat) (h : JA G es Z ds Z1) (hp : ∀ q, q ∉ Z1.S → P (.nx ⟨q :: Z1.S, Z1.ρ.set i (some (.own q ds))⟩)) (hz : ds.length ≤ 100000 := by first | exact Nat.le_of_ble_eq_true rfl | omega) (hn : stB G.N G.sc G.fn i x = true := by kernel_rfl)
    (hs : ∀ env, swapsWith (.List es p2) (some (.Name x pos')) pos.line env = pure false := by intro _; rfl) : JS G (.Assign [.Name x pos'] (.List es p2) pos) Z P := by
  intro X f B σ H k W E tk en
  simp only [stB, Bool.and_eq_true, decide_eq_true_eq] at hn
  obtain ⟨l1, l2⟩ := loc_of f hn.2
  exact ⟨_, ps_set (i := i) (by rw [f.N]; exact f.nd) (by rw [f.N]; exact hn.1) l1 (pe_lst p_A) (hs _) l2, h X f B σ H k _ fun vs H1 k1 p1 r1 => ⟨by rw [r1.1]; exact sz5 hz, fun q nq => en.nx _ _ _ (hp q (k1.fresh nq)) (k1.own i nq r1)⟩⟩
/-- x.append(e) -/
theorem js_app (i : Nat) (h : JE G e Z d Z1) (hi : Z1.ρ[i]? = some (some (.own q ds))) (hp : P (.nx ⟨Z1.S, Z1.ρ.set i (some (.own q (ds ++ [d])))⟩)) (hi0 : ∃ ds0, Z.ρ[i]? = some (some (.own q ds0)) := by exact ⟨_, rfl⟩) (hz : ds.length < 100000 := by first | exact Nat.le_of_ble_eq_true rfl | omega) (hn : nmB G.N G.sc i x = true := by kernel_rfl)
    (hs : ∀ env, swapsWith (.Call (.Attribute (.Name x p) "append" apos) [e] [] pos') none pos.line env = pure false := by intro _; rfl) (he : ∀ env, starEach [e] env = (false, eval e env) :: starEach [] env := by intro _; rfl)
    (hbase : ∀ env, attributeBase (.Name x p) "append" env (eval (.Name x p) env) = eval (.Name x p) env := by intro _; rfl)
    (hfew : ∀ env, ((backTo pos' (starEach [e] env)).all (fun x => !x.1) && (backToKw pos' (keywordEach [] env)).all (fun x => x.1.isSome) && decide ([e].length + ([] : List Keyword).length + (if ([] : List Keyword).isEmpty then 0 else 1) < 30)) = true := by intro _; rfl)
    (hline : (apos.endLine == pos'.line) = true := by rfl) :
    JS G (.Expr (.Call (.Attribute (.Name x p) "append" apos) [e] [] pos') pos) Z P := by
  intro X f B σ H k W E tk en
  simp only [nmB, Bool.and_eq_true, decide_eq_true_eq, Bool.not_eq_true'] at hn
  obtain ⟨h1, h2, h3, h4⟩ := hn
  obtain ⟨ds0, hi0⟩ := hi0
  obtain ⟨o0, e0, e1, hS, xs, hl, rx⟩ := k.env i _ hi0
  subst e1
  refine ⟨_, ps_expr (pe_bm PySem.F.plainAttrs_list PySem.F.slot_list_append PySem.F.type_list_append mt_append (pe_var (i := i) (by rw [f.N]; exact h1) (by rw [f.sc]; exact vis_of h2) h3 h4) p_A (hbase _) (hfew _) hline (he _) (by rfl)) (hs _), ?_⟩
  refine ⟨.ref q, e0, .inl ⟨rfl, xs, .of hl⟩, tCons (wE X e) tNil, pa_cons p_E pa_nil (he _), h X f B σ H k _ fun v H1 k1 p1 r1 => ?_⟩
  obtain ⟨o1, e2, e3, hS1, ys, hl1, ry⟩ := k1.env i _ hi
  obtain ⟨k2, p2⟩ := k1.mut hi (ys := ys ++ [v]) (ds' := ds ++ [d]) (ry.append (RpA.cons r1 RpA.nil))
  exact ⟨q, ys, v, rfl, rfl, hl1, by rw [ry.1]; exact Nat.lt_of_lt_of_le hz (by decide), en.nx _ _ _ hp k2⟩
/-- x.extend(e) -/
theorem js_ext (i : Nat) {es : List D} (h : JE G e Z (.lst es) Z1) (hi : Z1.ρ[i]? = some (some (.own q ds))) (hp : P (.nx ⟨Z1.S, Z1.ρ.set i (some (.own q (ds ++ es)))⟩)) (hi0 : ∃ ds0, Z.ρ[i]? = some (some (.own q ds0)) := by exact ⟨_, rfl⟩) (hz : ds.length + es.length ≤ 100000 := by first | exact Nat.le_of_ble_eq_true rfl | omega) (hn : nmB G.N G.sc i x = true := by kernel_rfl)
    (hs : ∀ env, swapsWith (.Call (.Attribute (.Name x p) "extend" apos) [e] [] pos') none pos.line env = pure false := by intro _; rfl) (he : ∀ env, starEach [e] env = (false, eval e env) :: starEach [] env := by intro _; rfl)
    (hbase : ∀ env, attributeBase (.Name x p) "extend" env (eval (.Name x p) env) = eval (.Name x p) env := by intro _; rfl)
    (hfew : ∀ env, ((backTo pos' (starEach [e] env)).all (fun x => !x.1) && (backToKw pos' (keywordEach [] env)).all (fun x => x.1.isSome) && decide ([e].length + ([] : List Keyword).length + (if ([] : List Keyword).isEmpty then 0 else 1) < 30)) = true := by intro _; rfl)
    (hline : (apos.endLine == pos'.line) = true := by rfl) :
    JS G (.Expr (.Call (.Attribute (.Name x p) "extend" apos) [e] [] pos') pos) Z P := by
  intro X f B σ H k W E tk en
  simp only [nmB, Bool.and_eq_true, decide_eq_true_eq, Bool.not_eq_true'] at hn
  obtain ⟨h1, h2, h3, h4⟩ := hn
  obtain ⟨ds0, hi0⟩ := hi0
  obtain ⟨o0, e0, e1, hS, xs, hl, rx⟩ := k.env i _ hi0
  subst e1
  refine ⟨_, ps_expr (pe_bm PySem.F.plainAttrs_list PySem.F.slot_list_extend PySem.F.type_list_extend mt_extend (pe_var (i := i) (by rw [f.N]; exact h1) (by rw [f.sc]; exact vis_of h2) h3 h4) p_A (hbase _) (hfew _) hline (he _) (by rfl)) (hs _), ?_⟩
  refine ⟨.ref q, e0, .inl ⟨rfl, xs, .of hl⟩, tCons (wE X e) tNil, pa_cons p_E pa_nil (he _), h X f B σ H k _ fun v H1 k1 p1 r1 => ?_⟩
  obtain ⟨o1, e2, e3, hS1, ys, hl1, ry⟩ := k1.env i _ hi
  obtain ⟨w, zs, rfl, nw, ew, rw'⟩ := r1.inv_lst
  obtain ⟨k2, p2⟩ := k1.mut hi (ys := ys ++ zs) (ds' := ds ++ es) (ry.append rw')
  exact ⟨q, w, ys, zs, rfl, rfl, hl1, ew, by rw [ry.1, rw'.1]; exact sz5 hz, en.nx _ _ _ hp k2⟩
/-- x[j] of an own list -/
theorem je_ownIx (i : Nat) {j : Int} (hb : JE G b Z (.int j) Z1) (hi0 : ∃ ds0, Z.ρ[i]? = some (some (.own q ds0))) (hi : Z1.ρ[i]? = some (some (.own q ds))) (h : atI ds j = some d) (hn : nmB G.N G.sc i x = true := by kernel_rfl) (hs : PlainIx b := by intro _ _; rfl) : JE G (.Subscript (.Name x p) b pos) Z d Z1 := by
  intro X f B σ H k Q qq
  simp only [nmB, Bool.and_eq_true, decide_eq_true_eq, Bool.not_eq_true'] at hn
  obtain ⟨h1, h2, h3, h4⟩ := hn
  obtain ⟨ds0, hi0⟩ := hi0
  obtain ⟨o0, e0, e1, hS, xs, hl, rx⟩ := k.env i _ hi0
  subst e1
  refine ⟨_, pe_ix ix_list (pe_var (i := i) (by rw [f.N]; exact h1) (by rw [f.sc]; exact vis_of h2) h3 h4) p_E hs, .ref q, e0, hb X f B σ H k _ fun y H2 k2 p2 r2 => ?_⟩
  obtain ⟨o1, e2, e3, hS1, ys, hl1, ry⟩ := k2.env i _ hi
  obtain ⟨v, e4, rv⟩ := atI_rp ry h
  exact ⟨q, ys, j, v, rfl, r2.inv_int, .of hl1, e4, qq v H2 k2 p2 rv⟩
/-- from now on x's list is plain data -/
theorem js_melt {sts : List Stmt} (i : Nat) (h : ρ[i]? = some (some (.own q ds))) (nq : q ∉ S) (k : JSs G sts ⟨S, ρ.set i (some (.dat (.lst ds)))⟩ P) : JSs G sts ⟨q :: S, ρ⟩ P := fun X f B σ H ok W E tk en => by
  refine k X f B σ H (ok.melt h nq fun m => ?_) W E tk en
  obtain ⟨o, e⟩ := ok.bsd q m
  rcases ok.mine i _ h q (List.mem_singleton.mpr rfl) with w | w
  · exact absurd w (ok.ownM i q ds h)
  · rw [w] at e; cases e
end
end JL

namespace JL
open PySem PySem.Spec L2
/-! ### texts -/
section
variable {G : Ctx} {Z Z1 Z2 Z3 : State} {o a b c e iter elt : Expr} {es : List Expr} {ds : List D} {pos pos' p p2 apos : Pos} {d d1 d2 : D} {x : Str} {z w : Str}
/-- a method of a text with one argument -/
theorem je_m1 {id : String} {name : Str} {r : Cx → V → List V → Hp → VK → Prop} (slot : PySem.Slot "str" name id) (ty : typeOf (.builtin id) = pure (.type "method_descriptor")) (rule : ∀ X, Fits G X → MtR X id (r X)) (ho : JE G o Z (.str z) Z1) (he : JE G e Z1 d1 Z2)
    (hr : ∀ X, Fits G X → ∀ B σ H v (Q : VK), Ok B Z2 σ H → Rp Z2.S H v d1 → (∀ v H', Same H H' → Rp Z2.S H' v d → Q v H') → r X (.str z) [v] H Q)
    (hs : ∀ env, starEach [e] env = [(false, eval e env)]) (hbase : ∀ env, attributeBase o name env (eval o env) = eval o env) (hline : (apos.endLine == pos.line) = true) :
    JE G (.Call (.Attribute o name apos) [e] [] pos) Z d Z2 := fun X f B σ H k Q q =>
  ⟨_, pe_m1 slot ty (rule X f) p_E p_E (hs _) (hbase _) hline, ho X f B σ H k _ fun x H1 k1 p1 r1 => by
    cases r1.inv_str
    exact ⟨⟨_, rfl⟩, he X f B σ H1 k1 _ fun v H2 k2 p2 r2 => hr X f B σ H2 v Q k2 r2 fun v H3 s r3 => q v H3 (k2.same s) ((p1.trans p2).trans (Kp.same s)) r3⟩⟩
theorem je_startswith (ho : JE G o Z (.str z) Z1) (he : JE G e Z1 (.str w) Z2) (hs : ∀ env, starEach [e] env = [(false, eval e env)] := by intro _; rfl) (hbase : ∀ env, attributeBase o "startswith" env (eval o env) = eval o env := by intro _; rfl) (hline : (apos.endLine == pos.line) = true := by rfl) :
    JE G (.Call (.Attribute o "startswith" apos) [e] [] pos) Z (.bl (Txt.startswith z w)) Z2 :=
  je_m1 (r := fun _ x xs H Q => ∃ a b, x = .str a ∧ xs = [.str b] ∧ Q (.bl (Txt.startswith a b)) H) F.slot_str_startswith F.type_str_startswith (fun _ _ => mt_startswith) ho he (fun X f B σ H v Q k r q => by
    cases r.inv_str
    exact ⟨z, w, rfl, rfl, q _ H (Same.refl H) (.bl _)⟩) hs hbase hline
theorem je_endswith (ho : JE G o Z (.str z) Z1) (he : JE G e Z1 (.str w) Z2) (hs : ∀ env, starEach [e] env = [(false, eval e env)] := by intro _; rfl) (hbase : ∀ env, attributeBase o "endswith" env (eval o env) = eval o env := by intro _; rfl) (hline : (apos.endLine == pos.line) = true := by rfl) :
    JE G (.Call (.Attribute o "endswith" apos) [e] [] pos) Z (.bl (Txt.endswith z w)) Z2 :=
  je_m1 (r := fun _ x xs H Q => ∃ a b, x = .str a ∧ xs = [.str b] ∧ Q (.bl (Txt.endswith a b)) H) F.slot_str_endswith F.type_str_endswith (fun _ _ => mt_endswith) ho he (fun X f B σ H v Q k r q => by
    cases r.inv_str
    exact ⟨z, w, rfl, rfl, q _ H (Same.refl H) (.bl _)⟩) hs hbase hline
theorem je_lstrip (ho : JE G o Z (.str z) Z1) (he : JE G e Z1 (.str w) Z2) (hz : z.length ≤ 100000) (hs : ∀ env, starEach [e] env = [(false, eval e env)] := by intro _; rfl) (hbase : ∀ env, attributeBase o "lstrip" env (eval o env) = eval o env := by intro _; rfl) (hline : (apos.endLine == pos.line) = true := by rfl) :
    JE G (.Call (.Attribute o "lstrip" apos) [e] [] pos) Z (.str (Txt.lstripChars z w)) Z2 :=
  je_m1 (r := fun _ x xs H Q => ∃ a b, x = .str a ∧ xs = [.str b] ∧ a.length ≤ sizeLine ∧ Q (.str (Txt.lstripChars a b)) H) F.slot_str_lstrip F.type_str_lstrip (fun _ _ => mt_lstripChars) ho he (fun X f B σ H v Q k r q => by
    cases r.inv_str
    exact ⟨z, w, rfl, rfl, sz5 hz, q _ H (Same.refl H) (.str _)⟩) hs hbase hline
theorem je_partition (ho : JE G o Z (.str z) Z1) (he : JE G e Z1 (.str w) Z2) (hw : (w.length == 0) = false) (hz : z.length ≤ 100000) (hs : ∀ env, starEach [e] env = [(false, eval e env)] := by intro _; rfl) (hbase : ∀ env, attributeBase o "partition" env (eval o env) = eval o env := by intro _; rfl) (hline : (apos.endLine == pos.line) = true := by rfl) :
    JE G (.Call (.Attribute o "partition" apos) [e] [] pos) Z (.tup [.str (Txt.partition z w).1, .str (Txt.partition z w).2.1, .str (Txt.partition z w).2.2]) Z2 :=
  je_m1 (r := fun _ x xs H Q => ∃ a b, x = .str a ∧ xs = [.str b] ∧ (b.length == 0) = false ∧ a.length ≤ sizeLine ∧ ∀ p, H p = none → Q (.ref p) (upd H p (.tup [.str (Txt.partition a b).1, .str (Txt.partition a b).2.1, .str (Txt.partition a b).2.2]))) F.slot_str_partition F.type_str_partition (fun _ _ => mt_partition) ho he (fun X f B σ H v Q k r q => by
    cases r.inv_str
    exact ⟨z, w, rfl, rfl, hw, sz5 hz, fun p np => q _ _ (same_upd np) (rp_tup (k.fresh np) upd_same (RpA.cons (.str _) (RpA.cons (.str _) (RpA.cons (.str _) RpA.nil))))⟩) hs hbase hline
theorem rpa_of {α : Type} {S : List Addr} {H : Hp} {f : α → D} {g : α → V} (h : ∀ x, Rp S H (g x) (f x)) : ∀ l : List α, RpA S H (l.map g) (l.map f)
  | [] => RpA.nil
  | x :: l => RpA.cons (h x) (rpa_of h l)
theorem je_split (ho : JE G o Z (.str z) Z1) (he : JE G e Z1 (.str w) Z2) (hw : (w.length == 0) = false) (hz : z.length ≤ 90000) (hs : ∀ env, starEach [e] env = [(false, eval e env)] := by intro _; rfl) (hbase : ∀ env, attributeBase o "split" env (eval o env) = eval o env := by intro _; rfl) (hline : (apos.endLine == pos.line) = true := by rfl) :
    JE G (.Call (.Attribute o "split" apos) [e] [] pos) Z (.lst ((Txt.split z w).map D.str)) Z2 :=
  je_m1 (r := fun _ x xs H Q => ∃ a b, x = .str a ∧ xs = [.str b] ∧ (b.length == 0) = false ∧ a.length + 2 ≤ sizeLine ∧ rNewStrs (Txt.split a b) H Q) F.slot_str_split F.type_str_split (fun _ _ => mt_split) ho he (fun X f B σ H v Q k r q => by
    cases r.inv_str
    exact ⟨z, w, rfl, rfl, hw, sz5 (by omega), fun p np => q _ _ (same_upd np) (rp_lst (k.fresh np) upd_same (rpa_of (fun x => .str x) _))⟩) hs hbase hline
theorem je_join {ys : List Str} (ho : JE G o Z (.str z) Z1) (he : JE G e Z1 (.lst (ys.map D.str)) Z2) (hz : (ys.map (·.length)).sum + ys.length * z.length ≤ 16777216) (hs : ∀ env, starEach [e] env = [(false, eval e env)] := by intro _; rfl) (hbase : ∀ env, attributeBase o "join" env (eval o env) = eval o env := by intro _; rfl) (hline : (apos.endLine == pos.line) = true := by rfl) :
    JE G (.Call (.Attribute o "join" apos) [e] [] pos) Z (.str (Txt.join z ys)) Z2 :=
  je_m1 (r := fun X x xs H Q => ∃ a p, ∃ ys : List Str, x = .str a ∧ xs = [.ref p] ∧ (SqL X.K H p (ys.map V.str) ∨ SqT X.K H p (ys.map V.str)) ∧ (ys.map (·.length)).sum + ys.length * a.length ≤ 16777216 ∧ Q (.str (Txt.join a ys)) H) F.slot_str_join F.type_str_join (fun _ _ => mt_join) ho he (fun X f B σ H v Q k r q => by
    obtain ⟨l, xs, rfl, nl, el, ra⟩ := r.inv_lst
    have ex : xs = ys.map V.str := rpa_map (fun b v r => r.inv_str) ra
    subst ex
    exact ⟨z, l, ys, rfl, rfl, .inl (.of el), hz, q _ H (Same.refl H) (.str _)⟩) hs hbase hline
/-- one sign in a text -/
theorem je_inSign {n : Nat} (ha : JE G a Z (.str ⟨#[n]⟩) Z1) (hb : JE G b Z1 (.str w) Z2) (hm : behindInMarks .In b = false := by rfl) : JE G (.Compare a [.In] [b] pos) Z (.bl (decide (n ∈ w.cps.toList))) Z2 :=
  je_cmp (r := fun _ x y H Q => ∃ (c : Nat) (z : Str), x = .str ⟨#[c]⟩ ∧ y = .str z ∧ Q (.bl (decide (c ∈ z.cps.toList))) H) (fun _ _ => op_in_sign) hm ha hb fun X f B σ H x y Q k r1 r2 q => ⟨n, w, r1.inv_str, r2.inv_str, q _ H k Kp.refl (.bl _)⟩
/-- == of texts -/
theorem r_eqS {t : Bool} (ht : decide (z = w) = t) : ∀ X : Cx, Fits G X → ∀ (B : Bs) (σ : St) (H : Hp) (x y : V) (Q : VK), Ok B Z σ H → Rp Z.S H x (.str z) → Rp Z.S H y (.str w) → (∀ v H', Ok B Z σ H' → Kp Z.S H Z.S H' → Rp Z.S H' v (.bl t) → Q v H') → rEq x y H Q :=
  fun X f B σ H x y Q k r1 r2 q => by
    cases r1.inv_str; cases r2.inv_str
    refine ⟨rfl, ?_⟩
    have e : decide (V.str z = V.str w) = t := by rw [← ht]; simp
    rw [e]
    exact q _ H k Kp.refl (.bl _)
theorem r_neS {t : Bool} (ht : (!decide (z = w)) = t) : ∀ X : Cx, Fits G X → ∀ (B : Bs) (σ : St) (H : Hp) (x y : V) (Q : VK), Ok B Z σ H → Rp Z.S H x (.str z) → Rp Z.S H y (.str w) → (∀ v H', Ok B Z σ H' → Kp Z.S H Z.S H' → Rp Z.S H' v (.bl t) → Q v H') → rNe x y H Q :=
  fun X f B σ H x y Q k r1 r2 q => by
    cases r1.inv_str; cases r2.inv_str
    refine ⟨rfl, ?_⟩
    have e : (!decide (V.str z = V.str w)) = t := by rw [← ht]; simp
    rw [e]
    exact q _ H k Kp.refl (.bl _)
theorem je_eqS (ha : JE G a Z (.str z) Z1) (hb : JE G b Z1 (.str w) Z2) : JE G (.Compare a [.Eq] [b] pos) Z (.bl (decide (z = w))) Z2 := je_cmp (r := fun _ => rEq) (fun _ _ => op_eq) (nomark _) ha hb (r_eqS rfl)
theorem jt_eqS (ha : JE G a Z (.str z) Z1) (hb : JE G b Z1 (.str w) Z2) : JT G (.Compare a [.Eq] [b] pos) Z (decide (z = w)) Z2 := jt_cmp (r := fun _ => rEq) (fun _ _ => op_eq) (nomark _) ha hb (r_eqS rfl)
theorem jt_neS (ha : JE G a Z (.str z) Z1) (hb : JE G b Z1 (.str w) Z2) : JT G (.Compare a [.NotEq] [b] pos) Z (!decide (z = w)) Z2 := jt_cmp (r := fun _ => rNe) (fun _ _ => op_ne) (nomark _) ha hb (r_neS rfl)
theorem str_len (u v : Str) : (u ++ v).length = u.length + v.length := Array.size_append
/-! f-strings -/
/-- the parts of an f-string -/
inductive JJ (G : Ctx) (Z : State) : List Expr → List Str → Prop
  | nil : JJ G Z [] []
  | cons {e : Expr} {es : List Expr} {y : Str} {ys : List Str} : JE G e Z (.str y) Z → JJ G Z es ys → JJ G Z (e :: es) (y :: ys)
theorem pj_W {X : Cx} : ∀ es : List Expr, PJ X es (es.map (wE X))
  | [] => .nil
  | _ :: es => .cons p_E (pj_W es)
theorem je_fmtI {i : Int} (h : JE G e Z (.int i) Z1) (hz : i.natAbs.log2 < 1920) : JE G (.FormattedValue e (-1) none pos) Z (.str (toString i)) Z1 := fun X f B σ H k Q q =>
  ⟨_, pe_fmt p_E, h X f B σ H k _ fun x H1 k1 p1 r1 => .inr ⟨i, r1.inv_int, hz, q _ H1 k1 p1 (.str _)⟩⟩
theorem je_fmtS (h : JE G e Z (.str z) Z1) (hz : z.length ≤ 100000) : JE G (.FormattedValue e (-1) none pos) Z (.str z) Z1 := fun X f B σ H k Q q =>
  ⟨_, pe_fmt p_E, h X f B σ H k _ fun x H1 k1 p1 r1 => .inl ⟨z, r1.inv_str, sz5 hz, q _ H1 k1 p1 (.str _)⟩⟩
theorem jj_run {X : Cx} (f : Fits G X) {ys : List Str} (h : JJ G Z es ys) : ∀ (acc : Str) (B : Bs) (σ : St) (H : Hp) (Q : Str → Hp → Prop), Ok B Z σ H → acc.length + (ys.map (·.length)).sum ≤ 100000 → (∀ H', Ok B Z σ H' → Kp Z.S H Z.S H' → Q (ys.foldl (· ++ ·) acc) H') → tJs (es.map (wE X)) acc σ H Q := by
  induction h with
  | nil => intro acc B σ H Q k _ q; exact q H k Kp.refl
  | @cons e es y ys he _ ih =>
    intro acc B σ H Q k hz q
    refine he X f B σ H k _ fun v H1 k1 p1 r1 => ?_
    have hl : (acc ++ y).length = acc.length + y.length := str_len acc y
    rw [List.map_cons, List.sum_cons] at hz
    exact ⟨y, r1.inv_str, by rw [hl]; exact sz5 (by omega), ih (acc ++ y) B σ H1 Q k1 (by rw [hl]; omega) fun H2 k2 p2 => q H2 k2 (p1.trans p2)⟩
theorem je_joined {v1 v2 : Expr} {ys : List Str} (h : JJ G Z (v1 :: v2 :: es) ys) (hz : (ys.map (·.length)).sum ≤ 100000) : JE G (.JoinedStr (v1 :: v2 :: es) pos) Z (.str (ys.foldl (· ++ ·) Str.empty)) Z := fun X f B σ H k Q q =>
  ⟨_, pe_joined (pj_W _), jj_run f h Str.empty B σ H _ k (by rw [show Str.empty.length = 0 from rfl]; omega) fun H1 k1 p1 => q _ H1 k1 p1 (.str _)⟩
theorem je_joined1 (h : JE G e Z d Z1) : JE G (.JoinedStr [e] pos) Z d Z1 := fun X f B σ H k Q q => ⟨_, pe_joined1 p_E, h X f B σ H k Q q⟩
end
end JL

namespace JL
open PySem PySem.Spec L2
/-! ### a caught error that is kept in a name -/
/-- at a stands an error of the class cls -/
def ExH (cls : Value) (a : Addr) : HO := .ext fun h => ∃ (oe : Obj) (vs : Array Value), h.get? a = some oe ∧ Zc cls none oe ∧ oe.data = .fields vs
theorem exH_ok {P : Program} {w : World} {H : Hp} {h : Heap} {a : Addr} {cls : Value} {oe : Obj} {vs : Array Value} (e : h.get? a = some oe) (z : Zc cls none oe) (d : oe.data = .fields vs) : ObjOk P w H h a (ExH cls a) :=
  ⟨⟨oe, vs, e, z, d⟩, ⟨oe, e⟩, fun _ _ hx k => by obtain ⟨o, v, q, r⟩ := hx; exact ⟨o, v, k o q, r⟩⟩
section
variable {X : Cx} {pins : List (Addr × Obj)} {σ : L2.St} {H : Hp} {s : Shared}
/-- a pinned thing, younger than the entry, is tracked from now on -/
theorem track {a : Addr} {oe : Obj} {φ : Heap → Prop} (I : Inv X ((a, oe) :: pins) σ H s) (h0 : X.s_0.heap.get? a = none) (hp : ∀ p ∈ X.pn ++ pins, p.1 ≠ a) (hx : ObjOk X.prog X.w (upd H a (.ext φ)) s.heap a (.ext φ)) : Inv X pins σ (upd H a (.ext φ)) s := by
  obtain ⟨ha, na, nL, nF, nc⟩ := I.pin (a, oe) (List.mem_append_right _ List.mem_cons_self)
  have ha : s.heap.get? a = some oe := ha
  have na : H a = none := na
  have up : ∀ b, b ≠ a → upd H a (.ext φ) b = H b := fun b hb => upd_ne hb
  have ub := I.base
  refine ⟨I.ok, I.os, I.bare, ⟨ub.keep, ub.slot, fun b o e n hx => ?_, ub.there, fun b xs e => ?_, fun b o u e => ?_, fun b ps e => ?_⟩, I.loc, I.cell, ?_, fun x c e => ?_, fun p m => ?_, ?_, I.len⟩
  · rw [up b fun z => by rw [z, h0] at e; cases e]
    exact ub.free b o e n hx
  · have q := ub.tups b xs e
    rw [up b (ne_of_none q na)]
    exact q
  · have q := ub.frzs b o u e
    rw [up b (ne_of_none q na)]
    exact q
  · obtain ⟨more, q⟩ := ub.tbls b ps e
    exact ⟨more, by rw [up b (ne_of_none q na)]; exact q⟩
  · rw [up _ (Ne.symm nL)]
    exact I.free
  · rw [up c fun z => by
      subst z
      obtain ⟨v, q⟩ := I.cell x c e
      obtain ⟨o', e', hc'⟩ := q
      rw [ha] at e'
      cases e'
      exact nc _ (by first | exact hc' | exact hc'.1 | exact hc'.2)]
    exact I.freeC x c e
  · have q := I.pin p (by
      rcases List.mem_append.mp m with z | z
      · exact List.mem_append_left _ z
      · exact List.mem_append_right _ (List.mem_cons_of_mem _ z))
    exact ⟨q.1, by rw [up _ (hp p m)]; exact q.2.1, q.2.2.1, q.2.2.2.1, q.2.2.2.2⟩
  · exact I.hok.laidN (fun _ _ e => e) na hx
/-- what the clause wishes: every error of the body is its own, and stays behind it at j -/
def wHeld (K : PySem.W.Frag) (c : Value) (i j : Nat) (D : Ends) : WX := fun cls d σ H => PySem.W.exmOne K cls c = some true ∧ d = none ∧ ∀ a, H a = none → D.nx (((σ.set i (some (.ref a))).set j (some (.ref a))).set i none) (upd H a (ExH cls a))
/-- try: body / except x as n: m = n -/
theorem ps_try_held {x n m : Str} {c : Value} {i j : Nat} {body : List Stmt} {np pos pos' p1 p2 p3 : Pos} {tb : WX → TS} (hs : X.stack = X.env :: X.outer) (hf : X.env.frame = some X.env.locals) (hex : X.ex = []) (hN : X.N.Nodup) (hi : X.N[i]? = some n) (hln : X.env.kindOf n = some .local)
    (hj : X.N[j]? = some m) (hlm : X.env.scope.names.lookup m = some .local) (hc : Names X x c) (hdn : (n == ("__debug__" : Str)) = false) (hcn : (n == ("__classdict__" : Str)) = false)
    (hb : ∀ (W : WX) (pn : List (Addr × Obj)) (xe : Value → Shared → Prop), Takes (X.tr pn xe) W → PassesOwn (model X.prog X.w) X.A X.env xe → PSs (X.tr pn xe) body (tb W)) :
    PS X (.Try body [.ExceptHandler (some (.Name x np)) (some n) [.Assign [.Name m p1] (.Name n p2) p3] pos'] [] [] pos) (fun D σ H => tb (wHeld X.K c i j D) D σ H) := by
  refine ⟨fun pins s σ H D I0 h0 => ?_⟩
  have ok := I0.ok
  have fr : X.A.frames = some (X.env :: X.outer) := by rw [ok.frames, hs]
  have lo : L2.Loc X.env.scope n := .inl hln
  refine wpAny_Try_except ?_
  refine wpAny_mono ((hb (wHeld X.K c i j D) (X.pn ++ pins) (fun er t1 => wpAny (model X.prog X.w) X.A (noteFrame er X.env) (fun _ t2 => wpAny (model X.prog X.w) X.A (setFlight er none) (fun _ t3 =>
    wpAny (model X.prog X.w) X.A (handleBy er X.env [.ExceptHandler (some (.Name x np)) (some n) [.Assign [.Name m p1] (.Name n p2) p3] pos']) (SP X pins D) X.xe t3) X.xe t2) X.xe t1) (fun u t xx => ?_) PassesOwn.looking).run [] s σ H D (I0.toTry _) h0) (fun fl t1 hsp => ?_) (fun er t1 he => he)
  · obtain ⟨a, Bg, t0, pins', σ', H', cls, d, rfl, J', nb, up, sky, na, os, ag, hb1, rfl, hyes⟩ := xx
    have J : Inv X pins σ' H' t0 := J'.ofTry ok
    have sky' : Sky Bg (X.env :: X.outer) a (Zc cls none) X.env.locals t.heap := by rw [← hs]; exact sky
    show wpAny (model X.prog X.w) X.A (noteFrame (.ref a) X.env) _ _ _
    refine Sky.land Zc.steady fr hf sky' fun g3 fl3 up3 => ?_
    have J3 : Inv X pins σ' H' { t with heap := g3 } := J.landed nb fl3.1 (up.trans up3) os ag
    obtain ⟨oe3, vs3, he3, hz3, hd3⟩ := fl3.there
    have nfr : a ∉ frs (X.env :: X.outer) := fun hm => by
      obtain ⟨_, o', e', hnf⟩ := fl3.2.2.1.mem hm
      rw [he3] at e'
      cases e'
      exact hnf _ hd3
    have nL : a ≠ X.env.locals := fun z => nfr (List.mem_filterMap.mpr ⟨X.env, List.mem_cons_self, by rw [hf, z]⟩)
    have nF : a ∉ X.fs := fun hm => by
      obtain ⟨en, hen, q⟩ := List.mem_filterMap.mp hm
      exact nfr (List.mem_filterMap.mpr ⟨en, List.mem_cons_of_mem _ hen, q⟩)
    have Ba : Bg.get? a = none := fl3.2.1
    have young : X.s_0.heap.get? a = none := by
      cases e : X.s_0.heap.get? a with
      | none => rfl
      | some o =>
        obtain ⟨o', e'⟩ := J.base.there a o e (by rw [hex]; simp)
        rw [nb a o' e' (by rw [hs]; exact nfr)] at Ba
        cases Ba
    have pne : ∀ p ∈ X.pn ++ pins, p.1 ≠ a := fun p hp z => by
      obtain ⟨q1, _, q3, q4, _⟩ := J.pin p hp
      rw [z] at q1 q3 q4
      have : a ∉ frs X.stack := by rw [hs]; exact nfr
      rw [nb a _ q1 this] at Ba
      cases Ba
    have S3 := J3.suite he3 hd3 na nL nF
    refine wpAny_handleBy_cons (codeAny_handlers_test ?_) (by intro q; cases q)
    have LT : PySem.W.Looks (model X.prog X.w) g3 (typeOf (.ref a)) cls := fun A Q E s k q => wpAny_typeOf_ref (k _ _ he3) (by rw [hz3.1]; exact q)
    have LM := PySem.W.exm_one (M := model X.prog X.w) (J3.kIn) LT hb1
    have test : ∀ {Q : Value → Shared → Prop} {E : Value → Shared → Prop}, Q c { t with heap := g3 } → wpAny (model X.prog X.w) (X.A.mark (some (.ref a))) (eval (.Name x np) X.env) Q E { t with heap := g3 } := fun {Q E} q => by
      obtain ⟨hg, hdbg, hm | ⟨hm, hv, hnn⟩⟩ := hc
      · exact ld_glob (X := X.suite a ((a, oe3) :: (X.pn ++ pins))) S3 hg hm q hdbg
      · exact ld_blt (X := X.suite a ((a, oe3) :: (X.pn ++ pins))) S3 hg hm hv q hnn hdbg
    refine test (LM.here ?_)
    refine codeAny_handlers_suite_as ?_
    refine HandSPX.lands_againZ fl3 fun g4 fl4 up4 => ?_
    have J4 : Inv X pins σ' H' { t with heap := g4 } := J.landed nb fl4.1 ((up.trans up3).trans up4) os ag
    obtain ⟨oe4, vs4, he4, hz4, hd4⟩ := fl4.there
    have S4 := J4.suite he4 hd4 na nL nF
    refine store_ok (X := X.suite a ((a, oe4) :: (X.pn ++ pins))) (v := .ref a) S4 hN hi lo rfl (fun s5 S5 => ?_) (.inr hln)
    have hbod : PSs (X.suite a ((a, oe4) :: (X.pn ++ pins))) [.Assign [.Name m p1] (.Name n p2) p3] (tAsg (tVar i) (gName j)) := pss_one (ps_set (i := j) hN hj (.inl hlm) (pe_var hi (.inl hln) hdn hcn) rfl (.inr hlm))
    have hlen : i < σ'.length := by
      rw [J.len]
      exact (List.getElem?_eq_some_iff.mp hi).1
    refine wpAny_mono (hbod.run [] s5 _ H' { nx := fun σ6 H6 => σ6 = (σ'.set i (some (.ref a))).set j (some (.ref a)) ∧ H6 = H', rt := fun _ _ => False } S5 ⟨.ref a, List.getElem?_set_self hlen, rfl, rfl⟩) (fun fl s6 hsp => ?_) (fun _ _ z => False.elim z)
    cases fl with
    | next =>
      obtain ⟨σ6, H6, S6, rfl, rfl⟩ := hsp
      have K6 : Inv X ((a, oe4) :: pins) ((σ'.set i (some (.ref a))).set j (some (.ref a))) H6 s6 :=
        ⟨ok, S6.os, S6.bare, S6.base, S6.loc, S6.cell, S6.free, S6.freeC, fun p hp => S6.pin p (by
          rw [List.append_nil]
          rcases List.mem_append.mp hp with z | z
          · exact List.mem_cons_of_mem _ (List.mem_append_left _ z)
          · rcases List.mem_cons.mp z with w | w
            · rw [w]; exact List.mem_cons_self
            · exact List.mem_cons_of_mem _ (List.mem_append_right _ w)), S6.hok, S6.len⟩
      refine gone_ok K6 hN hi hln fun s7 K7 => ?_
      obtain ⟨ha7, _⟩ := K7.pin (a, oe4) (List.mem_append_right _ List.mem_cons_self)
      exact ⟨_, _, track K7 young pne (exH_ok ha7 hz4 hd4), hyes a na⟩
    | brk => obtain ⟨_, _, _, z⟩ := hsp; exact z.elim
    | cont => obtain ⟨_, _, _, z⟩ := hsp; exact z.elim
    | ret u => obtain ⟨_, _, _, _, _, z⟩ := hsp; exact z.elim
  · cases fl with
    | next =>
      obtain ⟨σ', H', J', q⟩ := hsp
      exact wpAny_execs_nil ⟨σ', H', J'.ofTry ok, q⟩
    | brk =>
      obtain ⟨σ', H', J', q⟩ := hsp
      exact ⟨σ', H', J'.ofTry ok, q⟩
    | cont =>
      obtain ⟨σ', H', J', q⟩ := hsp
      exact ⟨σ', H', J'.ofTry ok, q⟩
    | ret u =>
      obtain ⟨v, σ', H', J', r, q⟩ := hsp
      exact ⟨v, σ', H', J'.ofTry ok, r, q⟩
/-- isinstance of such an error -/
def rIsH (K : PySem.W.Frag) : List V → Hp → VK → Prop := fun xs H Q => ∃ (a Dc : Addr) (c : V) (cv : Value) (b : Bool), xs = [.ref a, c] ∧ H a = some (ExH (.ref Dc) a) ∧ ExcC K Dc ∧ ClsV c cv ∧ PySem.W.kitOne K (.ref Dc) cv = some b ∧ Q (.bl b) H
theorem call_isH : CallR X (.builtin "isinstance") (rIsH X.K) := by
  intro pins s σ H xs us Q I r h
  obtain ⟨a, Dc, c, cv, b, rfl, ha, C, hcv, e, q⟩ := h
  obtain ⟨u1, u2, rfl, r1, r2⟩ := vals2 r
  have ec := hcv.eq r2
  subst ec
  cases (show u1 = Value.ref a from r1)
  obtain ⟨⟨oe, vs, hget, hz, hv⟩, _⟩ := I.hok a _ ha
  have Ji : PySem.W.InstAt s.heap a oe Dc none := by
    obtain ⟨oc, od, oda, osl⟩ := oe
    obtain ⟨h1, h2⟩ := hz
    dsimp only at h1 h2 hv
    subst h1 h2 hv
    exact ⟨hget, rfl, rfl, trivial⟩
  exact PySem.W.kia_one (PySem.W.handS_kitx_exc C.hg C.hk C.hs C.hd C.ha C.hn C.ht C.hm) I.kIn Ji e (fun z => nomatch z) fun tk => ⟨.bl b, H, I.kept (t' := tk) fun _ _ z => z, rfl, q⟩
/-- xs.count(y), flat items -/
def eqU (y : V) (u : Value) : Bool := match absV u with
  | some z => eqV z y
  | none => false
def rCount (K : PySem.W.Frag) : V → List V → Hp → VK → Prop := fun x xs H Q => ∃ (a : Addr) (ys : List V) (y : V), x = .ref a ∧ xs = [y] ∧ SqL K H a ys ∧ flatV y = true ∧ ys.all flatV = true ∧ Q (.int (ys.countP (fun z => eqV z y) : Nat)) H
theorem countP_vals {y : V} : ∀ {ys : List V} {us : List Value}, Vals ys us → us.countP (eqU y) = ys.countP fun z => eqV z y
  | _, _, .nil => rfl
  | z :: ys, u :: us, .cons r t => by
    have e : eqU y u = eqV z y := by unfold eqU; rw [r.abs]
    rw [List.countP_cons, List.countP_cons, countP_vals t, e]
theorem mt_countF : MtR X "list.count" (rCount X.K) := by
  intro pins s σ H x xs v us Q I rx rxs h
  obtain ⟨a, ys, y, rfl, rfl, hq, fy, fys, q⟩ := h
  cases rx
  obtain ⟨uy, rfl, ry⟩ := rxs.one
  obtain ⟨its, rv, ⟨⟨cls, dd, data, sl⟩, n, ho, hcl, hdn, hd⟩, hlen⟩ := I.list hq
  simp only at hcl hd
  subst hcl hd
  refine call_meets PySem.F.slot_list_count ⟨_, ho, rfl⟩ PySem.F.entry_list_count (PySem.F.args_list_count_2 _ _)
    (SeqAt.list_countAt a its.toArray n dd sl uy (eqU y)) ⟨ho, fun z hz => ?_, ?_⟩
  · obtain ⟨k, hk⟩ := List.getElem?_of_mem (show z ∈ its by simpa using hz)
    have hl := rv.length
    have hk2 : k < ys.length := by
      have := (List.getElem?_eq_some_iff.mp hk).1
      omega
    obtain ⟨u2, e2, r2⟩ := rv.get (List.getElem?_eq_getElem hk2)
    rw [hk] at e2
    cases e2
    have e : eqU y z = eqV ys[k] y := by unfold eqU; rw [r2.abs]
    rw [e]
    exact eqAt_V r2 ry (List.all_eq_true.mp fys _ (List.getElem_mem hk2)) fy
  · refine ⟨.int (ys.countP (fun z => eqV z y) : Nat), H, I.tok _, ⟨s.toks, ?_⟩, q⟩
    show Value.int ((its.toArray.toList.countP (eqU y) : Nat) : Int) s.toks = Value.int ((ys.countP (fun z => eqV z y) : Nat) : Int) s.toks
    have : its.toArray.toList = its := by simp
    rw [this, countP_vals rv]
end
end JL

namespace JL
open PySem PySem.Spec L2
/-! ### things of one's own, their changes -/
theorem Ok.mutRes {B : Bs} {Z : State} {σ : L2.St} {H H' : Hp} {i : Nat} {R : List Addr} {v : V} {P P' : List Addr → Hp → Prop} (k : Ok B Z σ H) (h : Z.ρ[i]? = some (some (.res R v P))) (hk : ∀ b o, H b = some o → b ∉ R → H' b = some o) (hR : ∀ a ∈ R, ∃ o, H' a = some o ∧ ¬ Solid o) (hP : P' Z.S H') (hs : Sound R P') :
    Ok B ⟨Z.S, Z.ρ.set i (some (.res R v P'))⟩ σ H' ∧ Kp Z.S H Z.S H' := by
  obtain ⟨o0, e0, e1, hS, p0, s0⟩ := k.env i _ h
  subst e1
  have pr : Pres Z.S H H' := fun b o e n => hk b o e fun m => n (hS b m)
  have kp : Kp Z.S H Z.S H' := fun x c r => r.keep pr fun _ _ _ z => z
  have tp : ∀ b o, H b = some o → Solid o → H' b = some o := fun b o e n => hk b o e fun m => by
    obtain ⟨o', e', n'⟩ := k.dom b (hS b m)
    rw [e] at e'
    cases e'
    exact n' n
  refine ⟨⟨by simp [k.len], fun j ev e => ?_, fun j l e f h1 h2 a m1 m2 => ?_, fun j e h' a m => ?_, fun a m => ?_, fun b o e n => ?_, k.sub, fun b o e n => tp b o (k.tups b o e n) n, k.bsd, fun x c m => kp _ _ (k.kept x c m), fun a o m => ?_, k.msub, fun j q2 ds2 h' => (set_cases h').elim (fun z => by cases z.2.1) fun z => k.ownM j q2 ds2 z.2⟩, kp⟩
  · rcases set_cases e with ⟨rfl, rfl, hl'⟩ | ⟨hij, e⟩
    · exact ⟨_, e0, rfl, hS, hP, hs⟩
    · obtain ⟨o, h1, h2⟩ := k.env j ev e
      refine ⟨o, h1, ?_⟩
      have nf : ∀ a ∈ R, a ∉ ev.foot := fun a ma m => hij (k.sep i j _ ev h e a ma m)
      cases ev with
      | dat d => obtain ⟨v, e, r⟩ := h2; exact ⟨v, e, kp _ _ r⟩
      | own q2 ds2 =>
        obtain ⟨e, m, zs, hq, r⟩ := h2
        exact ⟨e, m, zs, hk _ _ hq fun m' => nf _ m' (List.mem_singleton.mpr rfl), kp.all r⟩
      | res R2 v2 P2 =>
        obtain ⟨e, m, p, sd⟩ := h2
        refine ⟨e, m, sd _ _ H _ p (fun b o e hb => ?_) (fun _ _ _ z => z), sd⟩
        rcases hb with hb | hb | hb
        · exact hk _ _ e fun m' => nf _ m' hb
        · exact pr b o e hb
        · exact tp b o e hb
  · rcases set_cases h1 with ⟨rfl, rfl, _⟩ | ⟨n1, h1⟩
    · rcases set_cases h2 with ⟨rfl, rfl, _⟩ | ⟨n2, h2⟩
      · rfl
      · exact k.sep i l _ f h h2 a m1 m2
    · rcases set_cases h2 with ⟨rfl, rfl, _⟩ | ⟨n2, h2⟩
      · exact k.sep j i e _ h1 h a m1 m2
      · exact k.sep j l e f h1 h2 a m1 m2
  · rcases set_cases h' with ⟨rfl, rfl, _⟩ | ⟨_, h'⟩
    · exact k.mine i _ h a m
    · exact k.mine j e h' a m
  · by_cases z : a ∈ R
    · exact hR a z
    · obtain ⟨o, e, n⟩ := k.dom a m
      exact ⟨o, hk _ _ e z, n⟩
  · refine hk _ _ (k.out b o e n) fun m => ?_
    rcases k.mine i _ h b m with w | w
    · exact n w
    · rw [w] at e; cases e
  · obtain ⟨h1, h2, h3⟩ := k.held a o m
    refine ⟨h1, hk _ _ h2 fun z => h3 i _ h z, fun j e h' => ?_⟩
    rcases set_cases h' with ⟨hj, he, _⟩ | ⟨_, h'⟩
    · rw [he]; exact h3 i (.res R v P) h
    · exact h3 j e h'
/-- a new thing becomes slot i's -/
theorem Ok.newRes {B : Bs} {Z : State} {σ : L2.St} {H H' : Hp} (k : Ok B Z σ H) (i : Nat) {R : List Addr} {v : V} {P : List Addr → Hp → Prop} (hk : Same H H') (hR : ∀ a ∈ R, H a = none ∧ ∃ o, H' a = some o ∧ ¬ Solid o) (hP : P (R ++ Z.S) H') (hs : Sound R P) :
    Ok B ⟨R ++ Z.S, Z.ρ.set i (some (.res R v P))⟩ (σ.set i (some v)) H' ∧ Kp Z.S H (R ++ Z.S) H' := by
  have kp : Kp Z.S H (R ++ Z.S) H' := fun x c r => r.keep (Pres.of_same hk) fun a o e m => by
    rcases List.mem_append.mp m with z | z
    · rw [(hR a z).1] at e; cases e
    · exact z
  have nS : ∀ a ∈ R, a ∉ Z.S := fun a m => k.fresh (hR a m).1
  refine ⟨⟨by simp [k.len], fun j ev e => ?_, fun j l e f h1 h2 a m1 m2 => ?_, fun j e h a m => ?_, fun a m => ?_, fun b o e n => hk _ _ (k.out b o e n), fun a m => List.mem_append_right _ (k.sub a m), fun b o e n => hk _ _ (k.tups b o e n), k.bsd, fun x c m => kp _ _ (k.kept x c m), fun a o m => ?_, fun a m => List.mem_append_right _ (k.msub a m), fun j q2 ds2 h => (set_cases h).elim (fun z => by cases z.2.1) fun z => k.ownM j q2 ds2 z.2⟩, kp⟩
  · rcases set_cases e with ⟨rfl, rfl, hl⟩ | ⟨hij, e⟩
    · rw [List.getElem?_set_self (by rw [← k.len]; exact hl)]
      exact ⟨_, rfl, rfl, fun a m => List.mem_append_left _ m, hP, hs⟩
    · rw [List.getElem?_set_ne hij]
      obtain ⟨o, h1, h2⟩ := k.env j ev e
      refine ⟨o, h1, ?_⟩
      cases ev with
      | dat d => obtain ⟨v, e, r⟩ := h2; exact ⟨v, e, kp _ _ r⟩
      | own q ds => obtain ⟨e, m, zs, hq, r⟩ := h2; exact ⟨e, List.mem_append_right _ m, zs, hk _ _ hq, kp.all r⟩
      | res R v P => obtain ⟨e, m, p, sd⟩ := h2; exact ⟨e, fun a z => List.mem_append_right _ (m a z), sd _ _ H _ p (fun b o e _ => hk b o e) (fun a o e z => (List.mem_append.mp z).resolve_left fun y => by rw [(hR a y).1] at e; cases e), sd⟩
  · rcases set_cases h1 with ⟨rfl, rfl, _⟩ | ⟨n1, h1⟩
    · rcases set_cases h2 with ⟨rfl, rfl, _⟩ | ⟨n2, h2⟩
      · rfl
      · exact absurd (k.footS h2 _ m2) (nS a m1)
    · rcases set_cases h2 with ⟨rfl, rfl, _⟩ | ⟨n2, h2⟩
      · exact absurd (k.footS h1 _ m1) (nS a m2)
      · exact k.sep j l e f h1 h2 a m1 m2
  · rcases set_cases h with ⟨rfl, rfl, _⟩ | ⟨_, h⟩
    · by_cases hm : a ∈ B.M
      · exact .inl hm
      · refine .inr ?_
        cases e : B.H a with
        | none => rfl
        | some o => have z := (hR a m).1; rw [k.out a o e hm] at z; cases z
    · exact k.mine j e h a m
  · rcases List.mem_append.mp m with z | z
    · exact (hR a z).2
    · obtain ⟨o, e, n⟩ := k.dom a z
      exact ⟨o, hk _ _ e, n⟩
  · obtain ⟨h1, h2, h3⟩ := k.held a o m
    refine ⟨List.mem_append_right _ h1, hk _ _ h2, fun j e h => ?_⟩
    rcases set_cases h with ⟨hj, he, _⟩ | ⟨_, h⟩
    · rw [he]
      intro z
      rw [(hR a z).1] at h2
      cases h2
    · exact h3 j e h
/-- what a def starts with -/
theorem ok_start {N : List Str} {S M : List Addr} {H : Hp} {vs : List V} {evs : List EV} (hl : vs.length = evs.length) (hN : evs.length ≤ N.length) (h : ∀ (i : Nat) v ev, vs[i]? = some v → evs[i]? = some ev → EvOk S H (some v) ev)
    (sep : ∀ (i j : Nat) e f, evs[i]? = some e → evs[j]? = some f → ∀ a, a ∈ e.foot → a ∈ f.foot → i = j) (mine : ∀ e ∈ evs, ∀ a ∈ e.foot, a ∈ M) (no : ∀ e ∈ evs, ∀ q ds, e ≠ .own q ds) (dm : Dom S H) (hM : ∀ a ∈ M, a ∈ S) :
    Ok ⟨H, M, S, fun _ _ => False, fun _ _ => False⟩ ⟨S, evs.map some ++ List.replicate (N.length - evs.length) none⟩ (L2.start N vs) H := by
  have key : ∀ (i : Nat) (ev : EV), (evs.map some ++ List.replicate (N.length - evs.length) none)[i]? = some (some ev) → evs[i]? = some ev := fun i ev e => by
    by_cases hi : i < evs.length
    · rw [List.getElem?_append_left (by simpa using hi), List.getElem?_map] at e
      cases q : evs[i]? with
      | none => rw [q] at e; cases e
      | some d => rw [q] at e; cases e; rfl
    · rw [List.getElem?_append_right (by simpa using hi), List.getElem?_replicate] at e
      split at e <;> cases e
  refine ⟨?_, fun i ev e => ?_, fun i j e f h1 h2 => sep i j e f (key i e h1) (key j f h2), fun i e h1 a m => .inl (mine e (List.mem_of_getElem? (key i e h1)) a m), dm, fun b o e _ => e, fun a m => m, fun b o e _ => e, fun a m => by obtain ⟨o, e, _⟩ := dm a m; exact ⟨o, e⟩, fun _ _ m => m.elim, fun _ _ m => m.elim, hM, fun i q ds e => absurd rfl (no _ (List.mem_of_getElem? (key i _ e)) q ds)⟩
  · simp [L2.start, hl]
  · have e1 := key i ev e
    have hi : i < evs.length := (List.getElem?_eq_some_iff.mp e1).1
    have hv : i < vs.length := by omega
    have ev2 : vs[i]? = some vs[i] := List.getElem?_eq_getElem hv
    refine ⟨some vs[i], ?_, h i _ ev ev2 e1⟩
    unfold L2.start
    rw [List.getElem?_append_left (by simpa using hv), List.getElem?_map, ev2]
    rfl
/-- only a return is wanted -/
def postRt (f : State → D → Prop) : OutS → Prop
  | .rt Z d => f Z d
  | _ => False
def postNx (f : State → Prop) : OutS → Prop
  | .nx Z => f Z
  | _ => False
theorem js_mid {G : Ctx} {st : Stmt} {rest : List Stmt} {Z : State} {P : OutS → Prop} (f : State → Prop) (h : JS G st Z (postNx f)) (k : ∀ Z1, f Z1 → JSs G rest Z1 P) : JSs G (st :: rest) Z P :=
  js_cons (h.imp fun o ho => by
    cases o with
    | nx Z1 => exact k Z1 ho
    | rt _ _ => exact ho.elim
    | ex _ _ => exact ho.elim
    | bk _ => exact ho.elim
    | ct _ => exact ho.elim)
theorem ends_rt {B : Bs} {W : WX} {f : State → D → Prop} {Q : VK} {N : L2.St → Hp → Prop} (h : ∀ Z d v σ H, f Z d → Ok B Z σ H → Rp B.S H v d → Q v H) : EndsOk B W { nx := N, rt := Q } (postRt f) :=
  ⟨fun _ _ _ z => z.elim, fun Z d v σ H p k r => h Z d v σ H p k r, fun _ _ _ _ z => z.elim, fun _ _ _ z => z.elim, fun _ _ _ z => z.elim⟩
/-! ### defs with a promise of their own -/
structure DefS (g : Glob) (x : Str) (k : Nat) (sp : Sp) : Prop where
  ex : ∃ f fd ps, FnOk g.P g.w g.K g.mg g.base (L2.CX g.P g.w) k f fd ps sp ∧ g.mg x = some (.ref f) ∧ PySem.W.keepIn g.K (.ref f) = true ∧ Binds g.K fd ps []
abbrev DefAt (g : Glob) (x : Str) (st : Stmt) : Prop := ∃ f fd, g.mg x = some (.ref f) ∧ FunD g.K x x (defArgs st) (defBody st) (defScope st) [] [] f fd
theorem defs_at {g : Glob} {x : Str} {st : Stmt} {N ps : List Str} {k : Nat} {sp : Sp} (h : DefAt g x st) (S : FnScope N ps (defScope st))
    (hb : ∀ (kV doc pm : Value) (an : Option Addr) (cdv ct : Value) (us : List Value), us.length = ps.length → bindArgs (PySem.W.fnOf x x (defArgs st) (defBody st) (defScope st) .none kV doc pm an cdv ct) ⟨us, []⟩ = pure (ps.zip us))
    (len : ∀ vs H Q E, sp vs H Q E → vs.length = ps.length)
    (body : ∀ vs H Q (E : XK), sp vs H Q E → ∃ B Z P, Ok B Z (L2.start N vs) H ∧ EndsOk B (fun cls d _ H => E cls d H) { nx := fun _ H' => Q .non H', rt := Q } P ∧ JSs ⟨g, N, defScope st, k, fun _ => true, true⟩ (defBody st) Z P) : DefS g x (k + 1) sp := by
  obtain ⟨f, fd, hm, F⟩ := h
  refine ⟨f, fd, ps, ?_, hm, F.kp, F.bindsN hb⟩
  refine F.ok S len (fun cdv A outer s H vs Q E hr hsp => ?_)
  obtain ⟨B, Z, P, k0, en, bd⟩ := body vs H Q E hsp
  exact bd _ (fits_cx S.nd hr) B _ H k0 (fun cls d _ H => E cls d H) _ (takes_of rfl rfl rfl rfl) en
theorem def_at {g : Glob} {x : Str} {st : Stmt} {N ps : List Str} {k : Nat} {R : List D → Out → Prop} (h : DefAt g x st) (S : FnScope N ps (defScope st))
    (hb : ∀ (kV doc pm : Value) (an : Option Addr) (cdv ct : Value) (us : List Value), us.length = ps.length → bindArgs (PySem.W.fnOf x x (defArgs st) (defBody st) (defScope st) .none kV doc pm an cdv ct) ⟨us, []⟩ = pure (ps.zip us))
    (body : ∀ (T : List Addr) (ds : List D) (o : Out), R ds o → ds.length = ps.length → JSs ⟨g, N, defScope st, k, fun _ => true, true⟩ (defBody st) ⟨T, rho0 N ds⟩ (Post o)) : Def g x ps.length (k + 1) R := by
  obtain ⟨f, fd, hm, F⟩ := h
  exact def_mk hm F S hb body
section
variable {G : Ctx} {Z Z1 Z2 Z3 : State} {a b c e : Expr} {es : List Expr} {ds : List D} {pos p : Pos} {d d1 d2 : D} {x : Str} {n k : Nat}
theorem je_ifP {t : Bool} (hc : JT G c Z t Z1) (ha : t = true → JE G a Z1 d Z1) (hb : t = false → JE G b Z1 d Z1) : JE G (.IfExp c a b pos) Z d Z1 := je_if hc ha hb
theorem je_eff {sp : Sp} (F : DefS G.g x k sp) (hk : k ≤ G.k) (ha : JA G (e :: es) Z ds Z1) (h : ∀ B σ H vs (Q : VK), Ok B Z1 σ H → RpA Z1.S H vs ds → (∀ v H', Ok B Z2 σ H' → Kp Z1.S H Z2.S H' → Rp Z2.S H' v d → Q v H') → sp vs H Q E0) (hg : glB G.sc x = true := by kernel_rfl)
    (he : ∀ env, starEach (e :: es) env = (false, eval e env) :: starEach es env := by intro _; rfl) (hpl : ∀ env, (backTo pos (starEach es env)).any (·.1) = false := by intro _; rfl) : JE G (.Call (.Name x p) (e :: es) [] pos) Z d Z2 := by
  intro X f B σ H kk Q q
  obtain ⟨fa, fd, ps, FK, hm, kp, bs⟩ := F.ex
  obtain ⟨h1, h2, _⟩ := gl_of f hg
  refine ⟨_, pe_call (fnX f FK) (f.room.mono hk) h1 (by rw [f.mg]; exact hm) (by rw [f.K]; exact kp) (by rw [f.K]; exact bs) .nil (E := E0) passL p_A h2 (he _) (hpl _), ?_⟩
  refine ha X f B σ H kk _ fun vs H1 k1 p1 r1 => ?_
  rw [List.append_nil]
  exact h B σ H1 vs Q k1 r1 fun v H2 k2 p2 r2 => q v H2 k2 (p1.trans p2) r2
/-- a thing's name -/
theorem nmR (i : Nat) {R : List Addr} {q : Addr} {P : List Addr → Hp → Prop} (h : Z.ρ[i]? = some (some (.res R (.ref q) P))) (hn : nmB G.N G.sc i x = true := by kernel_rfl) : JE G (.Name x pos) Z (.ref q) Z := by
  intro X f B σ H k Q qq
  simp only [nmB, Bool.and_eq_true, decide_eq_true_eq, Bool.not_eq_true'] at hn
  obtain ⟨h1, h2, h3, h4⟩ := hn
  obtain ⟨o, e, e1, _⟩ := k.env i _ h
  subst e1
  exact ⟨tVar i, pe_var (by rw [f.N]; exact h1) (by rw [f.sc]; exact vis_of h2) h3 h4, .ref q, e, qq _ H k Kp.refl (.ref q)⟩
end
/-! ### the script and the town -/
/-- the script: at a, the ints ns: a thing known as it lies, or one of the written part -/
def ScrIn (K : PySem.W.Frag) (H : Hp) (a : Addr) (ns : List Int) : Prop := (∃ o, H a = some (.frz o (.lst (ns.map V.int)))) ∨
  ∃ (o : Obj) (its : Array Value) (n : Nat), K.lookup a = some o ∧ o.cls = .type "list" ∧ o.dict = none ∧ o.data = .seq its n ∧ its.size ≤ sizeLine ∧ Vals (ns.map V.int) its.toList
theorem ScrIn.sq {K : PySem.W.Frag} {H : Hp} {a : Addr} {ns : List Int} (h : ScrIn K H a ns) : SqL K H a (ns.map V.int) := h.elim (fun ⟨o, e⟩ => .inl (.inr ⟨o, e⟩)) .inr
theorem ScrIn.keep {K : PySem.W.Frag} {H H' : Hp} {a : Addr} {ns : List Int} (h : ScrIn K H a ns) (k : ∀ b o, H b = some o → Solid o → H' b = some o) : ScrIn K H' a ns := h.elim (fun ⟨o, e⟩ => .inl ⟨o, k _ _ e trivial⟩) .inr
theorem scrIn_of {K : PySem.W.Frag} {H : Hp} {a : Addr} {ns : List Int} (hO : Only H) (h : SqL K H a (ns.map V.int)) : ScrIn K H a ns := by
  rcases h with (h | ⟨o, h⟩) | h
  · rcases hO a with e | ⟨o, xs, e⟩
    · rw [h] at e; cases e
    · rw [h] at e; cases e
  · exact .inl ⟨o, h⟩
  · exact .inr h
abbrev scr (a : Addr) (K : PySem.W.Frag) (ns : List Int) : EV := .res [] (.ref a) fun _ H => ScrIn K H a ns
/-- the town: at q, the ints ts -/
abbrev twn (q : Addr) (ts : List Int) : EV := .res [q] (.ref q) fun _ H => H q = some (.lst (ts.map V.int))
theorem scr_sound {a : Addr} {K : PySem.W.Frag} {ns : List Int} : Sound [] fun _ H => ScrIn K H a ns := fun _ _ _ _ e h _ => e.keep fun b o q s => h b o q (.inr (.inr s))
theorem twn_sound {q : Addr} {ts : List Int} : Sound [q] fun _ H => H q = some (.lst (ts.map V.int)) := fun _ _ _ _ e h _ => h q _ e (.inl (List.mem_singleton.mpr rfl))
section
variable {G : Ctx} {Z Z1 Z2 Z3 : State} {b c e : Expr} {es : List Expr} {ds : List D} {pos pos' p p2 : Pos} {d d1 d2 : D} {x : Str} {n k : Nat} {P : OutS → Prop} {a q : Addr} {ns ts : List Int}
theorem pe_slot {X : Cx} (f : Fits G X) {i : Nat} (hn : nmB G.N G.sc i x = true) : PE X (.Name x pos) (tVar i) := by
  simp only [nmB, Bool.and_eq_true, decide_eq_true_eq, Bool.not_eq_true'] at hn
  obtain ⟨h1, h2, h3, h4⟩ := hn
  exact pe_var (by rw [f.N]; exact h1) (by rw [f.sc]; exact vis_of h2) h3 h4
theorem dpAll_ints {K : PySem.W.Frag} {H : Hp} : ∀ ns : List Int, DpAll K H (ns.map V.int) (ns.map PyData.int)
  | [] => .nil
  | n :: ns => .cons (.int n) (dpAll_ints ns)
theorem lay_ints : ∀ ns : List Int, PyData.canLayAll0 (ns.map PyData.int) = true ∧ PyData.depthAll (ns.map PyData.int) = 0
  | [] => ⟨rfl, rfl⟩
  | n :: ns => by
    obtain ⟨h1, h2⟩ := lay_ints ns
    refine ⟨by show (true && PyData.canLayAll0 (ns.map PyData.int)) = true; rw [h1]; rfl, by show max 0 (PyData.depthAll (ns.map PyData.int)) = 0; rw [h2]; rfl⟩
/-- script == [] -/
theorem jt_scrNil (i : Nat) (h : Z.ρ[i]? = some (some (scr a G.g.K ns))) (hn : nmB G.N G.sc i x = true := by kernel_rfl) : JT G (.Compare (.Name x p) [.Eq] [.List [] p2] pos) Z (decide (ns = [])) Z := by
  intro X f B σ H k Q qq
  obtain ⟨o0, e0, e1, _, hp, _⟩ := k.env i _ h
  subst e1
  refine ⟨_, pt_cmpR (op_eqD f.room.units) (pe_slot f hn) (pe_lst pa_nil) (nomark _), .ref a, e0, Nat.zero_le _, fun l nl => ?_⟩
  have s := same_upd (o := .lst []) nl
  refine ⟨.list (ns.map PyData.int), .list [], .lst (by rw [f.K]; exact (hp.keep fun b o e _ => s b o e).sq) (dpAll_ints ns), .lst (.of upd_same) .nil, ?_, rfl, _, rfl, ?_⟩
  · obtain ⟨h1, h2⟩ := lay_ints ns
    show (PyData.canLayAll0 (ns.map PyData.int) && decide (PyData.depthAll (ns.map PyData.int) + 1 ≤ 64)) = true
    rw [h1, h2]
    rfl
  · have e : PyData.eqv (.list (ns.map PyData.int)) (.list []) = decide (ns = []) := by
      cases ns with
      | nil => rfl
      | cons n ns => show false = _; simp
    rw [e]
    exact qq _ (k.same s) (Kp.same s)
/-- len(script) -/
theorem je_scrLen (B : Bi G.g) (i : Nat) (h : Z.ρ[i]? = some (some (scr a G.g.K ns))) (hn : nmB G.N G.sc i x = true := by kernel_rfl) (hg : glB G.sc "len" = true := by kernel_rfl) : JE G (.Call (.Name "len" p2) [.Name x p] [] pos) Z (.int ns.length) Z := by
  intro X f B2 σ H k Q qq
  obtain ⟨o0, e0, e1, _, hp, _⟩ := k.env i _ h
  subst e1
  obtain ⟨h1, h2, h3⟩ := gl_of f hg
  refine ⟨_, pe_callB call_len_seq h1 (by rw [f.mg]; exact B.len_) PySem.boot_len (pa_cons (pe_slot f hn) pa_nil) h3 h2, .ref a, e0, a, ns.map V.int, rfl, .inl (by rw [f.K]; exact hp.sq), ?_⟩
  rw [List.length_map]
  exact qq _ H k Kp.refl (.int _)
theorem atI_map {α β : Type} (f : α → β) {xs : List α} {j : Int} {v : α} (h : atI xs j = some v) : atI (xs.map f) j = some (f v) := by
  unfold atI at h ⊢
  rw [List.length_map]
  cases q : ixN xs.length j with
  | none => rw [q] at h; cases h
  | some l =>
    rw [q] at h
    show (xs.map f)[l]? = _
    rw [List.getElem?_map, show xs[l]? = some v from h]
    rfl
/-- script[j] -/
theorem je_scrIx (i : Nat) {j m : Int} (hb : JE G b Z (.int j) Z) (h : Z.ρ[i]? = some (some (scr a G.g.K ns))) (hm : atI ns j = some m) (hn : nmB G.N G.sc i x = true := by kernel_rfl) (hs : PlainIx b := by intro _ _; rfl) : JE G (.Subscript (.Name x p) b pos) Z (.int m) Z := by
  intro X f B σ H k Q qq
  obtain ⟨o0, e0, e1, _, _⟩ := k.env i _ h
  subst e1
  refine ⟨_, pe_ix ix_list (pe_slot f hn) p_E hs, .ref a, e0, hb X f B σ H k _ fun y H2 k2 p2 r2 => ?_⟩
  obtain ⟨o1, e2, e3, _, hp, _⟩ := k2.env i _ h
  exact ⟨a, ns.map V.int, j, .int m, rfl, r2.inv_int, by rw [f.K]; exact hp.sq, atI_map V.int hm, qq _ H2 k2 p2 (.int _)⟩
/-- town[j] -/
theorem je_twIx (i : Nat) {j m : Int} (hb : JE G b Z (.int j) Z) (h : Z.ρ[i]? = some (some (twn q ts))) (hm : atI ts j = some m) (hn : nmB G.N G.sc i x = true := by kernel_rfl) (hs : PlainIx b := by intro _ _; rfl) : JE G (.Subscript (.Name x p) b pos) Z (.int m) Z := by
  intro X f B σ H k Q qq
  obtain ⟨o0, e0, e1, _, _⟩ := k.env i _ h
  subst e1
  refine ⟨_, pe_ix ix_list (pe_slot f hn) p_E hs, .ref q, e0, hb X f B σ H k _ fun y H2 k2 p2 r2 => ?_⟩
  obtain ⟨o1, e2, e3, _, hp, _⟩ := k2.env i _ h
  exact ⟨q, ts.map V.int, j, .int m, rfl, r2.inv_int, .of hp, atI_map V.int hm, qq _ H2 k2 p2 (.int _)⟩
end
end JL

namespace JL
open PySem PySem.Spec L2
section
variable {G : Ctx} {Z Z1 Z2 Z3 : State} {a b c e : Expr} {es : List Expr} {ds : List D} {pos pos' p p2 : Pos} {d d1 d2 : D} {x : Str} {n k : Nat} {P : OutS → Prop} {q : Addr} {ns ts : List Int} {i j : Int}
theorem je_pow (ha : JE G a Z (.int i) Z1) (hb : JE G b Z1 (.int j) Z2) (hc : CPow i j) : JE G (.BinOp a .Pow b pos) Z (.int (i ^ j.toNat)) Z2 := je_bin (fun _ _ => op_pow) ha hb (r_I hc fun _ _ => .int _)
/-- town[j] = e -/
theorem js_twSet (s : Nat) {j m : Int} {l : Nat} (he : JE G e Z (.int m) Z) (hb : JE G b Z (.int j) Z) (h : Z.ρ[s]? = some (some (twn q ts))) (hm : ixN ts.length j = some l) (hp : P (.nx ⟨Z.S, Z.ρ.set s (some (twn q (ts.set l m)))⟩)) (hn : nmB G.N G.sc s x = true := by kernel_rfl)
    (ha : ∀ env v, assign (.Subscript (.Name x p) b p2) env v = (do
      let ov ← holding [v] (eval (.Name x p) env)
      let iv ← holding [v, ov] (eval b env)
      standAt p2
      holding [v, ov, iv] (setItem ov iv v)
      release [v, ov, iv] []) := by intro _ _; rfl)
    (hs : ∀ env, swapsWithSole [.Subscript (.Name x p) b p2] e pos.line env = pure false := by intro _; rfl) (hw : ∀ env, swappedStores [.Subscript (.Name x p) b p2] e env = pure none := by intro _; rfl)
    (h1 : ∀ env, (assignEach [.Subscript (.Name x p) b p2] env).map (·.2) = [assign (.Subscript (.Name x p) b p2) env] := by intro _; rfl) : JS G (.Assign [.Subscript (.Name x p) b p2] e pos) Z P := by
  intro X f B σ H k W E tk en
  refine ⟨_, ps_asg p_E (pg_sub (pe_slot f hn) p_E set_list (ha _)) (hs _) (hw _) (h1 _), he X f B σ H k _ fun v H1 k1 p1 r1 => ?_⟩
  obtain ⟨o0, e0, e1, _⟩ := k1.env s _ h
  subst e1
  refine ⟨.ref q, e0, hb X f B σ H1 k1 _ fun y H2 k2 p2 r2 => ?_⟩
  obtain ⟨o1, e2, e3, _, hq, _⟩ := k2.env s _ h
  cases r1.inv_int
  cases r2.inv_int
  refine ⟨q, ts.map V.int, j, l, rfl, rfl, hq, by rw [List.length_map]; exact hm, ?_⟩
  have el : (ts.map V.int).set l (V.int m) = (ts.set l m).map V.int := by rw [List.map_set]
  rw [el]
  obtain ⟨k3, _⟩ := k2.mutRes (H' := upd H2 q (.lst ((ts.set l m).map V.int))) (P' := fun _ H => H q = some (.lst ((ts.set l m).map V.int))) h (fun b o e n => by
    rw [upd_ne (fun z => n (List.mem_singleton.mpr z))]
    exact e) (fun a m' => by rw [List.mem_singleton.mp m']; exact ⟨_, upd_same, fun z => z⟩) upd_same twn_sound
  exact en.nx _ _ _ hp k3
end
/-! ### a draw -/
def drawAt (ns : List Int) (c : Int) : Nat := (c % ns.length).toNat
def drawR (ns ts : List Int) (lim : Int) : Int × List Int :=
  let c := ts.headD 0 + 1
  let t1 := ts.set 0 c
  if ns = [] then (c * c * 7 / 3 % lim, t1)
  else
    let s := ns.getD (drawAt ns c) 0
    let left := t1.getD (1 + drawAt ns c) 0
    if 10 ^ 18 ≤ s ∧ 0 < left then (left % lim, t1.set (1 + drawAt ns c) (left / lim))
    else
      let n1 := (s + 104729 * c) % 4294967291
      let n2 := n1 ^ 5 % 4294967279
      ((n2 / 64 * 69621 + n2) % 4294967231 / 8 % lim, t1)
/-- a town that fits, after at most m draws -/
structure TownOk (ns ts : List Int) (m : Nat) : Prop where
  len : ts.length = ns.length + 1
  lo : 0 ≤ ts.headD 0
  hi : ts.headD 0 ≤ m
theorem headD_set {ts : List Int} {c : Int} (h : 0 < ts.length) : (ts.set 0 c).headD 0 = c := by
  cases ts with
  | nil => simp at h
  | cons t ts => rfl
theorem headD_setS {ts : List Int} {c : Int} {j : Nat} : (ts.set (1 + j) c).headD 0 = ts.headD 0 := by
  cases ts with
  | nil => rfl
  | cons t ts => rw [Nat.add_comm]; rfl
theorem TownOk.next {ns ts : List Int} {m : Nat} {lim : Int} (h : TownOk ns ts m) : TownOk ns (drawR ns ts lim).2 (m + 1) := by
  have hl := h.len
  have h0 : 0 < ts.length := by omega
  have h1 := h.lo
  have h2 := h.hi
  unfold drawR
  dsimp only
  split
  · exact ⟨by simpa using hl, by rw [headD_set h0]; omega, by rw [headD_set h0]; omega⟩
  · split
    · refine ⟨by simpa using hl, ?_, ?_⟩
      · rw [headD_setS, headD_set h0]; omega
      · rw [headD_setS, headD_set h0]; omega
    · exact ⟨by simpa using hl, by rw [headD_set h0]; omega, by rw [headD_set h0]; omega⟩
theorem draw_lo {ns ts : List Int} {lim : Int} (h : 0 < lim) : 0 ≤ (drawR ns ts lim).1 ∧ (drawR ns ts lim).1 < lim := by
  unfold drawR
  dsimp only
  split
  · exact ⟨Int.emod_nonneg _ (by omega), Int.emod_lt_of_pos _ h⟩
  · split
    · exact ⟨Int.emod_nonneg _ (by omega), Int.emod_lt_of_pos _ h⟩
    · exact ⟨Int.emod_nonneg _ (by omega), Int.emod_lt_of_pos _ h⟩
/-- what a draw gives: a number below the limit, a town that fits -/
theorem draw_ex {ns ts : List Int} {m : Nat} {lim : Int} (t : TownOk ns ts m) (h : 0 < lim) : ∃ r ts', drawR ns ts lim = (r, ts') ∧ 0 ≤ r ∧ r < lim ∧ TownOk ns ts' (m + 1) :=
  ⟨(drawR ns ts lim).1, (drawR ns ts lim).2, rfl, (draw_lo h).1, (draw_lo h).2, t.next⟩
def spDraw (K : PySem.W.Frag) : Sp := fun vs H Q E => ∃ (a q : Addr) (ns ts : List Int) (lim : Int) (m : Nat), vs = [.ref a, .ref q, .int lim] ∧ ScrIn K H a ns ∧ H q = some (.lst (ts.map V.int)) ∧ TownOk ns ts m ∧ m ≤ 1000000 ∧ 0 < lim ∧ lim ≤ 1000000 ∧
  ∀ H', (∀ b ob, H b = some ob → b ≠ q → H' b = some ob) → H' q = some (.lst ((drawR ns ts lim).2.map V.int)) → Q (.int (drawR ns ts lim).1) H'
/-- _law_draw(script, town, e) -/
theorem je_draw {G : Ctx} {Z Z1 : State} {e1 e2 e3 : Expr} {p pos : Pos} {k : Nat} {a q : Addr} {ns ts ts' : List Int} {lim r : Int} {m : Nat} (F : DefS G.g "_law_draw" k (spDraw G.g.K)) (hk : k ≤ G.k) (is it : Nat) (ha : JA G [e1, e2, e3] Z [.ref a, .ref q, .int lim] Z1) (hs : Z1.ρ[is]? = some (some (scr a G.g.K ns))) (ht : Z1.ρ[it]? = some (some (twn q ts)))
    (t : TownOk ns ts m) (hr : drawR ns ts lim = (r, ts')) (hl : 0 < lim ∧ lim ≤ 1000000 := by omega) (hm : m ≤ 1000000 := by omega) (hg : glB G.sc "_law_draw" = true := by kernel_rfl)
    (he : ∀ env, starEach [e1, e2, e3] env = (false, eval e1 env) :: starEach [e2, e3] env := by intro _; rfl) (hpl : ∀ env, (backTo pos (starEach [e2, e3] env)).any (·.1) = false := by intro _; rfl) :
    JE G (.Call (.Name "_law_draw" p) [e1, e2, e3] [] pos) Z (.int r) ⟨Z1.S, Z1.ρ.set it (some (twn q ts'))⟩ :=
  je_eff F hk ha (fun B σ H vs Q k1 r1 qq => by
    obtain ⟨v1, v2, v3, rfl⟩ : ∃ v1 v2 v3, vs = [v1, v2, v3] := by
      have := r1.1
      match vs, this with
      | [v1, v2, v3], _ => exact ⟨v1, v2, v3, rfl⟩
    cases r1.head.inv_ref
    cases r1.tail.head.inv_ref
    cases r1.tail.tail.head.inv_int
    obtain ⟨_, _, _, _, hp1, _⟩ := k1.env is _ hs
    obtain ⟨_, _, _, _, hp2, _⟩ := k1.env it _ ht
    refine ⟨a, q, ns, ts, lim, m, rfl, hp1, hp2, t, hm, hl.1, hl.2, fun H' h1 h2 => ?_⟩
    rw [hr] at h2
    obtain ⟨k2, kp⟩ := k1.mutRes (H' := H') (P' := fun _ H => H q = some (.lst (ts'.map V.int))) ht (fun b o e n => h1 b o e fun z => n (List.mem_singleton.mpr z)) (fun a m' => by rw [List.mem_singleton.mp m']; exact ⟨_, h2, fun z => z⟩) h2 twn_sound
    have := qq (.int r) H' k2 kp (.int r)
    rw [hr]
    exact this) hg he hpl
end JL

namespace JL
open PySem PySem.Spec L2
/-- a def by its reading -/
theorem defs_raw {g : Glob} {x : Str} {st : Stmt} {N ps : List Str} {k : Nat} {sp : Sp} (h : DefAt g x st) (S : FnScope N ps (defScope st))
    (hb : ∀ (kV doc pm : Value) (an : Option Addr) (cdv ct : Value) (us : List Value), us.length = ps.length → bindArgs (PySem.W.fnOf x x (defArgs st) (defBody st) (defScope st) .none kV doc pm an cdv ct) ⟨us, []⟩ = pure (ps.zip us))
    (len : ∀ vs H Q E, sp vs H Q E → vs.length = ps.length)
    (body : ∀ (X : Cx) vs H Q (E : XK), Fits ⟨g, N, defScope st, k, fun _ => true, true⟩ X → Takes X (fun cls d _ H => E cls d H) → X.stack = X.env :: X.outer → X.env.frame = some X.env.locals → X.ex = [] → sp vs H Q E → wSs X (defBody st) { nx := fun _ H' => Q .non H', rt := Q } (L2.start N vs) H) : DefS g x (k + 1) sp := by
  obtain ⟨f, fd, hm, F⟩ := h
  refine ⟨f, fd, ps, ?_, hm, F.kp, F.bindsN hb⟩
  exact F.ok S len (fun cdv A outer s H vs Q E hr hsp => body _ vs H Q E (fits_cx S.nd hr) (takes_of rfl rfl rfl rfl) rfl rfl rfl hsp)
/-! ### a town is made -/
def spTown (K : PySem.W.Frag) : Sp := fun vs H Q E => ∃ (a : Addr) (ns : List Int), vs = [.ref a] ∧ ScrIn K H a ns ∧ ns.length ≤ 1000 ∧ ∀ q H', H q = none → Same H H' → H' q = some (.lst ((0 :: ns).map V.int)) → Q (.ref q) H'
/-! ### one of some choices -/
def spPick (K : PySem.W.Frag) : Sp := fun vs H Q E => ∃ (S : List Addr) (a q : Addr) (ns ts : List Int) (m : Nat) (v : V) (ds : List D), vs = [.ref a, .ref q, v] ∧ Rp S H v (.lst ds) ∧ Dom S H ∧ q ∈ S ∧ ScrIn K H a ns ∧ H q = some (.lst (ts.map V.int)) ∧ TownOk ns ts m ∧ m ≤ 1000000 ∧ 0 < ds.length ∧ ds.length ≤ 100000 ∧
  ∀ v' H', (∀ b ob, H b = some ob → b ≠ q → H' b = some ob) → H' q = some (.lst ((drawR ns ts ds.length).2.map V.int)) → Rp S H' v' (ds.getD (drawR ns ts ds.length).1.toNat .non) → Q v' H'
section
variable {G : Ctx} {Z Z1 : State} {e1 e2 e3 : Expr} {p pos : Pos} {k : Nat} {a q : Addr} {ns ts ts' : List Int} {r : Int} {m : Nat} {ds : List D} {d : D}
theorem three_of {S : List Addr} {H : Hp} {vs : List V} {d1 d2 d3 : D} (r : RpA S H vs [d1, d2, d3]) : ∃ v1 v2 v3, vs = [v1, v2, v3] ∧ Rp S H v1 d1 ∧ Rp S H v2 d2 ∧ Rp S H v3 d3 := by
  have := r.1
  match vs, this with
  | [v1, v2, v3], _ => exact ⟨v1, v2, v3, rfl, r.head, r.tail.head, r.tail.tail.head⟩
theorem je_pick (F : DefS G.g "_law_pick" k (spPick G.g.K)) (hk : k ≤ G.k) (is it : Nat) (ha : JA G [e1, e2, e3] Z [.ref a, .ref q, .lst ds] Z1) (hs : Z1.ρ[is]? = some (some (scr a G.g.K ns))) (ht : Z1.ρ[it]? = some (some (twn q ts)))
    (t : TownOk ns ts m) (hr : drawR ns ts ds.length = (r, ts')) (hd : ds.getD r.toNat .non = d) (hl : 0 < ds.length := by first | exact Nat.lt_of_sub_pos (by decide) | decide | omega) (hl1 : ds.length ≤ 100000 := by first | exact Nat.le_of_ble_eq_true rfl | omega) (hm : m ≤ 1000000 := by omega) (hg : glB G.sc "_law_pick" = true := by kernel_rfl)
    (he : ∀ env, starEach [e1, e2, e3] env = (false, eval e1 env) :: starEach [e2, e3] env := by intro _; rfl) (hpl : ∀ env, (backTo pos (starEach [e2, e3] env)).any (·.1) = false := by intro _; rfl) :
    JE G (.Call (.Name "_law_pick" p) [e1, e2, e3] [] pos) Z d ⟨Z1.S, Z1.ρ.set it (some (twn q ts'))⟩ :=
  je_eff F hk ha (fun B σ H vs Q k1 r1 qq => by
    obtain ⟨v1, v2, v3, rfl, ra, rq, rv⟩ := three_of r1
    cases ra.inv_ref
    cases rq.inv_ref
    obtain ⟨_, _, _, _, hp1, _⟩ := k1.env is _ hs
    obtain ⟨_, _, _, hS, hp2, _⟩ := k1.env it _ ht
    refine ⟨Z1.S, a, q, ns, ts, m, v3, ds, rfl, rv, k1.dom, hS q (List.mem_singleton.mpr rfl), hp1, hp2, t, hm, hl, hl1, fun v' H' h1 h2 h3 => ?_⟩
    rw [hr] at h2 h3
    obtain ⟨k2, kp⟩ := k1.mutRes (H' := H') (P' := fun _ H => H q = some (.lst (ts'.map V.int))) ht (fun b o e n => h1 b o e fun z => n (List.mem_singleton.mpr z)) (fun a m' => by rw [List.mem_singleton.mp m']; exact ⟨_, h2, fun z => z⟩) h2 twn_sound
    rw [← hd] at qq
    exact qq v' H' k2 kp h3) hg he hpl
end
/-! ### sorted ints -/
def ins (x : Int) : List Int → List Int
  | [] => [x]
  | y :: l => if x ≤ y then x :: y :: l else y :: ins x l
def isort : List Int → List Int
  | [] => []
  | x :: l => ins x (isort l)
theorem ins_perm (x : Int) : ∀ l : List Int, (ins x l).Perm (x :: l)
  | [] => List.Perm.refl _
  | y :: l => by
    unfold ins
    split
    · exact List.Perm.refl _
    · exact (List.Perm.cons y (ins_perm x l)).trans (List.Perm.swap x y l)
theorem isort_perm : ∀ l : List Int, (isort l).Perm l
  | [] => List.Perm.refl _
  | x :: l => (ins_perm x (isort l)).trans (List.Perm.cons x (isort_perm l))
theorem ins_mem {x y : Int} {l : List Int} : y ∈ ins x l ↔ y = x ∨ y ∈ l := by
  rw [(ins_perm x l).mem_iff, List.mem_cons]
theorem ins_sorted {x : Int} : ∀ {l : List Int}, l.Pairwise (· ≤ ·) → (ins x l).Pairwise (· ≤ ·)
  | [], _ => List.pairwise_singleton _ _
  | y :: l, h => by
    rw [List.pairwise_cons] at h
    unfold ins
    split
    · rename_i hxy
      rw [List.pairwise_cons]
      refine ⟨fun z hz => ?_, by rw [List.pairwise_cons]; exact h⟩
      rcases List.mem_cons.mp hz with rfl | hz
      · exact hxy
      · exact Int.le_trans hxy (h.1 z hz)
    · rename_i hxy
      rw [List.pairwise_cons]
      refine ⟨fun z hz => ?_, ins_sorted h.2⟩
      rcases ins_mem.mp hz with rfl | hz
      · omega
      · exact h.1 z hz
theorem isort_sorted : ∀ l : List Int, (isort l).Pairwise (· ≤ ·)
  | [] => List.Pairwise.nil
  | x :: l => ins_sorted (isort_sorted l)
theorem sorted_uniq : ∀ {l m : List Int}, l.Perm m → l.Pairwise (· ≤ ·) → m.Pairwise (· ≤ ·) → l = m
  | [], m, p, _, _ => (List.nil_perm.mp p).symm
  | x :: l, [], p, _, _ => by have := p.length_eq; simp at this
  | x :: l, y :: m, p, h1, h2 => by
    rw [List.pairwise_cons] at h1 h2
    have hxy : x = y := by
      have hx : x ∈ y :: m := p.mem_iff.mp (List.mem_cons_self ..)
      have hy : y ∈ x :: l := p.mem_iff.mpr (List.mem_cons_self ..)
      rcases List.mem_cons.mp hx with e | hx
      · exact e
      · rcases List.mem_cons.mp hy with e | hy
        · exact e.symm
        · have := h1.1 y hy
          have := h2.1 x hx
          omega
    subst hxy
    rw [sorted_uniq p.cons_inv h1.2 h2.2]
section
variable {G : Ctx} {Z Z1 Z2 : State} {a b : Expr} {p pos : Pos} {ns : List Int} {i : Int}
theorem je_sortedI (B : Bi G.g) (ha : JA G [a] Z [.lst (ns.map D.int)] Z1) (hl : ns.length < 64) (hg : glB G.sc "sorted" = true := by kernel_rfl) (he : ∀ env, starEach [a] env = (false, eval a env) :: starEach [] env := by intro _; rfl) (hpl : ∀ env, (backTo pos (starEach [] env)).any (·.1) = false := by intro _; rfl) :
    JE G (.Call (.Name "sorted" p) [a] [] pos) Z (.lst ((isort ns).map D.int)) Z1 :=
  je_callB (r := fun X => rSorted X.K) (fun X _ => cr_sorted) B.sorted_ (by decide +kernel) hg ha (fun X f B2 σ H vs Q k r q => by
    obtain ⟨v, rfl, rr⟩ := one_of r
    obtain ⟨l, xs, rfl, nl, e, ra⟩ := rr.inv_lst
    have ex : xs = ns.map V.int := rpa_map (fun b v r => r.inv_int) ra
    subst ex
    refine ⟨l, ns, rfl, .of e, hl, fun ns' n hp hs nn => ?_⟩
    have en : ns' = isort ns := sorted_uniq (hp.trans (isort_perm ns).symm) hs (isort_sorted ns)
    subst en
    exact q _ _ (same_upd nn) (rp_lst (k.fresh nn) upd_same (rpa_of (fun x => .int x) _))) he hpl
theorem inV_int (i : Int) : ∀ ns : List Int, inV (.int i) (ns.map V.int) = decide (i ∈ ns)
  | [] => rfl
  | n :: ns => by
    show (eqV (.int n) (.int i) || inV (.int i) (ns.map V.int)) = _
    rw [inV_int i ns]
    show ((n == i) || decide (i ∈ ns)) = _
    by_cases h : n = i
    · subst h; simp
    · have h2 : ¬ i = n := fun z => h z.symm
      simp [h, h2]
theorem flat_ints (ns : List Int) : (ns.map V.int).all flatV = true := by
  rw [List.all_eq_true]
  intro x hx
  obtain ⟨n, _, rfl⟩ := List.mem_map.mp hx
  rfl
/-- i in, not in a list or a tuple of ints -/
theorem jt_inL (ha : JE G a Z (.int i) Z1) (hb : JE G b Z1 (.lst (ns.map D.int)) Z2) (hm : behindInMarks .In b = false := by rfl) : JT G (.Compare a [.In] [b] pos) Z (decide (i ∈ ns)) Z2 :=
  jt_cmp (r := fun X => rIn X.K false) (fun _ _ => op_in_seq) hm ha hb fun X f B σ H x y Q k r1 r2 q => by
    cases r1.inv_int
    obtain ⟨l, xs, rfl, nl, e, ra⟩ := r2.inv_lst
    have ex : xs = ns.map V.int := rpa_map (fun b v r => r.inv_int) ra
    subst ex
    refine ⟨l, _, rfl, .inl (.of e), rfl, flat_ints ns, ?_⟩
    rw [inV_int]
    exact q _ H k Kp.refl (.bl _)
theorem jt_ninL (ha : JE G a Z (.int i) Z1) (hb : JE G b Z1 (.lst (ns.map D.int)) Z2) (hm : behindInMarks .NotIn b = false := by rfl) : JT G (.Compare a [.NotIn] [b] pos) Z (!decide (i ∈ ns)) Z2 :=
  jt_cmp (r := fun X => rIn X.K true) (fun _ _ => op_notIn_seq) hm ha hb fun X f B σ H x y Q k r1 r2 q => by
    cases r1.inv_int
    obtain ⟨l, xs, rfl, nl, e, ra⟩ := r2.inv_lst
    have ex : xs = ns.map V.int := rpa_map (fun b v r => r.inv_int) ra
    subst ex
    refine ⟨l, _, rfl, .inl (.of e), rfl, flat_ints ns, ?_⟩
    rw [inV_int]
    exact q _ H k Kp.refl (.bl _)
theorem jt_inT (ha : JE G a Z (.int i) Z1) (hb : JE G b Z1 (.tup (ns.map D.int)) Z2) (hm : behindInMarks .In b = false := by rfl) : JT G (.Compare a [.In] [b] pos) Z (decide (i ∈ ns)) Z2 :=
  jt_cmp (r := fun X => rIn X.K false) (fun _ _ => op_in_seq) hm ha hb fun X f B σ H x y Q k r1 r2 q => by
    cases r1.inv_int
    obtain ⟨l, xs, rfl, nl, e, ra⟩ := r2.inv_tup
    have ex : xs = ns.map V.int := rpa_map (fun b v r => r.inv_int) ra
    subst ex
    refine ⟨l, _, rfl, .inr (.of e), rfl, flat_ints ns, ?_⟩
    rw [inV_int]
    exact q _ H k Kp.refl (.bl _)
theorem jt_ninT (ha : JE G a Z (.int i) Z1) (hb : JE G b Z1 (.tup (ns.map D.int)) Z2) (hm : behindInMarks .NotIn b = false := by rfl) : JT G (.Compare a [.NotIn] [b] pos) Z (!decide (i ∈ ns)) Z2 :=
  jt_cmp (r := fun X => rIn X.K true) (fun _ _ => op_notIn_seq) hm ha hb fun X f B σ H x y Q k r1 r2 q => by
    cases r1.inv_int
    obtain ⟨l, xs, rfl, nl, e, ra⟩ := r2.inv_tup
    have ex : xs = ns.map V.int := rpa_map (fun b v r => r.inv_int) ra
    subst ex
    refine ⟨l, _, rfl, .inr (.of e), rfl, flat_ints ns, ?_⟩
    rw [inV_int]
    exact q _ H k Kp.refl (.bl _)
end
end JL

namespace JL
open PySem PySem.Spec L2
section
variable {G : Ctx} {Z Z1 Z2 Z3 : State} {a b c e : Expr} {es : List Expr} {ds : List D} {pos pos' p p2 : Pos} {d d1 d2 : D} {P : OutS → Prop}
/-- x, y = e, [..]: the list to be changed later -/
theorem js_parO (i j : Nat) {x y : Str} {px py pt p3 : Pos} {kt k2 pt2} (ha : JE G a Z d Z1) (hb : JA G es Z1 ds Z2) (hp : ∀ q, q ∉ Z2.S → P (.nx ⟨q :: Z2.S, (Z2.ρ.set i (some (.dat d))).set j (some (.own q ds))⟩)) (hw : ∀ env : Env, env.scope = G.sc → swappedStores [.Tuple [.Name x px, .Name y py] kt pt] (.Tuple [a, .List es p3] k2 pt2) env = pure (some [x, y]))
    (hz : ds.length ≤ 100000 := by first | exact Nat.le_of_ble_eq_true rfl | omega) (hn : (decide (G.N[i]? = some x) && (decide (G.N[j]? = some y) && (locL G.sc x && (locL G.sc y && !(i == j))))) = true := by kernel_rfl)
    (hs : ∀ env, swapsWithSole [.Tuple [.Name x px, .Name y py] kt pt] (.Tuple [a, .List es p3] k2 pt2) pos.line env = pure false := by intro _; rfl) (he : ∀ env, starEach [a, .List es p3] env = (false, eval a env) :: starEach [.List es p3] env := by intro _; rfl) (he2 : ∀ env, starEach [.List es p3] env = (false, eval (.List es p3) env) :: starEach [] env := by intro _; rfl) :
    JS G (.Assign [.Tuple [.Name x px, .Name y py] kt pt] (.Tuple [a, .List es p3] k2 pt2) pos) Z P := by
  intro X f B σ H k W E tk en
  simp only [Bool.and_eq_true, decide_eq_true_eq, Bool.not_eq_true', beq_eq_false_iff_ne] at hn
  obtain ⟨h1, h2, h3, h4, h5⟩ := hn
  refine ⟨_, ps_par (i := i) (j := j) f.calm (by rw [f.N]; exact f.nd) (by rw [f.N]; exact h1) (by rw [f.N]; exact h2) h5 (by rw [f.sc]; exact locL_of h3) (by rw [f.sc]; exact locL_of h4) (pa_cons p_E (pa_cons (pe_lst p_A) pa_nil (he2 _)) (he _)) (hw _ f.sc) (hs _), ha X f B σ H k _ fun v H1 k1 p1 r1 => hb X f B σ H1 k1 _ fun vs H2 k2 p2 r2 => ⟨by rw [r2.1]; exact sz5 hz, fun q nq => ?_⟩⟩
  refine ⟨v, .ref q, rfl, en.nx _ _ _ (hp q (k2.fresh nq)) ?_⟩
  exact (k2.set i (p2 _ _ r1)).own j nq r2
/-- x, y = [..], [..], both to be changed later -/
theorem js_parOO (i j : Nat) {x y : Str} {es2 : List Expr} {ds2 : List D} {px py pt p3 p4 : Pos} {kt k2 pt2} (ha : JA G es Z ds Z1) (hb : JA G es2 Z1 ds2 Z2) (hp : ∀ q r, q ∉ Z2.S → r ∉ q :: Z2.S → P (.nx ⟨r :: q :: Z2.S, (Z2.ρ.set i (some (.own q ds))).set j (some (.own r ds2))⟩)) (hZ : Z2 = Z1) (hw : ∀ env : Env, env.scope = G.sc → swappedStores [.Tuple [.Name x px, .Name y py] kt pt] (.Tuple [.List es p4, .List es2 p3] k2 pt2) env = pure (some [x, y])) : True := trivial
end
/-! ### drawn gates -/
abbrev Gt := Int × Int × Int
def encG (g : Gt) : D := .tup [.int g.1, .int g.2.1, .int g.2.2]
def encGs (gs : List Gt) : D := .tup (gs.map encG)
structure GateOk (g : Gt) : Prop where
  p1 : -20 ≤ g.1
  p2 : g.1 ≤ 20
  l1 : -50 ≤ g.2.1
  l2 : g.2.1 ≤ g.2.2
  h2 : g.2.2 ≤ 50
structure GatesOk (gs : List Gt) : Prop where
  one : 1 ≤ gs.length
  most : gs.length ≤ 8
  ok : ∀ g ∈ gs, GateOk g
  up : gs.Pairwise fun g h => g.1 < h.1
def mx (i j : Int) : Int := if j > i then j else i
def mn (i j : Int) : Int := if j < i then j else i
/-- the town behind n draws below lim -/
def itD (ns : List Int) (lim : Int) (ts : List Int) : Nat → List Int
  | 0 => ts
  | n + 1 => (drawR ns (itD ns lim ts n) lim).2
theorem itD_ok {ns ts : List Int} {lim : Int} {m : Nat} (t : TownOk ns ts m) : ∀ n, TownOk ns (itD ns lim ts n) (m + n)
  | 0 => t
  | n + 1 => (itD_ok t n).next
def step1 (ns : List Int) (wide : Int) (s : List Int × List Int) : List Int × List Int :=
  ((if (drawR ns s.2 (2 * wide + 1)).1 - wide ∈ s.1 then s.1 else s.1 ++ [(drawR ns s.2 (2 * wide + 1)).1 - wide]), (drawR ns s.2 (2 * wide + 1)).2)
def run1 (ns : List Int) (wide : Int) (s : List Int × List Int) : Nat → List Int × List Int
  | 0 => s
  | n + 1 => step1 ns wide (run1 ns wide s n)
def midR (curve : List Int) (kind spot : Int) : Int := ((curve.take kind.toNat).zipIdx.map fun p => p.1 * [1, spot, spot * spot].getD p.2 0).sum
def mid2 (ns curve : List Int) (kind spot : Int) (ts : List Int) : Int × List Int :=
  if (drawR ns ts 4).1 = 0 then ((drawR ns (drawR ns ts 4).2 19).1 - 9, (drawR ns (drawR ns ts 4).2 19).2) else (midR curve kind spot, (drawR ns ts 4).2)
def gate2 (ns : List Int) (spot : Int) (m : Int × List Int) : Gt × List Int :=
  let mm := mx (-50) (mn 50 m.1)
  let d3 := drawR ns m.2 4
  let low := mx (-50) (mm - d3.1)
  let d4 := drawR ns d3.2 4
  ((spot, low, mn 50 (mx low (mm + d4.1 - 1))), d4.2)
def step2 (ns curve : List Int) (kind : Int) (s : List Gt × List Int) (spot : Int) : List Gt × List Int :=
  (s.1 ++ [(gate2 ns spot (mid2 ns curve kind spot s.2)).1], (gate2 ns spot (mid2 ns curve kind spot s.2)).2)
def curveR (ns ts : List Int) : List Int := (List.range 3).map fun i => (drawR ns (itD ns 7 ts i) 7).1 - 3
def gatesR (ns ts : List Int) (most : Int) : List Gt × List Int :=
  let t1 := itD ns 7 ts 3
  let w := drawR ns t1 3
  let wide : Int := [4, 4, 20].getD w.1.toNat 0
  let c := drawR ns w.2 most
  let pl := run1 ns wide ([], c.2) (1 + c.1).toNat
  let kd := drawR ns pl.2 4
  let kind : Int := [1, 2, 2, 3].getD kd.1.toNat 0
  (isort pl.1).foldl (step2 ns (curveR ns ts) kind) ([], kd.2)
theorem run1_ok {ns : List Int} {wide : Int} {ts : List Int} {m : Nat} (hw : 0 ≤ wide) (t : TownOk ns ts m) : ∀ n, (run1 ns wide ([], ts) n).1.length ≤ n ∧ (run1 ns wide ([], ts) n).1.Nodup ∧ (∀ x ∈ (run1 ns wide ([], ts) n).1, -wide ≤ x ∧ x ≤ wide) ∧ TownOk ns (run1 ns wide ([], ts) n).2 (m + n) ∧ (0 < n → 0 < (run1 ns wide ([], ts) n).1.length)
  | 0 => ⟨Nat.le_refl _, List.nodup_nil, fun _ h => (by cases h), t, fun h => (by omega)⟩
  | n + 1 => by
    obtain ⟨h1, h2, h3, h4, h5⟩ := run1_ok hw t n
    have dl := draw_lo (ns := ns) (ts := (run1 ns wide ([], ts) n).2) (lim := 2 * wide + 1) (by omega)
    have er : run1 ns wide ([], ts) (n + 1) = step1 ns wide (run1 ns wide ([], ts) n) := rfl
    rw [er]
    generalize run1 ns wide ([], ts) n = s at *
    unfold step1
    refine ⟨?_, ?_, ?_, h4.next, fun _ => ?_⟩
    · dsimp only
      split
      · omega
      · rw [List.length_append]; simp; omega
    · dsimp only
      split
      · exact h2
      · rename_i hn
        rw [List.nodup_append]
        refine ⟨h2, List.nodup_cons.mpr ⟨List.not_mem_nil, List.nodup_nil⟩, fun x hx y hy => ?_⟩
        rw [List.mem_singleton.mp hy]
        intro z
        rw [z] at hx
        exact hn hx
    · dsimp only
      split
      · exact h3
      · intro x hx
        rcases List.mem_append.mp hx with hx | hx
        · exact h3 x hx
        · rw [List.mem_singleton.mp hx]; omega
    · dsimp only
      split
      · rename_i hm
        exact List.length_pos_iff.mpr (List.ne_nil_of_mem hm)
      · rw [List.length_append]; simp
theorem mid2_ok {ns curve ts : List Int} {kind spot : Int} {m : Nat} (t : TownOk ns ts m) : TownOk ns (mid2 ns curve kind spot ts).2 (m + 2) := by
  unfold mid2
  split
  · exact t.next.next
  · have := t.next (lim := 4)
    exact ⟨this.len, this.lo, by have h2 := this.hi; show (drawR ns ts 4).2.headD 0 ≤ _; omega⟩
theorem mx_le {i j k : Int} (h1 : i ≤ k) (h2 : j ≤ k) : mx i j ≤ k := by
  unfold mx; split <;> omega
theorem le_mx1 {i j : Int} : i ≤ mx i j := by
  unfold mx; split <;> omega
theorem mn_le1 {i j : Int} : mn i j ≤ i := by
  unfold mn; split <;> omega
theorem le_mn {i j k : Int} (h1 : k ≤ i) (h2 : k ≤ j) : k ≤ mn i j := by
  unfold mn; split <;> omega
theorem gate2_ok {ns ts : List Int} {spot mm : Int} {m : Nat} (t : TownOk ns ts m) (h : -20 ≤ spot ∧ spot ≤ 20) : GateOk (gate2 ns spot (mm, ts)).1 ∧ TownOk ns (gate2 ns spot (mm, ts)).2 (m + 2) ∧ (gate2 ns spot (mm, ts)).1.1 = spot := by
  have d3 := draw_lo (ns := ns) (ts := ts) (lim := 4) (by decide)
  refine ⟨⟨h.1, h.2, ?_, ?_, ?_⟩, t.next.next, rfl⟩
  · show -50 ≤ mx _ _
    unfold mx
    split <;> omega
  · have d3' : 0 ≤ (drawR ns ts 4).1 := d3.1
    have hm : mx (-50) (mn 50 mm) ≤ 50 := mx_le (by decide) mn_le1
    exact le_mn (mx_le (by decide) (by show mx (-50) (mn 50 mm) - (drawR ns ts 4).1 ≤ 50; omega)) le_mx1
  · show mn _ _ ≤ 50
    unfold mn
    split <;> omega
theorem fold2_ok {ns curve : List Int} {kind : Int} : ∀ (l : List Int) (s : List Gt × List Int) (m : Nat), TownOk ns s.2 m → (∀ x ∈ l, -20 ≤ x ∧ x ≤ 20) → TownOk ns (l.foldl (step2 ns curve kind) s).2 (m + 4 * l.length) ∧ (l.foldl (step2 ns curve kind) s).1.map (·.1) = s.1.map (·.1) ++ l ∧ ((∀ g ∈ s.1, GateOk g) → ∀ g ∈ (l.foldl (step2 ns curve kind) s).1, GateOk g)
  | [], s, m, t, _ => ⟨t, by simp, fun h => h⟩
  | x :: l, s, m, t, h => by
    have hx := h x (by simp)
    obtain ⟨g1, g2, g3⟩ := gate2_ok (mm := (mid2 ns curve kind x s.2).1) (mid2_ok (curve := curve) (kind := kind) (spot := x) t) hx
    obtain ⟨i1, i2, i3⟩ := fold2_ok l (step2 ns curve kind s x) (m + 2 + 2) g2 fun y hy => h y (by simp [hy])
    refine ⟨?_, ?_, fun hs => i3 fun g hg => ?_⟩
    · have e : m + 4 * (x :: l).length = m + 2 + 2 + 4 * l.length := by rw [List.length_cons]; omega
      rw [e]
      exact i1
    · rw [List.foldl_cons, i2]
      show (s.1 ++ [(gate2 ns x (mid2 ns curve kind x s.2)).1]).map (fun g : Gt => g.1) ++ l = _
      rw [List.map_append]
      show s.1.map (fun g : Gt => g.1) ++ [x] ++ l = _
      simp
    · rcases List.mem_append.mp hg with hg | hg
      · exact hs g hg
      · rw [List.mem_singleton.mp hg]; exact g1
theorem nodup_sorted_lt {l : List Int} (h : l.Pairwise (· ≤ ·)) (n : l.Nodup) : l.Pairwise (· < ·) := by
  induction l with
  | nil => exact List.Pairwise.nil
  | cons x l ih =>
    rw [List.pairwise_cons] at h ⊢
    rw [List.nodup_cons] at n
    refine ⟨fun y hy => ?_, ih h.2 n.2⟩
    have := h.1 y hy
    have : x ≠ y := fun z => n.1 (by rw [z]; exact hy)
    omega
theorem gatesR_ok {ns ts : List Int} {most : Int} {m : Nat} (t : TownOk ns ts m) (hm : 0 < most ∧ most ≤ 8) : GatesOk (gatesR ns ts most).1 ∧ TownOk ns (gatesR ns ts most).2 (m + 60) ∧ (gatesR ns ts most).1.length ≤ most := by
  have t1 := itD_ok (lim := 7) t 3
  have d1 := draw_lo (ns := ns) (ts := itD ns 7 ts 3) (lim := 3) (by decide)
  have t2 := t1.next (lim := 3)
  generalize hw : drawR ns (itD ns 7 ts 3) 3 = w at *
  have hwide : ([4, 4, 20] : List Int).getD w.1.toNat 0 = 4 ∨ ([4, 4, 20] : List Int).getD w.1.toNat 0 = 20 := by
    have : w.1 = 0 ∨ w.1 = 1 ∨ w.1 = 2 := by omega
    rcases this with e | e | e <;> rw [e] <;> decide
  generalize hwd : ([4, 4, 20] : List Int).getD w.1.toNat 0 = wide at *
  have d2 := draw_lo (ns := ns) (ts := w.2) (lim := most) hm.1
  have t3 := t2.next (lim := most)
  generalize hc : drawR ns w.2 most = c at *
  obtain ⟨r1, r2, r3, r4, r5⟩ := run1_ok (wide := wide) (by omega) t3 (1 + c.1).toNat
  generalize hp : run1 ns wide ([], c.2) (1 + c.1).toNat = pl at *
  have t4 := r4.next (lim := 4)
  generalize hk : drawR ns pl.2 4 = kd at *
  have pm := isort_perm pl.1
  have bd : ∀ x ∈ isort pl.1, -20 ≤ x ∧ x ≤ 20 := fun x hx => by
    have := r3 x (pm.mem_iff.mp hx)
    omega
  obtain ⟨f1, f2, f3⟩ := fold2_ok (curve := curveR ns ts) (kind := ([1, 2, 2, 3] : List Int).getD kd.1.toNat 0) (isort pl.1) ([], kd.2) _ t4 bd
  have eG : gatesR ns ts most = (isort pl.1).foldl (step2 ns (curveR ns ts) (([1, 2, 2, 3] : List Int).getD kd.1.toNat 0)) ([], kd.2) := by
    unfold gatesR
    dsimp only
    rw [hw, hwd, hc, hp, hk]
  have hl : (gatesR ns ts most).1.length = pl.1.length := by
    rw [eG]
    have := congrArg List.length f2
    rw [List.length_map] at this
    rw [this]
    simp [pm.length_eq]
  have hpl := r5 (by omega)
  refine ⟨⟨by omega, by omega, ?_, ?_⟩, ?_, by omega⟩
  · rw [eG]
    exact f3 fun g hg => (by cases hg)
  · rw [eG]
    have lt := nodup_sorted_lt (isort_sorted pl.1) (pm.nodup_iff.mpr r2)
    have e2 : ((isort pl.1).foldl (step2 ns (curveR ns ts) (([1, 2, 2, 3] : List Int).getD kd.1.toNat 0)) ([], kd.2)).1.map (·.1) = isort pl.1 := by rw [f2]; rfl
    rw [← e2, List.pairwise_map] at lt
    exact lt
  · rw [eG]
    have := pm.length_eq
    exact ⟨f1.len, f1.lo, by have := f1.hi; omega⟩
def spGates (K : PySem.W.Frag) : Sp := fun vs H Q E => ∃ (S : List Addr) (a q : Addr) (ns ts : List Int) (m : Nat) (most : Int), vs = [.ref a, .ref q, .int most] ∧ Dom S H ∧ q ∈ S ∧ ScrIn K H a ns ∧ H q = some (.lst (ts.map V.int)) ∧ TownOk ns ts m ∧ m ≤ 900000 ∧ 0 < most ∧ most ≤ 8 ∧
  ∀ v' H', (∀ b ob, H b = some ob → b ≠ q → H' b = some ob) → H' q = some (.lst ((gatesR ns ts most).2.map V.int)) → Rp S H' v' (encGs (gatesR ns ts most).1) → Q v' H'
theorem gates_ex {ns ts : List Int} {m : Nat} {most : Int} (t : TownOk ns ts m) (hm : 0 < most ∧ most ≤ 8) : ∃ gs ts', gatesR ns ts most = (gs, ts') ∧ GatesOk gs ∧ (gs.length : Int) ≤ most ∧ TownOk ns ts' (m + 60) :=
  ⟨(gatesR ns ts most).1, (gatesR ns ts most).2, rfl, (gatesR_ok t hm).1, (gatesR_ok t hm).2.2, (gatesR_ok t hm).2.1⟩
theorem je_gates {G : Ctx} {Z Z1 : State} {e1 e2 e3 : Expr} {p pos : Pos} {k : Nat} {a q : Addr} {ns ts ts' : List Int} {most : Int} {gs : List Gt} {m : Nat} (F : DefS G.g "_law_gates" k (spGates G.g.K)) (hk : k ≤ G.k) (is it : Nat) (ha : JA G [e1, e2, e3] Z [.ref a, .ref q, .int most] Z1) (hs : Z1.ρ[is]? = some (some (scr a G.g.K ns))) (ht : Z1.ρ[it]? = some (some (twn q ts)))
    (t : TownOk ns ts m) (hr : gatesR ns ts most = (gs, ts')) (hl : 0 < most ∧ most ≤ 8 := by omega) (hm : m ≤ 900000 := by omega) (hg : glB G.sc "_law_gates" = true := by kernel_rfl)
    (he : ∀ env, starEach [e1, e2, e3] env = (false, eval e1 env) :: starEach [e2, e3] env := by intro _; rfl) (hpl : ∀ env, (backTo pos (starEach [e2, e3] env)).any (·.1) = false := by intro _; rfl) :
    JE G (.Call (.Name "_law_gates" p) [e1, e2, e3] [] pos) Z (encGs gs) ⟨Z1.S, Z1.ρ.set it (some (twn q ts'))⟩ :=
  je_eff F hk ha (fun B σ H vs Q k1 r1 qq => by
    obtain ⟨v1, v2, v3, rfl, ra, rq, rv⟩ := three_of r1
    cases ra.inv_ref
    cases rq.inv_ref
    cases rv.inv_int
    obtain ⟨_, _, _, _, hp1, _⟩ := k1.env is _ hs
    obtain ⟨_, _, _, hS, hp2, _⟩ := k1.env it _ ht
    refine ⟨Z1.S, a, q, ns, ts, m, most, rfl, k1.dom, hS q (List.mem_singleton.mpr rfl), hp1, hp2, t, hm, hl.1, hl.2, fun v' H' h1 h2 h3 => ?_⟩
    rw [hr] at h2 h3
    obtain ⟨k2, kp⟩ := k1.mutRes (H' := H') (P' := fun _ H => H q = some (.lst (ts'.map V.int))) ht (fun b o e n => h1 b o e fun z => n (List.mem_singleton.mpr z)) (fun a m' => by rw [List.mem_singleton.mp m']; exact ⟨_, h2, fun z => z⟩) h2 twn_sound
    exact qq v' H' k2 kp h3) hg he hpl
theorem numd_ints (l : List Int) : numd (l.map D.int) = l.zipIdx.map fun p => D.tup [.int (p.2 : Int), .int p.1] := by
  apply List.ext_getElem?
  intro i
  unfold numd
  rw [List.getElem?_zipWith, List.getElem?_map, List.getElem?_map, List.getElem?_zipIdx]
  by_cases h : i < l.length
  · rw [List.getElem?_range (by simpa using h), List.getElem?_eq_getElem h]
    simp
  · rw [List.getElem?_eq_none (by simpa using h : l.length ≤ i)]
    cases (List.range (l.map D.int).length)[i]? <;> rfl
theorem cutD_take {α : Type} (f : α → D) {l : List α} {k : Int} (h : 0 ≤ k) : cutD (l.map f) none (some k) = (l.take k.toNat).map f := by
  unfold cutD
  show ((l.map f).drop 0).take ((if k < 0 then _ else min k.toNat (l.map f).length) - 0) = _
  rw [if_neg (by omega), List.drop_zero, Nat.sub_zero, List.length_map, List.map_take]
  by_cases h2 : k.toNat ≤ l.length
  · rw [Nat.min_eq_left h2]
  · rw [Nat.min_eq_right (by omega), List.take_of_length_le (by simp), List.take_of_length_le (by simp; omega)]
end JL

namespace JL
open PySem PySem.Spec L2
/-! ### try .. except .. as n: m = n -/
/-- slot i is forgotten -/
theorem Ok.drop {B : Bs} {Z : State} {σ : L2.St} {H : Hp} (k : Ok B Z σ H) (i : Nat) (o : Option V) : Ok B ⟨Z.S, Z.ρ.set i none⟩ (σ.set i o) H := by
  have key : ∀ (j : Nat) (e : EV), (Z.ρ.set i none)[j]? = some (some e) → i ≠ j ∧ Z.ρ[j]? = some (some e) := fun j e h => by
    by_cases hij : i = j
    · subst hij
      by_cases hl : i < Z.ρ.length
      · rw [List.getElem?_set_self hl] at h; cases h
      · rw [List.getElem?_eq_none (by simpa using hl)] at h; cases h
    · rw [List.getElem?_set_ne hij] at h
      exact ⟨hij, h⟩
  refine ⟨by simp [k.len], fun j ev e => ?_, fun j l e f h1 h2 => k.sep j l e f (key j e h1).2 (key l f h2).2, fun j e h => k.mine j e (key j e h).2, k.dom, k.out, k.sub, k.tups, k.bsd, k.kept, fun a o m => ?_, k.msub, fun j q ds h => k.ownM j q ds (key j _ h).2⟩
  · obtain ⟨h1, h2⟩ := key j ev e
    rw [List.getElem?_set_ne h1]
    exact k.env j ev h2
  · obtain ⟨h1, h2, h3⟩ := k.held a o m
    exact ⟨h1, h2, fun j e h => h3 j e (key j e h).2⟩
abbrev errP (C a : Addr) : List Addr → Hp → Prop := fun _ H => H a = some (ExH (.ref C) a)
theorem err_sound {C a : Addr} : Sound [a] (errP C a) := fun _ _ _ _ e h _ => h a _ e (.inl (List.mem_singleton.mpr rfl))
theorem js_try {G : Ctx} {Z : State} {P : OutS → Prop} {body : List Stmt} {x n m : Str} {np pos pos' p1 p2 p3 : Pos} {R : Addr} (i j : Nat) (Pb : OutS → Prop) (hb : JSs G body Z Pb) (hR : G.g.mg x = some (.ref R)) (hn : ∀ Z1, Pb (.nx Z1) → P (.nx Z1))
    (hx : ∀ C Z1, Pb (.ex C Z1) → PySem.W.exmOne G.g.K (.ref C) (.ref R) = some true ∧ ∀ a, a ∉ Z1.S → P (.nx ⟨a :: Z1.S, ((Z1.ρ.set i none).set j (some (.res [a] (.ref a) (errP C a)))).set i none⟩))
    (hr : ∀ Z1 d, ¬ Pb (.rt Z1 d)) (hbk : ∀ Z1, ¬ Pb (.bk Z1)) (hct : ∀ Z1, ¬ Pb (.ct Z1)) (ht : G.top = true := by rfl)
    (hs : (decide (G.N[i]? = some n) && (decide (G.N[j]? = some m) && (locL G.sc n && (locL G.sc m && (!(n == ("__debug__" : Str)) && !(n == ("__classdict__" : Str))))))) = true := by kernel_rfl) (hg : glB G.sc x = true := by kernel_rfl) :
    JS G (.Try body [.ExceptHandler (some (.Name x np)) (some n) [.Assign [.Name m p1] (.Name n p2) p3] pos'] [] [] pos) Z P := by
  intro X f B σ H k W E tk en
  simp only [Bool.and_eq_true, decide_eq_true_eq, Bool.not_eq_true'] at hs
  obtain ⟨s1, s2, s3, s4, s5, s6⟩ := hs
  obtain ⟨t1, t2, t3⟩ := f.top ht
  obtain ⟨g1, g2, g3⟩ := gl_of f hg
  refine ⟨_, ps_try_held (i := i) (j := j) (c := .ref R) (tb := fun W D σ H => ∀ X', Fits G X' → Takes X' W → wSs X' body D σ H) t1 t2 t3 (by rw [f.N]; exact f.nd) (by rw [f.N]; exact s1) (by unfold Env.kindOf; rw [f.sc]; exact locL_of s3) (by rw [f.N]; exact s2) (by rw [f.sc]; exact locL_of s4)
    ⟨g1, g2, .inl (by rw [f.mg]; exact hR)⟩ s5 s6 (fun W pn xe tk po => ⟨fun pins s σ H D I h => ?_⟩), fun X' f' tk' => ?_⟩
  · exact p_Ss.run pins s σ H D I (h (X.tr pn xe) ⟨f.prog, f.w, f.K, f.mg, f.base, f.N, f.sc, f.room, f.calm, po, f.fn, f.nd, f.top⟩ tk)
  · refine hb X' f' B σ H k _ E tk' ⟨fun Z1 σ1 H1 p k1 => en.nx _ _ _ (hn Z1 p) k1, fun Z1 d v σ1 H1 p => absurd p (hr Z1 d), fun Z1 C σ1 H1 p k1 => ?_, fun Z1 σ1 H1 p => absurd p (hbk Z1), fun Z1 σ1 H1 p => absurd p (hct Z1)⟩
    obtain ⟨e1, e2⟩ := hx C Z1 p
    refine ⟨by rw [f.K]; exact e1, rfl, fun a na => en.nx _ _ _ (e2 a (k1.fresh na)) ?_⟩
    have k2 := k1.drop i (some (.ref a))
    obtain ⟨k3, _⟩ := k2.newRes j (R := [a]) (v := .ref a) (P := errP C a) (H' := upd H1 a (ExH (.ref C) a)) (same_upd na) (fun b m => by rw [List.mem_singleton.mp m]; exact ⟨na, _, upd_same, fun z => z⟩) upd_same err_sound
    exact k3.drop i none
/-! ### the errors of the package -/
def errs : List Str := ["InvalidGates", "InvalidGate", "InvalidDegree", "InvalidRoad", "InvalidPlace", "InvalidNumber", "InvalidSide", "InvalidMost", "InvalidText", "NoRoad", "Endless", "LastOne", "TooMany", "NothingToUndo"]
structure Errs (g : Glob) (C : Nat → Addr) : Prop where
  kit : ∀ i j, i < 14 → j < 14 → PySem.W.kitOne g.K (.ref (C i)) (.ref (C j)) = some (decide (i = j))
  kitV : ∀ i, i < 14 → PySem.W.kitOne g.K (.ref (C i)) (.type "ValueError") = some true
  exc : ∀ i, i < 14 → ExcC g.K (C i)
  mkx : ∀ i x, errs[i]? = some x → ExcK g x (C i)
  road : ∃ R, g.mg "RoadError" = some (.ref R) ∧ ∀ i, i < 14 → PySem.W.exmOne g.K (.ref (C i)) (.ref R) = some true
section
variable {G : Ctx} {Z Z1 Z2 : State} {a b e : Expr} {pos p p2 apos : Pos} {x : Str} {d : D}
/-- isinstance(caught, X) -/
theorem je_isErr {C : Nat → Addr} {c j : Nat} {q : Addr} {y : Str} (s : Nat) (B : Bi G.g) (Er : Errs G.g C) (hc : c < 14) (hj : errs[j]? = some y) (h : Z.ρ[s]? = some (some (.res [q] (.ref q) (errP (C c) q)))) (hn : nmB G.N G.sc s x = true := by kernel_rfl) (hg : glB G.sc "isinstance" = true := by kernel_rfl) (hg2 : glB G.sc y = true := by kernel_rfl) :
    JE G (.Call (.Name "isinstance" p2) [.Name x p, .Name y apos] [] pos) Z (.bl (decide (c = j))) Z := by
  intro X f B2 σ H k Q qq
  obtain ⟨o0, e0, e1, _, hp, _⟩ := k.env s _ h
  subst e1
  obtain ⟨h1, h2, h3⟩ := gl_of f hg
  obtain ⟨g1, g2, _⟩ := gl_of f hg2
  have hj14 : j < 14 := (List.getElem?_eq_some_iff.mp hj).1
  refine ⟨_, pe_callB call_isH h1 (by rw [f.mg]; exact B.isinstance_) (by decide +kernel) (pa_cons (pe_slot f hn) (pa_cons (pe_glob (v := .ref (C j)) g1 (by rw [f.mg]; exact (Er.mkx j y hj).mg) rfl g2) pa_nil)) h3 h2, .ref q, e0, q, C c, .ref (C j), .ref (C j), _, rfl, hp, by rw [f.K]; exact Er.exc c hc, .own _, by rw [f.K]; exact Er.kit c j hc hj14, qq _ H k Kp.refl (.bl _)⟩
theorem je_isErrV {C : Nat → Addr} {c : Nat} {q : Addr} (s : Nat) (B : Bi G.g) (Er : Errs G.g C) (hc : c < 14) (h : Z.ρ[s]? = some (some (.res [q] (.ref q) (errP (C c) q)))) (hn : nmB G.N G.sc s x = true := by kernel_rfl) (hg : glB G.sc "isinstance" = true := by kernel_rfl) (hg2 : glB G.sc "ValueError" = true := by kernel_rfl) :
    JE G (.Call (.Name "isinstance" p2) [.Name x p, .Name "ValueError" apos] [] pos) Z (.bl true) Z := by
  intro X f B2 σ H k Q qq
  obtain ⟨o0, e0, e1, _, hp, _⟩ := k.env s _ h
  subst e1
  obtain ⟨h1, h2, h3⟩ := gl_of f hg
  obtain ⟨g1, g2, g3⟩ := gl_of f hg2
  refine ⟨_, pe_callB call_isH h1 (by rw [f.mg]; exact B.isinstance_) (by decide +kernel) (pa_cons (pe_slot f hn) (pa_cons (pe_bltn (v := .ty "ValueError") g1 (by rw [f.mg]; exact B.ValueError_) (by decide +kernel) rfl g3 g2) pa_nil)) h3 h2, .ref q, e0, q, C c, .ty "ValueError", .type "ValueError", _, rfl, hp, by rw [f.K]; exact Er.exc c hc, .ty _, by rw [f.K]; exact Er.kitV c hc, qq _ H k Kp.refl (.bl _)⟩
/-- a list's method with one argument -/
theorem je_lm1 {id : String} {name : Str} {r : Cx → V → List V → Hp → VK → Prop} {ds : List D} {d1 : D} (slot : PySem.Slot "list" name id) (ty : typeOf (.builtin id) = pure (.type "method_descriptor")) (rule : ∀ X, Fits G X → MtR X id (r X)) (ho : JE G a Z (.lst ds) Z1) (he : JE G e Z1 d1 Z2)
    (hr : ∀ X, Fits G X → ∀ B σ H q xs v (Q : VK), Ok B Z2 σ H → H q = some (.lst xs) → RpA Z2.S H xs ds → Rp Z2.S H v d1 → (∀ v H', Same H H' → Rp Z2.S H' v d → Q v H') → r X (.ref q) [v] H Q)
    (hs : ∀ env, starEach [e] env = (false, eval e env) :: starEach [] env) (hbase : ∀ env, attributeBase a name env (eval a env) = eval a env) (hline : (apos.endLine == pos.line) = true)
    (hfew : ∀ env, ((backTo pos (starEach [e] env)).all (fun x => !x.1) && (backToKw pos (keywordEach [] env)).all (fun x => x.1.isSome) && decide ([e].length + ([] : List Keyword).length + (if ([] : List Keyword).isEmpty then 0 else 1) < 30)) = true) :
    JE G (.Call (.Attribute a name apos) [e] [] pos) Z d Z2 := fun X f B σ H k Q q =>
  ⟨_, pe_bm PySem.F.plainAttrs_list slot ty (rule X f) p_E p_A (hbase _) (hfew _) hline (hs _) (by rfl), ho X f B σ H k _ fun x H1 k1 p1 r1 => by
    obtain ⟨l, xs, rfl, nl, el, ra⟩ := r1.inv_lst
    refine ⟨.inl ⟨rfl, xs, .of el⟩, tCons (wE X e) tNil, pa_cons p_E pa_nil (hs _), he X f B σ H1 k1 _ fun v H2 k2 p2 r2 => ?_⟩
    obtain ⟨l', xs', e1, _, el2, ra2⟩ := (p2 _ _ r1).inv_lst
    cases e1
    exact hr X f B σ H2 l xs' v Q k2 el2 ra2 r2 fun v H3 s r3 => q v H3 (k2.same s) ((p1.trans p2).trans (Kp.same s)) r3⟩
theorem je_countB {bs : List Bool} (ho : JE G a Z (.lst (bs.map D.bl)) Z1) (he : JE G e Z1 (.bl true) Z2) (hs : ∀ env, starEach [e] env = (false, eval e env) :: starEach [] env := by intro _; rfl) (hbase : ∀ env, attributeBase a "count" env (eval a env) = eval a env := by intro _; rfl) (hline : (apos.endLine == pos.line) = true := by rfl)
    (hfew : ∀ env, ((backTo pos (starEach [e] env)).all (fun x => !x.1) && (backToKw pos (keywordEach [] env)).all (fun x => x.1.isSome) && decide ([e].length + ([] : List Keyword).length + (if ([] : List Keyword).isEmpty then 0 else 1) < 30)) = true := by intro _; rfl) :
    JE G (.Call (.Attribute a "count" apos) [e] [] pos) Z (.int (bs.countP id : Nat)) Z2 :=
  je_lm1 (r := fun X => rCount X.K) PySem.F.slot_list_count PySem.F.type_list_count (fun _ _ => mt_countF) ho he (fun X f B σ H q xs v Q k hq ra rv qq => by
    cases rv.inv_bl
    have ex : xs = bs.map V.bl := rpa_map (fun b v r => r.inv_bl) ra
    subst ex
    refine ⟨q, bs.map V.bl, .bl true, rfl, rfl, .of hq, rfl, ?_, ?_⟩
    · rw [List.all_eq_true]
      intro x hx
      obtain ⟨b, _, rfl⟩ := List.mem_map.mp hx
      rfl
    · have e : (bs.map V.bl).countP (fun z => eqV z (.bl true)) = bs.countP id := by
        rw [List.countP_map]
        congr 1
        funext b
        cases b <;> rfl
      rw [e]
      exact qq _ H (Same.refl H) (.int _)) hs hbase hline hfew
theorem je_indexB {bs : List Bool} {j : Nat} (ho : JE G a Z (.lst (bs.map D.bl)) Z1) (he : JE G e Z1 (.bl true) Z2) (hj : bs[j]? = some true) (hm : ∀ m, m < j → bs[m]? ≠ some true) (hs : ∀ env, starEach [e] env = (false, eval e env) :: starEach [] env := by intro _; rfl) (hbase : ∀ env, attributeBase a "index" env (eval a env) = eval a env := by intro _; rfl) (hline : (apos.endLine == pos.line) = true := by rfl)
    (hfew : ∀ env, ((backTo pos (starEach [e] env)).all (fun x => !x.1) && (backToKw pos (keywordEach [] env)).all (fun x => x.1.isSome) && decide ([e].length + ([] : List Keyword).length + (if ([] : List Keyword).isEmpty then 0 else 1) < 30)) = true := by intro _; rfl) :
    JE G (.Call (.Attribute a "index" apos) [e] [] pos) Z (.int (j : Nat)) Z2 :=
  je_lm1 (r := fun X => rIndex X.K) PySem.F.slot_list_index PySem.F.type_list_index (fun _ _ => mt_index) ho he (fun X f B σ H q xs v Q k hq ra rv qq => by
    cases rv.inv_bl
    have ex : xs = bs.map V.bl := rpa_map (fun b v r => r.inv_bl) ra
    subst ex
    refine ⟨q, bs.map V.bl, .bl true, j, .bl true, rfl, rfl, .of hq, rfl, ?_, by rw [List.getElem?_map, hj]; rfl, rfl, fun m z hmj hz => ?_, qq _ H (Same.refl H) (.int _)⟩
    · rw [List.all_eq_true]
      intro x hx
      obtain ⟨b, _, rfl⟩ := List.mem_map.mp hx
      rfl
    · rw [List.getElem?_map] at hz
      cases hb : bs[m]? with
      | none => rw [hb] at hz; cases hz
      | some b =>
        rw [hb] at hz
        cases hz
        cases b with
        | true => exact absurd hb (hm m hmj)
        | false => rfl) hs hbase hline hfew
theorem je_indexS {ss : List Str} {j : Nat} {y : Str} (ho : JE G a Z (.lst (ss.map D.str)) Z1) (he : JE G e Z1 (.str y) Z2) (hj : ss[j]? = some y) (hm : ∀ m, m < j → ss[m]? ≠ some y) (hs : ∀ env, starEach [e] env = (false, eval e env) :: starEach [] env := by intro _; rfl) (hbase : ∀ env, attributeBase a "index" env (eval a env) = eval a env := by intro _; rfl) (hline : (apos.endLine == pos.line) = true := by rfl)
    (hfew : ∀ env, ((backTo pos (starEach [e] env)).all (fun x => !x.1) && (backToKw pos (keywordEach [] env)).all (fun x => x.1.isSome) && decide ([e].length + ([] : List Keyword).length + (if ([] : List Keyword).isEmpty then 0 else 1) < 30)) = true := by intro _; rfl) :
    JE G (.Call (.Attribute a "index" apos) [e] [] pos) Z (.int (j : Nat)) Z2 :=
  je_lm1 (r := fun X => rIndex X.K) PySem.F.slot_list_index PySem.F.type_list_index (fun _ _ => mt_index) ho he (fun X f B σ H q xs v Q k hq ra rv qq => by
    cases rv.inv_str
    have ex : xs = ss.map V.str := rpa_map (fun b v r => r.inv_str) ra
    subst ex
    refine ⟨q, ss.map V.str, .str y, j, .str y, rfl, rfl, .of hq, rfl, ?_, by rw [List.getElem?_map, hj]; rfl, by show (y == y) = true; simp, fun m z hmj hz => ?_, qq _ H (Same.refl H) (.int _)⟩
    · rw [List.all_eq_true]
      intro x hx
      obtain ⟨b, _, rfl⟩ := List.mem_map.mp hx
      rfl
    · rw [List.getElem?_map] at hz
      cases hb : ss[m]? with
      | none => rw [hb] at hz; cases hz
      | some b =>
        rw [hb] at hz
        cases hz
        show (b == y) = false
        have : b ≠ y := fun z => hm m hmj (by rw [hb, z])
        simpa using this) hs hbase hline hfew
end
end JL

namespace JL
open PySem PySem.Spec L2
open PySem.Builtin PySem.Builtin.Str PySem.StrLaws
/-! ### texts of gates -/
abbrev lt (x : Str) : List Nat := x.cps.toList
theorem lt_inj {x y : Str} (h : lt x = lt y) : x = y := PySem.Str.ext' (by
  rw [← Array.toList_inj]; exact h)
theorem lt_app (x y : Str) : lt (x ++ y) = lt x ++ lt y := by
  show (x.cps ++ y.cps).toList = _
  simp
theorem lt_len (x : Str) : (lt x).length = x.length := by show x.cps.toList.length = x.cps.size; simp
/-! one text, two cuts -/
theorem join_lt_cons (c : Nat) (x y : Str) (r : List Str) : lt (Str.join ⟨#[c]⟩ (x :: y :: r)) = lt x ++ c :: lt (Str.join ⟨#[c]⟩ (y :: r)) := by
  show lt (x ++ ⟨#[c]⟩ ++ Str.join ⟨#[c]⟩ (y :: r)) = _
  rw [lt_app, lt_app]
  show lt x ++ [c] ++ _ = _
  simp
theorem cut_uniq {c : Nat} : ∀ {a b : List Nat} {r s : List Nat}, c ∉ a → c ∉ b → a ++ c :: r = b ++ c :: s → a = b ∧ r = s
  | [], [], r, s, _, _, h => by simp at h; exact ⟨rfl, h⟩
  | [], y :: b, r, s, _, hb, h => by simp at h; exact absurd h.1 (fun z => hb (by simp [z]))
  | x :: a, [], r, s, ha, _, h => by simp at h; exact absurd h.1.symm (fun z => ha (by simp [z]))
  | x :: a, y :: b, r, s, ha, hb, h => by
    simp only [List.cons_append, List.cons.injEq] at h
    obtain ⟨e1, e2⟩ := cut_uniq (fun z => ha (by simp [z])) (fun z => hb (by simp [z])) h.2
    exact ⟨by rw [h.1, e1], e2⟩
theorem join_uniq {c : Nat} : ∀ {xs ys : List Str}, xs ≠ [] → ys ≠ [] → (∀ x ∈ xs, c ∉ lt x) → (∀ y ∈ ys, c ∉ lt y) → lt (Str.join ⟨#[c]⟩ xs) = lt (Str.join ⟨#[c]⟩ ys) → xs = ys
  | [], _, h, _, _, _, _ => absurd rfl h
  | _, [], _, h, _, _, _ => absurd rfl h
  | [x], [y], _, _, _, _, h => by
    have : x = y := lt_inj h
    rw [this]
  | [x], y :: z :: r, _, _, hx, hy, h => by
    exfalso
    rw [join_lt_cons] at h
    have h : lt x = _ := h
    exact hx x (by simp) (by rw [h]; simp)
  | x :: w :: r, [y], _, _, hx, hy, h => by
    exfalso
    rw [join_lt_cons] at h
    have h : _ = lt y := h
    exact hy y (by simp) (by rw [← h]; simp)
  | x :: w :: r, y :: z :: s, _, _, hx, hy, h => by
    rw [join_lt_cons, join_lt_cons] at h
    obtain ⟨e1, e2⟩ := cut_uniq (hx x (by simp)) (hy y (by simp)) h
    rw [lt_inj e1, join_uniq (c := c) (xs := w :: r) (ys := z :: s) (by simp) (by simp) (fun a m => hx a (by simp [List.mem_cons] at m ⊢; exact .inr m)) (fun a m => hy a (by simp [List.mem_cons] at m ⊢; exact .inr m)) e2]
theorem split_ne (x : Str) (c : Nat) : Txt.split x ⟨#[c]⟩ ≠ [] := by
  unfold Txt.split
  split
  · simp
  · split
    · simp
    · rw [partsBetween_eq]
      obtain ⟨p, r, e⟩ := partsFrom_ne x (⟨#[c]⟩ : Str).length 0 (occurrences x ⟨#[c]⟩ 0 x.length (x.length + 1))
      rw [e]
      simp
theorem split_join {c : Nat} {ws : List Str} (h0 : ws ≠ []) (h : ∀ w ∈ ws, c ∉ lt w) : Txt.split (Str.join ⟨#[c]⟩ ws) ⟨#[c]⟩ = ws :=
  join_uniq (split_ne _ _) h0 (split_free _ _) h (by rw [PySem.StrLaws.join_split])
theorem split_len (x : Str) (c : Nat) : (Txt.split x ⟨#[c]⟩).length ≤ x.length + 1 := by
  have key : ∀ ws : List Str, ws.length ≤ (Str.join ⟨#[c]⟩ ws).length + 1 := fun ws => by
    induction ws with
    | nil => simp
    | cons x ws ih =>
      cases ws with
      | nil => simp
      | cons y r =>
        have e : (Str.join ⟨#[c]⟩ (x :: y :: r)).length = x.length + 1 + (Str.join ⟨#[c]⟩ (y :: r)).length := by
          rw [← lt_len, join_lt_cons, List.length_append, List.length_cons, lt_len, lt_len]; omega
        rw [e, List.length_cons]
        omega
  have := key (Txt.split x ⟨#[c]⟩)
  rw [PySem.StrLaws.join_split] at this
  exact this
theorem join_mem_len (x sep : Str) : ∀ ws : List Str, x ∈ ws → x.length ≤ (Str.join sep ws).length
  | [], h => by cases h
  | [y], h => by rw [List.mem_singleton.mp h]; exact Nat.le_refl _
  | y :: z :: r, h => by
    show x.length ≤ (y ++ sep ++ Str.join sep (z :: r)).length
    rw [str_len, str_len]
    rcases List.mem_cons.mp h with rfl | h
    · omega
    · have := join_mem_len x sep (z :: r) h
      omega
/-! the first cut -/
theorem part_at {x y a b : Str} (e : x = a ++ y ++ b) (h : ∀ k, k < a.length → ¬ At x y x.length k) : Txt.partition x y = (a, y, b) := by
  have el : lt x = lt a ++ lt y ++ lt b := by rw [e, lt_app, lt_app]
  have hl : x.length = a.length + y.length + b.length := by rw [← lt_len, el, List.length_append, List.length_append, lt_len, lt_len, lt_len]
  have ha : At x y x.length a.length := ⟨by omega, by
    rw [subAt_eq]
    show ((lt x).drop a.length).take y.length == lt y
    rw [el, ← lt_len a, ← lt_len y, List.append_assoc, List.drop_left, List.take_left]
    simp⟩
  unfold Txt.partition
  rcases occ_head x y 1 (Nat.le_refl 1) with ⟨h0, hn⟩ | ⟨i, r, h0, h1, h2⟩
  · exact absurd ha (hn _)
  · have hi : i = a.length := by
      rcases Nat.lt_trichotomy i a.length with z | z | z
      · exact absurd h1 (h i z)
      · exact z
      · exact absurd ha (h2 _ z)
    subst hi
    rw [h0]
    show (strSub x 0 a.length, y, strSub x (a.length + y.length) x.length) = _
    have e1 : strSub x 0 a.length = a := lt_inj (by
      show (strSub x 0 a.length).cps.toList = _
      rw [strSub_toList]
      show ((lt x).drop 0).take _ = _
      rw [el, List.drop_zero, Nat.sub_zero, List.append_assoc, ← lt_len a, List.take_left])
    have e2 : strSub x (a.length + y.length) x.length = b := lt_inj (by
      show (strSub x _ _).cps.toList = _
      rw [strSub_toList]
      show ((lt x).drop _).take _ = _
      have : a.length + y.length = (lt a ++ lt y).length := by rw [List.length_append, lt_len, lt_len]
      rw [el, this, List.drop_left]
      exact List.take_of_length_le (by rw [List.length_append, lt_len, lt_len, lt_len]; omega))
    rw [e1, e2]
theorem part_one {c : Nat} {x a b : Str} (e : x = a ++ ⟨#[c]⟩ ++ b) (h : c ∉ lt a) : Txt.partition x ⟨#[c]⟩ = (a, ⟨#[c]⟩, b) :=
  part_at e fun k hk z => by
    have := (subAt_one x c k).mp z
    have el : lt x = lt a ++ (c :: lt b) := by
      rw [e, lt_app, lt_app]
      show lt a ++ [c] ++ lt b = _
      simp
    rw [show x.cps.toList = lt x from rfl, el, List.getElem?_append_left (by rw [lt_len]; exact hk)] at this
    exact h (List.mem_of_getElem? this)
theorem part_two {c : Nat} {x a b : Str} (e : x = a ++ ⟨#[c, c]⟩ ++ b) (h : c ∉ lt a) : Txt.partition x ⟨#[c, c]⟩ = (a, ⟨#[c, c]⟩, b) :=
  part_at e fun k hk z => by
    have z := z.2
    rw [subAt_eq] at z
    have el : lt x = lt a ++ (c :: c :: lt b) := by
      rw [e, lt_app, lt_app]
      show lt a ++ [c, c] ++ lt b = _
      simp
    have z : ((lt x).drop k).take 2 == [c, c] := z
    have z := eq_of_beq z
    have hk2 : (lt x)[k]? = some c := by
      have : (((lt x).drop k).take 2)[0]? = some c := by rw [z]; rfl
      rw [List.getElem?_take] at this
      simpa using this
    rw [el, List.getElem?_append_left (by rw [lt_len]; exact hk)] at hk2
    exact h (List.mem_of_getElem? hk2)
/-! numbers in texts -/
def digs : List Nat := [48, 49, 50, 51, 52, 53, 54, 55, 56, 57]
def figs (w : Str) : Str := if Txt.startswith w "-" = true then cutS w (some 1) none else w
def figOk (w : Str) : Bool := decide (1 ≤ (figs w).length) && decide ((figs w).length ≤ 2) && (lt (figs w)).all fun c => decide (c ∈ lt ("0123456789" : Str))
def numOf (w : Str) : D := if figOk w = true then .int ((intText? w).getD 0) else .non
theorem starts_minus {w : Str} (h : Txt.startswith w "-" = true) : ∃ r, w = ⟨(45 :: r).toArray⟩ := by
  unfold Txt.startswith at h
  rw [Bool.and_eq_true] at h
  have h2 := h.2
  rw [subAt_eq] at h2
  have h2 := eq_of_beq h2
  have e1 : (("-" : Str)).cps.toList = [45] := by decide +kernel
  have e2 : (("-" : Str)).length = 1 := by decide +kernel
  rw [e1, e2, List.drop_zero] at h2
  cases hw : w.cps.toList with
  | nil => rw [hw] at h2; cases h2
  | cons a r =>
    rw [hw] at h2
    simp at h2
    subst h2
    exact ⟨r, lt_inj (by rw [show lt w = w.cps.toList from rfl, hw])⟩
theorem cut1 (r : List Nat) (a : Nat) : cutS ⟨(a :: r).toArray⟩ (some 1) none = ⟨r.toArray⟩ := by
  unfold cutS
  have h1 : HT.sIx (⟨(a :: r).toArray⟩ : Str).length 0 (some 1) = 1 := by
    show HT.sIx (r.length + 1) 0 (some 1) = 1
    unfold HT.sIx
    simp
  have h2 : HT.sIx (⟨(a :: r).toArray⟩ : Str).length (⟨(a :: r).toArray⟩ : Str).length none = r.length + 1 := by
    show HT.sIx (r.length + 1) (r.length + 1) none = _
    unfold HT.sIx
    rfl
  rw [h1, h2]
  simp
theorem dig_lt : lt ("0123456789" : Str) = digs := by decide +kernel
theorem int_dig1 : ∀ a ∈ digs, (intText? ⟨#[a]⟩).isSome = true ∧ (intText? ⟨#[45, a]⟩).isSome = true := by decide +kernel
theorem int_dig2 : ∀ a ∈ digs, ∀ b ∈ digs, (intText? ⟨#[a, b]⟩).isSome = true ∧ (intText? ⟨#[45, a, b]⟩).isSome = true := by decide +kernel
theorem figOk_int {w : Str} (h : figOk w = true) : (intText? w).isSome = true ∧ w.length ≤ 3 := by
  unfold figOk at h
  simp only [Bool.and_eq_true, decide_eq_true_eq, List.all_eq_true] at h
  obtain ⟨⟨h1, h2⟩, h3⟩ := h
  have key : ∃ r, (w = ⟨r.toArray⟩ ∨ w = ⟨(45 :: r).toArray⟩) ∧ lt (figs w) = r := by
    unfold figs
    by_cases hs : Txt.startswith w "-" = true
    · obtain ⟨r, hr⟩ := starts_minus hs
      rw [if_pos hs, hr, cut1]
      exact ⟨r, .inr rfl, by simp [lt]⟩
    · rw [if_neg hs]
      exact ⟨lt w, .inl (lt_inj (by simp [lt])), rfl⟩
  obtain ⟨r, hw, hr⟩ := key
  rw [← lt_len, hr] at h1 h2
  rw [hr, dig_lt] at h3
  match r, h1, h2, h3, hw with
  | [a], _, _, h3, hw =>
    have := int_dig1 a (h3 a (by simp))
    rcases hw with rfl | rfl
    · exact ⟨this.1, by show 1 ≤ 3; omega⟩
    · exact ⟨this.2, by show 2 ≤ 3; omega⟩
  | [a, b], _, _, h3, hw =>
    have := int_dig2 a (h3 a (by simp)) b (h3 b (by simp))
    rcases hw with rfl | rfl
    · exact ⟨this.1, by show 2 ≤ 3; omega⟩
    · exact ⟨this.2, by show 3 ≤ 3; omega⟩
def tw (i : Int) : Str := toString i
def numChk (i : Int) : Bool := (match numOf (tw i) with
  | .int j => decide (j = i)
  | _ => false) && (decide ((tw i).length ≤ 3) && (lt (tw i)).all fun c => !(decide (c = 32) || (decide (c = 58) || decide (c = 46))) && decide (c < 128))
theorem num_all : ∀ n : Fin 101, numChk ((n.val : Int) - 50) = true := by decide +kernel
theorem num_ok {i : Int} (h1 : -50 ≤ i) (h2 : i ≤ 50) : numOf (tw i) = .int i ∧ (tw i).length ≤ 3 ∧ 32 ∉ lt (tw i) ∧ 58 ∉ lt (tw i) ∧ 46 ∉ lt (tw i) ∧ ∀ c ∈ lt (tw i), c < 128 := by
  have h := num_all ⟨(i + 50).toNat, by omega⟩
  have e : (((i + 50).toNat : Nat) : Int) - 50 = i := by omega
  rw [show ((⟨(i + 50).toNat, (by omega : (i + 50).toNat < 101)⟩ : Fin 101).val : Int) - 50 = i from e] at h
  unfold numChk at h
  simp only [Bool.and_eq_true, decide_eq_true_eq, List.all_eq_true, Bool.not_eq_true', Bool.or_eq_false_iff, decide_eq_false_iff_not] at h
  obtain ⟨h1, h2, h3⟩ := h
  refine ⟨?_, h2, fun m => (h3 _ m).1.1 rfl, fun m => (h3 _ m).1.2.1 rfl, fun m => (h3 _ m).1.2.2 rfl, fun c m => (h3 c m).2⟩
  split at h1
  · rename_i j e
    have : j = i := by simpa using h1
    rw [e, this]
  · cases h1
end JL

namespace JL
open PySem PySem.Spec L2
/-! ### kinds of data -/
def isI (d : D) : Bool := match d with
  | .int _ => true
  | .bl _ => true
  | _ => false
def isB (d : D) : Bool := match d with
  | .bl _ => true
  | _ => false
def isT (d : D) : Bool := match d with
  | .tup _ => true
  | _ => false
def isS (d : D) : Bool := match d with
  | .str _ => true
  | _ => false
def isL (d : D) : Bool := match d with
  | .lst _ => true
  | _ => false
theorem kit_int {d : D} (h : known d = true) : kitB (tyS d) "int" = some (isI d) := by
  cases d with
  | non => exact (by decide +kernel : kitB "NoneType" "int" = some false)
  | bl _ => exact (by decide +kernel : kitB "bool" "int" = some true)
  | int _ => exact (by decide +kernel : kitB "int" "int" = some true)
  | str _ => exact (by decide +kernel : kitB "str" "int" = some false)
  | tup _ => exact (by decide +kernel : kitB "tuple" "int" = some false)
  | lst _ => exact (by decide +kernel : kitB "list" "int" = some false)
  | emp => exact (by decide +kernel : kitB "dict" "int" = some false)
  | ref _ => cases h
  | ty _ => cases h
theorem kit_bool {d : D} (h : known d = true) : kitB (tyS d) "bool" = some (isB d) := by
  cases d with
  | non => exact (by decide +kernel : kitB "NoneType" "bool" = some false)
  | bl _ => exact (by decide +kernel : kitB "bool" "bool" = some true)
  | int _ => exact (by decide +kernel : kitB "int" "bool" = some false)
  | str _ => exact (by decide +kernel : kitB "str" "bool" = some false)
  | tup _ => exact (by decide +kernel : kitB "tuple" "bool" = some false)
  | lst _ => exact (by decide +kernel : kitB "list" "bool" = some false)
  | emp => exact (by decide +kernel : kitB "dict" "bool" = some false)
  | ref _ => cases h
  | ty _ => cases h
theorem kit_tuple {d : D} (h : known d = true) : kitB (tyS d) "tuple" = some (isT d) := by
  cases d with
  | non => exact (by decide +kernel : kitB "NoneType" "tuple" = some false)
  | bl _ => exact (by decide +kernel : kitB "bool" "tuple" = some false)
  | int _ => exact (by decide +kernel : kitB "int" "tuple" = some false)
  | str _ => exact (by decide +kernel : kitB "str" "tuple" = some false)
  | tup _ => exact (by decide +kernel : kitB "tuple" "tuple" = some true)
  | lst _ => exact (by decide +kernel : kitB "list" "tuple" = some false)
  | emp => exact (by decide +kernel : kitB "dict" "tuple" = some false)
  | ref _ => cases h
  | ty _ => cases h
theorem kit_str {d : D} (h : known d = true) : kitB (tyS d) "str" = some (isS d) := by
  cases d with
  | non => exact (by decide +kernel : kitB "NoneType" "str" = some false)
  | bl _ => exact (by decide +kernel : kitB "bool" "str" = some false)
  | int _ => exact (by decide +kernel : kitB "int" "str" = some false)
  | str _ => exact (by decide +kernel : kitB "str" "str" = some true)
  | tup _ => exact (by decide +kernel : kitB "tuple" "str" = some false)
  | lst _ => exact (by decide +kernel : kitB "list" "str" = some false)
  | emp => exact (by decide +kernel : kitB "dict" "str" = some false)
  | ref _ => cases h
  | ty _ => cases h
theorem kit_list {d : D} (h : known d = true) : kitB (tyS d) "list" = some (isL d) := by
  cases d with
  | non => exact (by decide +kernel : kitB "NoneType" "list" = some false)
  | bl _ => exact (by decide +kernel : kitB "bool" "list" = some false)
  | int _ => exact (by decide +kernel : kitB "int" "list" = some false)
  | str _ => exact (by decide +kernel : kitB "str" "list" = some false)
  | tup _ => exact (by decide +kernel : kitB "tuple" "list" = some false)
  | lst _ => exact (by decide +kernel : kitB "list" "list" = some true)
  | emp => exact (by decide +kernel : kitB "dict" "list" = some false)
  | ref _ => cases h
  | ty _ => cases h
theorem isT_ex {d : D} (h : isT d = true) : ∃ l, d = .tup l := by cases d <;> first | exact ⟨_, rfl⟩ | cases h
theorem isS_ex {d : D} (h : isS d = true) : ∃ l, d = .str l := by cases d <;> first | exact ⟨_, rfl⟩ | cases h
theorem isL_ex {d : D} (h : isL d = true) : ∃ l, d = .lst l := by cases d <;> first | exact ⟨_, rfl⟩ | cases h
/-- known through and through -/
def dk : Nat → D → Bool
  | _, .ref _ => false
  | _, .ty _ => false
  | 0, .tup _ => false
  | 0, .lst _ => false
  | n + 1, .tup l => l.all (dk n)
  | n + 1, .lst l => l.all (dk n)
  | _, _ => true
theorem dk_known {n : Nat} {d : D} (h : dk n d = true) : known d = true := by
  cases d <;> first | rfl | (cases n <;> cases h)
theorem dk_tup {n : Nat} {l : List D} (h : dk n (.tup l) = true) : ∃ m, ∀ x ∈ l, dk m x = true := by
  cases n with
  | zero => cases h
  | succ m =>
    have h : l.all (dk m) = true := h
    rw [List.all_eq_true] at h
    exact ⟨m, h⟩
theorem dk_lst {n : Nat} {l : List D} (h : dk n (.lst l) = true) : ∃ m, ∀ x ∈ l, dk m x = true := by
  cases n with
  | zero => cases h
  | succ m =>
    have h : l.all (dk m) = true := h
    rw [List.all_eq_true] at h
    exact ⟨m, h⟩
/-! ### gates -/
def mBetween (d : D) (lo hi : Int) : Bool := match d with
  | .int i => decide (lo ≤ i) && decide (i ≤ hi)
  | _ => false
def intOf (d : D) : Int := match d with
  | .int i => i
  | _ => 0
def mGate (d : D) : Bool := match d with
  | .tup [a, b, c] => mBetween a (-20) 20 && (mBetween b (-50) 50 && mBetween c (intOf b) 50)
  | _ => false
def decG (d : D) : Gt := match d with
  | .tup [a, b, c] => (intOf a, intOf b, intOf c)
  | _ => (0, 0, 0)
def upL (gs : List Gt) : Bool := (List.range (gs.length - 1)).all fun k => decide ((gs.getD k (0, 0, 0)).1 < (gs.getD (k + 1) (0, 0, 0)).1)
def mGates (d : D) : Bool := match d with
  | .tup l => decide (1 ≤ l.length) && decide (l.length ≤ 8) && (l.all mGate && upL (l.map decG))
  | _ => false
theorem mBetween_ex {d : D} {lo hi : Int} (h : mBetween d lo hi = true) : ∃ i, d = .int i ∧ lo ≤ i ∧ i ≤ hi := by
  cases d with
  | int i =>
    have h : (decide (lo ≤ i) && decide (i ≤ hi)) = true := h
    simp only [Bool.and_eq_true, decide_eq_true_eq] at h
    exact ⟨i, rfl, h.1, h.2⟩
  | _ => cases h
theorem mGate_ex {d : D} (h : mGate d = true) : d = encG (decG d) ∧ GateOk (decG d) := by
  unfold mGate at h
  split at h
  · rename_i a b c
    simp only [Bool.and_eq_true] at h
    obtain ⟨h1, h2, h3⟩ := h
    obtain ⟨p, rfl, p1, p2⟩ := mBetween_ex h1
    obtain ⟨l, rfl, l1, l2⟩ := mBetween_ex h2
    obtain ⟨u, rfl, u1, u2⟩ := mBetween_ex h3
    exact ⟨rfl, p1, p2, l1, u1, u2⟩
  · cases h
theorem mGate_enc {g : Gt} (h : GateOk g) : mGate (encG g) = true := by
  show (mBetween (.int g.1) (-20) 20 && (mBetween (.int g.2.1) (-50) 50 && mBetween (.int g.2.2) g.2.1 50)) = true
  have h1 := h.p1
  have h2 := h.p2
  have h3 := h.l1
  have h4 := h.l2
  have h5 := h.h2
  simp only [mBetween, Bool.and_eq_true, decide_eq_true_eq]
  omega
theorem decG_enc (g : Gt) : decG (encG g) = g := rfl
theorem decGs_enc (gs : List Gt) : (gs.map encG).map decG = gs := by
  rw [List.map_map]
  exact List.map_id' gs
theorem upL_iff {gs : List Gt} : upL gs = true ↔ gs.Pairwise fun g h => g.1 < h.1 := by
  unfold upL
  simp only [List.all_eq_true, decide_eq_true_eq, List.mem_range]
  rw [List.pairwise_iff_getElem]
  constructor
  · intro h
    have key : ∀ (n i : Nat) (hi : i + n + 1 < gs.length), (gs[i]'(by omega)).1 < (gs[i + n + 1]'hi).1 := fun n => by
      induction n with
      | zero =>
        intro i hi
        have := h i (by omega)
        rw [List.getD_eq_getElem?_getD, List.getD_eq_getElem?_getD, List.getElem?_eq_getElem (by omega), List.getElem?_eq_getElem (by omega)] at this
        exact this
      | succ n ih =>
        intro i hi
        have h1 := ih i (by omega)
        have := h (i + n + 1) (by omega)
        rw [List.getD_eq_getElem?_getD, List.getD_eq_getElem?_getD, List.getElem?_eq_getElem (by omega), List.getElem?_eq_getElem (by omega)] at this
        exact Int.lt_trans h1 this
    intro i j hi hj hij
    have := key (j - i - 1) i (by omega)
    simp only [show i + (j - i - 1) + 1 = j by omega] at this
    exact this
  · intro h k hk
    have := h k (k + 1) (by omega) (by omega) (by omega)
    rw [List.getD_eq_getElem?_getD, List.getD_eq_getElem?_getD, List.getElem?_eq_getElem (by omega), List.getElem?_eq_getElem (by omega)]
    exact this
def gsOf (d : D) : List Gt := match d with
  | .tup l => l.map decG
  | _ => []
theorem mGates_ex {d : D} (h : mGates d = true) : d = encGs (gsOf d) ∧ GatesOk (gsOf d) := by
  unfold mGates at h
  split at h
  · rename_i l
    simp only [Bool.and_eq_true, decide_eq_true_eq, List.all_eq_true] at h
    obtain ⟨⟨h1, h2⟩, h3, h4⟩ := h
    refine ⟨?_, by simpa [gsOf] using h1, by simpa [gsOf] using h2, ?_, upL_iff.mp h4⟩
    · show D.tup l = .tup ((l.map decG).map encG)
      rw [List.map_map]
      congr 1
      exact (List.map_id' l).symm.trans (List.map_congr_left fun x hx => (mGate_ex (h3 x hx)).1)
    · intro g hg
      obtain ⟨x, hx, rfl⟩ := List.mem_map.mp hg
      exact (mGate_ex (h3 x hx)).2
  · cases h
theorem mGates_enc {gs : List Gt} (h : GatesOk gs) : mGates (encGs gs) = true := by
  show (decide (1 ≤ (gs.map encG).length) && decide ((gs.map encG).length ≤ 8) && ((gs.map encG).all mGate && upL ((gs.map encG).map decG))) = true
  rw [decGs_enc, upL_iff.mpr h.up, List.length_map, decide_eq_true h.one, decide_eq_true h.most]
  simp only [Bool.true_and, Bool.and_true, List.all_eq_true]
  intro x hx
  obtain ⟨g, hg, rfl⟩ := List.mem_map.mp hx
  exact mGate_enc (h.ok g hg)
theorem gsOf_enc (gs : List Gt) : gsOf (encGs gs) = gs := decGs_enc gs
theorem dk_gates (gs : List Gt) : dk 2 (encGs gs) = true := by
  show (gs.map encG).all (dk 1) = true
  rw [List.all_eq_true]
  intro x hx
  obtain ⟨g, _, rfl⟩ := List.mem_map.mp hx
  rfl
theorem okD_gates (gs : List Gt) : okD 2 (encGs gs) = true := by
  show (gs.map encG).all (okD 1) = true
  rw [List.all_eq_true]
  intro x hx
  obtain ⟨g, _, rfl⟩ := List.mem_map.mp hx
  rfl
/-! ### the texts -/
def txtG (g : Gt) : Str := [tw g.1, (":" : Str), tw g.2.1, (".." : Str), tw g.2.2].foldl (· ++ ·) Str.empty
def txtGs (gs : List Gt) : Str := Txt.join (" " : Str) (gs.map txtG)
def gateOf (w : Str) : D := .tup [numOf (Txt.partition w (":" : Str)).1, numOf (Txt.partition (Txt.partition w (":" : Str)).2.2 (".." : Str)).1, numOf (Txt.partition (Txt.partition w (":" : Str)).2.2 (".." : Str)).2.2]
def foundOf (t : Str) : D := .tup ((Txt.split t (" " : Str)).map gateOf)
def parsed (t : Str) : Bool := mGates (foundOf t) && decide (txtGs (gsOf (foundOf t)) = t)
theorem sp_eq : (" " : Str) = ⟨#[32]⟩ := by decide +kernel
theorem co_eq : (":" : Str) = ⟨#[58]⟩ := by decide +kernel
theorem dd_eq : (".." : Str) = ⟨#[46, 46]⟩ := by decide +kernel
theorem txtGs_join (gs : List Gt) : txtGs gs = Str.join ⟨#[32]⟩ (gs.map txtG) := by
  unfold txtGs
  rw [sp_eq]
  exact PySem.StrLaws.glued_eq_join _ _
theorem txtG_eq (g : Gt) : txtG g = tw g.1 ++ ⟨#[58]⟩ ++ (tw g.2.1 ++ ⟨#[46, 46]⟩ ++ tw g.2.2) := by
  show ((((Str.empty ++ tw g.1) ++ (":" : Str)) ++ tw g.2.1) ++ (".." : Str)) ++ tw g.2.2 = _
  rw [co_eq, dd_eq, PySem.Str.empty_append, PySem.Str.append_assoc, PySem.Str.append_assoc, PySem.Str.append_assoc, PySem.Str.append_assoc, PySem.Str.append_assoc]
theorem txtG_lt (g : Gt) : lt (txtG g) = lt (tw g.1) ++ 58 :: (lt (tw g.2.1) ++ 46 :: 46 :: lt (tw g.2.2)) := by
  rw [txtG_eq, lt_app, lt_app, lt_app, lt_app]
  show lt (tw g.1) ++ [58] ++ (lt (tw g.2.1) ++ [46, 46] ++ lt (tw g.2.2)) = _
  simp
theorem gateOf_txt {g : Gt} (h : GateOk g) : gateOf (txtG g) = encG g := by
  have h1 := h.p1
  have h2 := h.p2
  have h3 := h.l1
  have h4 := h.l2
  have h5 := h.h2
  have n1 := num_ok (i := g.1) (by omega) (by omega)
  have n2 := num_ok (i := g.2.1) (by omega) (by omega)
  have n3 := num_ok (i := g.2.2) (by omega) (by omega)
  unfold gateOf
  rw [co_eq, dd_eq, part_one (txtG_eq g) n1.2.2.2.1]
  dsimp only
  rw [part_two rfl n2.2.2.2.2.1]
  dsimp only
  rw [n1.1, n2.1, n3.1]
  rfl
theorem txtG_free {g : Gt} (h : GateOk g) : 32 ∉ lt (txtG g) ∧ (txtG g).length ≤ 12 ∧ ∀ c ∈ lt (txtG g), c < 128 := by
  have h1 := h.p1
  have h2 := h.p2
  have h3 := h.l1
  have h4 := h.l2
  have h5 := h.h2
  obtain ⟨_, a1, a2, _, _, a3⟩ := num_ok (i := g.1) (by omega) (by omega)
  obtain ⟨_, b1, b2, _, _, b3⟩ := num_ok (i := g.2.1) (by omega) (by omega)
  obtain ⟨_, c1, c2, _, _, c3⟩ := num_ok (i := g.2.2) (by omega) (by omega)
  refine ⟨?_, ?_, ?_⟩
  · rw [txtG_lt]
    simp only [List.mem_append, List.mem_cons, not_or]
    exact ⟨a2, by decide, b2, by decide, by decide, c2⟩
  · rw [← lt_len, txtG_lt]
    simp only [List.length_append, List.length_cons, lt_len]
    omega
  · rw [txtG_lt]
    intro c hc
    simp only [List.mem_append, List.mem_cons] at hc
    rcases hc with hc | rfl | hc | rfl | rfl | hc
    · exact a3 c hc
    · decide
    · exact b3 c hc
    · decide
    · decide
    · exact c3 c hc
theorem foundOf_txt {gs : List Gt} (h : GatesOk gs) : foundOf (txtGs gs) = encGs gs := by
  unfold foundOf
  rw [sp_eq, txtGs_join, split_join]
  · show D.tup _ = D.tup _
    congr 1
    rw [List.map_map]
    exact List.map_congr_left fun g hg => gateOf_txt (h.ok g hg)
  · intro z
    have := h.one
    have : (gs.map txtG).length = 0 := by rw [z]; rfl
    rw [List.length_map] at this
    omega
  · intro w hw
    obtain ⟨g, hg, rfl⟩ := List.mem_map.mp hw
    exact (txtG_free (h.ok g hg)).1
theorem parsed_txt {gs : List Gt} (h : GatesOk gs) : parsed (txtGs gs) = true := by
  unfold parsed
  rw [foundOf_txt h, mGates_enc h, gsOf_enc]
  simp
theorem parsed_ex {t : Str} (h : parsed t = true) : foundOf t = encGs (gsOf (foundOf t)) ∧ GatesOk (gsOf (foundOf t)) ∧ txtGs (gsOf (foundOf t)) = t := by
  unfold parsed at h
  simp only [Bool.and_eq_true, decide_eq_true_eq] at h
  obtain ⟨h1, h2⟩ := mGates_ex h.1
  exact ⟨h1, h2, h.2⟩
/-- a blank at the end -/
theorem not_parsed_blank {gs : List Gt} (h : GatesOk gs) : parsed (txtGs gs ++ (" " : Str)) = false := by
  have e : foundOf (txtGs gs ++ (" " : Str)) = .tup ((gs.map txtG ++ [Str.empty]).map gateOf) := by
    unfold foundOf
    rw [sp_eq]
    have hne : gs.map txtG ≠ [] := fun z => by
      have := h.one
      have : (gs.map txtG).length = 0 := by rw [z]; rfl
      rw [List.length_map] at this
      omega
    have ej : txtGs gs ++ ⟨#[32]⟩ = Str.join ⟨#[32]⟩ (gs.map txtG ++ [Str.empty]) := by
      rw [txtGs_join]
      generalize gs.map txtG = ws at hne
      induction ws with
      | nil => exact absurd rfl hne
      | cons w ws ih =>
        cases ws with
        | nil =>
          show w ++ ⟨#[32]⟩ = w ++ ⟨#[32]⟩ ++ Str.empty
          rw [PySem.Str.append_empty]
        | cons y r =>
          have := ih (by simp)
          show w ++ ⟨#[32]⟩ ++ Str.join ⟨#[32]⟩ (y :: r) ++ ⟨#[32]⟩ = w ++ ⟨#[32]⟩ ++ Str.join ⟨#[32]⟩ ((y :: r) ++ [Str.empty])
          rw [PySem.Str.append_assoc, this]
    rw [ej, split_join (by simp)]
    intro w hw
    rcases List.mem_append.mp hw with hw | hw
    · obtain ⟨g, hg, rfl⟩ := List.mem_map.mp hw
      exact (txtG_free (h.ok g hg)).1
    · rw [List.mem_singleton.mp hw]
      exact List.not_mem_nil
  unfold parsed
  rw [e]
  have : mGates (.tup ((gs.map txtG ++ [Str.empty]).map gateOf)) = false := by
    have hb : mGate (gateOf Str.empty) = false := by decide +kernel
    show (decide (1 ≤ _) && decide (_ ≤ 8) && (List.all _ mGate && _)) = false
    rw [List.map_append, List.all_append]
    show (_ && _ && (_ && (mGate (gateOf Str.empty) && true) && _)) = false
    rw [hb]
    simp
  rw [this]
  rfl
theorem join_len (c : Nat) {n : Nat} : ∀ (ws : List Str), (∀ w ∈ ws, w.length ≤ n) → (Str.join ⟨#[c]⟩ ws).length ≤ ws.length * (n + 1)
  | [], _ => Nat.zero_le _
  | [x], h => by
    have := h x (by simp)
    show x.length ≤ 1 * (n + 1)
    omega
  | x :: y :: r, h => by
    have h1 := h x (by simp)
    have h2 := join_len c (y :: r) fun w hw => h w (by simp [List.mem_cons] at hw ⊢; exact .inr hw)
    rw [← lt_len, join_lt_cons, List.length_append, List.length_cons, lt_len, lt_len, List.length_cons, Nat.succ_mul]
    omega
theorem txtGs_len {gs : List Gt} (h : GatesOk gs) : (txtGs gs).length ≤ 104 := by
  rw [txtGs_join]
  have := join_len 32 (n := 12) (gs.map txtG) fun w hw => by
    obtain ⟨g, hg, rfl⟩ := List.mem_map.mp hw
    exact (txtG_free (h.ok g hg)).2.1
  rw [List.length_map] at this
  have := h.most
  omega
theorem txtGs_ascii {gs : List Gt} (h : GatesOk gs) : ∀ c ∈ lt (txtGs gs), c < 128 := by
  rw [txtGs_join]
  have key : ∀ ws : List Str, (∀ w ∈ ws, ∀ c ∈ lt w, c < 128) → ∀ c ∈ lt (Str.join ⟨#[32]⟩ ws), c < 128 := fun ws => by
    induction ws with
    | nil => intro _ c hc; cases hc
    | cons w ws ih =>
      intro hw
      cases ws with
      | nil => exact hw w (by simp)
      | cons y r =>
        intro c hc
        rw [join_lt_cons] at hc
        rcases List.mem_append.mp hc with hc | hc
        · exact hw w (by simp) c hc
        · rcases List.mem_cons.mp hc with rfl | hc
          · decide
          · exact ih (fun v hv => hw v (by simp [List.mem_cons] at hv ⊢; exact .inr hv)) c hc
  refine key _ fun w hw => ?_
  obtain ⟨g, hg, rfl⟩ := List.mem_map.mp hw
  exact (txtG_free (h.ok g hg)).2.2
end JL

namespace JL
open PySem PySem.Spec L2
theorem JW.cast {G : Ctx} {Z Z1 : State} {e : Expr} {t u : Bool} (h : JW G e Z t Z1) (q : t = u) : JW G e Z u Z1 := q ▸ h
/-! ### what the defs of the package do -/
def R_between : List D → Out → Prop := fun ds o => ∃ d lo hi, known d = true ∧ ds = [d, .int lo, .int hi] ∧ o = .ret (.bl (mBetween d lo hi))
def R_gate : List D → Out → Prop := fun ds o => ∃ n d, dk n d = true ∧ ds = [d] ∧ o = .ret (.bl (mGate d))
def R_isGates : List D → Out → Prop := fun ds o => ∃ n d, dk n d = true ∧ ds = [d] ∧ o = .ret (.bl (mGates d))
def R_check (C : Nat → Addr) : List D → Out → Prop := fun ds o => ∃ n d, dk n d = true ∧ ds = [d] ∧ o = if mGates d = true then .ret .non else .exc (C 0)
def R_gtext : List D → Out → Prop := fun ds o => ∃ gs, GatesOk gs ∧ ds = [encGs gs] ∧ o = .ret (.str (txtGs gs))
def R_format (C : Nat → Addr) : List D → Out → Prop := fun ds o => ∃ n d, dk n d = true ∧ ds = [d] ∧ o = if mGates d = true then .ret (.str (txtGs (gsOf d))) else .exc (C 0)
def R_number : List D → Out → Prop := fun ds o => ∃ w : Str, w.length ≤ 90000 ∧ ds = [.str w] ∧ o = .ret (numOf w)
def R_gateOf : List D → Out → Prop := fun ds o => ∃ w : Str, w.length ≤ 90000 ∧ ds = [.str w] ∧ o = .ret (gateOf w)
def parseO (C : Nat → Addr) (d : D) : Out := match d with
  | .str t => if parsed t = true then .ret (foundOf t) else .exc (C 8)
  | _ => .exc (C 8)
def R_parse (C : Nat → Addr) : List D → Out → Prop := fun ds o => ∃ n d, dk n d = true ∧ (∀ t : Str, d = .str t → t.length ≤ 80000) ∧ ds = [d] ∧ o = parseO C d
theorem part_len (x y : Str) : (Txt.partition x y).1.length ≤ x.length ∧ (Txt.partition x y).2.1.length ≤ x.length ∧ (Txt.partition x y).2.2.length ≤ x.length := PyProof.Rows.fact_partition x y
theorem num_dk (w : Str) : dk 0 (numOf w) = true := by unfold numOf; split <;> rfl
theorem found_dk (t : Str) : dk 2 (foundOf t) = true := by
  show ((Txt.split t (" " : Str)).map gateOf).all (dk 1) = true
  rw [List.all_eq_true]
  intro x hx
  obtain ⟨w, _, rfl⟩ := List.mem_map.mp hx
  show (dk 0 _ && (dk 0 _ && (dk 0 _ && true))) = true
  rw [num_dk, num_dk, num_dk]
  rfl
/-! ### how it ended -/
def namesL : List Str := ["gates", "gate", "degree", "road", "place", "number", "side", "most", "text", "no_road", "endless", "last_one", "many", "undo"]
def R_raises : List D → Out → Prop := fun ds o => ∃ (y : Str) (j : Nat), namesL[j]? = some y ∧ ds = [.str y] ∧ o = .ret (.tup [.str "raised", .int (j : Int)])
def spName (C : Nat → Addr) : Sp := fun vs H Q E => ∃ (a : Addr) (c : Nat), vs = [.ref a] ∧ c < 14 ∧ H a = some (ExH (.ref (C c)) a) ∧ ∀ H', Same H H' → Q (.int (c : Int)) H'
def R_out (C : Nat → Addr) (R : List D → Out → Prop) : List D → Out → Prop := fun ds o => (∃ d, R ds (.ret d) ∧ o = .ret (.tup [.str "returned", d])) ∨ ∃ c : Nat, c < 14 ∧ R ds (.exc (C c)) ∧ o = .ret (.tup [.str "raised", .int (c : Int)])
theorem names_nodup : ∀ j, j < 14 → ∀ m, m < j → namesL[m]? ≠ namesL[j]? := by decide +kernel
def is14 (c : Nat) : List Bool := (List.range 14).map fun j => decide (c = j)
theorem is14_one : ∀ c, c < 14 → (is14 c).countP id = 1 := by decide +kernel
theorem is14_at : ∀ c, c < 14 → (is14 c)[c]? = some true := by decide +kernel
theorem is14_min : ∀ c, c < 14 → ∀ m, m < c → (is14 c)[m]? ≠ some true := by decide +kernel
end JL
namespace JL
open PySem PySem.Spec L2
/-- _law_name(caught) -/
theorem je_name_of {G : Ctx} {Z : State} {k c : Nat} {C : Nat → Addr} {x : Str} {p p2 pos : Pos} {a : Addr} (F : DefS G.g "_law_name" k (spName C)) (hk : k ≤ G.k) (s : Nat) (hc : c < 14) (h : Z.ρ[s]? = some (some (.res [a] (.ref a) (errP (C c) a)))) (hn : nmB G.N G.sc s x = true := by kernel_rfl) (hg : glB G.sc "_law_name" = true := by kernel_rfl) :
    JE G (.Call (.Name "_law_name" p) [.Name x p2] [] pos) Z (.int (c : Int)) Z :=
  je_eff F hk (ja_cons (nmR s h hn) ja_nil) (fun B σ H vs Q k1 r1 qq => by
    obtain ⟨v, rfl, r⟩ := one_of r1
    cases r.inv_ref
    obtain ⟨_, _, _, _, hp, _⟩ := k1.env s _ h
    exact ⟨a, c, rfl, hc, hp, fun H' sm => qq _ H' (k1.same sm) (Kp.same sm) (.int _)⟩) hg
end JL

namespace JL
open PySem PySem.Spec L2
/-- list(x) of a text -/
theorem call_listStr {X : Cx} (hc : X.calm = true) : CallR X (.type "list") (fun xs H Q => ∃ x : Str, xs = [.str x] ∧ x.length ≤ sizeLine ∧ ∀ l, H l = none → Q (.ref l) (upd H l (.lst (x.cps.toList.map fun c => V.str ⟨#[c]⟩)))) := by
  intro pins s σ H xs us Q I r h
  obtain ⟨x, rfl, hz, q⟩ := h
  obtain ⟨u, rfl, t, rfl⟩ := vals1 r
  refine call_list_str (I.ok.hd hc) x t (fun h' tk acc' c' hk hS' hacc => ?_) hz
  refine ⟨.ref s.heap.objs.size, upd H s.heap.objs.size (.lst (x.cps.toList.map fun c => V.str ⟨#[c]⟩)), I.laid (t' := tk) hk (Nat.le_refl _) (show ObjOk X.prog X.w _ _ _ (.lst _) from ⟨?_, acc'.toList, c', ?_, ?_⟩), rfl, q _ (I.hok.fresh (Nat.le_refl _))⟩
  · rw [List.length_map, Array.length_toList]; exact hz
  · refine vals_of_at ?_ fun j y w h1 h2 => ?_
    · rw [List.length_map, Array.length_toList, Array.length_toList, hacc.1]
    · obtain ⟨c, u, e1, e2⟩ := hacc.2 j w (by rw [← Array.getElem?_toList]; exact h2)
      rw [List.getElem?_map, Array.getElem?_toList, e1] at h1
      cases h1
      exact ⟨u, e2⟩
  · rw [Array.toArray_toList]; exact hS'
section
variable {G : Ctx} {Z Z1 Z2 Z3 : State} {a b c e : Expr} {es : List Expr} {ds : List D} {pos pos' p p2 p3 : Pos} {d d1 d2 : D} {x : Str} {P : OutS → Prop}
theorem je_listS {z : Str} (B : Bi G.g) (ha : JA G [a] Z [.str z] Z1) (hz : z.length ≤ 100000) (hg : glB G.sc "list" = true := by kernel_rfl) (he : ∀ env, starEach [a] env = (false, eval a env) :: starEach [] env := by intro _; rfl) (hpl : ∀ env, (backTo pos (starEach [] env)).any (·.1) = false := by intro _; rfl) : JE G (.Call (.Name "list" p) [a] [] pos) Z (.lst (signs z)) Z1 :=
  je_callTy (r := fun X xs H Q => ∃ x : Str, xs = [.str x] ∧ x.length ≤ sizeLine ∧ ∀ l, H l = none → Q (.ref l) (upd H l (.lst (x.cps.toList.map fun c => V.str ⟨#[c]⟩)))) (fun X f => call_listStr f.calm) B.list_ (by decide +kernel) hg ha (fun X f B2 σ H vs Q k r q => by
    obtain ⟨v, rfl, rr⟩ := one_of r
    cases rr.inv_str
    refine ⟨z, rfl, sz5 hz, fun l nl => ?_⟩
    exact q _ _ (same_upd nl) (rp_lst (k.fresh nl) upd_same (rpa_of (fun c => .str _) _))) he hpl
theorem je_dict0 : JE G (.Dict [] [] pos) Z .emp Z := fun X f B σ H k Q q =>
  ⟨_, pe_dnewK, fun p np => by
    have s := same_upd (o := .dK []) np
    exact q _ _ (k.same s) (Kp.same s) (.emp (k.fresh np) upd_same)⟩
theorem jx_if {t : Bool} {C : Addr} (hc : JT G c Z t Z1) (ha : t = true → JX G a Z1 C Z2) (hb : t = false → JX G b Z1 C Z2) : JX G (.IfExp c a b pos) Z C Z2 := fun X f B σ H k W tk w Q =>
  ⟨_, pe_ifExp p_T p_E p_E, hc X f B σ H k _ fun H1 k1 p1 => by
    cases t with
    | true => exact (if_pos rfl).mpr (ha rfl X f B σ H1 k1 W tk w Q)
    | false => exact (if_neg Bool.false_ne_true).mpr (hb rfl X f B σ H1 k1 W tk w Q)⟩
/-- z[e:], e with its effects -/
theorem je_slFrom {z : Str} {i : Int} (ha : JE G a Z (.str z) Z) (hl : JE G e Z (.int i) Z1) (hz : z.length ≤ 100000) : JE G (.Subscript a (.Slice (some e) none none p2) pos) Z (.str (cutS z (some i) none)) Z1 := fun X f B σ H k Q q =>
  ⟨_, pe_slice sl_str p_E (po_some p_E) po_none, ha X f B σ H k _ fun x H1 k1 p1 r1 => hl X f B σ H1 k1 _ fun y H2 k2 p2 r2 => by
    cases r1.inv_str
    exact ⟨i, r2.inv_int, z, rfl, sz5 hz, q _ H2 k2 (p1.trans p2) (.str _)⟩⟩
/-- town = _law_town(script) -/
theorem js_town {k : Nat} {y : Str} {py : Pos} {ar : Addr} {ns : List Int} (i j : Nat) (F : DefS G.g "_law_town" k (spTown G.g.K)) (hk : k ≤ G.k) (h : Z.ρ[j]? = some (some (scr ar G.g.K ns))) (hl : ns.length ≤ 1000) (hp : ∀ q, q ∉ Z.S → P (.nx ⟨q :: Z.S, Z.ρ.set i (some (twn q (0 :: ns)))⟩))
    (hn : stB G.N G.sc G.fn i y = true := by kernel_rfl) (hn2 : nmB G.N G.sc j x = true := by kernel_rfl) (hg : glB G.sc "_law_town" = true := by kernel_rfl) (hs : ∀ env, swapsWith (.Call (.Name "_law_town" p2) [.Name x p3] [] pos') (some (.Name y py)) pos.line env = pure false := by intro _; rfl) :
    JS G (.Assign [.Name y py] (.Call (.Name "_law_town" p2) [.Name x p3] [] pos') pos) Z P := by
  intro X f B σ H kk W E tk en
  obtain ⟨fa, fd, ps, FK, hm, kp, bs⟩ := F.ex
  obtain ⟨h1, h2, _⟩ := gl_of f hg
  simp only [stB, Bool.and_eq_true, decide_eq_true_eq] at hn
  obtain ⟨l1, l2⟩ := loc_of f hn.2
  obtain ⟨o0, e0, e1, _, hA, _⟩ := kk.env j _ h
  subst e1
  refine ⟨_, ps_set (i := i) (by rw [f.N]; exact f.nd) (by rw [f.N]; exact hn.1) l1 (pe_call (fnX f FK) (f.room.mono hk) h1 (by rw [f.mg]; exact hm) (by rw [f.K]; exact kp) (by rw [f.K]; exact bs) .nil (E := E0) passL (pa_cons (pe_slot f hn2) pa_nil) h2 rfl rfl) (hs _) l2, .ref ar, e0, ar, ns, rfl, hA, hl, fun q H' nq sm hq => ?_⟩
  obtain ⟨k2, _⟩ := kk.newRes i (R := [q]) (v := .ref q) (P := fun _ H => H q = some (.lst ((0 :: ns).map V.int))) sm (fun b m => by rw [List.mem_singleton.mp m]; exact ⟨nq, _, hq, fun z => z⟩) hq twn_sound
  exact en.nx _ _ _ (hp q (kk.fresh nq)) k2
end
/-- data equals itself -/
theorem eqD_refl {n : Nat} {d : D} (h : okD n d = true) : eqD n d d = true := PySem.SeqAt.eqv_refl _ (py_lay n d h).1
end JL
namespace JL
open PySem PySem.Spec L2
/-! ### a law -/
def spLaw (K : PySem.W.Frag) : Sp := fun vs H Q E => ∃ (a : Addr) (ns : List Int), vs = [.ref a] ∧ ScrIn K H a ns ∧ ns.length ≤ 1000 ∧ ∀ H', Q (.bl true) H'
theorem town0 (ns : List Int) : TownOk ns (0 :: ns) 0 := ⟨by simp, Int.le_refl _, Int.le_refl _⟩
/-- the law's def, from its body -/
abbrev LawD (g : Glob) (st : Stmt) (f : Addr) (fd : FuncData) : Prop := FunD g.K "law" "law" (defArgs st) (defBody st) (defScope st) [] [] f fd
abbrev LawOk (g : Glob) (k : Nat) (f : Addr) (fd : FuncData) : Prop := FnOk g.P g.w g.K g.mg g.base (L2.CX g.P g.w) k f fd ["script"] (spLaw g.K)
theorem law_at {g : Glob} {st : Stmt} {N : List Str} {k : Nat} {f : Addr} {fd : FuncData} (F : LawD g st f fd) (S : FnScope N ["script"] (defScope st)) (hN : 1 ≤ N.length)
    (body : ∀ (a : Addr) (ns : List Int), ns.length ≤ 1000 → JSs ⟨g, N, defScope st, k, fun _ => true, true⟩ (defBody st) ⟨[], [some (scr a g.K ns)] ++ List.replicate (N.length - 1) none⟩ (postRt fun _ d => d = .bl true)) : LawOk g (k + 1) f fd := by
  refine F.ok S (fun vs H Q E h => by obtain ⟨_, _, rfl, _⟩ := h; rfl) (fun cdv A outer s H vs Q E hr hsp => ?_)
  have key : ∃ B Z P, Ok B Z (L2.start N vs) H ∧ EndsOk B (fun cls d _ H => E cls d H) { nx := fun _ H' => Q .non H', rt := Q } P ∧ JSs ⟨g, N, defScope st, k, fun _ => true, true⟩ (defBody st) Z P := by
    obtain ⟨a, ns, rfl, hA, hl, hQ⟩ := hsp
    refine ⟨⟨H, [], [], fun _ _ => False, fun _ _ => False⟩, _, _, ?_, ends_rt fun Z d v σ H' hp ok rv => ?_, body a ns hl⟩
    · refine ok_start (N := N) (vs := [.ref a]) (evs := [scr a g.K ns]) rfl hN (fun i w ev h1 h2 => ?_) (fun i j e f h1 h2 b m1 m2 => ?_) (fun e he b hb => ?_) (fun e he q' ds z => ?_) (fun b hb => by cases hb) (fun b hb => hb)
      · match i with
        | 0 => cases h1; cases h2; exact ⟨rfl, (fun _ m => by cases m), hA, scr_sound⟩
        | n + 1 => simp at h1
      · match i, j with
        | 0, 0 => rfl
        | n + 1, _ => simp at h1
        | _, n + 1 => simp at h2
      · rw [List.mem_singleton.mp he] at hb; exact hb
      · rw [List.mem_singleton.mp he] at z; cases z
    · subst hp
      cases rv
      exact hQ H'
  obtain ⟨B, Z, P, k0, en, bd⟩ := key
  exact bd _ (fits_cx S.nd hr) B _ H k0 (fun cls d _ H => E cls d H) _ (takes_of rfl rfl rfl rfl) en
theorem filter_no {α : Type} (xs : List α) (f : α → D) : (xs.filter fun _ => false).map f = [] := by
  rw [List.filter_eq_nil_iff.mpr (fun _ _ => by simp)]
  rfl
end JL

namespace JL
open PySem PySem.Spec L2
/-! ### the head's facts -/
def dOf (x : Str) (st : Stmt) : He.DefD := ⟨(x, none), x, x, defArgs st, defBody st, defScope st, [], []⟩
def eC (K : PySem.W.Frag) (i : Nat) : Addr := He.ga K (errs.getD i Str.empty)
def excB (K : PySem.W.Frag) (C : Addr) : Bool := decide (PySem.W.findIn K (.ref C) "__getattribute__" = some (some (.builtin "BaseException.__getattribute__"))) && (decide (PySem.W.findIn K (.ref C) "__getattr__" = some none) && (decide (PySem.W.subIn K (.ref C) (.type "BaseException") = some true) && (PySem.W.hasDictIn K C &&
  (decide (PySem.W.findIn K (.ref C) "__class__" = some (some (.builtin "object.__class__"))) && (decide (PySem.W.specialIn K (.builtin "object.__class__") "__get__" = some (some (.builtin "getset_descriptor.__get__"))) &&
  (decide (PySem.W.takesIn K (.builtin "object.__class__") = some true) && decide (PySem.W.mroIn K C (.type "object") = some true)))))))
def errsB (K : PySem.W.Frag) : Bool := (List.range 14).all fun i => (List.range 14).all (fun j => decide (PySem.W.kitOne K (.ref (eC K i)) (.ref (eC K j)) = some (decide (i = j)))) && (decide (PySem.W.kitOne K (.ref (eC K i)) (.type "ValueError") = some true) && (excB K (eC K i) && decide (PySem.W.exmOne K (.ref (eC K i)) (.ref (He.ga K "RoadError")) = some true)))
def freeL : List Str := ["isinstance", "len", "all", "any", "sum", "abs", "max", "min", "tuple", "list", "int", "str", "range", "enumerate", "zip", "bool", "sorted", "dict", "ValueError", "set"]
def faL : List He.Fa := freeL.map He.Fa.free ++ errs.map He.Fa.glo ++ errs.map He.Fa.exc ++ [He.Fa.glo "RoadError"]
section
variable {K : PySem.W.Frag} {h : Heap} {g : Glob} {fa : List He.Fa} {fn : List He.DefD}
theorem bi_of (X : g.K.In h) (G : h.Ns mainGlobals g.mg) (c : He.SaysD fa fn g.K) (hf : ∀ f ∈ faL, f ∈ fa) : Bi g := by
  have key : ∀ x, x ∈ freeL → g.mg x = none := fun x hx => He.free_ok X G (c.facts (hf _ (by
    unfold faL
    simp only [List.mem_append]
    exact .inl (.inl (.inl (List.mem_map.mpr ⟨x, hx, rfl⟩))))))
  exact ⟨key _ (by simp [freeL]), key _ (by simp [freeL]), key _ (by simp [freeL]), key _ (by simp [freeL]), key _ (by simp [freeL]), key _ (by simp [freeL]), key _ (by simp [freeL]), key _ (by simp [freeL]), key _ (by simp [freeL]), key _ (by simp [freeL]),
    key _ (by simp [freeL]), key _ (by simp [freeL]), key _ (by simp [freeL]), key _ (by simp [freeL]), key _ (by simp [freeL]), key _ (by simp [freeL]), key _ (by simp [freeL]), key _ (by simp [freeL]), key _ (by simp [freeL]), key _ (by simp [freeL])⟩
theorem errs_of (X : g.K.In h) (G : h.Ns mainGlobals g.mg) (c : He.SaysD fa fn g.K) (hf : ∀ f ∈ faL, f ∈ fa) (e : errsB g.K = true) : Errs g (eC g.K) := by
  have key : ∀ i, i < 14 → (List.range 14).all (fun j => decide (PySem.W.kitOne g.K (.ref (eC g.K i)) (.ref (eC g.K j)) = some (decide (i = j)))) = true ∧ PySem.W.kitOne g.K (.ref (eC g.K i)) (.type "ValueError") = some true ∧ excB g.K (eC g.K i) = true ∧ PySem.W.exmOne g.K (.ref (eC g.K i)) (.ref (He.ga g.K "RoadError")) = some true := fun i hi => by
    have := List.all_eq_true.mp e i (List.mem_range.mpr hi)
    obtain ⟨h1, h2⟩ := He.ba this
    obtain ⟨h3, h4⟩ := He.ba h2
    obtain ⟨h5, h6⟩ := He.ba h4
    exact ⟨h1, of_decide_eq_true h3, h5, of_decide_eq_true h6⟩
  have inF : ∀ x, x ∈ errs → He.Fa.glo x ∈ fa ∧ He.Fa.exc x ∈ fa := fun x hx => ⟨hf _ (by
    unfold faL
    simp only [List.mem_append]
    exact .inl (.inl (.inr (List.mem_map.mpr ⟨x, hx, rfl⟩)))), hf _ (by
    unfold faL
    simp only [List.mem_append]
    exact .inl (.inr (List.mem_map.mpr ⟨x, hx, rfl⟩)))⟩
  refine ⟨fun i j hi hj => ?_, fun i hi => (key i hi).2.1, fun i hi => ?_, fun i x hx => ?_, He.ga g.K "RoadError", He.glo_ok X G (c.facts (hf _ (by unfold faL; simp))), fun i hi => (key i hi).2.2.2⟩
  · exact of_decide_eq_true (List.all_eq_true.mp (key i hi).1 j (List.mem_range.mpr hj))
  · obtain ⟨h1, h⟩ := He.ba (key i hi).2.2.1
    obtain ⟨h2, h⟩ := He.ba h
    obtain ⟨h3, h⟩ := He.ba h
    obtain ⟨h4, h⟩ := He.ba h
    obtain ⟨h5, h⟩ := He.ba h
    obtain ⟨h6, h⟩ := He.ba h
    obtain ⟨h7, h8⟩ := He.ba h
    exact ⟨of_decide_eq_true h1, of_decide_eq_true h2, of_decide_eq_true h3, h4, of_decide_eq_true h5, of_decide_eq_true h6, of_decide_eq_true h7, of_decide_eq_true h8⟩
  · have hm := inF x (List.mem_of_getElem? hx)
    have ee : eC g.K i = He.ga g.K x := by
      unfold eC
      rw [List.getD_eq_getElem?_getD, hx]
      rfl
    obtain ⟨e1, e2, e3, e4⟩ := He.exc_ok (c.facts hm.2)
    rw [ee]
    exact ⟨He.glo_ok X G (c.facts hm.1), e1, e2, e3, e4⟩
theorem defAt_of (X : g.K.In h) (G : h.Ns mainGlobals g.mg) (c : He.SaysD fa fn g.K) {x : Str} {st : Stmt} (h1 : He.Fa.glo x ∈ fa) (h2 : dOf x st ∈ fn) : DefAt g x st := by
  obtain ⟨fd, F⟩ := c.defs h2
  exact ⟨_, fd, He.glo_ok X G (c.facts h1), F⟩
end
/-- what lets nothing out -/
theorem cx_no {P : Program} {w : World} (H : Hp) (s : Shared) (e : Value) (s' : Shared) (h : L2.CX P w [] H s (fun _ _ _ => False) e s') : False := by
  obtain ⟨_, _, _, _, _, _, _, _, _, _, _, _, z⟩ := h
  exact z
/-- the law's end, over facts of the head at every world -/
theorem walk_W {l : PySem.W.OpenLaw} {n k : Nat} {q : Program} {loose : List Str} {XP : (Str → Option Value) → Heap → Prop} {YP : World → Heap → Prop} {d : DefRec} {x : Str} (hn : l.most = some n) (hz : n ≤ sizeLine) (hd : d.params.defaults = []) (hr : Room k callerA)
    (F : ∀ (w : World) (mg : Str → Option Value) (f : Addr) (h : Heap), YP w h → h.Ns mainGlobals mg → mg d.name = some (.ref f) → ∃ (K : PySem.W.Frag) (fd : FuncData) (sp : Sp), K.In h ∧ (∀ (s : Shared) (u : Value), BindsTo s fd ⟨[u], []⟩ [(x, u)]) ∧
      (∀ (H : Hp) (a : Addr) (ns : List Int), ns.length ≤ n → Only H → SqL K H a (ns.map V.int) → sp [.ref a] H (fun v _ => v = .bl true) fun _ _ _ => False) ∧ ∀ base : Heap, K.In base → base.Ns mainGlobals mg → FnOk l.prog w K mg base (L2.CX l.prog w) k f fd [x] sp) :
    PySem.W.WalkO q loose XP YP l.row.toRowW d [] (fun f vs => PySem.call f vs) :=
  Att.attach_call hn hd fun w s0 s1 mg mb f o pm cd doc a vs ns G Y ho hd2 hcd hmg hobj hints hlen hg => by
    obtain ⟨K, fd, sp, KX, hb, hsp, hF⟩ := F w mg f _ Y G.T.g hmg
    exact law_call KX G.T.g G.T.b G.T.builtins G.T.nolimit hg hobj hints (Nat.le_trans hlen hz) hr hF hb (fun H hO hS => hsp H a ns hlen hO hS) fun H e s' => cx_no H s1 e s'
end JL

namespace JL
open PySem PySem.Spec L2
/-! ### a call of what a subscript gives -/
/-- the def at f does as R says -/
structure DefV (g : Glob) (f : Addr) (n k : Nat) (R : List D → Out → Prop) : Prop where
  ex : ∃ fd ps, FnOk g.P g.w g.K g.mg g.base (L2.CX g.P g.w) k f fd ps (spR n R) ∧ PySem.W.keepIn g.K (.ref f) = true ∧ Binds g.K fd ps []
theorem Def.atV {g : Glob} {x : Str} {n k : Nat} {R : List D → Out → Prop} (F : Def g x n k R) : ∃ f, g.mg x = some (.ref f) ∧ DefV g f n k R := by
  obtain ⟨f, fd, ps, FK, hm, kp, bs⟩ := F.ex
  exact ⟨f, hm, fd, ps, FK, kp, bs⟩
theorem eval_callSub (a b : Expr) (p : Pos) (args : List Expr) (keywords : List Keyword) (pos : Pos) (env : Env) : eval (.Call (.Subscript a b p) args keywords pos) env = (do
    callWith pos (← eval (.Subscript a b p) env) [] (backTo pos (starEach args env)) (backToKw pos (keywordEach keywords env))) := rfl
def tCallSub (f : Addr) (sp : Sp) (E : L2.St → XK) (tf : TE) (t : TA) : TE := fun σ H Q => tf σ H fun v H1 => v = .ref f ∧ t σ H1 fun vs H2 => sp vs H2 Q (E σ)
section
variable {X : Cx} {CX : CXT} {k : Nat} {f : Addr} {fd : FuncData} {ps : List Str} {sp : Sp} {E : L2.St → XK} {a b e : Expr} {es : List Expr} {p pos : Pos} {t : TA} {tf : TE}
theorem pe_callSub (F : FnOk X.prog X.w X.K X.mg X.base CX k f fd ps sp) (hr : Room k X.A) (hk : PySem.W.keepIn X.K (.ref f) = true) (hb : Binds X.K fd ps []) (hx : ∀ σ, PassesAt CX X σ (E σ)) (hf : PE X (.Subscript a b p) tf) (ha : PA X (e :: es) t)
    (he : starEach (e :: es) X.env = (false, eval e X.env) :: starEach es X.env := by rfl) (hpl : (backTo pos (starEach es X.env)).any (·.1) = false := by rfl) : PE X (.Call (.Subscript a b p) (e :: es) [] pos) (tCallSub f sp E tf t) := by
  refine ⟨fun pins s σ H Q I h => ?_⟩
  rw [eval_callSub]
  refine wpAny_bind (thn (hf.run pins s σ H _ I h) fun u s1 ⟨v, H1, I1, r1, q1⟩ => ?_)
  obtain ⟨rfl, ht⟩ := q1
  cases r1
  refine PySem.W.callWith_K (h₀ := X.base) I.ok.mod.kin hk (thn (ha.run pos pins s1 σ _ _ I1 ht) fun us s2 ⟨vs, H2, I2, r, q⟩ => ⟨I2.kIn, ?_⟩) he hpl
  exact run_fnS F hr hb (hx σ) I2 r q
end
section
variable {G : Ctx} {Z Z1 Z2 Z3 : State} {a b c e : Expr} {es : List Expr} {ds : List D} {pos pos' p p2 p3 : Pos} {d d1 d2 : D} {x : Str} {P : OutS → Prop} {n k : Nat} {R : List D → Out → Prop} {f C : Addr}
theorem je_callS (F : DefV G.g f n k R) (hk : k ≤ G.k) (hf : JE G (.Subscript a b p) Z (.ref f) Z1) (ha : JA G (e :: es) Z1 ds Z2) (hr : R ds (.ret d)) (hn : ds.length = n := by rfl) (he : ∀ env, starEach (e :: es) env = (false, eval e env) :: starEach es env := by intro _; rfl)
    (hpl : ∀ env, (backTo pos (starEach es env)).any (·.1) = false := by intro _; rfl) : JE G (.Call (.Subscript a b p) (e :: es) [] pos) Z d Z2 := by
  intro X t B σ H kk Q q
  obtain ⟨fd, ps, FK, kp, bs⟩ := F.ex
  refine ⟨_, pe_callSub (fnX t FK) (t.room.mono hk) (by rw [t.K]; exact kp) (by rw [t.K]; exact bs) (E := fun _ => E0) (fun σ pins H s e s' _ h => passL pins σ H s e s' ‹_› h) p_E p_A (he _) (hpl _), ?_⟩
  refine hf X t B σ H kk _ fun v H1 k1 p1 r1 => ⟨r1.inv_ref, ha X t B σ H1 k1 _ fun vs H2 k2 p2 r2 => ?_⟩
  exact ⟨by rw [r2.1]; exact hn, Z2.S, ds, .ret d, r2, k2.dom, hr, fun v H3 s r3 => q v H3 (k2.same s) ((p1.trans p2).trans (Kp.same s)) r3⟩
theorem jx_callS (F : DefV G.g f n k R) (hk : k ≤ G.k) (hf : JE G (.Subscript a b p) Z (.ref f) Z1) (ha : JA G (e :: es) Z1 ds Z2) (hr : R ds (.exc C)) (hn : ds.length = n := by rfl) (he : ∀ env, starEach (e :: es) env = (false, eval e env) :: starEach es env := by intro _; rfl)
    (hpl : ∀ env, (backTo pos (starEach es env)).any (·.1) = false := by intro _; rfl) : JX G (.Call (.Subscript a b p) (e :: es) [] pos) Z C Z2 := by
  intro X t B σ H kk W tk w Q
  obtain ⟨fd, ps, FK, kp, bs⟩ := F.ex
  refine ⟨_, pe_callSub (fnX t FK) (t.room.mono hk) (by rw [t.K]; exact kp) (by rw [t.K]; exact bs) (E := WE W) (fun σ => passAt tk σ) p_E p_A (he _) (hpl _), ?_⟩
  refine hf X t B σ H kk _ fun v H1 k1 p1 r1 => ⟨r1.inv_ref, ha X t B σ H1 k1 _ fun vs H2 k2 p2 r2 => ?_⟩
  exact ⟨by rw [r2.1]; exact hn, Z2.S, ds, .exc C, r2, k2.dom, hr, fun H3 s => w H3 (k2.same s)⟩
/-! ### list(range(..)), tuple(range(..)) -/
theorem je_listR1 {m : Int} (B : Bi G.g) (ha : JE G a Z (.int m) Z1) (hm : 0 ≤ m ∧ m ≤ 100000 := by decide) (hg : glB G.sc "list" = true := by kernel_rfl) (hg2 : glB G.sc "range" = true := by kernel_rfl) (n1 : ∀ env, starEach [a] env = (false, eval a env) :: starEach [] env := by intro _; rfl) (n2 : ∀ env, starEach [.Call (.Name "range" p2) [a] [] p3] env = (false, eval (.Call (.Name "range" p2) [a] [] p3) env) :: starEach [] env := by intro _; rfl) :
    JE G (.Call (.Name "list" p) [.Call (.Name "range" p2) [a] [] p3] [] pos) Z (.lst (rng 0 m)) Z1 := by
  intro X f B2 σ H k Q q
  obtain ⟨h1, h2, h3⟩ := gl_of f hg
  obtain ⟨g1, g2, g3⟩ := gl_of f hg2
  refine ⟨_, pe_listRg f.calm h1 (by rw [f.mg]; exact B.list_) (prg_1 g1 (by rw [f.mg]; exact B.range_) p_E (n1 _)) (n2 _), ha X f B2 σ H k _ fun v H1 k1 p1 r1 => ⟨m, r1.inv_int, RgOk.of_le (Int.le_refl _) (by omega) (by omega) hm.1, fun q' nq => ?_⟩⟩
  have s := same_upd (o := .lst (rgV 0 m)) nq
  exact q _ _ (k1.same s) (p1.trans (Kp.same s)) (rp_lst (k1.fresh nq) upd_same (rpa_of (fun i => .int _) _))
theorem je_tupR1 {m : Int} (B : Bi G.g) (ha : JE G a Z (.int m) Z1) (hm : 0 ≤ m ∧ m ≤ 100000 := by decide) (hg : glB G.sc "tuple" = true := by kernel_rfl) (hg2 : glB G.sc "range" = true := by kernel_rfl) (n1 : ∀ env, starEach [a] env = (false, eval a env) :: starEach [] env := by intro _; rfl) (n2 : ∀ env, starEach [.Call (.Name "range" p2) [a] [] p3] env = (false, eval (.Call (.Name "range" p2) [a] [] p3) env) :: starEach [] env := by intro _; rfl) :
    JE G (.Call (.Name "tuple" p) [.Call (.Name "range" p2) [a] [] p3] [] pos) Z (.tup (rng 0 m)) Z1 := by
  intro X f B2 σ H k Q q
  obtain ⟨h1, h2, h3⟩ := gl_of f hg
  obtain ⟨g1, g2, g3⟩ := gl_of f hg2
  refine ⟨_, pe_tupRg f.calm h1 (by rw [f.mg]; exact B.tuple_) (prg_1 g1 (by rw [f.mg]; exact B.range_) p_E (n1 _)) (n2 _), ha X f B2 σ H k _ fun v H1 k1 p1 r1 => ⟨m, r1.inv_int, RgOk.of_le (Int.le_refl _) (by omega) (by omega) hm.1, fun q' nq => ?_⟩⟩
  have s := same_upd (o := .tup (rgV 0 m)) nq
  exact q _ _ (k1.same s) (p1.trans (Kp.same s)) (rp_tup (k1.fresh nq) upd_same (rpa_of (fun i => .int _) _))
theorem je_listR2 {l m : Int} (B : Bi G.g) (ha : JE G a Z (.int l) Z1) (hb : JE G b Z1 (.int m) Z2) (hm : 0 ≤ l ∧ l ≤ 100000 ∧ 0 ≤ m ∧ m ≤ 100000 := by decide) (hg : glB G.sc "list" = true := by kernel_rfl) (hg2 : glB G.sc "range" = true := by kernel_rfl) (n1 : ∀ env, starEach [a, b] env = (false, eval a env) :: starEach [b] env := by intro _; rfl) (nb : ∀ env, starEach [b] env = (false, eval b env) :: starEach [] env := by intro _; rfl) (hpl : ∀ env, (backTo p3 (starEach [b] env)).any (·.1) = false := by intro _; rfl) (n2 : ∀ env, starEach [.Call (.Name "range" p2) [a, b] [] p3] env = (false, eval (.Call (.Name "range" p2) [a, b] [] p3) env) :: starEach [] env := by intro _; rfl) :
    JE G (.Call (.Name "list" p) [.Call (.Name "range" p2) [a, b] [] p3] [] pos) Z (.lst (rng l m)) Z2 := by
  intro X f B2 σ H k Q q
  obtain ⟨h1, h2, h3⟩ := gl_of f hg
  obtain ⟨g1, g2, g3⟩ := gl_of f hg2
  refine ⟨_, pe_listRg f.calm h1 (by rw [f.mg]; exact B.list_) (prg_2 g1 (by rw [f.mg]; exact B.range_) p_E p_E (n1 _) (nb _) (hpl _)) (n2 _), ha X f B2 σ H k _ fun v H1 k1 p1 r1 => hb X f B2 σ H1 k1 _ fun w H2 k2 p2 r2 => ⟨l, m, r1.inv_int, r2.inv_int, RgOk.of_le hm.1 (by omega) (by omega) hm.2.2.1, fun q' nq => ?_⟩⟩
  have s := same_upd (o := .lst (rgV l m)) nq
  exact q _ _ (k2.same s) ((p1.trans p2).trans (Kp.same s)) (rp_lst (k2.fresh nq) upd_same (rpa_of (fun i => .int _) _))
/-! ### x = x + [..], x a list of its own -/
theorem js_catOwn (i : Nat) {q : Addr} {es2 : List D} {p4 : Pos} (h : JE G e Z (.lst es2) Z1) (hi0 : Z.ρ[i]? = some (some (.own q ds))) (hi : Z1.ρ[i]? = some (some (.own q ds))) (hp : ∀ q', q' ∉ Z1.S → P (.nx ⟨q' :: Z1.S, Z1.ρ.set i (some (.own q' (ds ++ es2)))⟩)) (hz : ds.length + es2.length ≤ 100000 := by first | exact Nat.le_of_ble_eq_true rfl | omega)
    (hn : stB G.N G.sc G.fn i x = true := by kernel_rfl) (hn2 : nmB G.N G.sc i x = true := by kernel_rfl) (hs : ∀ env, swapsWith (.BinOp (.Name x p2) .Add e p4) (some (.Name x pos')) pos.line env = pure false := by intro _; rfl) :
    JS G (.Assign [.Name x pos'] (.BinOp (.Name x p2) .Add e p4) pos) Z P := by
  intro X f B σ H k W E tk en
  simp only [stB, Bool.and_eq_true, decide_eq_true_eq] at hn
  obtain ⟨l1, l2⟩ := loc_of f hn.2
  obtain ⟨o0, e0, e1, _⟩ := k.env i _ hi0
  subst e1
  refine ⟨_, ps_set (i := i) (by rw [f.N]; exact f.nd) (by rw [f.N]; exact hn.1) l1 (pe_op op_cat (pe_slot f hn2) p_E) (hs _) l2, .ref q, e0, h X f B σ H k _ fun v H1 k1 p1 r1 => ?_⟩
  obtain ⟨o1, e2, e3, hS1, xs, hl, rx⟩ := k1.env i _ hi
  obtain ⟨b, ys, rfl, nb, eb, rb⟩ := r1.inv_lst
  exact ⟨q, b, xs, ys, rfl, rfl, hl, eb, by rw [rx.1, rb.1]; exact sz5 hz, fun q' nq => en.nx _ _ _ (hp q' (k1.fresh nq)) (k1.own i nq (rx.append rb))⟩
/-- x = a + b, two lists of data: x's from now on -/
theorem js_ownCat (i : Nat) {es2 : List D} {p4 : Pos} (ha : JE G a Z (.lst ds) Z1) (hb : JE G b Z1 (.lst es2) Z2) (hp : ∀ q', q' ∉ Z2.S → P (.nx ⟨q' :: Z2.S, Z2.ρ.set i (some (.own q' (ds ++ es2)))⟩)) (hz : ds.length + es2.length ≤ 100000 := by first | exact Nat.le_of_ble_eq_true rfl | omega)
    (hn : stB G.N G.sc G.fn i x = true := by kernel_rfl) (hs : ∀ env, swapsWith (.BinOp a .Add b p4) (some (.Name x pos')) pos.line env = pure false := by intro _; rfl) :
    JS G (.Assign [.Name x pos'] (.BinOp a .Add b p4) pos) Z P := by
  intro X f B σ H k W E tk en
  simp only [stB, Bool.and_eq_true, decide_eq_true_eq] at hn
  obtain ⟨l1, l2⟩ := loc_of f hn.2
  refine ⟨_, ps_set (i := i) (by rw [f.N]; exact f.nd) (by rw [f.N]; exact hn.1) l1 (pe_op op_cat p_E p_E) (hs _) l2, ha X f B σ H k _ fun u H0 k0 p0 r0 => hb X f B σ H0 k0 _ fun v H1 k1 p1 r1 => ?_⟩
  obtain ⟨q, xs, rfl, nq0, hl, rx⟩ := (p1 _ _ r0).inv_lst
  obtain ⟨b, ys, rfl, nb, eb, rb⟩ := r1.inv_lst
  exact ⟨q, b, xs, ys, rfl, rfl, hl, eb, by rw [rx.1, rb.1]; exact sz5 hz, fun q' nq => en.nx _ _ _ (hp q' (k1.fresh nq)) (k1.own i nq (rx.append rb))⟩
/-- the target takes the value, the order of the stores told by the scope -/
theorem js_asgE {tg : Expr} (h : JE G e Z d Z1) (hg : JG G tg d Z1 Z2) (hp : P (.nx Z2)) (hw : ∀ env : Env, env.scope = G.sc → swappedStores [tg] e env = pure none) (hs : ∀ env, swapsWithSole [tg] e pos.line env = pure false := by intro _; rfl)
    (h1 : ∀ env, (assignEach [tg] env).map (·.2) = [assign tg env] := by intro _; rfl) : JS G (.Assign [tg] e pos) Z P := fun X f B σ H k W E tk en =>
  ⟨_, ps_asg p_E p_G (hs _) (hw _ f.sc) (h1 _), h X f B σ H k _ fun v H1 k1 p1 r1 => hg X f B σ H1 v k1 r1 _ fun σ' k' p' => en.nx _ _ H1 hp k'⟩
/-- () * n of a tuple -/
theorem je_repT {m : Int} (ha : JE G a Z (.tup ds) Z1) (hb : JE G b Z1 (.int m) Z2) (hne : ds ≠ []) (hm : 2 ≤ m ∧ m ≤ 1000) (hz : ds.length ≤ 100) : JE G (.BinOp a .Mult b pos) Z (.tup (List.replicate m.toNat ds).flatten) Z2 := by
  refine je_bin (r := fun X => rRepT X.K) (fun _ _ => op_repT) ha hb fun X f B σ H x y Q k r1 r2 q => ?_
  obtain ⟨l, xs, rfl, nl, el, rl⟩ := r1.inv_tup
  refine ⟨l, m, xs, rfl, r2.inv_int, .of el, fun z => hne (List.length_eq_zero_iff.mp (by rw [← rl.1, z]; rfl)), hm.1, hm.2, by rw [rl.1]; omega, fun p np => ?_⟩
  have s := same_upd (o := .tup (List.replicate m.toNat xs).flatten) np
  have key : ∀ j : Nat, RpA Z2.S H (List.replicate j xs).flatten (List.replicate j ds).flatten := fun j => by
    induction j with
    | zero => exact RpA.nil
    | succ j ih => rw [List.replicate_succ, List.replicate_succ, List.flatten_cons, List.flatten_cons]; exact rl.append ih
  exact q _ _ (k.same s) (Kp.same s) (rp_tup (k.fresh np) upd_same ((Kp.same s).all (key _)))
/-- [..] * n -/
theorem je_repL {m : Int} (ha : JE G a Z (.lst ds) Z1) (hb : JE G b Z1 (.int m) Z2) (hm : 0 ≤ m ∧ m ≤ 1000) (hz : ds.length ≤ 100) : JE G (.BinOp a .Mult b pos) Z (.lst (List.replicate m.toNat ds).flatten) Z2 := by
  refine je_bin (r := fun _ => rRep) (fun _ _ => op_rep) ha hb fun X f B σ H x y Q k r1 r2 q => ?_
  obtain ⟨l, xs, rfl, nl, el, rl⟩ := r1.inv_lst
  refine ⟨l, m, xs, rfl, r2.inv_int, el, by omega, by omega, ?_, fun p np => ?_⟩
  · rw [rl.1]
    exact sz5 (Nat.le_trans (Nat.mul_le_mul hz (show m.toNat ≤ 1000 by omega)) (by decide))
  have s := same_upd (o := .lst (List.replicate m.toNat xs).flatten) np
  have key : ∀ j : Nat, RpA Z2.S H (List.replicate j xs).flatten (List.replicate j ds).flatten := fun j => by
    induction j with
    | zero => exact RpA.nil
    | succ j ih => rw [List.replicate_succ, List.replicate_succ, List.flatten_cons, List.flatten_cons]; exact rl.append ih
  exact q _ _ (k.same s) (Kp.same s) (rp_lst (k.fresh np) upd_same ((Kp.same s).all (key _)))
end
end JL

namespace JL
open PySem PySem.Spec L2
/-! ### the checks of arguments -/
def R_degree (C : Nat → Addr) : List D → Out → Prop := fun ds o => ∃ d, known d = true ∧ ds = [d] ∧ o = if mBetween d 0 3 = true then .ret .non else .exc (C 2)
def bothO (C : Nat → Addr) (d1 d2 : D) : Out := if mGates d1 = true then (if mBetween d2 0 3 = true then .ret .non else .exc (C 2)) else .exc (C 0)
def R_both (C : Nat → Addr) : List D → Out → Prop := fun ds o => ∃ (m : Nat) (d1 d2 : D), dk m d1 = true ∧ known d2 = true ∧ ds = [d1, d2] ∧ o = bothO C d1 d2
def errK (kind : Nat) (d1 d2 d3 : D) : Option Nat := match kind with
  | 0 => if mGates d1 = true then (if mBetween d2 0 3 = true then none else some 2) else some 0
  | 1 => if mGates d1 = true then none else some 0
  | 2 => if mGates d1 = true then (if mBetween d2 0 3 = true then (if mBetween d3 0 3 = true then (if intOf d2 > 2 then some 12 else none) else some 7) else some 2) else some 0
  | _ => if mBetween d1 0 3 = true then none else some 2
def R_e (C : Nat → Addr) (kind n : Nat) : List D → Out → Prop := fun ds o => ds.length = n ∧ (∃ m, ∀ d ∈ ds, dk m d = true) ∧ ∃ c, errK kind (ds.getD 0 .non) (ds.getD 1 .non) (ds.getD 2 .non) = some c ∧ o = .exc (C c)
section
variable {C : Nat → Addr} {m c : Nat} {d1 d2 d3 : D}
theorem both_of (h1 : dk m d1 = true) (h2 : dk m d2 = true) (h : errK 0 d1 d2 d3 = some c) : R_both C [d1, d2] (.exc (C c)) := by
  refine ⟨m, d1, d2, h1, dk_known h2, rfl, ?_⟩
  have h : (if mGates d1 = true then (if mBetween d2 0 3 = true then none else some 2) else some 0) = some c := h
  unfold bothO
  by_cases g1 : mGates d1 = true
  · by_cases g2 : mBetween d2 0 3 = true
    · rw [if_pos g1, if_pos g2] at h; cases h
    · rw [if_pos g1, if_neg g2] at h ⊢; cases h; rfl
  · rw [if_neg g1] at h ⊢; cases h; rfl
theorem both_ok (h1 : dk m d1 = true) (g1 : mGates d1 = true) (g2 : mBetween d2 0 3 = true) : R_both C [d1, d2] (.ret .non) := by
  obtain ⟨i, rfl, _, _⟩ := mBetween_ex g2
  refine ⟨m, d1, _, h1, rfl, rfl, ?_⟩
  unfold bothO
  rw [if_pos g1, if_pos g2]
theorem check_of (h1 : dk m d1 = true) (h : errK 1 d1 d2 d3 = some c) : R_check C [d1] (.exc (C c)) := by
  refine ⟨m, d1, h1, rfl, ?_⟩
  have h : (if mGates d1 = true then none else some 0) = some c := h
  by_cases g1 : mGates d1 = true
  · rw [if_pos g1] at h; cases h
  · rw [if_neg g1] at h ⊢; cases h; rfl
theorem degree_of (h1 : dk m d1 = true) (h : errK 3 d1 d2 d3 = some c) : R_degree C [d1] (.exc (C c)) := by
  refine ⟨d1, dk_known h1, rfl, ?_⟩
  have h : (if mBetween d1 0 3 = true then none else some 2) = some c := h
  by_cases g1 : mBetween d1 0 3 = true
  · rw [if_pos g1] at h; cases h
  · rw [if_neg g1] at h ⊢; cases h; rfl
end
/-! ### fractions, roads -/
def R_divisor : List D → Out → Prop := fun ds o => ∃ a b : Int, ds = [.int a, .int b] ∧ o = .ret (.int (Int.gcd a b : Nat))
def mFrac (d : D) : Bool := match d with
  | .tup [.int a, .int b] => decide (0 < b) && decide (Int.gcd a b = 1)
  | _ => false
def R_isFrac : List D → Out → Prop := fun ds o => ∃ (n : Nat) (d : D), dk n d = true ∧ ds = [d] ∧ o = .ret (.bl (mFrac d))
def mRoad (d : D) : Bool := match d with
  | .tup l => l.all mFrac
  | _ => false
def lenT (d : D) : Nat := match d with
  | .tup l => l.length
  | _ => 0
def R_areRoad : List D → Out → Prop := fun ds o => ∃ (n : Nat) (d : D), dk n d = true ∧ lenT d ≤ 1000 ∧ ds = [d] ∧ o = .ret (.bl (mRoad d))
def R_isRoad (C : Nat → Addr) : List D → Out → Prop := fun ds o => R_e C 3 2 ds o ∨ ∃ (n : Nat) (i : Int) (d : D), 0 ≤ i ∧ i ≤ 3 ∧ dk n d = true ∧ lenT d ≤ 1000 ∧ ds = [.int i, d] ∧ o = .ret (.bl (mRoad d && decide ((lenT d : Int) = i + 1)))
/-- not entries, for they are no tuple -/
def R_noEnt : List D → Out → Prop := fun ds o => ∃ (d1 d2 : D) (v : D), known v = true ∧ isT v = false ∧ ds = [d1, d2, v] ∧ o = .ret (.bl false)
def R_noEntI : List D → Out → Prop := fun ds o => ∃ (d1 : D) (i : Int) (v : D), known v = true ∧ isT v = false ∧ ds = [d1, .int i, v] ∧ o = .ret (.bl false)
def R_isBar0 (C : Nat → Addr) : List D → Out → Prop := fun ds o => R_e C 0 3 ds o ∨ ∃ (gs : List Gt) (i : Int) (v : D), GatesOk gs ∧ 0 ≤ i ∧ i ≤ 3 ∧ known v = true ∧ isT v = false ∧ ds = [encGs gs, .int i, v] ∧ o = .ret (.bl false)
def R_isTies0 (C : Nat → Addr) : List D → Out → Prop := fun ds o => R_e C 0 4 ds o ∨ ∃ (gs : List Gt) (i : Int) (f v : D), GatesOk gs ∧ 0 ≤ i ∧ i ≤ 3 ∧ dk 1 f = true ∧ mFrac f = true ∧ known v = true ∧ isT v = false ∧ ds = [encGs gs, .int i, f, v] ∧ o = .ret (.bl false)
theorem bet_in {i lo hi : Int} (h1 : lo ≤ i) (h2 : i ≤ hi) : mBetween (.int i) lo hi = true := by
  show (decide (lo ≤ i) && decide (i ≤ hi)) = true
  rw [decide_eq_true h1, decide_eq_true h2]
  rfl
/-- the remainder step -/
theorem gcd_mod {a b : Nat} (h : 0 < b) : Int.gcd ((b : Nat) : Int) (((a : Nat) : Int) % ((b : Nat) : Int)) = Int.gcd (a : Int) (b : Int) := by
  rw [← Int.natCast_emod, Int.gcd_natCast_natCast, Int.gcd_natCast_natCast, Nat.gcd_comm a b, Nat.gcd_rec b a, Nat.gcd_comm]
end JL
namespace JL
theorem dk_up : ∀ {n : Nat} {d : D}, dk n d = true → dk (n + 1) d = true
  | n, .non, _ => rfl
  | n, .bl _, _ => rfl
  | n, .int _, _ => rfl
  | n, .str _, _ => rfl
  | n, .emp, _ => rfl
  | n, .ref _, h => by cases n <;> cases h
  | n, .ty _, h => by cases n <;> cases h
  | 0, .tup _, h => by cases h
  | 0, .lst _, h => by cases h
  | n + 1, .tup l, h => by
    have h : l.all (dk n) = true := h
    show l.all (dk (n + 1)) = true
    rw [List.all_eq_true] at h ⊢
    exact fun x hx => dk_up (h x hx)
  | n + 1, .lst l, h => by
    have h : l.all (dk n) = true := h
    show l.all (dk (n + 1)) = true
    rw [List.all_eq_true] at h ⊢
    exact fun x hx => dk_up (h x hx)
theorem dk_up2 {n : Nat} {d : D} (h : dk n d = true) : dk (n + 2) d = true := dk_up (dk_up h)
end JL
namespace JL
theorem JLc.cast {G : Ctx} {elt tg iter : PySem.Expr} {ifs : List PySem.Expr} {scope : PySem.Scope} {Z Z1 : State} {d d1 : D} (h : JLc G elt tg iter ifs scope Z d Z1) (e : d = d1) : JLc G elt tg iter ifs scope Z d1 Z1 := e ▸ h
end JL

namespace JL
open PySem PySem.Spec L2
/-! ### instances as things -/
/-- a field: data, or a list of the thing's own at r -/
inductive Fv where
  | dat (d : D)
  | li (r : Addr) (ds : List D)
def Fv.foot : Fv → List Addr
  | .dat _ => []
  | .li r _ => [r]
def Fv.ok (S : List Addr) (H : Hp) (v : V) : Fv → Prop
  | .dat d => Rp S H v d
  | .li r ds => v = .ref r ∧ ∃ xs, H r = some (.lst xs) ∧ RpA S H xs ds
abbrev Fs := List (Str × Fv)
def footL (fs : Fs) : List Addr := fs.flatMap fun q => q.2.foot
/-- the instance at a of the class at C: its dict at dx, its fields -/
structure InsP (C a dx : Addr) (fs : Fs) (S : List Addr) (H : Hp) : Prop where
  ex : ∃ vs : List V, vs.length = fs.length ∧ H a = some (.ins C dx ((fs.map (·.1)).zip vs)) ∧ H dx = some (.own a) ∧ ∀ (i : Nat) (q : Str × Fv) (v : V), fs[i]? = some q → vs[i]? = some v → q.2.ok S H v
  nd : (footL fs).Nodup
abbrev thg (v : V) (d0 : D) (C a dx : Addr) (fs : Fs) : EV := .res (a :: dx :: footL fs) v (fun S H => Rp S H v d0 ∧ InsP C a dx fs S H)
theorem Fv.keep {S S' : List Addr} {H H' : Hp} {v : V} {x : Fv} (h : x.ok S H v) (hk : ∀ b o, H b = some o → (b ∈ x.foot ∨ b ∉ S) → H' b = some o) (hs : ∀ a o, H a = some o → a ∈ S' → a ∈ S) : x.ok S' H' v := by
  have pr : Pres S H H' := fun b o e n => hk b o e (.inr n)
  cases x with
  | dat d => exact Rp.keep pr hs h
  | li r ds =>
    obtain ⟨e, xs, hl, rx⟩ := h
    exact ⟨e, xs, hk r _ hl (.inl (List.mem_singleton.mpr rfl)), rx.keep pr hs⟩
theorem foot_mem {fs : Fs} {i : Nat} {q : Str × Fv} (h : fs[i]? = some q) {b : Addr} (hb : b ∈ q.2.foot) : b ∈ footL fs := List.mem_flatMap.mpr ⟨q, List.mem_of_getElem? h, hb⟩
theorem thg_sound {v : V} {d0 : D} {C a dx : Addr} {fs : Fs} : Sound (a :: dx :: footL fs) (fun S H => Rp S H v d0 ∧ InsP C a dx fs S H) := fun S S' H H' p hk hs => by
  obtain ⟨r, ⟨vs, hl, h1, h2, h3⟩, nd⟩ := p
  refine ⟨r.keep (fun b o e n => hk b o e (.inr (.inl n))) hs, ⟨vs, hl, hk a _ h1 (.inl (by simp)), hk dx _ h2 (.inl (by simp)), fun i q w e1 e2 => ?_⟩, nd⟩
  exact Fv.keep (x := q.2) (h3 i q w e1 e2) (fun b o e hb => hk b o e (hb.elim (fun m => .inl (by simp [foot_mem e1 m])) fun m => .inr (.inl m))) hs
section
variable {G : Ctx} {Z Z1 Z2 Z3 : State} {o b c e : Expr} {es : List Expr} {ds : List D} {pos pos' p p2 apos : Pos} {d d0 d1 d2 : D} {x f : Str} {P : OutS → Prop} {v : V} {C a dx r : Addr} {fs : Fs}
/-- the slot's own data -/
theorem nmT (i : Nat) (h : Z.ρ[i]? = some (some (thg v d0 C a dx fs))) (hn : nmB G.N G.sc i x = true := by kernel_rfl) : JE G (.Name x pos) Z d0 Z := by
  intro X t B σ H k Q q
  obtain ⟨o0, e0, e1, _, hp, _⟩ := k.env i _ h
  subst e1
  exact ⟨_, pe_slot t hn, v, e0, q v H k Kp.refl hp.1⟩
theorem lookup_zip {fs : Fs} {vs : List V} (hl : vs.length = fs.length) {i : Nat} {y : Fv} (hi : fs[i]? = some (f, y)) (hf : ∀ j, j < i → ∀ q, fs[j]? = some q → q.1 ≠ f) : ∃ w, vs[i]? = some w ∧ ((fs.map (·.1)).zip vs).lookup f = some w := by
  induction fs generalizing vs i with
  | nil => simp at hi
  | cons q fs ih =>
    cases vs with
    | nil => simp at hl
    | cons w vs =>
      cases i with
      | zero =>
        simp at hi
        subst hi
        exact ⟨w, rfl, by simp⟩
      | succ i =>
        have hne := hf 0 (by omega) q rfl
        obtain ⟨u, h1, h2⟩ := ih (vs := vs) (by simpa using hl) (i := i) (by simpa using hi) fun j hj q' hq => hf (j + 1) (by omega) q' (by simpa using hq)
        refine ⟨u, by simpa using h1, ?_⟩
        rw [List.map_cons, List.zip_cons_cons, List.lookup_cons]
        have : (f == q.1) = false := by simpa using fun z : f = q.1 => hne z.symm
        rw [this]
        exact h2
def fldAtB (fs : Fs) (i : Nat) (f : Str) : Bool := ((fs.map (·.1))[i]? == some f) && (List.range i).all fun j => !((fs.map (·.1))[j]? == some f)
theorem fldAt_of {i : Nat} {y : Fv} (h : fldAtB fs i f = true) (hy : fs[i]? = some (f, y)) : ∀ j, j < i → ∀ q, fs[j]? = some q → q.1 ≠ f := fun j hj q hq z => by
  unfold fldAtB at h
  simp only [Bool.and_eq_true, List.all_eq_true, List.mem_range] at h
  have := h.2 j hj
  rw [List.getElem?_map, hq] at this
  simp [z] at this
end
end JL

namespace JL
open PySem PySem.Spec L2
/-- the class at C: plain, none of these names is its own -/
structure CK (g : Glob) (C : Addr) (names : List Str) : Prop where
  cls : Cls g.K C
  no : ∀ f ∈ names, NoAttr g.K C f
/-- at r lies a list of these -/
def Has (Z : State) (r : Addr) (ds : List D) : Prop := ∀ (B : Bs) (σ : L2.St) (H : Hp), Ok B Z σ H → ∃ xs, H r = some (.lst xs) ∧ RpA Z.S H xs ds
section
variable {G : Ctx} {Z Z1 Z2 Z3 : State} {o b c e : Expr} {es : List Expr} {ds : List D} {pos pos' p p2 apos : Pos} {d d0 d1 d2 : D} {x f : Str} {P : OutS → Prop} {v : V} {C a dx r : Addr} {fs : Fs} {names : List Str}
theorem has_thg (s i : Nat) (h : Z.ρ[s]? = some (some (thg v d0 C a dx fs))) (hi : fs[i]? = some (f, .li r ds)) : Has Z r ds := fun B σ H k => by
  obtain ⟨o0, e0, e1, _, hp, _⟩ := k.env s _ h
  obtain ⟨_, ⟨vs, hl, h1, h2, h3⟩, _⟩ := hp
  have hi' : i < vs.length := by rw [hl]; exact (List.getElem?_eq_some_iff.mp hi).1
  obtain ⟨_, xs, hx, rx⟩ := h3 i _ vs[i] hi (List.getElem?_eq_getElem hi')
  exact ⟨xs, hx, rx⟩
theorem has_own (i : Nat) {q : Addr} (h : Z.ρ[i]? = some (some (.own q ds))) : Has Z q ds := fun B σ H k => by
  obtain ⟨o0, e0, e1, hS, xs, hl, rx⟩ := k.env i _ h
  exact ⟨xs, hl, rx⟩
/-- o.f, data -/
theorem je_fld (s i : Nat) (K : CK G.g C names) (ho : JE G o Z (.ref a) Z1) (h : Z1.ρ[s]? = some (some (thg v d0 C a dx fs))) (hi : fs[i]? = some (f, .dat d)) (hf : f ∈ names := by simp) (hfb : fldAtB fs i f = true := by rfl) (hb : ∀ env, attributeBase o f env (eval o env) = eval o env := by intro _; rfl) :
    JE G (.Attribute o f pos) Z d Z1 := by
  intro X t B σ H k Q q
  refine ⟨_, pe_fld p_E (hb _), ho X t B σ H k _ fun u H1 k1 p1 r1 => ?_⟩
  obtain ⟨o0, e0, e1, _, hp, _⟩ := k1.env s _ h
  obtain ⟨_, ⟨vs, hl, h1, h2, h3⟩, _⟩ := hp
  obtain ⟨w, hw, hlk⟩ := lookup_zip hl hi (fldAt_of hfb hi)
  exact ⟨a, C, dx, _, w, r1.inv_ref, h1, by rw [t.K]; exact K.cls, by rw [t.K]; exact K.no f hf, hlk, q w H1 k1 p1 (h3 i _ w hi hw)⟩
/-- o.f, the place of a list of the thing's own -/
theorem je_fldR (s i : Nat) (K : CK G.g C names) (ho : JE G o Z (.ref a) Z1) (h : Z1.ρ[s]? = some (some (thg v d0 C a dx fs))) (hi : fs[i]? = some (f, .li r ds)) (hf : f ∈ names := by simp) (hfb : fldAtB fs i f = true := by rfl) (hb : ∀ env, attributeBase o f env (eval o env) = eval o env := by intro _; rfl) :
    JE G (.Attribute o f pos) Z (.ref r) Z1 := by
  intro X t B σ H k Q q
  refine ⟨_, pe_fld p_E (hb _), ho X t B σ H k _ fun u H1 k1 p1 r1 => ?_⟩
  obtain ⟨o0, e0, e1, _, hp, _⟩ := k1.env s _ h
  obtain ⟨_, ⟨vs, hl, h1, h2, h3⟩, _⟩ := hp
  obtain ⟨w, hw, hlk⟩ := lookup_zip hl hi (fldAt_of hfb hi)
  obtain ⟨rfl, _⟩ := h3 i _ w hi hw
  exact ⟨a, C, dx, _, _, r1.inv_ref, h1, by rw [t.K]; exact K.cls, by rw [t.K]; exact K.no f hf, hlk, q _ H1 k1 p1 (.ref r)⟩
/-! lists by their place -/
theorem je_ixR {j : Int} (ha : JE G c Z (.ref r) Z1) (hb : JE G b Z1 (.int j) Z2) (hh : Has Z2 r ds) (h : atI ds j = some d) (hs : PlainIx b := by intro _ _; rfl) : JE G (.Subscript c b pos) Z d Z2 := fun X t B σ H k Q q =>
  ⟨_, pe_ix ix_list p_E p_E hs, ha X t B σ H k _ fun x H1 k1 p1 r1 => hb X t B σ H1 k1 _ fun y H2 k2 p2 r2 => by
    obtain ⟨xs, hl, rx⟩ := hh B σ H2 k2
    obtain ⟨w, e1, rw'⟩ := atI_rp rx h
    exact ⟨r, xs, j, w, r1.inv_ref, r2.inv_int, .of hl, e1, q w H2 k2 (p1.trans p2) rw'⟩⟩
theorem je_lenR (B : Bi G.g) (ha : JA G [c] Z [.ref r] Z1) (hh : Has Z1 r ds) (hg : glB G.sc "len" = true := by kernel_rfl) (he : ∀ env, starEach [c] env = (false, eval c env) :: starEach [] env := by intro _; rfl) (hpl : ∀ env, (backTo pos (starEach [] env)).any (·.1) = false := by intro _; rfl) : JE G (.Call (.Name "len" p) [c] [] pos) Z (.int ds.length) Z1 :=
  je_callB (r := fun X xs H Q => ∃ p ys, xs = [.ref p] ∧ (SqL X.K H p ys ∨ SqT X.K H p ys) ∧ Q (.int ys.length) H) (fun X _ => call_len_seq) B.len_ PySem.boot_len hg ha (fun X t B2 σ H vs Q k rr q => by
    obtain ⟨w, rfl, r1⟩ := one_of rr
    obtain ⟨xs, hl, rx⟩ := hh B2 σ H k
    cases r1.inv_ref
    refine ⟨r, xs, rfl, .inl (.of hl), q _ H (Same.refl H) ?_⟩
    rw [rx.1]
    exact .int _) he hpl
variable {lo hi : Option Expr} {l u : Option Int}
theorem je_slR (ha : JE G c Z (.ref r) Z1) (hl : JO G lo Z1 l) (hu : JO G hi Z1 u) (hh : Has Z1 r ds) : JE G (.Subscript c (.Slice lo hi none p2) pos) Z (.lst (cutD ds l u)) Z1 := fun X f B σ H k Q q =>
  ⟨_, pe_slice sl_list p_E p_O p_O, ha X f B σ H k _ fun x H1 k1 p1 r1 => hl X f B σ H1 k1 _ fun H2 k2 p2 => hu X f B σ H2 k2 _ fun H3 k3 p3 => by
    obtain ⟨xs, hx, rx⟩ := hh B σ H3 k3
    refine ⟨r, xs, r1.inv_ref, .of hx, fun n nn => ?_⟩
    have s := same_upd (o := .lst (cutV xs l u)) nn
    exact q _ _ (k3.same s) (((p1.trans p2).trans p3).trans (Kp.same s)) (rp_lst (k3.fresh nn) upd_same ((Kp.same s).all (cut_rp rx l u)))⟩
end
end JL

namespace JL
open PySem PySem.Spec L2
/-! ### a thing's list is changed -/
theorem foot_set {fs : Fs} {i : Nat} {f : Str} {r : Addr} {ds ds' : List D} (hi : fs[i]? = some (f, .li r ds)) : footL (fs.set i (f, .li r ds')) = footL fs := by
  unfold footL
  induction fs generalizing i with
  | nil => simp at hi
  | cons q fs ih =>
    cases i with
    | zero => simp at hi; subst hi; rfl
    | succ i =>
      rw [List.set_cons_succ, List.flatMap_cons, List.flatMap_cons, ih (by simpa using hi)]
theorem names_set {fs : Fs} {i : Nat} {f : Str} {y y' : Fv} (hi : fs[i]? = some (f, y)) : (fs.set i (f, y')).map (·.1) = fs.map (·.1) := by
  apply List.ext_getElem?
  intro j
  rw [List.getElem?_map, List.getElem?_map, List.getElem?_set]
  split
  · rename_i h
    subst h
    rw [hi, if_pos (List.getElem?_eq_some_iff.mp hi).1]
    rfl
  · rfl
/-- two fields, one list: the same field -/
theorem foot_uniq {fs : Fs} (nd : (footL fs).Nodup) {i j : Nat} {q q' : Str × Fv} {b : Addr} (hi : fs[i]? = some q) (hj : fs[j]? = some q') (h1 : b ∈ q.2.foot) (h2 : b ∈ q'.2.foot) : i = j := by
  unfold footL at nd
  induction fs generalizing i j with
  | nil => simp at hi
  | cons z fs ih =>
    rw [List.flatMap_cons, List.nodup_append] at nd
    obtain ⟨_, n2, n3⟩ := nd
    cases i with
    | zero =>
      cases j with
      | zero => rfl
      | succ j =>
        simp at hi hj
        subst hi
        exact absurd rfl (n3 b h1 b (foot_mem (fs := fs) hj h2))
    | succ i =>
      cases j with
      | zero =>
        simp at hi hj
        subst hj
        exact absurd rfl (n3 b h2 b (foot_mem (fs := fs) hi h1))
      | succ j => exact congrArg (· + 1) (ih n2 (i := i) (j := j) (by simpa using hi) (by simpa using hj))
theorem Ok.mutLi {B : Bs} {Z : State} {σ : L2.St} {H : Hp} (k : Ok B Z σ H) {s i : Nat} {v : V} {d0 : D} {C a dx r : Addr} {fs : Fs} {f : Str} {ds ds' : List D} {ys : List V} (h : Z.ρ[s]? = some (some (thg v d0 C a dx fs))) (hi : fs[i]? = some (f, .li r ds)) (ry : RpA Z.S H ys ds') :
    Ok B ⟨Z.S, Z.ρ.set s (some (thg v d0 C a dx (fs.set i (f, .li r ds'))))⟩ σ (upd H r (.lst ys)) ∧ Kp Z.S H Z.S (upd H r (.lst ys)) := by
  obtain ⟨o0, e0, e1, hS, hp, _⟩ := k.env s _ h
  obtain ⟨rv, ⟨vs, hl, h1, h2, h3⟩, nd⟩ := hp
  have il : i < fs.length := (List.getElem?_eq_some_iff.mp hi).1
  have hv : vs[i]? = some vs[i] := List.getElem?_eq_getElem (by omega)
  obtain ⟨ev, xs, hx, rx⟩ := h3 i _ _ hi hv
  have ev : vs[i] = .ref r := ev
  have hr : r ∈ a :: dx :: footL fs := by simp [foot_mem hi (show r ∈ (Fv.li r ds).foot from List.mem_singleton.mpr rfl)]
  have rS : r ∈ Z.S := hS r hr
  have na : a ≠ r := fun z => by rw [z, hx] at h1; cases h1
  have nx : dx ≠ r := fun z => by rw [z, hx] at h2; cases h2
  have pr : Pres Z.S H (upd H r (.lst ys)) := fun b o e n => by rw [upd_ne (fun z => n (by rw [z]; exact rS))]; exact e
  have hk : ∀ b o, H b = some o → b ∉ a :: dx :: footL fs → upd H r (.lst ys) b = some o := fun b o e n => by rw [upd_ne (fun z => n (by rw [z]; exact hr))]; exact e
  have main := k.mutRes (H' := upd H r (.lst ys)) (P' := fun S H => Rp S H v d0 ∧ InsP C a dx (fs.set i (f, .li r ds')) S H) h hk (fun b m => ?_) ⟨rv.keep pr fun _ _ _ z => z, ⟨vs, by simpa using hl, by rw [names_set hi, upd_ne na]; exact h1, by rw [upd_ne nx]; exact h2, fun j q w e2 e3 => ?_⟩, by rw [foot_set hi]; exact nd⟩ (by
      have := thg_sound (v := v) (d0 := d0) (C := C) (a := a) (dx := dx) (fs := fs.set i (f, .li r ds'))
      rw [foot_set hi] at this
      exact this)
  · show Ok B ⟨Z.S, Z.ρ.set s (some (.res (a :: dx :: footL (fs.set i (f, .li r ds'))) v _))⟩ _ _ ∧ _
    rw [foot_set hi]
    exact main
  · by_cases z : b = r
    · rw [z]; exact ⟨_, upd_same, fun z => z⟩
    · obtain ⟨o, e, n⟩ := k.dom b (hS b m)
      exact ⟨o, by rw [upd_ne z]; exact e, n⟩
  · by_cases z : j = i
    · subst z
      rw [List.getElem?_set_self il] at e2
      cases e2
      rw [hv] at e3
      cases e3
      exact ⟨ev, ys, upd_same, ry.keep pr fun _ _ _ z => z⟩
    · rw [List.getElem?_set_ne (Ne.symm z)] at e2
      refine Fv.keep (x := q.2) (h3 j q w e2 e3) (fun b o e hb => ?_) fun _ _ _ z => z
      rcases hb with hb | hb
      · rw [upd_ne (fun y => z (foot_uniq nd e2 hi (by rw [y] at hb; exact hb) (List.mem_singleton.mpr rfl)))]
        exact e
      · exact pr b o e hb
end JL

namespace JL
open PySem PySem.Spec L2
/-! ### a thing is changed, new objects come to it -/
theorem Ok.growRes {B : Bs} {Z : State} {σ : L2.St} {H H' : Hp} {i : Nat} {R R' N : List Addr} {v : V} {P P' : List Addr → Hp → Prop} (k : Ok B Z σ H) (h : Z.ρ[i]? = some (some (.res R v P))) (hk : ∀ b o, H b = some o → b ∉ R → H' b = some o) (hR : ∀ a ∈ R, ∃ o, H' a = some o ∧ ¬ Solid o)
    (hN : ∀ a ∈ N, H a = none ∧ ∃ o, H' a = some o ∧ ¬ Solid o) (hs' : ∀ a ∈ R', a ∈ R ∨ a ∈ N) (hP : P' (N ++ Z.S) H') (hs : Sound R' P') :
    Ok B ⟨N ++ Z.S, Z.ρ.set i (some (.res R' v P'))⟩ σ H' ∧ Kp Z.S H (N ++ Z.S) H' := by
  obtain ⟨o0, e0, e1, hS, p0, s0⟩ := k.env i _ h
  subst e1
  have nS : ∀ a ∈ N, a ∉ Z.S := fun a m => k.fresh (hN a m).1
  have sb : ∀ a o, H a = some o → a ∈ N ++ Z.S → a ∈ Z.S := fun a o e m => (List.mem_append.mp m).resolve_left fun z => by rw [(hN a z).1] at e; cases e
  have pr : Pres Z.S H H' := fun b o e n => hk b o e fun m => n (hS b m)
  have kp : Kp Z.S H (N ++ Z.S) H' := fun x c r => r.keep pr sb
  have tp : ∀ b o, H b = some o → Solid o → H' b = some o := fun b o e n => hk b o e fun m => by
    obtain ⟨o', e', n'⟩ := k.dom b (hS b m)
    rw [e] at e'
    cases e'
    exact n' n
  have R'S : ∀ a ∈ R', a ∈ N ++ Z.S := fun a m => (hs' a m).elim (fun z => List.mem_append_right _ (hS a z)) fun z => List.mem_append_left _ z
  have sep' : ∀ (j : Nat) (ev : EV), i ≠ j → Z.ρ[j]? = some (some ev) → ∀ a ∈ R', a ∉ ev.foot := fun j ev hij e a ma m => by
    rcases hs' a ma with z | z
    · exact hij (k.sep i j _ ev h e a z m)
    · exact nS a z (k.footS e a m)
  refine ⟨⟨by simp [k.len], fun j ev e => ?_, fun j l e f h1 h2 a m1 m2 => ?_, fun j e h' a m => ?_, fun a m => ?_, fun b o e n => ?_, fun a m => List.mem_append_right _ (k.sub a m), fun b o e n => tp b o (k.tups b o e n) n, k.bsd, fun x c m => kp _ _ (k.kept x c m), fun a o m => ?_, fun a m => List.mem_append_right _ (k.msub a m), fun j q2 ds2 h' => (set_cases h').elim (fun z => by cases z.2.1) fun z => k.ownM j q2 ds2 z.2⟩, kp⟩
  · rcases set_cases e with ⟨rfl, rfl, hl'⟩ | ⟨hij, e⟩
    · exact ⟨_, e0, rfl, R'S, hP, hs⟩
    · obtain ⟨o, h1, h2⟩ := k.env j ev e
      refine ⟨o, h1, ?_⟩
      have nf : ∀ a ∈ R, a ∉ ev.foot := fun a ma m => hij (k.sep i j _ ev h e a ma m)
      cases ev with
      | dat d => obtain ⟨v, e, r⟩ := h2; exact ⟨v, e, kp _ _ r⟩
      | own q2 ds2 =>
        obtain ⟨e, m, zs, hq, r⟩ := h2
        exact ⟨e, List.mem_append_right _ m, zs, hk _ _ hq fun m' => nf _ m' (List.mem_singleton.mpr rfl), kp.all r⟩
      | res R2 v2 P2 =>
        obtain ⟨e, m, p, sd⟩ := h2
        refine ⟨e, fun a z => List.mem_append_right _ (m a z), sd _ _ H _ p (fun b o e hb => ?_) sb, sd⟩
        rcases hb with hb | hb | hb
        · exact hk _ _ e fun m' => nf _ m' hb
        · exact pr b o e hb
        · exact tp b o e hb
  · rcases set_cases h1 with ⟨rfl, rfl, _⟩ | ⟨n1, h1⟩
    · rcases set_cases h2 with ⟨rfl, rfl, _⟩ | ⟨n2, h2⟩
      · rfl
      · exact absurd m2 (sep' l f n2 h2 a m1)
    · rcases set_cases h2 with ⟨rfl, rfl, _⟩ | ⟨n2, h2⟩
      · exact absurd m1 (sep' j e n1 h1 a m2)
      · exact k.sep j l e f h1 h2 a m1 m2
  · rcases set_cases h' with ⟨rfl, rfl, _⟩ | ⟨_, h'⟩
    · rcases hs' a m with z | z
      · exact k.mine i _ h a z
      · by_cases hm : a ∈ B.M
        · exact .inl hm
        · refine .inr ?_
          cases e : B.H a with
          | none => rfl
          | some o => have z := (hN a z).1; rw [k.out a o e hm] at z; cases z
    · exact k.mine j e h' a m
  · rcases List.mem_append.mp m with z | z
    · exact (hN a z).2
    · by_cases y : a ∈ R
      · exact hR a y
      · obtain ⟨o, e, n⟩ := k.dom a z
        exact ⟨o, hk _ _ e y, n⟩
  · refine hk _ _ (k.out b o e n) fun m => ?_
    rcases k.mine i _ h b m with w | w
    · exact n w
    · rw [w] at e; cases e
  · obtain ⟨h1, h2, h3⟩ := k.held a o m
    refine ⟨List.mem_append_right _ h1, hk _ _ h2 fun z => h3 i _ h z, fun j e h' => ?_⟩
    rcases set_cases h' with ⟨hj, he, _⟩ | ⟨_, h'⟩
    · rw [he]
      intro z
      rcases hs' a z with y | y
      · exact h3 i (.res R v P) h y
      · rw [(hN a y).1] at h2; cases h2
    · exact h3 j e h'
/-! ### fields -/
theorem putF_new {f : Str} {u : V} : ∀ {ns : List Str} {vs : List V}, vs.length = ns.length → (∀ g ∈ ns, g ≠ f) → putF f u (ns.zip vs) = (ns ++ [f]).zip (vs ++ [u])
  | [], [], _, _ => rfl
  | g :: ns, v :: vs, hl, h => by
    show (if g = f then (g, u) :: ns.zip vs else (g, v) :: putF f u (ns.zip vs)) = (g, v) :: (ns ++ [f]).zip (vs ++ [u])
    rw [if_neg (h g (List.mem_cons_self ..)), putF_new (by simpa using hl) fun x hx => h x (List.mem_cons_of_mem _ hx)]
  | [], _ :: _, hl, _ => by simp at hl
  | _ :: _, [], hl, _ => by simp at hl
theorem putF_at {f : Str} {u : V} : ∀ {ns : List Str} {vs : List V} {i : Nat}, vs.length = ns.length → ns[i]? = some f → (∀ j, j < i → ns[j]? ≠ some f) → putF f u (ns.zip vs) = ns.zip (vs.set i u)
  | [], [], i, _, h, _ => by simp at h
  | g :: ns, v :: vs, 0, hl, h, _ => by
    have e : g = f := by simpa using h
    show (if g = f then (g, u) :: ns.zip vs else (g, v) :: putF f u (ns.zip vs)) = (g, u) :: ns.zip vs
    rw [if_pos e]
  | g :: ns, v :: vs, i + 1, hl, h, hb => by
    have e : g ≠ f := fun z => hb 0 (by omega) (by simp [z])
    show (if g = f then (g, u) :: ns.zip vs else (g, v) :: putF f u (ns.zip vs)) = (g, v) :: ns.zip (vs.set i u)
    rw [if_neg e, putF_at (i := i) (by simpa using hl) (by simpa using h) fun j hj => by simpa using hb (j + 1) (by omega)]
  | [], _ :: _, _, hl, _, _ => by simp at hl
  | _ :: _, [], _, hl, _, _ => by simp at hl
theorem foot_new {fs : Fs} {f : Str} {y : Fv} : footL (fs ++ [(f, y)]) = footL fs ++ y.foot := by
  unfold footL
  rw [List.flatMap_append]
  simp
def noFldB (fs : Fs) (f : Str) : Bool := fs.all fun q => !(q.1 == f)
theorem noFld_of {fs : Fs} {f : Str} (h : noFldB fs f = true) : ∀ g ∈ fs.map (·.1), g ≠ f := fun g hg e => by
  obtain ⟨q, hq, rfl⟩ := List.mem_map.mp hg
  unfold noFldB at h
  rw [List.all_eq_true] at h
  have := h q hq
  simp [e] at this
theorem noFld_look {fs : Fs} {f : Str} (h : noFldB fs f = true) {vs : List V} : ((fs.map (·.1)).zip vs).lookup f = none := by
  replace h := noFld_of h
  revert h
  induction fs generalizing vs with
  | nil => intro _; rfl
  | cons q fs ih =>
    intro h
    cases vs with
    | nil => rfl
    | cons v vs =>
      rw [List.map_cons, List.zip_cons_cons, List.lookup_cons]
      have : (f == q.1) = false := by simpa using fun z : f = q.1 => h q.1 (by simp) z.symm
      rw [this]
      exact ih fun g hg => h g (by simp at hg ⊢; exact .inr hg)
section
variable {G : Ctx} {Z Z1 Z2 Z3 : State} {o b c e : Expr} {es : List Expr} {ds : List D} {pos pos' p p2 apos : Pos} {d d0 d1 d2 : D} {x f : Str} {P : OutS → Prop} {v : V} {C a dx r : Addr} {fs : Fs} {names : List Str}
/-- the instance's fields after a store of a new one -/
theorem ins_new {S S' : List Addr} {H H' : Hp} {y : Fv} {u : V} (I : InsP C a dx fs S H) (hn : ∀ g ∈ fs.map (·.1), g ≠ f) (ha : ∃ vs : List V, vs.length = fs.length ∧ H a = some (.ins C dx ((fs.map (·.1)).zip vs)) ∧ H' a = some (.ins C dx (putF f u ((fs.map (·.1)).zip vs))) ∧ (∀ (i : Nat) (q : Str × Fv) (v : V), fs[i]? = some q → vs[i]? = some v → q.2.ok S H v))
    (hd : H' dx = some (.own a)) (hk : ∀ b o, H b = some o → b ≠ a → H' b = some o) (na : ∀ b ∈ footL fs, b ≠ a) (nS : a ∈ S) (hs : ∀ a o, H a = some o → a ∈ S' → a ∈ S) (hy : y.ok S' H' u) (nd : (footL fs ++ y.foot).Nodup) : InsP C a dx (fs ++ [(f, y)]) S' H' := by
  obtain ⟨vs, hl, h1, h2, h3⟩ := ha
  refine ⟨⟨vs ++ [u], by simp [hl], ?_, hd, fun i q w e1 e2 => ?_⟩, by rw [foot_new]; exact nd⟩
  · rw [h2, putF_new (by simpa using hl) hn, List.map_append]
    rfl
  · by_cases hi : i < fs.length
    · rw [List.getElem?_append_left hi] at e1
      rw [List.getElem?_append_left (by omega)] at e2
      refine Fv.keep (x := q.2) (h3 i q w e1 e2) (fun b o e hb => hk b o e ?_) hs
      rcases hb with hb | hb
      · exact na b (foot_mem e1 hb)
      · exact fun z => hb (by rw [z]; exact nS)
    · rw [List.getElem?_append_right (by omega)] at e1 e2
      have hz : i - fs.length = 0 := by
        have := (List.getElem?_eq_some_iff.mp e1).1
        simp at this
        omega
      rw [hz] at e1
      rw [hl, hz] at e2
      cases e1
      cases e2
      exact hy
/-- o.f = e, a new field of data -/
theorem js_fldD (s : Nat) (K : CK G.g C names) (he : JE G e Z d Z1) (ho : JE G o Z1 (.ref a) Z1) (h : Z1.ρ[s]? = some (some (thg v d0 C a dx fs))) (hp : P (.nx ⟨Z1.S, Z1.ρ.set s (some (thg v d0 C a dx (fs ++ [(f, .dat d)])))⟩)) (hf : f ∈ names := by simp) (hno : noFldB fs f = true := by rfl) (hl : fs.length < 900 := by exact Nat.le_of_ble_eq_true rfl)
    (hs : ∀ env, swapsWith e (some (.Attribute o f pos')) pos.line env = pure false := by intro _; rfl) : JS G (.Assign [.Attribute o f pos'] e pos) Z P := by
  intro X t B σ H k W E tk en
  refine ⟨_, ps_fld p_E p_E (hs _), he X t B σ H k _ fun u H1 k1 p1 r1 => ho X t B σ H1 k1 _ fun w H2 k2 p2 r2 => ?_⟩
  cases r2.inv_ref
  obtain ⟨o0, e0, e1, hS, hpp, _⟩ := k2.env s _ h
  obtain ⟨rv, I⟩ := hpp
  obtain ⟨⟨vs, hvl, h1, h2, h3⟩, nd⟩ := id I
  have aS : a ∈ Z1.S := hS a (by simp)
  have nxa : dx ≠ a := fun z => by rw [z, h1] at h2; cases h2
  have na : ∀ b ∈ footL fs, b ≠ a := fun b hb z => by
    obtain ⟨q, hq, hbq⟩ := List.mem_flatMap.mp hb
    obtain ⟨i, hi⟩ := List.getElem?_of_mem hq
    have il : i < vs.length := by rw [hvl]; exact (List.getElem?_eq_some_iff.mp hi).1
    have := h3 i q vs[i] hi (List.getElem?_eq_getElem il)
    obtain ⟨q1, q2⟩ := q
    cases q2 with
    | dat d => cases hbq
    | li r ds =>
      obtain ⟨_, xs, hx, _⟩ := this
      have hbr : b = r := List.mem_singleton.mp hbq
      rw [hbr] at z
      rw [z, h1] at hx
      cases hx
  refine ⟨a, C, dx, _, rfl, h1, by rw [t.K]; exact K.cls, by rw [t.K]; exact K.no f hf, by rw [List.length_zip, List.length_map]; omega, ?_⟩
  have pr : Pres Z1.S H2 (upd H2 a (.ins C dx (putF f u ((fs.map (·.1)).zip vs)))) := fun b o e n => by rw [upd_ne (fun z => n (by rw [z]; exact aS))]; exact e
  have I2 : InsP C a dx (fs ++ [(f, .dat d)]) Z1.S (upd H2 a (.ins C dx (putF f u ((fs.map (·.1)).zip vs)))) := ins_new (f := f) (y := .dat d) (u := u) I (noFld_of hno) ⟨vs, hvl, h1, upd_same, h3⟩ (by rw [upd_ne nxa]; exact h2) (fun b o e n => by rw [upd_ne n]; exact e) na aS (fun _ _ _ z => z) (Rp.keep pr (fun _ _ _ z => z) (p2 _ _ r1)) (by simpa [Fv.foot] using nd)
  have fe : footL (fs ++ [(f, .dat d)]) = footL fs := by rw [foot_new]; simp [Fv.foot]
  have main := k2.mutRes (H' := upd H2 a (.ins C dx (putF f u ((fs.map (·.1)).zip vs)))) (P' := fun S H => Rp S H v d0 ∧ InsP C a dx (fs ++ [(f, .dat d)]) S H) h (fun b o e n => by rw [upd_ne (fun z => n (by rw [z]; simp))]; exact e) (fun b m => ?_) ⟨rv.keep pr fun _ _ _ z => z, I2⟩ (by
    have := thg_sound (v := v) (d0 := d0) (C := C) (a := a) (dx := dx) (fs := fs ++ [(f, .dat d)])
    rw [fe] at this
    exact this)
  · refine en.nx _ _ _ hp ?_
    show Ok B ⟨Z1.S, Z1.ρ.set s (some (.res (a :: dx :: footL (fs ++ [(f, .dat d)])) v _))⟩ _ _
    rw [fe]
    exact main.1
  · by_cases z : b = a
    · rw [z]; exact ⟨_, upd_same, fun z => z⟩
    · obtain ⟨o, e, n⟩ := k2.dom b (hS b m)
      exact ⟨o, by rw [upd_ne z]; exact e, n⟩
end
end JL

namespace JL
open PySem PySem.Spec L2
/-- what stood apart becomes slot i's own -/
theorem Ok.takeOwn {B : Bs} {Z : State} {σ : L2.St} {H : Hp} {q : Addr} {xs : List V} {ds : List D} (k : Ok (HB B q xs) Z σ H) (i : Nat) (hM : q ∉ B.M) (hH : B.H q = none) (hh : ∀ a o, B.held a o → a ≠ q) (r : RpA Z.S H xs ds) :
    Ok B ⟨Z.S, Z.ρ.set i (some (.own q ds))⟩ (σ.set i (some (.ref q))) H := by
  obtain ⟨hS, hl, hf⟩ := k.held q _ (.inr ⟨rfl, rfl⟩)
  refine ⟨by simp [k.len], fun j ev e => ?_, fun j l e f h1 h2 a m1 m2 => ?_, fun j e h a m => ?_, k.dom, k.out, k.sub, k.tups, k.bsd, k.kept, fun a o m => ?_, k.msub, fun j q2 ds2 h => (set_cases h).elim (fun z => by cases z.2.1; exact hM) fun z => k.ownM j q2 ds2 z.2⟩
  · rcases set_cases e with ⟨rfl, rfl, hl'⟩ | ⟨hij, e⟩
    · rw [List.getElem?_set_self (by rw [← k.len]; exact hl')]
      exact ⟨_, rfl, rfl, hS, xs, hl, r⟩
    · rw [List.getElem?_set_ne hij]
      exact k.env j ev e
  · rcases set_cases h1 with ⟨rfl, rfl, _⟩ | ⟨n1, h1⟩
    · rcases set_cases h2 with ⟨rfl, rfl, _⟩ | ⟨n2, h2⟩
      · rfl
      · rw [List.mem_singleton.mp m1] at m2
        exact absurd m2 (hf l f h2)
    · rcases set_cases h2 with ⟨rfl, rfl, _⟩ | ⟨n2, h2⟩
      · rw [List.mem_singleton.mp m2] at m1
        exact absurd m1 (hf j e h1)
      · exact k.sep j l e f h1 h2 a m1 m2
  · rcases set_cases h with ⟨rfl, rfl, _⟩ | ⟨_, h⟩
    · rw [List.mem_singleton.mp m]; exact .inr hH
    · exact k.mine j e h a m
  · obtain ⟨h1, h2, h3⟩ := k.held a o (.inl m)
    refine ⟨h1, h2, fun j e h => ?_⟩
    rcases set_cases h with ⟨rfl, rfl, _⟩ | ⟨_, h⟩
    · intro z; exact hh a o m (List.mem_singleton.mp z)
    · exact h3 j e h
theorem Ok.swapRes {B : Bs} {Z : State} {σ : L2.St} {H : Hp} {q : Addr} {xs : List V} {i : Nat} {R R' : List Addr} {v : V} {P P' : List Addr → Hp → Prop} (k : Ok (HB B q xs) Z σ H) (h : Z.ρ[i]? = some (some (.res R v P))) (hH : B.H q = none) (hh : ∀ a o, B.held a o → a ≠ q) (hs' : ∀ a ∈ R', a ∈ R ∨ a = q) (hP : P' Z.S H) (hs : Sound R' P') :
    Ok B ⟨Z.S, Z.ρ.set i (some (.res R' v P'))⟩ σ H := by
  obtain ⟨qS, ql, qf⟩ := k.held q _ (.inr ⟨rfl, rfl⟩)
  obtain ⟨o0, e0, e1, hS, _, _⟩ := k.env i _ h
  subst e1
  have sep' : ∀ (j : Nat) (ev : EV), i ≠ j → Z.ρ[j]? = some (some ev) → ∀ a ∈ R', a ∉ ev.foot := fun j ev hij e a ma m => by
    rcases hs' a ma with z | z
    · exact hij (k.sep i j _ ev h e a z m)
    · rw [z] at m; exact qf j ev e m
  refine ⟨by simp [k.len], fun j ev e => ?_, fun j l e f h1 h2 a m1 m2 => ?_, fun j e h' a m => ?_, k.dom, k.out, k.sub, k.tups, k.bsd, k.kept, fun a o m => ?_, k.msub, fun j q2 ds2 h' => (set_cases h').elim (fun z => by cases z.2.1) fun z => k.ownM j q2 ds2 z.2⟩
  · rcases set_cases e with ⟨rfl, rfl, hl'⟩ | ⟨hij, e⟩
    · exact ⟨_, e0, rfl, fun a m => (hs' a m).elim (hS a) fun z => by rw [z]; exact qS, hP, hs⟩
    · exact k.env j ev e
  · rcases set_cases h1 with ⟨rfl, rfl, _⟩ | ⟨n1, h1⟩
    · rcases set_cases h2 with ⟨rfl, rfl, _⟩ | ⟨n2, h2⟩
      · rfl
      · exact absurd m2 (sep' l f n2 h2 a m1)
    · rcases set_cases h2 with ⟨rfl, rfl, _⟩ | ⟨n2, h2⟩
      · exact absurd m1 (sep' j e n1 h1 a m2)
      · exact k.sep j l e f h1 h2 a m1 m2
  · rcases set_cases h' with ⟨rfl, rfl, _⟩ | ⟨_, h'⟩
    · rcases hs' a m with z | z
      · exact k.mine i _ h a z
      · rw [z]; exact .inr hH
    · exact k.mine j e h' a m
  · obtain ⟨h1, h2, h3⟩ := k.held a o (.inl m)
    refine ⟨h1, h2, fun j e h' => ?_⟩
    rcases set_cases h' with ⟨hj, he, _⟩ | ⟨_, h'⟩
    · rw [he]
      intro z
      rcases hs' a z with y | y
      · exact h3 i (.res R v P) h y
      · exact hh a o m y
    · exact h3 j e h'
/-- what stood apart becomes a thing's -/
theorem Ok.takeRes {B : Bs} {Z : State} {σ : L2.St} {H H' : Hp} {q : Addr} {xs : List V} {i : Nat} {R R' : List Addr} {v : V} {P P' : List Addr → Hp → Prop} (k : Ok (HB B q xs) Z σ H) (h : Z.ρ[i]? = some (some (.res R v P))) (hH : B.H q = none) (hh : ∀ a o, B.held a o → a ≠ q)
    (hk : ∀ b o, H b = some o → b ∉ R → H' b = some o) (hR : ∀ a ∈ R, ∃ o, H' a = some o ∧ ¬ Solid o) (hs' : ∀ a ∈ R', a ∈ R ∨ a = q) (hP : P' Z.S H') (hs : Sound R' P') : Ok B ⟨Z.S, Z.ρ.set i (some (.res R' v P'))⟩ σ H' ∧ Kp Z.S H Z.S H' := by
  obtain ⟨k2, kp⟩ := k.mutRes (P' := fun _ _ => True) h hk hR trivial fun _ _ _ _ _ _ _ => trivial
  have il : i < Z.ρ.length := (List.getElem?_eq_some_iff.mp h).1
  have k3 := k2.swapRes (i := i) (R := R) (R' := R') (v := v) (P := fun _ _ => True) (P' := P') (by show (Z.ρ.set i _)[i]? = _; rw [List.getElem?_set_self il]) hH hh hs' hP hs
  have e : (Z.ρ.set i (some (.res R v fun _ _ => True))).set i (some (.res R' v P')) = Z.ρ.set i (some (.res R' v P')) := List.set_set ..
  rw [show (⟨Z.S, (Z.ρ.set i (some (.res R v fun _ _ => True))).set i (some (.res R' v P'))⟩ : State) = ⟨Z.S, Z.ρ.set i (some (.res R' v P'))⟩ by rw [e]] at k3
  exact ⟨k3, kp⟩
theorem InsP.nea {C a dx : Addr} {fs : Fs} {S : List Addr} {H : Hp} (I : InsP C a dx fs S H) : dx ≠ a ∧ ∀ b ∈ footL fs, b ≠ a ∧ b ≠ dx ∧ ∃ xs, H b = some (.lst xs) := by
  obtain ⟨⟨vs, hvl, h1, h2, h3⟩, nd⟩ := I
  refine ⟨fun z => (by rw [z, h1] at h2; cases h2), fun b hb => ?_⟩
  obtain ⟨q, hq, hbq⟩ := List.mem_flatMap.mp hb
  obtain ⟨i, hi⟩ := List.getElem?_of_mem hq
  have il : i < vs.length := by rw [hvl]; exact (List.getElem?_eq_some_iff.mp hi).1
  have := h3 i q vs[i] hi (List.getElem?_eq_getElem il)
  obtain ⟨q1, q2⟩ := q
  cases q2 with
  | dat d => cases hbq
  | li r ds =>
    obtain ⟨_, xs, hx, _⟩ := this
    have hbr : b = r := List.mem_singleton.mp hbq
    subst hbr
    exact ⟨fun z => (by rw [z, h1] at hx; cases hx), fun z => (by rw [z, h2] at hx; cases hx), xs, hx⟩
section
variable {G : Ctx} {Z Z1 Z2 Z3 : State} {o b c e tg iter elt : Expr} {es : List Expr} {ds : List D} {pos pos' p p2 apos : Pos} {d d0 d1 d2 : D} {x f : Str} {P : OutS → Prop} {v : V} {C a dx r : Addr} {fs : Fs} {names : List Str}
/-- x = [.. for ..], to be changed later; x a plain local -/
theorem js_ownLc (i : Nat) {y : Str} {py spos : Pos} {ifs : List Expr} {scope : Scope} (h : JLcF G elt tg iter ifs scope Z ds Z1) (hp : ∀ q, q ∉ Z1.S → P (.nx ⟨q :: Z1.S, Z1.ρ.set i (some (.own q ds))⟩)) (hn : (decide (G.N[i]? = some y) && locL G.sc y) = true := by kernel_rfl)
    (hsw : ∀ env : Env, env.scope = G.sc → swapsWith (.ListComp elt [⟨tg, iter, ifs, 0⟩] scope pos) (some (.Name y py)) spos.line env = pure true := by intro env he; exact sw_true (by rw [he]; rfl) (by rw [he]; kernel_rfl) rfl (by decide +kernel)) :
    JS G (.Assign [.Name y py] (.ListComp elt [⟨tg, iter, ifs, 0⟩] scope pos) spos) Z P := by
  intro X f B σ H k W E tk en
  simp only [Bool.and_eq_true, decide_eq_true_eq] at hn
  obtain ⟨wi, g, tt, te, own, h1, h2, h3, h4, h5, h6, h7⟩ := h X f B σ H k (fun v H1 => E.nx (σ.set i (some v)) H1) fun q xs H1 hh hM hH nq k1 p1 r1 => en.nx _ _ H1 (hp q nq) (k1.takeOwn i hM hH hh r1)
  exact ⟨_, ps_setLc (i := i) f.calm (by rw [f.N]; exact f.nd) (by rw [f.N]; exact hn.1) (by rw [f.sc]; exact locL_of hn.2) (hsw _ f.sc) h1 h2 h3 h4 h5 h6, h7⟩
/-- .. x a cell -/
theorem js_ownLcC (i : Nat) {y : Str} {py spos : Pos} {ifs : List Expr} {scope : Scope} (h : JLcF G elt tg iter ifs scope Z ds Z1) (hp : ∀ q, q ∉ Z1.S → P (.nx ⟨q :: Z1.S, Z1.ρ.set i (some (.own q ds))⟩)) (hn : stB G.N G.sc G.fn i y = true := by kernel_rfl)
    (hs : ∀ env : Env, env.scope = G.sc → swapsWith (.ListComp elt [⟨tg, iter, ifs, 0⟩] scope pos) (some (.Name y py)) spos.line env = pure false) :
    JS G (.Assign [.Name y py] (.ListComp elt [⟨tg, iter, ifs, 0⟩] scope pos) spos) Z P := by
  intro X f B σ H k W E tk en
  simp only [stB, Bool.and_eq_true, decide_eq_true_eq] at hn
  obtain ⟨l1, l2⟩ := loc_of f hn.2
  obtain ⟨wi, g, tt, te, own, h1, h2, h3, h4, h5, h6, h7⟩ := h X f B σ H k (fun v H1 => E.nx (σ.set i (some v)) H1) fun q xs H1 hh hM hH nq k1 p1 r1 => en.nx _ _ H1 (hp q nq) (k1.takeOwn i hM hH hh r1)
  exact ⟨_, ps_set (i := i) (by rw [f.N]; exact f.nd) (by rw [f.N]; exact hn.1) l1 (pe_lc f.calm (by rw [f.N]; exact f.nd) h1 h2 h3 h4 h5 h6) (hs _ f.sc) l2, h7⟩
/-- x = [..] * n, to be changed later -/
theorem js_ownRep (i : Nat) {m : Int} {y : Str} {py p4 : Pos} (ha : JE G c Z (.lst ds) Z1) (hb : JE G b Z1 (.int m) Z2) (hm : 0 ≤ m ∧ m ≤ 1000) (hz : ds.length ≤ 100) (hp : ∀ q, q ∉ Z2.S → P (.nx ⟨q :: Z2.S, Z2.ρ.set i (some (.own q (List.replicate m.toNat ds).flatten))⟩)) (hn : stB G.N G.sc G.fn i y = true := by kernel_rfl)
    (hs : ∀ env, swapsWith (.BinOp c .Mult b p4) (some (.Name y py)) pos.line env = pure false := by intro _; rfl) : JS G (.Assign [.Name y py] (.BinOp c .Mult b p4) pos) Z P := by
  intro X f B σ H k W E tk en
  simp only [stB, Bool.and_eq_true, decide_eq_true_eq] at hn
  obtain ⟨l1, l2⟩ := loc_of f hn.2
  refine ⟨_, ps_set (i := i) (by rw [f.N]; exact f.nd) (by rw [f.N]; exact hn.1) l1 (pe_op op_rep p_E p_E) (hs _) l2, ha X f B σ H k _ fun u H0 k0 p0 r0 => hb X f B σ H0 k0 _ fun w H1 k1 p1 r1 => ?_⟩
  obtain ⟨l, xs, rfl, nl, el, rl⟩ := (p1 _ _ r0).inv_lst
  have key : ∀ j : Nat, RpA Z2.S H1 (List.replicate j xs).flatten (List.replicate j ds).flatten := fun j => by
    induction j with
    | zero => exact RpA.nil
    | succ j ih => rw [List.replicate_succ, List.replicate_succ, List.flatten_cons, List.flatten_cons]; exact rl.append ih
  refine ⟨l, m, xs, rfl, r1.inv_int, el, by omega, by omega, ?_, fun q nq => en.nx _ _ _ (hp q (k1.fresh nq)) (k1.own i nq (key _))⟩
  rw [rl.1]
  exact sz5 (Nat.le_trans (Nat.mul_le_mul hz (show m.toNat ≤ 1000 by omega)) (by decide))
/-- x[j] = e, x a list of its own -/
theorem js_ownSet (s : Nat) {j : Int} {l : Nat} {q : Addr} (he : JE G e Z d Z1) (hb : JE G b Z1 (.int j) Z1) (h : Z1.ρ[s]? = some (some (.own q ds))) (hm : ixN ds.length j = some l) (hp : P (.nx ⟨Z1.S, Z1.ρ.set s (some (.own q (ds.set l d)))⟩)) (hn : nmB G.N G.sc s x = true := by kernel_rfl)
    (ha : ∀ env v, assign (.Subscript (.Name x p) b p2) env v = (do
      let ov ← holding [v] (eval (.Name x p) env)
      let iv ← holding [v, ov] (eval b env)
      standAt p2
      holding [v, ov, iv] (setItem ov iv v)
      release [v, ov, iv] []) := by intro _ _; rfl)
    (hs : ∀ env, swapsWithSole [.Subscript (.Name x p) b p2] e pos.line env = pure false := by intro _; rfl) (hw : ∀ env, swappedStores [.Subscript (.Name x p) b p2] e env = pure none := by intro _; rfl)
    (h1 : ∀ env, (assignEach [.Subscript (.Name x p) b p2] env).map (·.2) = [assign (.Subscript (.Name x p) b p2) env] := by intro _; rfl) : JS G (.Assign [.Subscript (.Name x p) b p2] e pos) Z P := by
  intro X f B σ H k W E tk en
  refine ⟨_, ps_asg p_E (pg_sub (pe_slot f hn) p_E set_list (ha _)) (hs _) (hw _) (h1 _), he X f B σ H k _ fun v H1 k1 p1 r1 => ?_⟩
  obtain ⟨o0, e0, e1, _⟩ := k1.env s _ h
  subst e1
  refine ⟨.ref q, e0, hb X f B σ H1 k1 _ fun y H2 k2 p2 r2 => ?_⟩
  obtain ⟨o1, e2, e3, _, xs, hq, rx⟩ := k2.env s _ h
  cases r2.inv_int
  obtain ⟨k3, _⟩ := k2.mut h (rx.set l (p2 _ _ r1))
  exact ⟨q, xs, j, l, rfl, rfl, hq, by rw [rx.1]; exact hm, en.nx _ _ _ hp k3⟩
/-- c[j] = e, c a thing's own list -/
theorem js_setLi (s i : Nat) {j : Int} {l : Nat} (he : JE G e Z d Z1) (hc : JE G c Z1 (.ref r) Z1) (hb : JE G b Z1 (.int j) Z1) (h : Z1.ρ[s]? = some (some (thg v d0 C a dx fs))) (hi : fs[i]? = some (f, .li r ds)) (hm : ixN ds.length j = some l) (hp : P (.nx ⟨Z1.S, Z1.ρ.set s (some (thg v d0 C a dx (fs.set i (f, .li r (ds.set l d)))))⟩))
    (ha : ∀ env v, assign (.Subscript c b p2) env v = (do
      let ov ← holding [v] (eval c env)
      let iv ← holding [v, ov] (eval b env)
      standAt p2
      holding [v, ov, iv] (setItem ov iv v)
      release [v, ov, iv] []) := by intro _ _; rfl)
    (hs : ∀ env, swapsWithSole [.Subscript c b p2] e pos.line env = pure false := by intro _; rfl) (hw : ∀ env, swappedStores [.Subscript c b p2] e env = pure none := by intro _; rfl)
    (h1 : ∀ env, (assignEach [.Subscript c b p2] env).map (·.2) = [assign (.Subscript c b p2) env] := by intro _; rfl) : JS G (.Assign [.Subscript c b p2] e pos) Z P := by
  intro X t B σ H k W E tk en
  refine ⟨_, ps_asg p_E (pg_sub p_E p_E set_list (ha _)) (hs _) (hw _) (h1 _), he X t B σ H k _ fun u H1 k1 p1 r1 => hc X t B σ H1 k1 _ fun w H2 k2 p2 r2 => hb X t B σ H2 k2 _ fun y H3 k3 p3 r3 => ?_⟩
  cases r2.inv_ref
  cases r3.inv_int
  obtain ⟨xs, hx, rx⟩ := has_thg s i h hi B σ H3 k3
  obtain ⟨k4, _⟩ := k3.mutLi h hi (ds' := ds.set l d) (rx.set l (p3 _ _ (p2 _ _ r1)))
  exact ⟨r, xs, j, l, rfl, rfl, hx, by rw [rx.1]; exact hm, en.nx _ _ _ hp k4⟩
/-- c.append(e), c a thing's own list -/
theorem js_appLi {ds1 : List D} (s i : Nat) (hc : JE G c Z (.ref r) Z) (he : JE G e Z d Z1) (h0 : Has Z r ds1) (h : Z1.ρ[s]? = some (some (thg v d0 C a dx fs))) (hi : fs[i]? = some (f, .li r ds)) (hp : P (.nx ⟨Z1.S, Z1.ρ.set s (some (thg v d0 C a dx (fs.set i (f, .li r (ds ++ [d])))))⟩)) (hz : ds.length < 100000 := by first | exact Nat.le_of_ble_eq_true rfl | omega)
    (hs : ∀ env, swapsWith (.Call (.Attribute c "append" apos) [e] [] pos') none pos.line env = pure false := by intro _; rfl) (hst : ∀ env, starEach [e] env = (false, eval e env) :: starEach [] env := by intro _; rfl)
    (hbase : ∀ env, attributeBase c "append" env (eval c env) = eval c env := by intro _; rfl)
    (hfew : ∀ env, ((backTo pos' (starEach [e] env)).all (fun x => !x.1) && (backToKw pos' (keywordEach [] env)).all (fun x => x.1.isSome) && decide ([e].length + ([] : List Keyword).length + (if ([] : List Keyword).isEmpty then 0 else 1) < 30)) = true := by intro _; rfl)
    (hline : (apos.endLine == pos'.line) = true := by rfl) :
    JS G (.Expr (.Call (.Attribute c "append" apos) [e] [] pos') pos) Z P := by
  intro X t B σ H k W E tk en
  refine ⟨_, ps_expr (pe_bm PySem.F.plainAttrs_list PySem.F.slot_list_append PySem.F.type_list_append mt_append p_E p_A (hbase _) (hfew _) hline (hst _) (by rfl)) (hs _), hc X t B σ H k _ fun w H1 k1 p1 r1 => ?_⟩
  cases r1.inv_ref
  obtain ⟨xs, hx, rx⟩ := h0 B σ H1 k1
  refine ⟨.inl ⟨rfl, xs, .of hx⟩, tCons (wE X e) tNil, pa_cons p_E pa_nil (hst _), he X t B σ H1 k1 _ fun u H2 k2 p2 r2 => ?_⟩
  obtain ⟨ys, hy, ry⟩ := has_thg s i h hi B σ H2 k2
  obtain ⟨k3, _⟩ := k2.mutLi h hi (ds' := ds ++ [d]) (ry.append (RpA.cons r2 RpA.nil))
  exact ⟨r, ys, u, rfl, rfl, hy, by rw [ry.1]; exact Nat.lt_of_lt_of_le hz (by decide), en.nx _ _ _ hp k3⟩
end
end JL

namespace JL
open PySem PySem.Spec L2
section
variable {G : Ctx} {Z Z1 Z2 Z3 : State} {o b c e tg iter elt : Expr} {es : List Expr} {ds : List D} {pos pos' p p2 apos : Pos} {d d0 d1 d2 : D} {x f : Str} {P : OutS → Prop} {v : V} {C a dx r : Addr} {fs : Fs} {names : List Str}
theorem RpA.erase {S : List Addr} {H : Hp} {xs : List V} {ds : List D} (h : RpA S H xs ds) (n : Nat) : RpA S H (xs.eraseIdx n) (ds.eraseIdx n) :=
  ⟨by rw [List.length_eraseIdx, List.length_eraseIdx, h.1], fun i x d e1 e2 => by
    rw [List.getElem?_eraseIdx] at e1 e2
    split at e1
    · rename_i hi; rw [if_pos hi] at e2; exact h.2 i x d e1 e2
    · rename_i hi; rw [if_neg hi] at e2; exact h.2 _ x d e1 e2⟩
/-- c.pop(e), c a thing's own list -/
theorem js_popLi {ds1 : List D} {j : Nat} (s i : Nat) (hc : JE G c Z (.ref r) Z) (he : JE G e Z (.int (j : Int)) Z1) (h0 : Has Z r ds1) (h : Z1.ρ[s]? = some (some (thg v d0 C a dx fs))) (hi : fs[i]? = some (f, .li r ds)) (hj : j < ds.length) (hz : ds.length ≤ 100000) (hp : P (.nx ⟨Z1.S, Z1.ρ.set s (some (thg v d0 C a dx (fs.set i (f, .li r (ds.eraseIdx j)))))⟩))
    (hs : ∀ env, swapsWith (.Call (.Attribute c "pop" apos) [e] [] pos') none pos.line env = pure false := by intro _; rfl) (hst : ∀ env, starEach [e] env = (false, eval e env) :: starEach [] env := by intro _; rfl)
    (hbase : ∀ env, attributeBase c "pop" env (eval c env) = eval c env := by intro _; rfl)
    (hfew : ∀ env, ((backTo pos' (starEach [e] env)).all (fun x => !x.1) && (backToKw pos' (keywordEach [] env)).all (fun x => x.1.isSome) && decide ([e].length + ([] : List Keyword).length + (if ([] : List Keyword).isEmpty then 0 else 1) < 30)) = true := by intro _; rfl)
    (hline : (apos.endLine == pos'.line) = true := by rfl) :
    JS G (.Expr (.Call (.Attribute c "pop" apos) [e] [] pos') pos) Z P := by
  intro X t B σ H k W E tk en
  refine ⟨_, ps_expr (pe_bm PySem.F.plainAttrs_list PySem.F.slot_list_pop PySem.F.type_list_pop mt_popAt p_E p_A (hbase _) (hfew _) hline (hst _) (by rfl)) (hs _), hc X t B σ H k _ fun w H1 k1 p1 r1 => ?_⟩
  cases r1.inv_ref
  obtain ⟨xs, hx, rx⟩ := h0 B σ H1 k1
  refine ⟨.inl ⟨rfl, xs, .of hx⟩, tCons (wE X e) tNil, pa_cons p_E pa_nil (hst _), he X t B σ H1 k1 _ fun u H2 k2 p2 r2 => ?_⟩
  obtain ⟨ys, hy, ry⟩ := has_thg s i h hi B σ H2 k2
  cases r2.inv_int
  obtain ⟨k3, _⟩ := k2.mutLi h hi (ds' := ds.eraseIdx j) (ry.erase j)
  have hl : j < ys.length := by rw [ry.1]; exact hj
  refine ⟨r, ys, (j : Int), j, ys[j], rfl, rfl, hy, by omega, ?_, ?_, List.getElem?_eq_getElem hl, en.nx _ _ _ hp k3⟩
  · exact Int.lt_of_lt_of_le (show (j : Int) < 100000 by omega) (by decide)
  · have hneg : ¬ ((j : Int) < 0) := by omega
    unfold seqIndex?
    simp [hneg, hl]
/-- the store of a list that stood apart into a new field -/
theorem fld_store {B : Bs} {X : Cx} {S : List Addr} {ρ : Rho} {σ : L2.St} {H2 : Hp} {q : Addr} {us : List V} {Q : Hp → Prop} (K : CK G.g C names) (s : Nat) (t : Fits G X) (k2 : Ok (HB B q us) ⟨q :: S, ρ⟩ σ H2) (h : ρ[s]? = some (some (thg v d0 C a dx fs))) (fH : B.H q = none) (fh : ∀ a o, B.held a o → a ≠ q) (r : RpA (q :: S) H2 us ds) (hf : f ∈ names) (hno : noFldB fs f = true) (hl : fs.length < 900)
    (hQ : ∀ H3, Ok B ⟨q :: S, ρ.set s (some (thg v d0 C a dx (fs ++ [(f, .li q ds)])))⟩ σ H3 → Q H3) : ∃ a' C' dx' fs', V.ref a = .ref a' ∧ H2 a' = some (.ins C' dx' fs') ∧ Cls X.K C' ∧ NoAttr X.K C' f ∧ fs'.length < 1000 ∧ Q (upd H2 a' (.ins C' dx' (putF f (.ref q) fs'))) := by
  obtain ⟨o0, e0, e1, hS, hpp, _⟩ := k2.env s _ h
  obtain ⟨rv, I⟩ := hpp
  obtain ⟨⟨vs, hvl, h1, h2, h3⟩, nd⟩ := id I
  obtain ⟨nxa, nf⟩ := I.nea
  obtain ⟨qS, ql, qf⟩ := k2.held q _ (.inr ⟨rfl, rfl⟩)
  have aS : a ∈ q :: S := hS a (by simp)
  have naq : a ≠ q := fun z => by rw [z, ql] at h1; cases h1
  have qnf : q ∉ footL fs := fun m => qf s _ h (by show q ∈ a :: dx :: footL fs; simp [m])
  refine ⟨a, C, dx, _, rfl, h1, by rw [t.K]; exact K.cls, by rw [t.K]; exact K.no f hf, by rw [List.length_zip, List.length_map]; omega, hQ _ ?_⟩
  have pr : Pres (q :: S) H2 (upd H2 a (.ins C dx (putF f (.ref q) ((fs.map (·.1)).zip vs)))) := fun b o e n => by rw [upd_ne (fun z => n (by rw [z]; exact aS))]; exact e
  have I2 : InsP C a dx (fs ++ [(f, .li q ds)]) (q :: S) (upd H2 a (.ins C dx (putF f (.ref q) ((fs.map (·.1)).zip vs)))) := ins_new (f := f) (y := .li q ds) (u := .ref q) I (noFld_of hno) ⟨vs, hvl, h1, upd_same, h3⟩ (by rw [upd_ne nxa]; exact h2) (fun b o e n => by rw [upd_ne n]; exact e) (fun b hb => (nf b hb).1) aS (fun _ _ _ z => z)
    ⟨rfl, us, by rw [upd_ne (Ne.symm naq)]; exact ql, r.keep pr fun _ _ _ z => z⟩ (by
      show (footL fs ++ [q]).Nodup
      rw [List.nodup_append]
      refine ⟨nd, by simp, fun x hx y hy => ?_⟩
      rw [List.mem_singleton.mp hy]
      exact fun z => qnf (by rw [← z]; exact hx))
  refine (k2.takeRes (R' := a :: dx :: footL (fs ++ [(f, .li q ds)])) (P' := fun S H => Rp S H v d0 ∧ InsP C a dx (fs ++ [(f, .li q ds)]) S H) h fH fh (fun b o e n => by rw [upd_ne (fun z => n (by rw [z]; simp))]; exact e) (fun b m => ?_) (fun b m => ?_) ⟨rv.keep pr fun _ _ _ z => z, I2⟩ thg_sound).1
  · by_cases z : b = a
    · rw [z]; exact ⟨_, upd_same, fun z => z⟩
    · obtain ⟨o, e, n⟩ := k2.dom b (hS b m)
      exact ⟨o, by rw [upd_ne z]; exact e, n⟩
  · rw [foot_new] at m
    simp only [List.mem_cons, List.mem_append, Fv.foot, List.not_mem_nil, or_false] at m ⊢
    rcases m with m | m | m | m <;> simp [m]
/-- o.f = [..], the thing's own -/
theorem js_fldOwn (s : Nat) (K : CK G.g C names) (he : JA G es Z ds Z1) (ho : ∀ T, JE G o ⟨T, Z1.ρ⟩ (.ref a) ⟨T, Z1.ρ⟩) (h : Z1.ρ[s]? = some (some (thg v d0 C a dx fs))) (hp : ∀ q, q ∉ Z1.S → P (.nx ⟨q :: Z1.S, Z1.ρ.set s (some (thg v d0 C a dx (fs ++ [(f, .li q ds)])))⟩)) (hf : f ∈ names := by simp) (hno : noFldB fs f = true := by rfl) (hl : fs.length < 900 := by exact Nat.le_of_ble_eq_true rfl) (hz : ds.length ≤ 100000 := by first | exact Nat.le_of_ble_eq_true rfl | omega)
    (hs : ∀ env, swapsWith (.List es p2) (some (.Attribute o f pos')) pos.line env = pure false := by intro _; rfl) : JS G (.Assign [.Attribute o f pos'] (.List es p2) pos) Z P := by
  intro X t B σ H k W E tk en
  refine ⟨_, ps_fld p_E (pe_lst p_A) (hs _), he X t B σ H k _ fun us H1 k1 p1 r1 => ⟨by rw [r1.1]; exact sz5 hz, fun q nq => ?_⟩⟩
  obtain ⟨fM, fH, fS, fh⟩ := k1.freshB nq
  obtain ⟨kA, kpA⟩ := k1.apart (Dl := q) (xs := us) nq
  refine ho (q :: Z1.S) X t _ σ _ kA _ fun w H2 k2 p2 r2 => ?_
  cases r2.inv_ref
  exact fld_store K s t k2 h fH fh (p2.all (kpA.all r1)) hf hno hl fun H3 k3 => en.nx _ _ _ (hp q fS) k3
/-- o.f = [.. for ..], the thing's own -/
theorem js_fldLc (s : Nat) {ifs : List Expr} {scope : Scope} (K : CK G.g C names) (he : JLcF G elt tg iter ifs scope Z ds Z1) (ho : ∀ T, JE G o ⟨T, Z1.ρ⟩ (.ref a) ⟨T, Z1.ρ⟩) (h : Z1.ρ[s]? = some (some (thg v d0 C a dx fs))) (hp : ∀ q, q ∉ Z1.S → P (.nx ⟨q :: Z1.S, Z1.ρ.set s (some (thg v d0 C a dx (fs ++ [(f, .li q ds)])))⟩)) (hf : f ∈ names := by simp) (hno : noFldB fs f = true := by rfl) (hl : fs.length < 900 := by exact Nat.le_of_ble_eq_true rfl)
    (hs : ∀ env, swapsWith (.ListComp elt [⟨tg, iter, ifs, 0⟩] scope p2) (some (.Attribute o f pos')) pos.line env = pure false := by intro _; rfl) : JS G (.Assign [.Attribute o f pos'] (.ListComp elt [⟨tg, iter, ifs, 0⟩] scope p2) pos) Z P := by
  intro X t B σ H k W E tk en
  obtain ⟨wi, g, tt, te, own, h1, h2, h3, h4, h5, h6, h7⟩ := he X t B σ H k (fun u H1 => wE X o σ H1 fun x H2 => ∃ a C dx fs, x = .ref a ∧ H2 a = some (.ins C dx fs) ∧ Cls X.K C ∧ NoAttr X.K C f ∧ fs.length < 1000 ∧ E.nx σ (upd H2 a (.ins C dx (putF f u fs)))) fun q xs H1 hh hM hH nq k1 p1 r1 => ho (q :: Z1.S) X t _ σ _ k1 _ fun w H2 k2 p2 r2 => by
    cases r2.inv_ref
    exact fld_store K s t k2 h hH hh (p2.all r1) hf hno hl fun H3 k3 => en.nx _ _ _ (hp q nq) k3
  exact ⟨_, ps_fld p_E (pe_lc t.calm (by rw [t.N]; exact t.nd) h1 h2 h3 h4 h5 h6) (hs _), h7⟩
end
end JL

namespace JL
open PySem PySem.Spec L2
/-! ### walks over lists by their place -/
def LiAt (r : Addr) (es : List D) (S : List Addr) (H : Hp) : Prop := ∃ xs, H r = some (.lst xs) ∧ RpA S H xs es
structure GoesR (J : It) (ds : List D) (r : Addr) (es : List D) : Prop where
  go : ∀ S H i, LiAt r es S H → i < ds.length → J.go i H
  stop : ∀ S H, LiAt r es S H → J.stop ds.length H
  yld : ∀ S H (i : Nat) x H' d, Dom S H → LiAt r es S H → ds[i]? = some d → J.yld i H x H' → Same H H' ∧ Rp S H' x d
theorem GoesR.walk {J : It} {ds : List D} {r : Addr} {es : List D} (g : GoesR J ds r es) : Walk J ds.length (fun H => ∃ S, Dom S H ∧ LiAt r es S H) (fun i H x H' => ∀ S d, Dom S H → LiAt r es S H → ds[i]? = some d → Same H H' ∧ Rp S H' x d) :=
  ⟨fun i H hi h => by obtain ⟨S, _, h⟩ := h; exact g.go S H i h hi, fun H h => by obtain ⟨S, _, h⟩ := h; exact g.stop S H h, fun i H x H' hi h y S d dm kp e => g.yld S H i x H' d dm kp e y⟩
def JIR (G : Ctx) (tg iter : Expr) (Z : State) (r : Addr) (es ds : List D) (Z' : State) : Prop :=
  ∀ (X : Cx), Fits G X → ∀ (B : Bs) (σ : L2.St) (H : Hp), Ok B Z σ H → ∀ R : It → Hp → Prop, (∀ J H1, Ok B Z' σ H1 → Kp Z.S H Z'.S H1 → GoesR J ds r es → R J H1) → wI X tg iter σ H R
section
variable {G : Ctx} {Z Z1 Z2 Z3 : State} {o b c e tg iter elt : Expr} {es : List Expr} {ds : List D} {pos pos' p p2 apos : Pos} {d d0 d1 d2 : D} {x f m : Str} {P : OutS → Prop} {v : V} {C a dx r : Addr} {fs : Fs} {names : List Str}
theorem jir_list (h : JE G iter Z (.ref r) Z1) (hh : Has Z1 r ds) : JIR G tg iter Z r ds ds Z1 := fun X f B σ H k R q =>
  ⟨_, pi_list p_E, h X f B σ H k _ fun v H1 k1 p1 r1 => by
    obtain ⟨xs, hx, rx⟩ := hh B σ H1 k1
    cases r1.inv_ref
    refine ⟨r, rfl, ⟨xs, .of hx⟩, q _ H1 k1 p1 ⟨fun S H i kp hi => ?_, fun S H kp => ?_, fun S H i x H' d dm kp ed y => ?_⟩⟩
    · obtain ⟨xs', e', ra'⟩ := kp
      have hl : i < xs'.length := by rw [ra'.1]; exact hi
      exact ⟨xs', xs'[i], .of e', List.getElem?_eq_getElem hl⟩
    · obtain ⟨xs', e', ra'⟩ := kp
      exact ⟨xs', .of e', by rw [ra'.1]; exact Nat.le_refl _⟩
    · obtain ⟨xs', e', ra'⟩ := kp
      obtain ⟨rfl, y⟩ := y
      exact ⟨Same.refl _, ra'.2 i x d (y xs' (.of e')) ed⟩⟩
theorem jir_enum {elts : List Expr} {kk : Nat} {tpos : Pos} (B : Bi G.g) (h : JA G [c] Z [.ref r] Z1) (hh : Has Z1 r ds) (hg : glB G.sc "enumerate" = true := by kernel_rfl) (hs : ∀ env, starEach [c] env = [(false, eval c env)] := by intro _; rfl) :
    JIR G (.Tuple elts kk tpos) (.Call (.Name "enumerate" p) [c] [] pos) Z r ds (numd ds) Z1 := fun X f B2 σ H k R q =>
  ⟨_, pi_enum (gl_of f hg).1 (by rw [f.mg]; exact B.enumerate_) p_A (hs _), h X f B2 σ H k _ fun vs H1 k1 p1 r1 => by
    obtain ⟨v, rfl, r2⟩ := one_of r1
    obtain ⟨xs, hx, rx⟩ := hh B2 σ H1 k1
    cases r2.inv_ref
    refine ⟨r, xs, rfl, .of hx, q _ H1 k1 p1 ⟨fun S H i kp hi => ?_, fun S H kp => ?_, fun S H i x H' d dm kp ed y => ?_⟩⟩
    · obtain ⟨xs', e', ra'⟩ := kp
      have hl : i < xs'.length := by rw [ra'.1, ← numd_len]; exact hi
      exact ⟨xs', xs'[i], .of e', List.getElem?_eq_getElem hl⟩
    · obtain ⟨xs', e', ra'⟩ := kp
      exact ⟨xs', .of e', by rw [ra'.1, numd_len]; exact Nat.le_refl _⟩
    · obtain ⟨xs', e', ra'⟩ := kp
      obtain ⟨T, z, rfl, nT, rfl, y⟩ := y
      obtain ⟨d', e2, rfl⟩ := numd_get ed
      exact pair_new dm nT (.int _) (ra'.2 i z d' (y xs' (.of e')) e2)⟩
theorem js_forR {body : List Stmt} {es : List D} (hi : JIR G tg iter Z r es ds Z1) (I : Nat → State → Prop) (h0 : I 0 Z1) (hh : ∀ i Z, I i Z → Has Z r es) (hs : ∀ i d Z, ds[i]? = some d → I i Z → ∃ Z2, JG G tg d Z Z2 ∧ JSs G body Z2 (loopPost (I (i + 1)) P)) (hd : ∀ Z, I ds.length Z → P (.nx Z))
    (hf : ∀ env x, foldedSetIterable iter env x = pure x := by intro _ _; rfl) : JS G (.For tg iter body [] pos) Z P := by
  intro X f B σ H k W E tk en
  refine ⟨_, ps_for f.po f.calm p_I p_G p_Ss (hf _), hi X f B σ H k _ fun J H1 k1 p1 gs => ?_⟩
  refine for_it gs.walk (fun i σ H => ∃ Z, I i Z ∧ Ok B Z σ H) ⟨Z1, h0, k1⟩ (fun i σ H _ h => ?_) (fun i x σ H H' hi h y => ?_) fun σ H h => ?_
  · obtain ⟨Z, hI, k⟩ := h
    exact ⟨Z.S, k.dom, hh i Z hI B σ H k⟩
  · obtain ⟨Zi, hI, ki⟩ := h
    have ed : ds[i]? = some ds[i] := List.getElem?_eq_getElem hi
    obtain ⟨sm, rx⟩ := y Zi.S ds[i] ki.dom (hh i Zi hI B σ H ki) ed
    obtain ⟨Z2, hg, hb⟩ := hs i _ Zi ed hI
    refine hg X f _ σ H' x (ki.same sm) rx _ fun σ2 k2 p2 => ?_
    exact hb X f _ σ2 H' k2 W _ tk ⟨fun Z σ H p k => ⟨Z, p, k⟩, fun Z d v σ H p k => en.rt Z d v σ H p k, fun Z C σ H p k => en.ex Z C σ H p k, fun Z σ H p k => en.nx Z σ H p k, fun Z σ H p k => ⟨Z, p, k⟩⟩
  · obtain ⟨Z, hI, k⟩ := h
    exact en.nx Z σ H (hd Z hI) k
end
/-! ### methods -/
/-- nothing besides R is changed -/
def Chg (R : List Addr) (H H' : Hp) : Prop := ∀ b o, H b = some o → b ∉ R → H' b = some o
def outM (C a dx : Addr) (fs fs' : Fs) (S : List Addr) (H : Hp) (Q : VK) (E : XK) : Out → Prop
  | .ret d => ∀ v H', Chg (a :: dx :: footL fs) H H' → InsP C a dx fs' S H' → Dom S H' → Rp S H' v d → Q v H'
  | .exc X => ∀ H', Chg (a :: dx :: footL fs) H H' → InsP C a dx fs' S H' → Dom S H' → E (.ref X) none H'
/-- what a method promises: R tells the fields, the arguments, how it ends, the fields behind; no new objects come to the thing -/
def spM (C : Addr) (n : Nat) (R : Fs → List D → Out → Fs → Prop) : Sp := fun vs H Q E => ∃ (S : List Addr) (a dx : Addr) (fs fs' : Fs) (ws : List V) (ds : List D) (o : Out), vs = .ref a :: ws ∧ ws.length = n ∧ InsP C a dx fs S H ∧ (∀ b ∈ a :: dx :: footL fs, b ∈ S) ∧ RpA S H ws ds ∧ Dom S H ∧ R fs ds o fs' ∧ footL fs' = footL fs ∧ outM C a dx fs fs' S H Q E o
structure MethS (g : Glob) (C : Addr) (m : Str) (k : Nat) (sp : Sp) : Prop where
  ex : ∃ f fd ps, FnOk g.P g.w g.K g.mg g.base (L2.CX g.P g.w) k f fd ps sp ∧ Meth g.K C m f ∧ Binds g.K fd ps []
abbrev MethAt (g : Glob) (C : Addr) (m qual : Str) (st : Stmt) : Prop := ∃ f fd, Meth g.K C m f ∧ FunD g.K m qual (defArgs st) (defBody st) (defScope st) [] [] f fd
def rhoM (N : List Str) (C a dx : Addr) (fs : Fs) (ds : List D) : Rho := (thg (.ref a) (.ref a) C a dx fs :: ds.map EV.dat).map some ++ List.replicate (N.length - (ds.length + 1)) none
def PostM (C a dx : Addr) (fs' : Fs) (o : Out) : OutS → Prop
  | .rt Z d => o = .ret d ∧ Z.ρ[0]? = some (some (thg (.ref a) (.ref a) C a dx fs'))
  | .nx Z => o = .ret .non ∧ Z.ρ[0]? = some (some (thg (.ref a) (.ref a) C a dx fs'))
  | .ex X Z => o = .exc X ∧ Z.ρ[0]? = some (some (thg (.ref a) (.ref a) C a dx fs'))
  | _ => False
theorem InsP.less {C a dx : Addr} {fs : Fs} {S S' : List Addr} {H : Hp} (I : InsP C a dx fs S H) (h : ∀ b ∈ S', b ∈ S) : InsP C a dx fs S' H := by
  have := thg_sound (v := .non) (d0 := .non) (C := C) (a := a) (dx := dx) (fs := fs) S S' H H ⟨.non, I⟩ (fun _ _ e _ => e) fun b _ _ m => h b m
  exact this.2
theorem ok_meth {N : List Str} {C a dx : Addr} {fs : Fs} {S : List Addr} {H : Hp} {ws : List V} {ds : List D} (I : InsP C a dx fs S H) (hS : ∀ b ∈ a :: dx :: footL fs, b ∈ S) (r : RpA S H ws ds) (dm : Dom S H) (hN : ds.length + 1 ≤ N.length) : Ok ⟨H, a :: dx :: footL fs, S, fun _ _ => False, fun _ _ => False⟩ ⟨S, rhoM N C a dx fs ds⟩ (L2.start N (.ref a :: ws)) H := by
  have := ok_start (N := N) (S := S) (M := a :: dx :: footL fs) (H := H) (vs := .ref a :: ws) (evs := thg (.ref a) (.ref a) C a dx fs :: ds.map EV.dat) (by simp [r.1]) (by simpa using hN) (fun i v ev h1 h2 => ?_) (fun i j e f h1 h2 b m1 m2 => ?_) (fun e he b hb => ?_) (fun e he q ds' z => ?_) dm hS
  · simpa [rhoM] using this
  · cases i with
    | zero =>
      simp at h1 h2
      subst h1
      subst h2
      exact ⟨rfl, hS, ⟨.ref a, I⟩, thg_sound⟩
    | succ i =>
      simp only [List.getElem?_cons_succ, List.getElem?_map] at h1 h2
      cases q : ds[i]? with
      | none => rw [q] at h2; cases h2
      | some d =>
        rw [q] at h2
        cases h2
        exact ⟨v, rfl, r.2 i v d h1 q⟩
  · have key : ∀ (i : Nat) (e : EV), (thg (.ref a) (.ref a) C a dx fs :: ds.map EV.dat)[i]? = some e → b ∈ e.foot → i = 0 := fun i e h m => by
      cases i with
      | zero => rfl
      | succ i =>
        simp only [List.getElem?_cons_succ, List.getElem?_map] at h
        cases q : ds[i]? with
        | none => rw [q] at h; cases h
        | some d => rw [q] at h; cases h; cases m
    rw [key i e h1 m1, key j f h2 m2]
  · rcases List.mem_cons.mp he with z | z
    · subst z; exact hb
    · obtain ⟨d, _, rfl⟩ := List.mem_map.mp z; cases hb
  · rcases List.mem_cons.mp he with y | y
    · subst y; cases z
    · obtain ⟨d, _, rfl⟩ := List.mem_map.mp y; cases z
theorem meth_at {g : Glob} {C : Addr} {m qual : Str} {st : Stmt} {N ps : List Str} {k n : Nat} {R : Fs → List D → Out → Fs → Prop} (h : MethAt g C m qual st) (S : FnScope N ps (defScope st)) (hn : ps.length = n + 1)
    (hb : ∀ (kV doc pm : Value) (an : Option Addr) (cdv ct : Value) (us : List Value), us.length = ps.length → bindArgs (PySem.W.fnOf m qual (defArgs st) (defBody st) (defScope st) .none kV doc pm an cdv ct) ⟨us, []⟩ = pure (ps.zip us))
    (body : ∀ (T : List Addr) (a dx : Addr) (fs fs' : Fs) (ds : List D) (o : Out), R fs ds o fs' → footL fs' = footL fs → ds.length = n → JSs ⟨g, N, defScope st, k, fun _ => true, true⟩ (defBody st) ⟨T, rhoM N C a dx fs ds⟩ (PostM C a dx fs' o)) : MethS g C m (k + 1) (spM C n R) := by
  obtain ⟨f, fd, hm, F⟩ := h
  have hp : ps.length ≤ N.length := by
    have := congrArg List.length S.pre
    rw [List.length_take] at this
    omega
  refine ⟨f, fd, ps, ?_, hm, F.bindsN hb⟩
  refine F.ok S (fun vs H Q E h => ?_) (fun cdv A outer s H vs Q E hr hsp => ?_)
  · obtain ⟨_, _, _, _, _, ws, _, _, rfl, hl, _⟩ := h
    simp [hl, hn]
  · obtain ⟨T, a, dx, fs, fs', ws, ds, o, rfl, hl, I, hS, r, dm, hR, hf, ho⟩ := hsp
    have hd : ds.length = n := by rw [← r.1]; exact hl
    have fin : ∀ Z σ H1, Ok ⟨H, a :: dx :: footL fs, T, fun _ _ => False, fun _ _ => False⟩ Z σ H1 → Z.ρ[0]? = some (some (thg (.ref a) (.ref a) C a dx fs')) → Chg (a :: dx :: footL fs) H H1 ∧ InsP C a dx fs' T H1 ∧ Dom T H1 := fun Z σ H1 k1 e => by
      obtain ⟨_, _, _, _, hI, _⟩ := k1.env 0 _ e
      exact ⟨fun b o e n => k1.out b o e n, hI.2.less k1.sub, fun b m => k1.dom b (k1.sub b m)⟩
    refine body T a dx fs fs' ds o hR hf hd _ (fits_cx S.nd hr) ⟨H, a :: dx :: footL fs, T, fun _ _ => False, fun _ _ => False⟩ _ H (ok_meth I hS r dm (by omega)) (fun cls d _ H => E cls d H) _ (takes_of rfl rfl rfl rfl) ⟨fun Z σ H1 p k1 => ?_, fun Z d v σ H1 p k1 rv => ?_, fun Z X σ H1 p k1 => ?_, fun Z σ H1 p => p.elim, fun Z σ H1 p => p.elim⟩
    · obtain ⟨rfl, e⟩ := p
      obtain ⟨h1, h2, h3⟩ := fin Z σ H1 k1 e
      exact ho .non H1 h1 h2 h3 .non
    · obtain ⟨rfl, e⟩ := p
      obtain ⟨h1, h2, h3⟩ := fin Z σ H1 k1 e
      exact ho v H1 h1 h2 h3 rv
    · obtain ⟨rfl, e⟩ := p
      obtain ⟨h1, h2, h3⟩ := fin Z σ H1 k1 e
      exact ho H1 h1 h2 h3
section
variable {G : Ctx} {Z Z1 Z2 Z3 : State} {o b c e tg iter elt : Expr} {es : List Expr} {ds : List D} {pos pos' p p2 apos : Pos} {d d0 d1 d2 : D} {x f m : Str} {P : OutS → Prop} {v : V} {C a dx r : Addr} {fs fs' : Fs} {names : List Str} {k n : Nat} {R : Fs → List D → Out → Fs → Prop}
theorem foot_ok {B : Bs} {σ : L2.St} {H : Hp} (kk : Ok B Z σ H) {s : Nat} (h : Z.ρ[s]? = some (some (thg v d0 C a dx fs))) : InsP C a dx fs Z.S H ∧ (∀ b ∈ a :: dx :: footL fs, b ∈ Z.S) ∧ Rp Z.S H v d0 := by
  obtain ⟨_, _, _, hS, hI, _⟩ := kk.env s _ h
  exact ⟨hI.2, hS, hI.1⟩
/-- the thing behind a method's call -/
theorem meth_back {B : Bs} {σ : L2.St} {H H' : Hp} (kk : Ok B Z σ H) {s : Nat} (h : Z.ρ[s]? = some (some (thg v d0 C a dx fs))) (hf : footL fs' = footL fs) (h1 : Chg (a :: dx :: footL fs) H H') (h2 : InsP C a dx fs' Z.S H') (h3 : Dom Z.S H') : Ok B ⟨Z.S, Z.ρ.set s (some (thg v d0 C a dx fs'))⟩ σ H' ∧ Kp Z.S H Z.S H' := by
  obtain ⟨I, hS, rv⟩ := foot_ok kk h
  have pr : Pres Z.S H H' := fun b o e n => h1 b o e fun m => n (hS b m)
  have main := kk.mutRes (H' := H') (P' := fun S H => Rp S H v d0 ∧ InsP C a dx fs' S H) h h1 (fun b m => h3 b (hS b m)) ⟨rv.keep pr fun _ _ _ z => z, h2⟩ (by
    have := thg_sound (v := v) (d0 := d0) (C := C) (a := a) (dx := dx) (fs := fs')
    rw [hf] at this
    exact this)
  show Ok B ⟨Z.S, Z.ρ.set s (some (.res (a :: dx :: footL fs') v _))⟩ _ _ ∧ _
  rw [hf]
  exact main
theorem je_meth (s : Nat) {fs0 : Fs} (F : MethS G.g C m k (spM C n R)) (K : CK G.g C names) (hk : k ≤ G.k) (ho : JE G o Z (.ref a) Z1) (h0 : Z1.ρ[s]? = some (some (thg v d0 C a dx fs0))) (ha : JA G (e :: es) Z1 ds Z2) (h : Z2.ρ[s]? = some (some (thg v d0 C a dx fs))) (hr : R fs ds (.ret d) fs') (hf : footL fs' = footL fs := by rfl) (hno : noFldB fs0 m = true := by rfl) (hn : ds.length = n := by rfl)
    (hst : ∀ env, starEach (e :: es) env = (false, eval e env) :: starEach es env := by intro _; rfl) (hpl : ∀ env, (backTo pos (starEach es env)).any (·.1) = false := by intro _; rfl)
    (ht : ∀ env, ∃ pl, eval (.Call (.Attribute o m apos) (e :: es) [] pos) env = (do
      let ov ← eval o env
      standAt apos.atName
      let (f, first) ← holding [ov] (getMethod ov m pl)
      callWith pos f first (backTo pos (starEach (e :: es) env)) (backToKw pos (keywordEach [] env))) := by intro _; exact ⟨_, rfl⟩) :
    JE G (.Call (.Attribute o m apos) (e :: es) [] pos) Z d ⟨Z2.S, Z2.ρ.set s (some (thg v d0 C a dx fs'))⟩ := by
  intro X t B σ H kk Q q
  obtain ⟨fa, fd, ps, FK, hm, bs⟩ := F.ex
  obtain ⟨pl, ht⟩ := ht X.env
  refine ⟨_, pe_meth (pl := pl) p_E (by rw [t.K]; exact K.cls) (by rw [t.K]; exact hm) (fnX t FK) (t.room.mono hk) (by rw [t.K]; exact bs) .nil (E := E0) passL p_A (hst _) (hpl _) ht, ho X t B σ H kk _ fun w H1 k1 p1 r1 => ?_⟩
  cases r1.inv_ref
  obtain ⟨⟨⟨vs, hvl, g1, _, _⟩, _⟩, _, _⟩ := foot_ok k1 h0
  refine ⟨a, dx, _, rfl, g1, noFld_look hno, ha X t B σ H1 k1 _ fun ws H2 k2 p2 r2 => ?_⟩
  obtain ⟨I, hS, _⟩ := foot_ok k2 h
  rw [List.append_nil]
  refine ⟨Z2.S, a, dx, fs, fs', ws, ds, .ret d, rfl, by rw [r2.1]; exact hn, I, hS, r2, k2.dom, hr, hf, fun u H3 h1 h2 h3 r3 => ?_⟩
  obtain ⟨k3, p3⟩ := meth_back k2 h hf h1 h2 h3
  exact q u H3 k3 ((p1.trans p2).trans p3) r3
theorem je_meth0 (s : Nat) (F : MethS G.g C m k (spM C 0 R)) (K : CK G.g C names) (hk : k ≤ G.k) (ho : JE G o Z (.ref a) Z1) (h : Z1.ρ[s]? = some (some (thg v d0 C a dx fs))) (hr : R fs [] (.ret d) fs') (hf : footL fs' = footL fs := by rfl) (hno : noFldB fs m = true := by rfl)
    (ht : ∀ env, ∃ pl, eval (.Call (.Attribute o m apos) [] [] pos) env = (do
      let ov ← eval o env
      standAt apos.atName
      let (f, first) ← holding [ov] (getMethod ov m pl)
      callWith pos f first (backTo pos (starEach [] env)) (backToKw pos (keywordEach [] env))) := by intro _; exact ⟨_, rfl⟩) :
    JE G (.Call (.Attribute o m apos) [] [] pos) Z d ⟨Z1.S, Z1.ρ.set s (some (thg v d0 C a dx fs'))⟩ := by
  intro X t B σ H kk Q q
  obtain ⟨fa, fd, ps, FK, hm, bs⟩ := F.ex
  obtain ⟨pl, ht⟩ := ht X.env
  refine ⟨_, pe_meth0 (pl := pl) p_E (by rw [t.K]; exact K.cls) (by rw [t.K]; exact hm) (fnX t FK) (t.room.mono hk) (by rw [t.K]; exact bs) .nil (E := E0) passL ht, ho X t B σ H kk _ fun w H1 k1 p1 r1 => ?_⟩
  cases r1.inv_ref
  obtain ⟨I, hS, _⟩ := foot_ok k1 h
  obtain ⟨⟨vs, hvl, g1, _, _⟩, _⟩ := id I
  refine ⟨a, dx, _, rfl, g1, noFld_look hno, Z1.S, a, dx, fs, fs', [], [], .ret d, rfl, rfl, I, hS, RpA.nil, k1.dom, hr, hf, fun u H3 h1 h2 h3 r3 => ?_⟩
  obtain ⟨k3, p3⟩ := meth_back k1 h hf h1 h2 h3
  exact q u H3 k3 (p1.trans p3) r3
end
end JL

namespace JL
open PySem PySem.Spec L2
/-! ### things are made -/
/-- what __init__ promises: from arguments of which Pr holds, fields of which R holds; their lists are new -/
def spI (C : Addr) (n : Nat) (Pr : List D → Prop) (R : List D → Fs → Prop) : Sp := fun vs H Q E => ∃ (S : List Addr) (a dx : Addr) (ws : List V) (ds : List D), vs = .ref a :: ws ∧ ws.length = n ∧ InsP C a dx [] S H ∧ a ∈ S ∧ dx ∈ S ∧ RpA S H ws ds ∧ Dom S H ∧ Pr ds ∧
  ∀ fs' H', R ds fs' → (∀ b ∈ footL fs', H b = none) → Chg [a, dx] H H' → InsP C a dx fs' (footL fs' ++ S) H' → Dom (footL fs' ++ S) H' → Q .non H'
structure MakS (g : Glob) (x : Str) (C : Addr) (k : Nat) (sp : Sp) : Prop where
  mg : g.mg x = some (.ref C)
  ex : ∃ f fd ps, FnOk g.P g.w g.K g.mg g.base (L2.CX g.P g.w) k f fd ps sp ∧ Mk g.K C f ∧ Binds g.K fd ps []
abbrev MakAt (g : Glob) (x : Str) (C : Addr) (qual : Str) (st : Stmt) : Prop := g.mg x = some (.ref C) ∧ ∃ f fd, Mk g.K C f ∧ FunD g.K "__init__" qual (defArgs st) (defBody st) (defScope st) [] [] f fd
theorem init_at {g : Glob} {x : Str} {C : Addr} {qual : Str} {st : Stmt} {N ps : List Str} {k n : Nat} {Pr : List D → Prop} {R : List D → Fs → Prop} (h : MakAt g x C qual st) (S : FnScope N ps (defScope st)) (hn : ps.length = n + 1)
    (hb : ∀ (kV doc pm : Value) (an : Option Addr) (cdv ct : Value) (us : List Value), us.length = ps.length → bindArgs (PySem.W.fnOf "__init__" qual (defArgs st) (defBody st) (defScope st) .none kV doc pm an cdv ct) ⟨us, []⟩ = pure (ps.zip us))
    (body : ∀ (T : List Addr) (a dx : Addr) (ds : List D), Pr ds → ds.length = n → JSs ⟨g, N, defScope st, k, fun _ => true, true⟩ (defBody st) ⟨T, rhoM N C a dx [] ds⟩ (postNx fun Z => ∃ fs', Z.ρ[0]? = some (some (thg (.ref a) (.ref a) C a dx fs')) ∧ R ds fs')) : MakS g x C (k + 1) (spI C n Pr R) := by
  obtain ⟨hmg, f, fd, hm, F⟩ := h
  have hp : ps.length ≤ N.length := by
    have := congrArg List.length S.pre
    rw [List.length_take] at this
    omega
  refine ⟨hmg, f, fd, ps, ?_, hm, F.bindsN hb⟩
  refine F.ok S (fun vs H Q E h => ?_) (fun cdv A outer s H vs Q E hr hsp => ?_)
  · obtain ⟨_, _, _, ws, _, rfl, hl, _⟩ := h
    simp [hl, hn]
  · obtain ⟨T, a, dx, ws, ds, rfl, hl, I, hS1, hS2, r, dm, hPr, ho⟩ := hsp
    have hd : ds.length = n := by rw [← r.1]; exact hl
    refine body T a dx ds hPr hd _ (fits_cx S.nd hr) ⟨H, a :: dx :: footL [], T, fun _ _ => False, fun _ _ => False⟩ _ H (ok_meth I (fun b m => by
      simp only [footL, List.flatMap_nil, List.mem_cons, List.not_mem_nil, or_false] at m
      rcases m with rfl | rfl
      · exact hS1
      · exact hS2) r dm (by omega)) (fun cls d _ H => E cls d H) _ (takes_of rfl rfl rfl rfl) ⟨fun Z σ H1 p k1 => ?_, fun Z d v σ H1 p => p.elim, fun Z X σ H1 p => p.elim, fun Z σ H1 p => p.elim, fun Z σ H1 p => p.elim⟩
    obtain ⟨fs', e, hR⟩ := p
    obtain ⟨_, _, _, hSS, hI, _⟩ := k1.env 0 _ e
    obtain ⟨nx, nf⟩ := hI.2.nea
    have sub : ∀ b ∈ footL fs' ++ T, b ∈ Z.S := fun b m => (List.mem_append.mp m).elim (fun z => hSS b (by simp [z])) fun z => k1.sub b z
    refine ho fs' H1 hR (fun b hb => ?_) (fun b o e n => k1.out b o e (by simpa [footL] using n)) (hI.2.less sub) fun b m => k1.dom b (sub b m)
    rcases k1.mine 0 _ e b (by show b ∈ a :: dx :: footL fs'; simp [hb]) with w | w
    · simp only [footL, List.flatMap_nil, List.mem_cons, List.not_mem_nil, or_false] at w
      rcases w with w | w
      · exact absurd w (nf b hb).1
      · exact absurd w (nf b hb).2.1
    · exact w
section
variable {G : Ctx} {Z Z1 Z2 Z3 : State} {o b c e tg iter elt : Expr} {es : List Expr} {ds : List D} {pos pos' p p2 apos : Pos} {d d0 d1 d2 : D} {x f m : Str} {P : OutS → Prop} {v : V} {C a dx r : Addr} {fs fs' : Fs} {names : List Str} {k k2 n : Nat} {Pr : List D → Prop} {RI : List D → Fs → Prop} {R : Fs → List D → Out → Fs → Prop}
/-- a new instance, bare -/
theorem ins_bare {S : List Addr} {H : Hp} (nx : H a = none) (ndx : H dx = none) (ne : dx ≠ a) : InsP C a dx [] (a :: dx :: S) (upd (upd H dx (.own a)) a (.ins C dx [])) :=
  ⟨⟨[], rfl, upd_same, by rw [upd_ne ne, upd_same], fun i q v h => by simp at h⟩, List.nodup_nil⟩
theorem same_bare {H : Hp} (nx : H a = none) (ndx : H dx = none) : Same H (upd (upd H dx (.own a)) a (.ins C dx [])) := fun b u e => by
  rw [upd_ne (ne_of_none e nx), upd_ne (ne_of_none e ndx)]
  exact e
theorem dom_bare {S : List Addr} {H : Hp} (dm : Dom S H) (nx : H a = none) (ndx : H dx = none) (ne : dx ≠ a) : Dom (a :: dx :: S) (upd (upd H dx (.own a)) a (.ins C dx [])) := fun b m => by
  rcases List.mem_cons.mp m with rfl | m
  · exact ⟨_, upd_same, fun z => z⟩
  · rcases List.mem_cons.mp m with rfl | m
    · exact ⟨.own _, by rw [upd_ne ne, upd_same], fun z => z⟩
    · obtain ⟨u, e, n⟩ := dm b m
      exact ⟨u, same_bare nx ndx b u e, n⟩
theorem rp_bare {S : List Addr} {H : Hp} {ws : List V} (r : RpA S H ws ds) (nx : H a = none) (ndx : H dx = none) : RpA (a :: dx :: S) (upd (upd H dx (.own a)) a (.ins C dx [])) ws ds := r.keep (Pres.of_same (same_bare nx ndx)) fun b u e m => by
  rcases List.mem_cons.mp m with rfl | m
  · rw [nx] at e; cases e
  · rcases List.mem_cons.mp m with rfl | m
    · rw [ndx] at e; cases e
    · exact m
/-- x = C(..) -/
theorem js_make (i : Nat) {y : Str} {py : Pos} (F : MakS G.g x C k (spI C n Pr RI)) (hk : k + 1 ≤ G.k) (ha : JA G (e :: es) Z ds Z1) (hPr : Pr ds) (hp : ∀ a dx fs', RI ds fs' → (∀ b ∈ a :: dx :: footL fs', b ∉ Z1.S) → P (.nx ⟨(a :: dx :: footL fs') ++ Z1.S, Z1.ρ.set i (some (thg (.ref a) (.ref a) C a dx fs'))⟩)) (hn : ds.length = n := by rfl)
    (hst : stB G.N G.sc G.fn i y = true := by kernel_rfl) (hg : glB G.sc x = true := by kernel_rfl) (he : ∀ env, starEach (e :: es) env = (false, eval e env) :: starEach es env := by intro _; rfl) (hpl : ∀ env, (backTo p2 (starEach es env)).any (·.1) = false := by intro _; rfl)
    (hs : ∀ env, swapsWith (.Call (.Name x p) (e :: es) [] p2) (some (.Name y py)) pos.line env = pure false := by intro _; rfl) : JS G (.Assign [.Name y py] (.Call (.Name x p) (e :: es) [] p2) pos) Z P := by
  intro X t B σ H kk W E tk en
  obtain ⟨hmg, fa, fd, ps, FK, hm, bs⟩ := F
  obtain ⟨h1, h2, _⟩ := gl_of t hg
  simp only [stB, Bool.and_eq_true, decide_eq_true_eq] at hst
  obtain ⟨l1, l2⟩ := loc_of t hst.2
  refine ⟨_, ps_set (i := i) (by rw [t.N]; exact t.nd) (by rw [t.N]; exact hst.1) l1 (pe_make (by rw [t.K]; exact hm) (fnX t FK) (t.room.mono hk) h1 (by rw [t.mg]; exact hmg) (by rw [t.K]; exact bs) .nil (E := E0) passL p_A h2 (he _) (hpl _)) (hs _) l2, ha X t B σ H kk _ fun ws H1 k1 p1 r1 a dx nx ndx ne => ?_⟩
  rw [List.append_nil]
  refine ⟨a :: dx :: Z1.S, a, dx, ws, ds, rfl, by rw [r1.1]; exact hn, ins_bare nx ndx ne, by simp, by simp, rp_bare r1 nx ndx, dom_bare k1.dom nx ndx ne, hPr, fun fs' H' hR hfr hch hI hD => ⟨rfl, ?_⟩⟩
  obtain ⟨nxa, nf⟩ := hI.nea
  have sm := same_bare (C := C) nx ndx
  have fr1 : ∀ b ∈ footL fs', H1 b = none := fun b hb => by
    have := hfr b hb
    rw [upd_ne (nf b hb).1, upd_ne (nf b hb).2.1] at this
    exact this
  have same : Same H1 H' := fun b u e => hch b u (sm b u e) (by
    simp only [List.mem_cons, List.not_mem_nil, or_false, not_or]
    exact ⟨ne_of_none e nx, ne_of_none e ndx⟩)
  have hR' : ∀ b ∈ a :: dx :: footL fs', H1 b = none ∧ ∃ u, H' b = some u ∧ ¬ Solid u := fun b m => by
    rcases List.mem_cons.mp m with rfl | m
    · exact ⟨nx, hD b (by simp)⟩
    · rcases List.mem_cons.mp m with rfl | m
      · exact ⟨ndx, hD b (by simp)⟩
      · exact ⟨fr1 b m, hD b (by simp [m])⟩
  obtain ⟨k3, _⟩ := k1.newRes i (R := a :: dx :: footL fs') (v := .ref a) (P := fun S H => Rp S H (.ref a) (.ref a) ∧ InsP C a dx fs' S H) same hR' ⟨.ref a, hI.less fun b m => by
    simp only [List.cons_append, List.mem_cons, List.mem_append] at m ⊢
    rcases m with m | m | m | m <;> simp [m]⟩ thg_sound
  exact en.nx _ _ _ (hp a dx fs' hR fun b m => k1.fresh (hR' b m).1) k3
/-- C(..).m(), the thing itself forgotten -/
theorem je_makeM (F : MakS G.g x C k (spI C n Pr RI)) (FM : MethS G.g C m k2 (spM C 0 R)) (K : CK G.g C names) (hk : k + 1 ≤ G.k) (hk2 : k2 ≤ G.k) (ha : JA G (e :: es) Z ds Z1) (hPr : Pr ds) (hr : ∀ fs, RI ds fs → noFldB fs m = true ∧ ∃ fs', R fs [] (.ret d) fs' ∧ footL fs' = footL fs) (hn : ds.length = n := by rfl)
    (hg : glB G.sc x = true := by kernel_rfl) (he : ∀ env, starEach (e :: es) env = (false, eval e env) :: starEach es env := by intro _; rfl) (hpl : ∀ env, (backTo p2 (starEach es env)).any (·.1) = false := by intro _; rfl)
    (ht : ∀ env, ∃ pl, eval (.Call (.Attribute (.Call (.Name x p) (e :: es) [] p2) m apos) [] [] pos) env = (do
      let ov ← eval (.Call (.Name x p) (e :: es) [] p2) env
      standAt apos.atName
      let (f, first) ← holding [ov] (getMethod ov m pl)
      callWith pos f first (backTo pos (starEach [] env)) (backToKw pos (keywordEach [] env))) := by intro _; exact ⟨_, rfl⟩) :
    JE G (.Call (.Attribute (.Call (.Name x p) (e :: es) [] p2) m apos) [] [] pos) Z d Z1 := by
  intro X t B σ H kk Q q
  obtain ⟨hmg, fa, fd, ps, FK, hm, bs⟩ := F
  obtain ⟨fa2, fd2, ps2, FK2, hm2, bs2⟩ := FM.ex
  obtain ⟨h1, h2, _⟩ := gl_of t hg
  obtain ⟨pl, ht⟩ := ht X.env
  refine ⟨_, pe_meth0 (pl := pl) (pe_make (by rw [t.K]; exact hm) (fnX t FK) (t.room.mono hk) h1 (by rw [t.mg]; exact hmg) (by rw [t.K]; exact bs) .nil (E := E0) passL p_A h2 (he _) (hpl _)) (by rw [t.K]; exact K.cls) (by rw [t.K]; exact hm2) (fnX t FK2) (t.room.mono hk2) (by rw [t.K]; exact bs2) .nil (E := E0) passL ht, ha X t B σ H kk _ fun ws H1 k1 p1 r1 a dx nx ndx ne => ?_⟩
  rw [List.append_nil]
  refine ⟨a :: dx :: Z1.S, a, dx, ws, ds, rfl, by rw [r1.1]; exact hn, ins_bare nx ndx ne, by simp, by simp, rp_bare r1 nx ndx, dom_bare k1.dom nx ndx ne, hPr, fun fs' H' hR hfr hch hI hD => ⟨rfl, ?_⟩⟩
  obtain ⟨nxa, nf⟩ := hI.nea
  have sm := same_bare (C := C) nx ndx
  have fr1 : ∀ b ∈ footL fs', H1 b = none := fun b hb => by
    have := hfr b hb
    rw [upd_ne (nf b hb).1, upd_ne (nf b hb).2.1] at this
    exact this
  have same : Same H1 H' := fun b u e => hch b u (sm b u e) (by
    simp only [List.mem_cons, List.not_mem_nil, or_false, not_or]
    exact ⟨ne_of_none e nx, ne_of_none e ndx⟩)
  obtain ⟨hno, fs2, hR2, hf2⟩ := hr fs' hR
  obtain ⟨⟨vs, hvl, g1, _, _⟩, _⟩ := id hI
  refine ⟨a, dx, _, rfl, g1, noFld_look hno, footL fs' ++ (a :: dx :: Z1.S), a, dx, fs', fs2, [], [], .ret d, rfl, rfl, hI, fun b m => ?_, RpA.nil, hD, hR2, hf2, fun u H3 h1 h2 h3 r3 => ?_⟩
  · simp only [List.mem_append, List.mem_cons] at m ⊢
    rcases m with m | m | m <;> simp [m]
  · have same2 : Same H1 H3 := fun b u e => h1 b u (same b u e) (by
      simp only [List.mem_cons, not_or]
      exact ⟨ne_of_none e nx, ne_of_none e ndx, fun m => by rw [fr1 b m] at e; cases e⟩)
    exact q u H3 (k1.same same2) (p1.trans (Kp.same same2)) (r3.keep Pres.refl fun b o _ m => by simp [m])
end
end JL

/-! Rows of whole numbers under pivots, by the linear forms that kill them. -/
namespace Lp
abbrev Vec := Nat → Int
def lin (φ : Vec → Int) : Prop := ∀ (a b : Int) (u v : Vec), φ (fun j => a * u j + b * v j) = a * φ u + b * φ v
/-- φ looks at the places of A alone -/
def sees (A : Nat → Prop) (φ : Vec → Int) : Prop := ∀ u v : Vec, (∀ j, A j → u j = v j) → φ u = φ v
theorem lin.smul {φ : Vec → Int} (h : lin φ) (a : Int) (u : Vec) : φ (fun j => a * u j) = a * φ u := by
  have := h a 0 u u
  have e : (fun j => a * u j + 0 * u j) = fun j => a * u j := by funext j; omega
  rw [e] at this
  omega
theorem lin.sub {φ : Vec → Int} (h : lin φ) (a b : Int) (u v : Vec) : φ (fun j => a * u j - b * v j) = a * φ u - b * φ v := by
  have := h a (-b) u v
  have e : (fun j => a * u j + -b * v j) = fun j => a * u j - b * v j := by funext j; grind
  rw [e] at this
  grind
theorem lin.at (s : Nat) : lin fun v => v s := fun a b u v => rfl

/-! ### sums -/
def sm : Nat → (Nat → Int) → Int
  | 0, _ => 0
  | m + 1, f => sm m f + f m
theorem sm_congr {m : Nat} {f g : Nat → Int} (h : ∀ i, i < m → f i = g i) : sm m f = sm m g := by
  induction m with
  | zero => rfl
  | succ m ih => show sm m f + f m = sm m g + g m; rw [ih fun i hi => h i (by omega), h m (by omega)]
theorem sm_lin (a b : Int) (f g : Nat → Int) (m : Nat) : sm m (fun i => a * f i + b * g i) = a * sm m f + b * sm m g := by
  induction m with
  | zero => show (0 : Int) = a * 0 + b * 0; omega
  | succ m ih => show sm m _ + (a * f m + b * g m) = a * (sm m f + f m) + b * (sm m g + g m); rw [ih]; grind
theorem sm_mul (a : Int) (f : Nat → Int) (m : Nat) : sm m (fun i => a * f i) = a * sm m f := by
  induction m with
  | zero => show (0 : Int) = a * 0; omega
  | succ m ih => show sm m _ + a * f m = a * (sm m f + f m); rw [ih]; grind
theorem sm_add (f g : Nat → Int) (m : Nat) : sm m (fun i => f i + g i) = sm m f + sm m g := by
  induction m with
  | zero => rfl
  | succ m ih => show sm m _ + (f m + g m) = (sm m f + f m) + (sm m g + g m); rw [ih]; omega
theorem sm_zero {m : Nat} {f : Nat → Int} (h : ∀ i, i < m → f i = 0) : sm m f = 0 := by
  induction m with
  | zero => rfl
  | succ m ih => show sm m f + f m = 0; rw [ih fun i hi => h i (by omega), h m (by omega)]; rfl
theorem sm_one {m k : Nat} {f : Nat → Int} (hk : k < m) (h : ∀ i, i < m → i ≠ k → f i = 0) : sm m f = f k := by
  induction m with
  | zero => omega
  | succ m ih =>
    show sm m f + f m = f k
    by_cases e : k = m
    · subst e
      rw [sm_zero fun i hi => h i (by omega) (by omega)]
      omega
    · rw [ih (by omega) fun i hi => h i (by omega), h m (by omega) fun z => e z.symm]
      omega
theorem sm_nonneg {m : Nat} {f : Nat → Int} (h : ∀ i, i < m → 0 ≤ f i) : 0 ≤ sm m f := by
  induction m with
  | zero => exact Int.le_refl _
  | succ m ih =>
    show 0 ≤ sm m f + f m
    have := ih fun i hi => h i (by omega)
    have := h m (by omega)
    omega
theorem sm_le {m : Nat} {f g : Nat → Int} (h : ∀ i, i < m → f i ≤ g i) : sm m f ≤ sm m g := by
  induction m with
  | zero => exact Int.le_refl _
  | succ m ih =>
    show sm m f + f m ≤ sm m g + g m
    have := ih fun i hi => h i (by omega)
    have := h m (by omega)
    omega
theorem sm_pos {m : Nat} {f : Nat → Int} (h : 0 < sm m f) : ∃ i, i < m ∧ 0 < f i := by
  induction m with
  | zero => exact absurd h (Int.lt_irrefl 0)
  | succ m ih =>
    by_cases e : 0 < f m
    · exact ⟨m, by omega, e⟩
    · have h : 0 < sm m f + f m := h
      obtain ⟨i, hi, hp⟩ := ih (by omega)
      exact ⟨i, by omega, hp⟩
theorem sm_neg {m : Nat} {f : Nat → Int} (h : sm m f < 0) : ∃ i, i < m ∧ f i < 0 := by
  induction m with
  | zero => exact absurd h (Int.lt_irrefl 0)
  | succ m ih =>
    by_cases e : f m < 0
    · exact ⟨m, by omega, e⟩
    · have h : sm m f + f m < 0 := h
      obtain ⟨i, hi, hp⟩ := ih (by omega)
      exact ⟨i, by omega, hp⟩
/-- nothing below 0, sum 0: all are 0 -/
theorem sm_all0 {m : Nat} {f : Nat → Int} (h : ∀ i, i < m → 0 ≤ f i) (h0 : sm m f = 0) : ∀ i, i < m → f i = 0 := by
  induction m with
  | zero => intro i hi; omega
  | succ m ih =>
    intro i hi
    have h0 : sm m f + f m = 0 := h0
    have h1 := sm_nonneg fun i hi => h i (by omega : i < m + 1)
    have h1 := sm_nonneg (m := m) fun i hi => h i (by omega)
    have h2 := h m (by omega)
    by_cases e : i = m
    · subst e; omega
    · exact ih (fun i hi => h i (by omega)) (by omega) i (by omega)
theorem sm_swap (m n : Nat) (f : Nat → Nat → Int) : sm m (fun i => sm n fun j => f i j) = sm n fun j => sm m fun i => f i j := by
  induction m with
  | zero => exact (sm_zero fun _ _ => rfl).symm
  | succ m ih =>
    show sm m _ + sm n _ = _
    rw [ih, ← sm_add]
    rfl
/-- one common multiple of numbers above 0 -/
theorem weights (m : Nat) (p : Nat → Int) (h : ∀ i, i < m → 0 < p i) : ∃ (P : Int) (w : Nat → Int), 0 < P ∧ ∀ i, i < m → 0 < w i ∧ w i * p i = P := by
  induction m with
  | zero => exact ⟨1, fun _ => 1, by decide, fun i hi => by omega⟩
  | succ m ih =>
    obtain ⟨P, w, hP, hw⟩ := ih fun i hi => h i (by omega)
    have hm := h m (by omega)
    refine ⟨P * p m, fun i => if i = m then P else w i * p m, Int.mul_pos hP hm, fun i hi => ?_⟩
    by_cases e : i = m
    · subst e
      simp only [if_true]
      exact ⟨hP, trivial⟩
    · simp only [e, if_false]
      obtain ⟨h1, h2⟩ := hw i (by omega)
      exact ⟨Int.mul_pos h1 hm, by grind⟩

/-! ### a tableau -/
structure Inv (A : Nat → Prop) (m0 : Nat) (O : Nat → Vec) (m : Nat) (R : Nat → Vec) (B : Nat → Nat) : Prop where
  pos : ∀ i, i < m → 0 < R i (B i)
  zero : ∀ i k, i < m → k < m → i ≠ k → R i (B k) = 0
  seen : ∀ i, i < m → A (B i)
  down : ∀ φ, lin φ → sees A φ → (∀ i, i < m → φ (R i) = 0) → ∀ i, i < m0 → φ (O i) = 0
  up : ∀ φ, lin φ → (∀ i, i < m0 → φ (O i) = 0) → ∀ i, i < m → φ (R i) = 0
structure Cost (m0 : Nat) (O : Nat → Vec) (c0 : Vec) (z : Nat) (m : Nat) (B : Nat → Nat) (c : Vec) : Prop where
  pos : 0 < c z
  zero : ∀ i, i < m → c (B i) = 0
  all : ∀ φ, lin φ → (∀ i, i < m0 → φ (O i) = 0) → φ c = c z * φ c0
structure Piv (m : Nat) (R : Nat → Vec) (B : Nat → Nat) (R' : Nat → Vec) (B' : Nat → Nat) (l s : Nat) : Prop where
  hl : l < m
  p : 0 < R l s
  same : R' l = R l
  basL : B' l = s
  bas : ∀ i, i < m → i ≠ l → B' i = B i
  row : ∀ k, k < m → k ≠ l → ∃ g : Int, 0 < g ∧ ∀ j, g * R' k j = R l s * R k j - R k s * R l j
def PivC (R : Nat → Vec) (l s : Nat) (c c' : Vec) : Prop := ∃ g : Int, 0 < g ∧ ∀ j, g * c' j = R l s * c j - c s * R l j
section
variable {A : Nat → Prop} {m0 m : Nat} {O R R' : Nat → Vec} {B B' : Nat → Nat} {c0 c c' : Vec} {z q l s : Nat}
theorem Inv.inj (I : Inv A m0 O m R B) {i k : Nat} (hi : i < m) (hk : k < m) (h : B i = B k) : i = k := by
  by_cases e : i = k
  · exact e
  · have h1 := I.zero i k hi hk e
    rw [← h] at h1
    have := I.pos i hi
    omega
theorem mul0 {a b : Int} (h : 0 < a) (e : a * b = 0) : b = 0 := by
  rcases Int.mul_eq_zero.mp e with h1 | h1
  · omega
  · exact h1
theorem mulpos {a b : Int} (h : 0 < a) (e : 0 < a * b) : 0 < b := by
  by_cases hb : 0 < b
  · exact hb
  · have := Int.mul_nonneg (Int.le_of_lt h) (by omega : 0 ≤ -b)
    have e2 : a * -b = -(a * b) := by grind
    omega
theorem mulnn {a b : Int} (h : 0 < a) (e : 0 ≤ a * b) : 0 ≤ b := by
  by_cases hb : 0 ≤ b
  · exact hb
  · have := Int.mul_pos h (by omega : 0 < -b)
    have e2 : a * -b = -(a * b) := by grind
    omega
theorem Inv.piv (I : Inv A m0 O m R B) (p : Piv m R B R' B' l s) (hs : A s) : Inv A m0 O m R' B' := by
  refine ⟨fun i hi => ?_, fun i k hi hk n => ?_, fun i hi => ?_, fun φ L S h i hi => ?_, fun φ L h i hi => ?_⟩
  · by_cases e : i = l
    · subst e; rw [p.same, p.basL]; exact p.p
    · obtain ⟨g, hg, h⟩ := p.row i hi e
      rw [p.bas i hi e]
      have h1 := h (B i)
      rw [I.zero l i p.hl hi (Ne.symm e)] at h1
      have h2 := Int.mul_pos p.p (I.pos i hi)
      exact mulpos hg (by rw [h1]; omega)
  · by_cases e : k = l
    · subst e
      rw [p.basL]
      obtain ⟨g, hg, h⟩ := p.row i hi n
      exact mul0 hg (by rw [h s]; grind)
    · rw [p.bas k hk e]
      by_cases f : i = l
      · subst f; rw [p.same]; exact I.zero i k hi hk n
      · obtain ⟨g, hg, h⟩ := p.row i hi f
        refine mul0 hg ?_
        rw [h (B k), I.zero i k hi hk n, I.zero l k p.hl hk (Ne.symm e)]
        omega
  · by_cases e : i = l
    · subst e; rw [p.basL]; exact hs
    · rw [p.bas i hi e]; exact I.seen i hi
  · refine I.down φ L S (fun k hk => ?_) i hi
    have hl0 : φ (R l) = 0 := by rw [← p.same]; exact h l p.hl
    by_cases e : k = l
    · subst e; exact hl0
    · obtain ⟨g, hg, hr⟩ := p.row k hk e
      have h1 : φ (fun j => g * R' k j) = 0 := by rw [L.smul, h k hk]; omega
      rw [funext hr, L.sub, hl0] at h1
      exact mul0 p.p (by omega)
  · by_cases e : i = l
    · subst e; rw [p.same]; exact I.up φ L h i hi
    · obtain ⟨g, hg, hr⟩ := p.row i hi e
      have h1 : φ (fun j => g * R' i j) = 0 := by
        rw [funext hr, L.sub, I.up φ L h i hi, I.up φ L h l p.hl]
        omega
      rw [L.smul] at h1
      exact mul0 hg h1
theorem Inv.z0 (I : Inv A m0 O m R B) (hz : ∀ i, i < m0 → O i z = 0) {i : Nat} (hi : i < m) : R i z = 0 := I.up (fun v => v z) (lin.at z) hz i hi
theorem Cost.piv (C : Cost m0 O c0 z m B c) (I : Inv A m0 O m R B) (p : Piv m R B R' B' l s) (hz : ∀ i, i < m0 → O i z = 0) (h : PivC R l s c c') : Cost m0 O c0 z m B' c' := by
  obtain ⟨g, hg, h⟩ := h
  have hlz := I.z0 hz p.hl
  have ez : g * c' z = R l s * c z := by rw [h z, hlz]; omega
  refine ⟨?_, fun i hi => ?_, fun φ L k => ?_⟩
  · exact mulpos hg (by rw [ez]; exact Int.mul_pos p.p C.pos)
  · by_cases e : i = l
    · subst e; rw [p.basL]; exact mul0 hg (by rw [h s]; grind)
    · rw [p.bas i hi e]
      refine mul0 hg ?_
      rw [h (B i), C.zero i hi, I.zero l i p.hl hi (Ne.symm e)]
      omega
  · have h1 : φ (fun j => g * c' j) = R l s * (c z * φ c0) := by
      rw [funext h, L.sub, I.up φ L k l p.hl, C.all φ L k]
      omega
    rw [L.smul] at h1
    have : g * (φ c' - c' z * φ c0) = 0 := by grind
    have := mul0 hg this
    omega
/-- the ratio keeps the last column -/
theorem nn_piv (p : Piv m R B R' B' l s) (nn : ∀ i, i < m → 0 ≤ R i q) (rat : ∀ i, i < m → 0 < R i s → R l q * R i s ≤ R i q * R l s) : ∀ i, i < m → 0 ≤ R' i q := fun i hi => by
  by_cases e : i = l
  · subst e; rw [p.same]; exact nn i hi
  · obtain ⟨g, hg, h⟩ := p.row i hi e
    refine mulnn hg ?_
    rw [h q]
    by_cases f : 0 < R i s
    · have := rat i hi f
      grind
    · have h1 := Int.mul_nonneg (Int.le_of_lt p.p) (nn i hi)
      have h2 := Int.mul_nonneg (by omega : 0 ≤ -R i s) (nn l p.hl)
      grind
/-! ### the form of a column -/
def fn (P : Int) (w : Nat → Int) (m : Nat) (B : Nat → Nat) (a : Nat → Int) (s : Nat) : Vec → Int := fun v => P * v s - sm m fun i => w i * a i * v (B i)
theorem fn_lin {P : Int} {w a : Nat → Int} : lin (fn P w m B a s) := fun x y u v => by
  unfold fn
  have e : (sm m fun i => w i * a i * (x * u (B i) + y * v (B i))) = sm m fun i => x * (w i * a i * u (B i)) + y * (w i * a i * v (B i)) := sm_congr fun i _ => by grind
  rw [e, sm_lin]
  grind
theorem fn_sees {P : Int} {w a : Nat → Int} (hs : A s) (hB : ∀ i, i < m → A (B i)) : sees A (fn P w m B a s) := fun u v h => by
  unfold fn
  rw [h s hs, sm_congr fun i hi => by rw [h _ (hB i hi)]]
theorem fn_zero {P : Int} {w a : Nat → Int} {v : Vec} (h : ∀ i, i < m → v (B i) = 0) : fn P w m B a s v = P * v s := by
  unfold fn
  rw [sm_zero fun i hi => by rw [h i hi]; omega]
  omega
/-- every column has a form that kills all rows -/
theorem Inv.form (I : Inv A m0 O m R B) (hs : A s) : ∃ (P : Int) (w : Nat → Int), 0 < P ∧ (∀ i, i < m → 0 < w i ∧ w i * R i (B i) = P) ∧ ∀ k, k < m0 → fn P w m B (fun i => R i s) s (O k) = 0 := by
  obtain ⟨P, w, hP, hw⟩ := weights m (fun i => R i (B i)) I.pos
  refine ⟨P, w, hP, hw, fun k hk => I.down _ fn_lin (fn_sees hs I.seen) (fun i hi => ?_) k hk⟩
  unfold fn
  rw [sm_one hi fun j hj n => by rw [I.zero i j hi hj (Ne.symm n)]; omega]
  have := (hw i hi).2
  grind
end
end Lp

/-! The least place comes, the least place goes: no basis comes twice. -/
namespace Lp
structure Run (A : Nat → Prop) (m0 : Nat) (O : Nat → Vec) (c0 : Vec) (z q m T : Nat) (R : Nat → Nat → Vec) (B : Nat → Nat → Nat) (c : Nat → Vec) (l s : Nat → Nat) : Prop where
  inv : ∀ t, t ≤ T → Inv A m0 O m (R t) (B t)
  cost : ∀ t, t ≤ T → Cost m0 O c0 z m (B t) (c t)
  nn : ∀ t, t ≤ T → ∀ i, i < m → 0 ≤ R t i q
  piv : ∀ t, t < T → Piv m (R t) (B t) (R (t + 1)) (B (t + 1)) (l t) (s t)
  pivc : ∀ t, t < T → PivC (R t) (l t) (s t) (c t) (c (t + 1))
  ent : ∀ t, t < T → c t (s t) < 0 ∧ ∀ j, j < s t → 0 ≤ c t j
  rat : ∀ t, t < T → ∀ i, i < m → 0 < R t i (s t) → R t (l t) q * R t i (s t) ≤ R t i q * R t (l t) (s t) ∧ (R t (l t) q * R t i (s t) = R t i q * R t (l t) (s t) → B t (l t) ≤ B t i)
  see : ∀ t, t < T → A (s t)
section
variable {A : Nat → Prop} {m0 m T : Nat} {O : Nat → Vec} {c0 : Vec} {z q : Nat} {R : Nat → Nat → Vec} {B : Nat → Nat → Nat} {c : Nat → Vec} {l s : Nat → Nat}
theorem frac_trans {a b x y e f : Int} (hb : 0 < b) (hy : 0 < y) (hf : 0 < f) (h1 : a * y ≤ x * b) (h2 : x * f ≤ e * y) : a * f ≤ e * b := by
  have g1 := Int.mul_le_mul_of_nonneg_right h1 (Int.le_of_lt hf)
  have g2 := Int.mul_le_mul_of_nonneg_right h2 (Int.le_of_lt hb)
  have g3 : y * (a * f) ≤ y * (e * b) := by
    have e1 : a * y * f = y * (a * f) := by grind
    have e2 : x * b * f = x * f * b := by grind
    have e3 : e * y * b = y * (e * b) := by grind
    omega
  exact Int.le_of_mul_le_mul_left g3 hy
theorem Run.step_val (U : Run A m0 O c0 z q m T R B c l s) (hz : ∀ i, i < m0 → O i z = 0) {t : Nat} (ht : t < T) : c t q * c (t + 1) z ≤ c (t + 1) q * c t z ∧ (c t q * c (t + 1) z = c (t + 1) q * c t z → R t (l t) q = 0) := by
  obtain ⟨g, hg, h⟩ := U.pivc t ht
  have I := U.inv t (by omega)
  have p := U.piv t ht
  have hlz := I.z0 hz p.hl
  have e1 := h q
  have e2 := h z
  have cs := (U.ent t ht).1
  have cz := (U.cost t (by omega)).pos
  have nl := U.nn t (by omega) (l t) p.hl
  rw [hlz] at e2
  have key : g * (c (t + 1) q * c t z - c t q * c (t + 1) z) = (-c t (s t)) * R t (l t) q * c t z := by grind
  have h1 := Int.mul_nonneg (Int.mul_nonneg (by omega : 0 ≤ -c t (s t)) nl) (Int.le_of_lt cz)
  refine ⟨?_, fun e => ?_⟩
  · have := mulnn hg (by rw [key]; exact h1)
    omega
  · have k0 : (-c t (s t)) * R t (l t) q * c t z = 0 := by rw [← key, e]; grind
    have k1 : c t z * ((-c t (s t)) * R t (l t) q) = 0 := by grind
    exact mul0 (by omega : 0 < -c t (s t)) (mul0 cz k1)
theorem Run.val (U : Run A m0 O c0 z q m T R B c l s) (hz : ∀ i, i < m0 → O i z = 0) {t u : Nat} (h1 : t ≤ u) (h2 : u ≤ T) : c t q * c u z ≤ c u q * c t z := by
  induction u with
  | zero => have : t = 0 := by omega
            subst this; exact Int.le_refl _
  | succ u ih =>
    by_cases e : t = u + 1
    · subst e; exact Int.le_refl _
    · exact frac_trans (U.cost t (by omega)).pos (U.cost u (by omega)).pos (U.cost (u + 1) h2).pos (ih (by omega) (by omega)) (U.step_val hz (by omega)).1
/-- two states of one basis have one value -/
theorem val_same {R0 : Nat → Vec} {B0 B1 : Nat → Nat} {c1 c2 : Vec} (I : Inv A m0 O m R0 B0) (hq : A q) (C1 : Cost m0 O c0 z m B0 c1) (C2 : Cost m0 O c0 z m B1 c2) (hB : ∀ i, i < m → B1 i = B0 i) : c1 q * c2 z = c2 q * c1 z := by
  obtain ⟨P, w, hP, hw, hk⟩ := I.form hq
  have h1 := C1.all _ fn_lin hk
  have h2 := C2.all _ fn_lin hk
  rw [fn_zero C1.zero] at h1
  rw [fn_zero fun i hi => by rw [← hB i hi]; exact C2.zero i hi] at h2
  have : P * (c1 q * c2 z - c2 q * c1 z) = 0 := by grind
  have := mul0 hP this
  omega
theorem Run.degen (U : Run A m0 O c0 z q m T R B c l s) (hz : ∀ i, i < m0 → O i z = 0) (hq : A q) (hB : ∀ i, i < m → B T i = B 0 i) {t : Nat} (ht : t < T) : R t (l t) q = 0 := by
  refine (U.step_val hz ht).2 ?_
  have e := val_same (U.inv 0 (by omega)) hq (U.cost 0 (by omega)) (U.cost T (by omega)) hB
  have h1 := U.val hz (Nat.zero_le t) (by omega)
  have h2 := (U.step_val hz ht).1
  have h3 := U.val hz (by omega : t + 1 ≤ T) (Nat.le_refl T)
  have c0' := (U.cost 0 (by omega)).pos
  have ct := (U.cost t (by omega)).pos
  have ct1 := (U.cost (t + 1) (by omega)).pos
  have cT := (U.cost T (by omega)).pos
  have h4 : c (t + 1) q * c 0 z ≤ c 0 q * c (t + 1) z := by
    have := frac_trans (a := c (t + 1) q) (b := c (t + 1) z) (x := c T q) (y := c T z) (e := c 0 q) (f := c 0 z) ct1 cT c0' h3 (by omega)
    exact this
  have h5 := frac_trans (a := c (t + 1) q) (b := c (t + 1) z) (x := c 0 q) (y := c 0 z) (e := c t q) (f := c t z) ct1 c0' ct h4 h1
  omega
def InB (B : Nat → Nat → Nat) (m t j : Nat) : Prop := ∃ i, i < m ∧ B t i = j
theorem Run.stay_out (U : Run A m0 O c0 z q m T R B c l s) {j : Nat} (h : ∀ t, t < T → s t ≠ j) {t u : Nat} (h1 : t ≤ u) (h2 : u ≤ T) (k : InB B m u j) : InB B m t j := by
  induction u with
  | zero => have : t = 0 := by omega
            subst this; exact k
  | succ u ih =>
    by_cases e : t = u + 1
    · subst e; exact k
    · refine ih (by omega) (by omega) ?_
      obtain ⟨i, hi, hj⟩ := k
      have p := U.piv u (by omega)
      by_cases f : i = l u
      · subst f; rw [p.basL] at hj; exact absurd hj (h u (by omega))
      · rw [p.bas i hi f] at hj; exact ⟨i, hi, hj⟩
theorem Run.stay_in (U : Run A m0 O c0 z q m T R B c l s) {j : Nat} (h : ∀ t, t < T → B t (l t) ≠ j) {t u : Nat} (h1 : t ≤ u) (h2 : u ≤ T) (k : InB B m t j) : InB B m u j := by
  induction u with
  | zero => have : t = 0 := by omega
            subst this; exact k
  | succ u ih =>
    by_cases e : t = u + 1
    · subst e; exact k
    · obtain ⟨i, hi, hj⟩ := ih (by omega) (by omega)
      have p := U.piv u (by omega)
      refine ⟨i, hi, ?_⟩
      by_cases f : i = l u
      · subst f; exact absurd hj (h u (by omega))
      · rw [p.bas i hi f]; exact hj
/-- the unknown j is 0 -/
def Zr (R : Nat → Nat → Vec) (B : Nat → Nat → Nat) (q m t j : Nat) : Prop := ∀ i, i < m → B t i = j → R t i q = 0
theorem Run.zr (U : Run A m0 O c0 z q m T R B c l s) (dg : ∀ t, t < T → R t (l t) q = 0) {j t : Nat} (ht : t < T) : Zr R B q m t j ↔ Zr R B q m (t + 1) j := by
  have p := U.piv t ht
  have d := dg t ht
  have key : ∀ i, i < m → i ≠ l t → (R t i q = 0 ↔ R (t + 1) i q = 0) := fun i hi n => by
    obtain ⟨g, hg, h⟩ := p.row i hi n
    have h1 := h q
    rw [d] at h1
    refine ⟨fun e => mul0 hg (by rw [h1, e]; omega), fun e => mul0 p.p ?_⟩
    rw [e] at h1
    omega
  refine ⟨fun Z i hi hj => ?_, fun Z i hi hj => ?_⟩
  · by_cases f : i = l t
    · subst f; rw [p.same]; exact d
    · rw [p.bas i hi f] at hj; exact (key i hi f).mp (Z i hi hj)
  · by_cases f : i = l t
    · subst f; exact d
    · exact (key i hi f).mpr (Z i hi (by rw [p.bas i hi f]; exact hj))
theorem Run.zr0 (U : Run A m0 O c0 z q m T R B c l s) (dg : ∀ t, t < T → R t (l t) q = 0) {j t : Nat} (ht : t ≤ T) : Zr R B q m 0 j ↔ Zr R B q m t j := by
  induction t with
  | zero => exact Iff.rfl
  | succ t ih => exact (ih (by omega)).trans (U.zr dg (by omega))
theorem max_of (s : Nat → Nat) : ∀ T, 0 < T → ∃ a, a < T ∧ ∀ t, t < T → s t ≤ s a
  | 0, h => by omega
  | 1, _ => ⟨0, by omega, fun t ht => by have : t = 0 := by omega
                                         subst this; exact Nat.le_refl _⟩
  | T + 2, _ => by
    obtain ⟨a, ha, h⟩ := max_of s (T + 1) (by omega)
    by_cases e : s (T + 1) ≤ s a
    · exact ⟨a, by omega, fun t ht => by
        by_cases f : t = T + 1
        · subst f; exact e
        · exact h t (by omega)⟩
    · exact ⟨T + 1, by omega, fun t ht => by
        by_cases f : t = T + 1
        · subst f; exact Nat.le_refl _
        · have := h t (by omega); omega⟩
/-- no basis comes twice -/
theorem no_cycle (U : Run A m0 O c0 z q m T R B c l s) (hT : 0 < T) (hz : ∀ i, i < m0 → O i z = 0) (hq : A q) (hB : ∀ i, i < m → B T i = B 0 i) : False := by
  have dg := fun t (ht : t < T) => U.degen hz hq hB ht
  obtain ⟨a, ha, hmax⟩ := max_of s T hT
  have ends : ∀ j, InB B m T j ↔ InB B m 0 j := fun j => ⟨fun ⟨i, hi, e⟩ => ⟨i, hi, by rw [← hB i hi]; exact e⟩, fun ⟨i, hi, e⟩ => ⟨i, hi, by rw [hB i hi]; exact e⟩⟩
  have nota : ¬ InB B m a (s a) := fun ⟨i, hi, e⟩ => by
    have h1 := (U.cost a (by omega)).zero i hi
    rw [e] at h1
    have := (U.ent a ha).1
    omega
  -- it goes somewhere
  have hb : ∃ b, b < T ∧ B b (l b) = s a := by
    refine Classical.byContradiction fun n => nota ?_
    have n2 : ∀ t, t < T → B t (l t) ≠ s a := fun t ht e => n ⟨t, ht, e⟩
    have p := U.piv a ha
    have k1 : InB B m (a + 1) (s a) := ⟨l a, p.hl, p.basL⟩
    exact U.stay_in n2 (Nat.zero_le a) (by omega) ((ends _).mp (U.stay_in n2 (by omega) (Nat.le_refl T) k1))
  obtain ⟨b, hb, hlb⟩ := hb
  have pb := U.piv b hb
  have Ib := U.inv b (by omega)
  have Cb := U.cost b (by omega)
  have Ca := U.cost a (by omega)
  have sb : s b < s a := by
    have h1 := hmax b hb
    have h2 := (U.ent b hb).1
    have h3 := Cb.zero (l b) pb.hl
    rw [hlb] at h3
    by_cases e : s b = s a
    · rw [e, h3] at h2; omega
    · omega
  have hca := (U.ent a ha).2 _ sb
  obtain ⟨P, w, hP, hw, hk⟩ := Ib.form (U.see b hb)
  have f1 := Cb.all _ fn_lin hk
  have f2 := Ca.all _ fn_lin hk
  rw [fn_zero Cb.zero] at f1
  have cs := (U.ent b hb).1
  have n1 : fn P w m (B b) (fun i => R b i (s b)) (s b) c0 < 0 := by
    refine Classical.byContradiction fun n => ?_
    have h1 := Int.mul_nonneg (Int.le_of_lt Cb.pos) (by omega : 0 ≤ fn P w m (B b) (fun i => R b i (s b)) (s b) c0)
    have h2 := Int.mul_pos hP (by omega : 0 < -c b (s b))
    have h3 : P * -c b (s b) = -(P * c b (s b)) := by grind
    omega
  have n2 : fn P w m (B b) (fun i => R b i (s b)) (s b) (c a) < 0 := by
    rw [f2]
    have h1 := Int.mul_pos Ca.pos (by omega : 0 < -fn P w m (B b) (fun i => R b i (s b)) (s b) c0)
    have h3 : c a z * -fn P w m (B b) (fun i => R b i (s b)) (s b) c0 = -(c a z * fn P w m (B b) (fun i => R b i (s b)) (s b) c0) := by grind
    omega
  have n3 : 0 < sm m fun i => w i * R b i (s b) * c a (B b i) := by
    have n2 : P * c a (s b) - (sm m fun i => w i * R b i (s b) * c a (B b i)) < 0 := n2
    have := Int.mul_nonneg (Int.le_of_lt hP) hca
    omega
  obtain ⟨i, hi, pi⟩ := sm_pos n3
  have wi := (hw i hi).1
  have pi2 : 0 < R b i (s b) * c a (B b i) := mulpos wi (by have e : w i * (R b i (s b) * c a (B b i)) = w i * R b i (s b) * c a (B b i) := by grind
                                                            omega)
  have outa : ¬ InB B m a (B b i) := fun ⟨k, hk, e⟩ => by
    have h1 := Ca.zero k hk
    rw [e] at h1
    rw [h1] at pi2
    omega
  have comes : ∃ t, t < T ∧ s t = B b i := by
    refine Classical.byContradiction fun n => outa ?_
    have n2 : ∀ t, t < T → s t ≠ B b i := fun t ht e => n ⟨t, ht, e⟩
    have kb : InB B m b (B b i) := ⟨i, hi, rfl⟩
    by_cases e : a ≤ b
    · exact U.stay_out n2 e (by omega) kb
    · exact U.stay_out n2 (by omega) (Nat.le_refl T) ((ends _).mpr (U.stay_out n2 (Nat.zero_le b) (by omega) kb))
  obtain ⟨t, ht, et⟩ := comes
  have le := hmax t ht
  rw [et] at le
  have ne : B b i ≠ s a := fun e => by
    have hil : i = l b := Ib.inj hi pb.hl (by rw [e, hlb])
    subst hil
    rw [hlb] at pi2
    have h1 := (U.ent a ha).1
    have h2 := Int.mul_pos pb.p (by omega : 0 < -c a (s a))
    have h3 : R b (l b) (s b) * -c a (s a) = -(R b (l b) (s b) * c a (s a)) := by grind
    omega
  have lt : B b i < s a := by omega
  have ci := (U.ent a ha).2 _ lt
  have ri : 0 < R b i (s b) := by
    refine Classical.byContradiction fun n => ?_
    have h2 := Int.mul_nonneg (by omega : 0 ≤ -R b i (s b)) ci
    have h3 : -R b i (s b) * c a (B b i) = -(R b i (s b) * c a (B b i)) := by grind
    omega
  have za : Zr R B q m a (B b i) := fun k hk e => absurd ⟨k, hk, e⟩ outa
  have zb : Zr R B q m b (B b i) := (U.zr0 dg (by omega)).mp ((U.zr0 dg (by omega : a ≤ T)).mpr za)
  have q0 := zb i hi rfl
  have r := (U.rat b hb i hi ri).2 (by rw [dg b hb, q0]; omega)
  omega
end
end Lp

/-! Determinants by their rows: how great a row can be. -/
namespace Lp
/-- the expansion of a row r: g of the places without one -/
def xp (r : Vec) (g : List Nat → Int) : List Nat → List Nat → Int
  | _, [] => 0
  | p, c :: cs => r c * g (p ++ cs) - xp r g (p ++ [c]) cs
def det (O : Nat → Vec) : Nat → List Nat → Int
  | 0, [] => 1
  | 0, _ :: _ => 0
  | t + 1, C => xp (O t) (det O t) [] C
section
variable {r : Vec} {g : List Nat → Int} {O : Nat → Vec}
theorem xp_swap1 (hg : ∀ P a b S, g (P ++ a :: b :: S) = - g (P ++ b :: a :: S)) (pre : List Nat) (a b : Nat) : ∀ (S mid : List Nat), xp r g (pre ++ a :: b :: mid) S = - xp r g (pre ++ b :: a :: mid) S
  | [], _ => rfl
  | c :: S, mid => by
    show r c * g ((pre ++ a :: b :: mid) ++ S) - xp r g ((pre ++ a :: b :: mid) ++ [c]) S = -(r c * g ((pre ++ b :: a :: mid) ++ S) - xp r g ((pre ++ b :: a :: mid) ++ [c]) S)
    have e1 : (pre ++ a :: b :: mid) ++ S = pre ++ a :: b :: (mid ++ S) := by simp
    have e2 : (pre ++ b :: a :: mid) ++ S = pre ++ b :: a :: (mid ++ S) := by simp
    have e3 : (pre ++ a :: b :: mid) ++ [c] = pre ++ a :: b :: (mid ++ [c]) := by simp
    have e4 : (pre ++ b :: a :: mid) ++ [c] = pre ++ b :: a :: (mid ++ [c]) := by simp
    rw [e1, e2, e3, e4, hg, xp_swap1 hg pre a b S (mid ++ [c])]
    grind
theorem xp_swap (hg : ∀ P a b S, g (P ++ a :: b :: S) = - g (P ++ b :: a :: S)) (a b : Nat) (S : List Nat) : ∀ (P pre : List Nat), xp r g pre (P ++ a :: b :: S) = - xp r g pre (P ++ b :: a :: S)
  | [], pre => by
    show r a * g (pre ++ b :: S) - (r b * g ((pre ++ [a]) ++ S) - xp r g ((pre ++ [a]) ++ [b]) S) = -(r b * g (pre ++ a :: S) - (r a * g ((pre ++ [b]) ++ S) - xp r g ((pre ++ [b]) ++ [a]) S))
    have e1 : (pre ++ [a]) ++ S = pre ++ a :: S := by simp
    have e2 : (pre ++ [b]) ++ S = pre ++ b :: S := by simp
    have e3 : (pre ++ [a]) ++ [b] = pre ++ a :: b :: [] := by simp
    have e4 : (pre ++ [b]) ++ [a] = pre ++ b :: a :: [] := by simp
    rw [e1, e2, e3, e4, xp_swap1 hg pre a b S []]
    grind
  | p :: P, pre => by
    show r p * g (pre ++ (P ++ a :: b :: S)) - xp r g (pre ++ [p]) (P ++ a :: b :: S) = -(r p * g (pre ++ (P ++ b :: a :: S)) - xp r g (pre ++ [p]) (P ++ b :: a :: S))
    rw [xp_swap hg a b S P (pre ++ [p]), ← List.append_assoc, ← List.append_assoc, hg]
    grind
theorem det_swap (O : Nat → Vec) : ∀ (t : Nat) (P : List Nat) (a b : Nat) (S : List Nat), det O t (P ++ a :: b :: S) = - det O t (P ++ b :: a :: S)
  | 0, P, a, b, S => by cases P <;> rfl
  | t + 1, P, a, b, S => xp_swap (fun P a b S => det_swap O t P a b S) a b S P []
theorem det_twice (O : Nat → Vec) (t : Nat) (a : Nat) (S : List Nat) : ∀ (M P : List Nat), det O t (P ++ a :: (M ++ a :: S)) = 0
  | [], P => by have := det_swap O t P a a S; simp only [List.nil_append]; omega
  | b :: M, P => by
    show det O t (P ++ a :: b :: (M ++ a :: S)) = 0
    rw [det_swap]
    have e : P ++ b :: a :: (M ++ a :: S) = (P ++ [b]) ++ a :: (M ++ a :: S) := by simp
    rw [e, det_twice O t a S M (P ++ [b])]
    rfl
theorem det_mem (O : Nat → Vec) (t : Nat) {a : Nat} {P S : List Nat} (h : a ∈ P ∨ a ∈ S) : det O t (P ++ a :: S) = 0 := by
  rcases h with h | h
  · obtain ⟨X, Y, rfl⟩ := List.append_of_mem h
    have := det_twice O t a S Y X
    simpa using this
  · obtain ⟨X, Y, rfl⟩ := List.append_of_mem h
    exact det_twice O t a Y X P
theorem split_twice : ∀ {C : List Nat}, ¬ C.Nodup → ∃ X a M S, C = X ++ a :: (M ++ a :: S)
  | [], h => absurd List.nodup_nil h
  | c :: cs, h => by
    by_cases e : c ∈ cs
    · obtain ⟨M, S, rfl⟩ := List.append_of_mem e
      exact ⟨[], c, M, S, rfl⟩
    · have h2 : ¬ cs.Nodup := fun n => h (List.nodup_cons.mpr ⟨e, n⟩)
      obtain ⟨X, a, M, S, rfl⟩ := split_twice h2
      exact ⟨c :: X, a, M, S, rfl⟩
theorem det_nodup (O : Nat → Vec) (t : Nat) {C : List Nat} (h : det O t C ≠ 0) : C.Nodup := by
  refine Classical.byContradiction fun n => h ?_
  obtain ⟨X, a, M, S, rfl⟩ := split_twice n
  exact det_twice O t a S M X
/-! ### a determinant as a row -/
theorem lin.zero {φ : Vec → Int} (h : lin φ) : φ (fun _ => 0) = 0 := by
  have := h.smul 0 (fun _ => 0)
  have e : (fun j : Nat => (0 : Int) * 0) = fun _ => 0 := by funext j; rfl
  rw [e] at this
  omega
theorem xp_form1 {φ : Vec → Int} (L : lin φ) (hg : ∀ P S, φ (fun j => g (P ++ j :: S)) = 0) (pre : List Nat) : ∀ (S mid : List Nat), φ (fun j => xp r g (pre ++ j :: mid) S) = 0
  | [], _ => L.zero
  | c :: S, mid => by
    have e : (fun j => xp r g (pre ++ j :: mid) (c :: S)) = fun j => r c * g (pre ++ j :: (mid ++ S)) - 1 * xp r g (pre ++ j :: (mid ++ [c])) S := by
      funext j
      show r c * g ((pre ++ j :: mid) ++ S) - xp r g ((pre ++ j :: mid) ++ [c]) S = _
      have e1 : (pre ++ j :: mid) ++ S = pre ++ j :: (mid ++ S) := by simp
      have e2 : (pre ++ j :: mid) ++ [c] = pre ++ j :: (mid ++ [c]) := by simp
      rw [e1, e2]
      omega
    rw [e]
    have := L.sub (r c) 1 (fun j => g (pre ++ j :: (mid ++ S))) (fun j => xp r g (pre ++ j :: (mid ++ [c])) S)
    rw [hg, xp_form1 L hg pre S (mid ++ [c])] at this
    omega
theorem xp_form0 {φ : Vec → Int} (L : lin φ) (hg : ∀ P S, φ (fun j => g (P ++ j :: S)) = 0) (S pre : List Nat) : φ (fun j => xp r g pre (j :: S)) = g (pre ++ S) * φ r := by
  have e : (fun j => xp r g pre (j :: S)) = fun j => g (pre ++ S) * r j - 1 * xp r g (pre ++ j :: []) S := by
    funext j
    show r j * g (pre ++ S) - xp r g (pre ++ [j]) S = _
    grind
  rw [e, L.sub, xp_form1 L hg pre S []]
  omega
theorem xp_form {φ : Vec → Int} (L : lin φ) (hr : φ r = 0) (hg : ∀ P S, φ (fun j => g (P ++ j :: S)) = 0) (S : List Nat) : ∀ (P pre : List Nat), φ (fun j => xp r g pre (P ++ j :: S)) = 0
  | [], pre => by
    show φ (fun j => xp r g pre (j :: S)) = 0
    rw [xp_form0 L hg, hr]
    omega
  | p :: P, pre => by
    have e : (fun j => xp r g pre ((p :: P) ++ j :: S)) = fun j => r p * g ((pre ++ P) ++ j :: S) - 1 * xp r g (pre ++ [p]) (P ++ j :: S) := by
      funext j
      show r p * g (pre ++ (P ++ j :: S)) - xp r g (pre ++ [p]) (P ++ j :: S) = _
      rw [List.append_assoc]
      omega
    rw [e, L.sub, hg, xp_form L hr hg S P (pre ++ [p])]
    omega
theorem det_form (O : Nat → Vec) {φ : Vec → Int} (L : lin φ) : ∀ (t : Nat), (∀ i, i < t → φ (O i) = 0) → ∀ P S, φ (fun j => det O t (P ++ j :: S)) = 0
  | 0, _, P, S => by
    have e : (fun j => det O 0 (P ++ j :: S)) = fun _ => 0 := by funext j; cases P <;> rfl
    rw [e]
    exact L.zero
  | t + 1, h, P, S => xp_form L (h t (by omega)) (fun P S => det_form O L t (fun i hi => h i (by omega)) P S) S P []
/-- a column of noughts -/
theorem det_col0 (O : Nat → Vec) (t e : Nat) (h : ∀ i, i < t → O i e = 0) (P S : List Nat) : det O t (P ++ e :: S) = 0 := det_form O (lin.at e) t h P S
theorem det_head (O : Nat → Vec) (t e : Nat) (h : ∀ i, i < t → O i e = 0) (C : List Nat) : det O (t + 1) (e :: C) = O t e * det O t C := by
  show O t e * det O t ([] ++ C) - xp (O t) (det O t) ([] ++ [e]) C = _
  have key : ∀ (S pre mid : List Nat), xp (O t) (det O t) (pre ++ e :: mid) S = 0 := by
    intro S
    induction S with
    | nil => intro pre mid; rfl
    | cons c S ih =>
      intro pre mid
      show O t c * det O t ((pre ++ e :: mid) ++ S) - xp (O t) (det O t) ((pre ++ e :: mid) ++ [c]) S = 0
      have e1 : (pre ++ e :: mid) ++ S = pre ++ e :: (mid ++ S) := by simp
      have e2 : (pre ++ e :: mid) ++ [c] = pre ++ e :: (mid ++ [c]) := by simp
      rw [e1, e2, ih, det_col0 O t e h]
      omega
  rw [key C [] []]
  simp
/-! ### how great -/
def fac : Nat → Nat
  | 0 => 1
  | t + 1 => (t + 1) * fac t
def pr (M : Nat → Nat) : Nat → Nat
  | 0 => 1
  | t + 1 => M t * pr M t
theorem xp_le {M G : Nat} (hr : ∀ j, (r j).natAbs ≤ M) (hg : ∀ X, (g X).natAbs ≤ G) : ∀ (C pre : List Nat), (xp r g pre C).natAbs ≤ C.length * (M * G)
  | [], _ => by show (0 : Int).natAbs ≤ _; simp
  | c :: C, pre => by
    show (r c * g (pre ++ C) - xp r g (pre ++ [c]) C).natAbs ≤ _
    have h1 := xp_le hr hg C (pre ++ [c])
    have h2 : (r c * g (pre ++ C)).natAbs ≤ M * G := by rw [Int.natAbs_mul]; exact Nat.mul_le_mul (hr c) (hg _)
    have h3 : (c :: C).length * (M * G) = C.length * (M * G) + M * G := by rw [List.length_cons, Nat.add_mul]; omega
    have h4 := Int.natAbs_sub_le (r c * g (pre ++ C)) (xp r g (pre ++ [c]) C)
    omega
theorem xp_len {n : Nat} (hg : ∀ X : List Nat, X.length ≠ n → g X = 0) : ∀ (C pre : List Nat), pre.length + C.length ≠ n + 1 → xp r g pre C = 0
  | [], _, _ => rfl
  | c :: C, pre, h => by
    show r c * g (pre ++ C) - xp r g (pre ++ [c]) C = 0
    simp only [List.length_cons] at h
    rw [hg (pre ++ C) (by rw [List.length_append]; omega), xp_len hg C (pre ++ [c]) (by simp only [List.length_append, List.length_singleton]; omega)]
    omega
theorem det_len (O : Nat → Vec) : ∀ (t : Nat) (C : List Nat), C.length ≠ t → det O t C = 0
  | 0, [], h => absurd rfl h
  | 0, _ :: _, _ => rfl
  | t + 1, C, h => xp_len (det_len O t) C [] (by simpa using h)
theorem det_le {M : Nat → Nat} : ∀ (t : Nat), (∀ i, i < t → ∀ j, (O i j).natAbs ≤ M i) → ∀ C, (det O t C).natAbs ≤ fac t * pr M t
  | 0, _, [] => by show (1 : Int).natAbs ≤ 1 * 1; decide
  | 0, _, _ :: _ => by show (0 : Int).natAbs ≤ _; simp
  | t + 1, h, C => by
    by_cases e : C.length = t + 1
    · have h1 := xp_le (r := O t) (g := det O t) (M := M t) (G := fac t * pr M t) (h t (by omega)) (det_le t fun i hi => h i (by omega)) C []
      rw [e] at h1
      have e2 : fac (t + 1) * pr M (t + 1) = (t + 1) * (M t * (fac t * pr M t)) := by
        show (t + 1) * fac t * (M t * pr M t) = _
        rw [Nat.mul_assoc, Nat.mul_left_comm (fac t)]
      rw [e2]
      exact h1
    · rw [det_len O (t + 1) C e]
      simp
end
/-! ### what a basis tells of a row -/
section
variable {A : Nat → Prop} {m0 m : Nat} {O R : Nat → Vec} {B : Nat → Nat} {c0 c : Vec} {z q s : Nat}
/-- killed with the rows, nought at the basis: nought -/
theorem Inv.uniq (I : Inv A m0 O m R B) (hs : A s) {v : Vec} (hv : ∀ φ, lin φ → (∀ k, k < m0 → φ (O k) = 0) → φ v = 0) (h0 : ∀ i, i < m → v (B i) = 0) : v s = 0 := by
  obtain ⟨P, w, hP, _, hk⟩ := I.form hs
  have := hv _ fn_lin hk
  rw [fn_zero h0] at this
  exact mul0 hP this
/-- columns of the basis with a determinant other than 0 -/
theorem Inv.minor (I : Inv A m0 O m R B) (hA : ∀ j, A j) (e : Nat → Nat) (he : ∀ i k, i < m0 → k < m0 → O i (e k) = if i = k then 1 else 0) : ∀ t, t ≤ m0 → ∃ C : List Nat, C.length = t ∧ (∀ x ∈ C, ∃ i, i < m ∧ B i = x) ∧ det O t C ≠ 0
  | 0, _ => ⟨[], rfl, (fun x h => by cases h), by show (1 : Int) ≠ 0; decide⟩
  | t + 1, ht => by
    obtain ⟨C, h1, h2, h3⟩ := I.minor hA e he t (by omega)
    have key : ∃ i, i < m ∧ det O (t + 1) (B i :: C) ≠ 0 := by
      refine Classical.byContradiction fun n => h3 ?_
      have h4 : ∀ i, i < m → det O (t + 1) (B i :: C) = 0 := fun i hi => Classical.byContradiction fun x => n ⟨i, hi, x⟩
      have h5 := I.uniq (hA (e t)) (v := fun j => det O (t + 1) (j :: C)) (fun φ L hk => det_form O L (t + 1) (fun i hi => hk i (by omega)) [] C) h4
      have h5 : det O (t + 1) (e t :: C) = 0 := h5
      rw [det_head O t (e t) (fun i hi => by rw [he i t (by omega) (by omega), if_neg (by omega)]), he t t (by omega) (by omega), if_pos rfl] at h5
      omega
    obtain ⟨i, hi, hd⟩ := key
    exact ⟨B i :: C, by simp [h1], fun x hx => (List.mem_cons.mp hx).elim (fun e => ⟨i, hi, e.symm⟩) (h2 x), hd⟩
theorem len_le_of_nodup : ∀ {C L : List Nat}, C.Nodup → (∀ x ∈ C, x ∈ L) → C.length ≤ L.length
  | [], _, _, _ => Nat.zero_le _
  | c :: C, L, h, k => by
    rw [List.nodup_cons] at h
    have h1 : c ∈ L := k c (List.mem_cons_self ..)
    have h2 := len_le_of_nodup (L := L.erase c) h.2 fun x hx => (List.mem_erase_of_ne (fun e => h.1 (by rw [← e]; exact hx))).mpr (k x (List.mem_cons_of_mem _ hx))
    rw [List.length_erase_of_mem h1] at h2
    have h3 := List.length_pos_of_mem h1
    simp only [List.length_cons]
    omega
/-- a list without repeats, as long as there are names, has all -/
theorem all_mem {C : List Nat} (hn : C.Nodup) (hl : C.length = m) (h : ∀ x ∈ C, ∃ i, i < m ∧ B i = x) {k : Nat} (hk : k < m) : B k ∈ C := by
  refine Classical.byContradiction fun n => ?_
  have h1 := len_le_of_nodup (C := B k :: C) (L := (List.range m).map B) (List.nodup_cons.mpr ⟨n, hn⟩) fun x hx => by
    rcases List.mem_cons.mp hx with e | e
    · exact List.mem_map.mpr ⟨k, List.mem_range.mpr hk, e.symm⟩
    · obtain ⟨i, hi, e⟩ := h x e
      exact List.mem_map.mpr ⟨i, List.mem_range.mpr hi, e⟩
  simp [hl] at h1
  omega
/-- a row up to a factor: a row of determinants -/
theorem Inv.rowdet (I : Inv A m0 O m R B) (hm : m = m0) (hA : ∀ j, A j) (e : Nat → Nat) (he : ∀ i k, i < m0 → k < m0 → O i (e k) = if i = k then 1 else 0) {k : Nat} (hk : k < m) : ∃ (P S : List Nat) (a b : Int), a ≠ 0 ∧ b ≠ 0 ∧ ∀ j, b * R k j = a * det O m0 (P ++ j :: S) := by
  obtain ⟨C, h1, h2, h3⟩ := I.minor hA e he m0 (Nat.le_refl _)
  have hn := det_nodup O m0 h3
  have hall : ∀ i, i < m → B i ∈ C := fun i hi => all_mem hn (by omega) h2 hi
  obtain ⟨P, S, rfl⟩ := List.append_of_mem (hall k hk)
  refine ⟨P, S, R k (B k), det O m0 (P ++ B k :: S), by have := I.pos k hk; omega, h3, fun j => ?_⟩
  have key := I.uniq (hA j) (v := fun j => det O m0 (P ++ B k :: S) * R k j - R k (B k) * det O m0 (P ++ j :: S)) (fun φ L hf => by
    rw [L.sub, I.up φ L hf k hk, det_form O L m0 hf P S]
    omega) (fun i hi => by
    show det O m0 (P ++ B k :: S) * R k (B i) - R k (B k) * det O m0 (P ++ B i :: S) = 0
    by_cases x : i = k
    · subst x; grind
    · have hin : B i ∈ P ∨ B i ∈ S := by
        rcases List.mem_append.mp (hall i hi) with y | y
        · exact .inl y
        · rcases List.mem_cons.mp y with y | y
          · exact absurd (I.inj hi hk y) x
          · exact .inr y
      rw [det_mem O m0 hin, I.zero k i hk hi (Ne.symm x)]
      omega)
  have key : det O m0 (P ++ B k :: S) * R k j - R k (B k) * det O m0 (P ++ j :: S) = 0 := key
  omega
/-- the costs up to a factor -/
theorem Inv.costdet (I : Inv A m0 O m R B) (C : Cost m0 O c0 z m B c) (hm : m = m0) (hA : ∀ j, A j) (e : Nat → Nat) (he : ∀ i k, i < m0 → k < m0 → O i (e k) = if i = k then 1 else 0) (hz : ∀ i, i < m0 → O i z = 0) (hc : c0 z = 1) :
    ∃ (S : List Nat) (a b : Int), a ≠ 0 ∧ b ≠ 0 ∧ ∀ j, b * c j = a * det (fun i => if i = m0 then c0 else O i) (m0 + 1) (j :: S) := by
  obtain ⟨X, h1, h2, h3⟩ := I.minor hA e he m0 (Nat.le_refl _)
  have hn := det_nodup O m0 h3
  have hall : ∀ i, i < m → B i ∈ X := fun i hi => all_mem hn (by omega) h2 hi
  have ed : ∀ t, t ≤ m0 → ∀ X, det (fun i => if i = m0 then c0 else O i) t X = det O t X := by
    intro t
    induction t with
    | zero => intro _ X; cases X <;> rfl
    | succ t ih =>
      intro ht X
      show xp (if t = m0 then c0 else O t) (det _ t) [] X = xp (O t) (det O t) [] X
      rw [if_neg (by omega), funext (ih (by omega))]
  have eg : det (fun i => if i = m0 then c0 else O i) m0 = det O m0 := funext (ed m0 (Nat.le_refl _))
  have eu : ∀ C, det (fun i => if i = m0 then c0 else O i) (m0 + 1) C = xp c0 (det O m0) [] C := fun C => by
    show xp (if m0 = m0 then c0 else O m0) (det _ m0) [] C = _
    rw [if_pos rfl, eg]
  refine ⟨X, c z, det O m0 X, by have := C.pos; omega, h3, fun j => ?_⟩
  have key := I.uniq (hA j) (v := fun j => det O m0 X * c j - c z * xp c0 (det O m0) [] (j :: X)) (fun φ L hf => by
    rw [L.sub, C.all φ L hf, xp_form0 L (fun P S => det_form O L m0 hf P S)]
    show det O m0 X * (c z * φ c0) - c z * (det O m0 ([] ++ X) * φ c0) = 0
    rw [List.nil_append]
    grind) (fun i hi => by
    show det O m0 X * c (B i) - c z * xp c0 (det O m0) [] (B i :: X) = 0
    rw [C.zero i hi, ← eu]
    have := det_mem (fun i => if i = m0 then c0 else O i) (m0 + 1) (P := []) (S := X) (a := B i) (.inr (hall i hi))
    rw [List.nil_append] at this
    rw [this]
    omega)
  have key : det O m0 X * c j - c z * xp c0 (det O m0) [] (j :: X) = 0 := key
  rw [eu]
  omega
/-- a row without a common divisor is no greater than what it is a part of -/
theorem prim_le {r u : Vec} {a b : Int} (ha : a ≠ 0) (hb : b ≠ 0) (h : ∀ j, b * r j = a * u j) (hp : ∀ d : Int, (∀ j, d ∣ r j) → d.natAbs = 1) (j : Nat) : (r j).natAbs ≤ (u j).natAbs := by
  have hg : (0 : Int) < Int.gcd a b := by
    have : Int.gcd a b ≠ 0 := fun e => ha (Int.gcd_eq_zero_iff.mp e).1
    omega
  obtain ⟨a', ea⟩ : (Int.gcd a b : Int) ∣ a := Int.gcd_dvd_left ..
  obtain ⟨b', eb⟩ : (Int.gcd a b : Int) ∣ b := Int.gcd_dvd_right ..
  have hco : Int.gcd a' b' = 1 := by
    have h1 : Int.gcd a b = Int.gcd a b * Int.gcd a' b' := by
      have h2 : Int.gcd ((Int.gcd a b : Int) * a') ((Int.gcd a b : Int) * b') = (Int.gcd a b : Int).natAbs * Int.gcd a' b' := Int.gcd_mul_left ..
      rw [← ea, ← eb] at h2
      simpa using h2
    have hg2 : 0 < Int.gcd a b := by omega
    exact Nat.eq_of_mul_eq_mul_left hg2 (by omega)
  have hr : ∀ j, b' * r j = a' * u j := fun j => by
    have h1 : (Int.gcd a b : Int) * b' * r j = (Int.gcd a b : Int) * a' * u j := (congrArg (· * r j) eb).symm.trans ((h j).trans (congrArg (· * u j) ea))
    have h2 : (Int.gcd a b : Int) * (b' * r j - a' * u j) = 0 := by
      generalize (Int.gcd a b : Int) = G at h1
      grind
    have := mul0 hg h2
    omega
  have hd : ∀ j, a' ∣ r j := fun j => by
    have h1 : a' ∣ b' * r j := ⟨u j, hr j⟩
    have h2 : a'.natAbs ∣ b'.natAbs * (r j).natAbs := by rw [← Int.natAbs_mul]; exact Int.natAbs_dvd_natAbs.mpr h1
    exact Int.natAbs_dvd_natAbs.mp (Nat.Coprime.dvd_of_dvd_mul_left hco h2)
  have h1 := hp a' hd
  have h2 := congrArg Int.natAbs (hr j)
  rw [Int.natAbs_mul, Int.natAbs_mul, h1, Nat.one_mul] at h2
  have h3 : b' ≠ 0 := fun e => hb (by rw [eb, e]; omega)
  have h4 : 1 ≤ b'.natAbs := by omega
  rw [← h2]
  exact Nat.le_mul_of_pos_left _ h4
end
end Lp

/-! The rows as lists. -/
namespace Lp
def vec (r : List Int) : Vec := fun j => r.getD j 0
def gcdL : List Int → Nat
  | [] => 0
  | n :: ns => Nat.gcd n.natAbs (gcdL ns)
def shorten (ns : List Int) : List Int := if 1 < gcdL ns then ns.map (· / (gcdL ns : Int)) else ns
def cleared (row other : List Int) (s : Nat) : List Int := if vec row s = 0 then row else shorten (row.zipWith (fun a b => a * vec other s - vec row s * b) other)
theorem vec_get {r : List Int} {j : Nat} (h : j < r.length) : vec r j = r[j] := by unfold vec; rw [List.getD_eq_getElem?_getD, List.getElem?_eq_getElem h]; rfl
theorem vec_out {r : List Int} {j : Nat} (h : r.length ≤ j) : vec r j = 0 := by unfold vec; rw [List.getD_eq_getElem?_getD, List.getElem?_eq_none h]; rfl
theorem vec_map {r : List Int} {f : Int → Int} (hf : f 0 = 0) (j : Nat) : vec (r.map f) j = f (vec r j) := by
  by_cases h : j < r.length
  · rw [vec_get (by simpa using h), vec_get h, List.getElem_map]
  · rw [vec_out (by simpa using h), vec_out (by omega), hf]
theorem vec_zip {r o : List Int} {f : Int → Int → Int} (hf : f 0 0 = 0) (hl : r.length = o.length) (j : Nat) : vec (r.zipWith f o) j = f (vec r j) (vec o j) := by
  by_cases h : j < r.length
  · rw [vec_get (by rw [List.length_zipWith]; omega), vec_get h, vec_get (by omega), List.getElem_zipWith]
  · rw [vec_out (by rw [List.length_zipWith]; omega), vec_out (by omega), vec_out (by omega), hf]
theorem vec_mem {r : List Int} {x : Int} (h : x ∈ r) : ∃ j, j < r.length ∧ vec r j = x := by
  obtain ⟨j, hj, e⟩ := List.getElem_of_mem h
  exact ⟨j, hj, by rw [vec_get hj]; exact e⟩
theorem vec_in {r : List Int} {j : Nat} (h : j < r.length) : vec r j ∈ r := by rw [vec_get h]; exact List.getElem_mem h
theorem gcdL_dvd : ∀ {ns : List Int} {n : Int}, n ∈ ns → (gcdL ns : Int) ∣ n
  | m :: ns, n, h => by
    have h1 : gcdL (m :: ns) ∣ m.natAbs := Nat.gcd_dvd_left ..
    have h2 : gcdL (m :: ns) ∣ gcdL ns := Nat.gcd_dvd_right ..
    rcases List.mem_cons.mp h with e | e
    · subst e; exact Int.natAbs_dvd_natAbs.mp (by rw [Int.natAbs_natCast]; exact h1)
    · exact Int.dvd_trans (Int.natCast_dvd_natCast.mpr h2) (gcdL_dvd e)
theorem dvd_gcdL {d : Nat} : ∀ {ns : List Int}, (∀ n ∈ ns, d ∣ n.natAbs) → d ∣ gcdL ns
  | [], _ => Nat.dvd_zero d
  | m :: ns, h => Nat.dvd_gcd (h m (List.mem_cons_self ..)) (dvd_gcdL fun n hn => h n (List.mem_cons_of_mem _ hn))
theorem gcdL_append : ∀ (a b : List Int), gcdL (a ++ b) = Nat.gcd (gcdL a) (gcdL b)
  | [], b => (Nat.gcd_zero_left _).symm
  | n :: a, b => by
    show Nat.gcd n.natAbs (gcdL (a ++ b)) = Nat.gcd (Nat.gcd n.natAbs (gcdL a)) (gcdL b)
    rw [gcdL_append a b, Nat.gcd_assoc]
theorem gcdL_mul (g : Nat) : ∀ ns : List Int, gcdL (ns.map (· * (g : Int))) = gcdL ns * g
  | [] => (Nat.zero_mul g).symm
  | n :: ns => by
    show Nat.gcd (n * (g : Int)).natAbs (gcdL (ns.map (· * (g : Int)))) = Nat.gcd n.natAbs (gcdL ns) * g
    rw [gcdL_mul g ns, Int.natAbs_mul, Int.natAbs_natCast, Nat.gcd_mul_right]
theorem gcdL_zero {ns : List Int} (h : gcdL ns = 0) : ∀ n ∈ ns, n = 0 := fun n hn => by
  have := gcdL_dvd hn
  rw [h] at this
  exact Int.zero_dvd.mp this
theorem gcdL_vec {ns : List Int} {j : Nat} (h : vec ns j ≠ 0) : gcdL ns ≠ 0 := fun e => by
  by_cases hj : j < ns.length
  · exact h (gcdL_zero e _ (vec_in hj))
  · exact h (vec_out (by omega))
theorem prim_of {r : List Int} (h : gcdL r = 1) : ∀ d : Int, (∀ j, d ∣ vec r j) → d.natAbs = 1 := fun d hd => by
  have h1 : d.natAbs ∣ gcdL r := dvd_gcdL fun n hn => by
    obtain ⟨j, _, e⟩ := vec_mem hn
    rw [← e]
    exact Int.natAbs_dvd_natAbs.mpr (hd j)
  rw [h] at h1
  exact Nat.dvd_one.mp h1
theorem shorten_len (ns : List Int) : (shorten ns).length = ns.length := by unfold shorten; split <;> simp
theorem shorten_vec (ns : List Int) : ∃ g : Int, 0 < g ∧ ∀ j, g * vec (shorten ns) j = vec ns j := by
  unfold shorten
  split
  · rename_i h
    refine ⟨gcdL ns, by omega, fun j => ?_⟩
    rw [vec_map (by simp)]
    by_cases hj : j < ns.length
    · exact Int.mul_ediv_cancel' (gcdL_dvd (vec_in hj))
    · rw [vec_out (by omega)]; simp
  · exact ⟨1, by decide, fun j => by omega⟩
theorem shorten_prim {ns : List Int} (h : gcdL ns ≠ 0) : gcdL (shorten ns) = 1 := by
  unfold shorten
  split
  · have h1 : (ns.map (· / (gcdL ns : Int))).map (· * (gcdL ns : Int)) = ns := by
      rw [List.map_map]
      refine (List.map_congr_left fun n hn => ?_).trans (List.map_id _)
      exact Int.ediv_mul_cancel (gcdL_dvd hn)
    have h2 := gcdL_mul (gcdL ns) (ns.map (· / (gcdL ns : Int)))
    rw [h1] at h2
    have h3 : 0 < gcdL ns := by omega
    exact Nat.eq_of_mul_eq_mul_right h3 (by omega)
  · omega
theorem cleared_len {row other : List Int} {s : Nat} (h : row.length = other.length) : (cleared row other s).length = row.length := by
  unfold cleared
  split
  · rfl
  · rw [shorten_len, List.length_zipWith]; omega
theorem cleared_vec {row other : List Int} {s : Nat} (h : row.length = other.length) (hp : 0 < vec other s) : ∃ g : Int, 0 < g ∧ ∀ j, g * vec (cleared row other s) j = vec other s * vec row j - vec row s * vec other j := by
  unfold cleared
  split
  · rename_i e
    exact ⟨vec other s, hp, fun j => by rw [e]; omega⟩
  · obtain ⟨g, hg, hv⟩ := shorten_vec (row.zipWith (fun a b => a * vec other s - vec row s * b) other)
    refine ⟨g, hg, fun j => ?_⟩
    rw [hv j, vec_zip (by omega) h]
    grind
theorem cleared_prim {row other : List Int} {s j : Nat} (h : row.length = other.length) (hp : 0 < vec other s) (hr : gcdL row = 1) (hn : vec other s * vec row j - vec row s * vec other j ≠ 0) : gcdL (cleared row other s) = 1 := by
  unfold cleared
  split
  · exact hr
  · refine shorten_prim (gcdL_vec (j := j) ?_)
    rw [vec_zip (by omega) h]
    grind
/-! ### one turn -/
structure Sx where
  rows : List (List Int)
  basis : List Nat
  costs : List Int
def row (rs : List (List Int)) (i : Nat) : List Int := rs.getD i []
def bas (bs : List Nat) (i : Nat) : Nat := bs.getD i 0
def turnR (rs : List (List Int)) (l s : Nat) : List (List Int) := rs.mapIdx fun k r => if k = l then r else cleared r (row rs l) s
def pivot (S : Sx) (l s : Nat) : Sx := ⟨turnR S.rows l s, S.basis.set l s, cleared S.costs (row S.rows l) s⟩
def better (rs : List (List Int)) (bs : List Nat) (s q b k : Nat) : Bool :=
  decide (vec (row rs k) q * vec (row rs b) s < vec (row rs b) q * vec (row rs k) s) || (decide (vec (row rs k) q * vec (row rs b) s = vec (row rs b) q * vec (row rs k) s) && decide (bas bs k < bas bs b))
def leav (rs : List (List Int)) (bs : List Nat) (s q : Nat) : Nat → Option Nat
  | 0 => none
  | k + 1 => if 0 < vec (row rs k) s then (match leav rs bs s q k with
      | none => some k
      | some b => if better rs bs s q b k = true then some k else some b) else leav rs bs s q k
def negs (n : Nat) (c : List Int) : List Nat := (List.range n).filter fun j => decide (vec c j < 0)
def stp (n q : Nat) (S : Sx) : Option Sx := match negs n S.costs with
  | [] => none
  | s :: _ => match leav S.rows S.basis s q S.rows.length with
    | none => none
    | some l => some (pivot S l s)
def go (n q : Nat) : Nat → Sx → Sx
  | 0, S => S
  | t + 1, S => match stp n q S with
    | none => S
    | some S' => go n q t S'
theorem go_succ (n q : Nat) : ∀ (t : Nat) (S : Sx), go n q (t + 1) S = match stp n q (go n q t S) with
    | none => go n q t S
    | some S' => S'
  | 0, S => by
    show (match stp n q S with | none => S | some S' => go n q 0 S') = _
    rfl
  | t + 1, S => by
    show (match stp n q S with | none => S | some S' => go n q (t + 1) S') = match stp n q (match stp n q S with | none => S | some S' => go n q t S') with
      | none => (match stp n q S with | none => S | some S' => go n q t S')
      | some S' => S'
    cases h : stp n q S with
    | none => simp only [h]
    | some S' => exact go_succ n q t S'
section
variable {rs : List (List Int)} {bs : List Nat} {s q : Nat}
/-- row k is at least as good as row i -/
def Lq (rs : List (List Int)) (bs : List Nat) (s q k i : Nat) : Prop := vec (row rs k) q * vec (row rs i) s ≤ vec (row rs i) q * vec (row rs k) s ∧ (vec (row rs k) q * vec (row rs i) s = vec (row rs i) q * vec (row rs k) s → bas bs k ≤ bas bs i)
theorem leav_none : ∀ {k : Nat}, leav rs bs s q k = none → ∀ i, i < k → vec (row rs i) s ≤ 0
  | 0, _, i, hi => by omega
  | k + 1, h, i, hi => by
    unfold leav at h
    split at h
    · split at h
      · cases h
      · split at h <;> cases h
    · rename_i hk
      by_cases e : i = k
      · subst e; omega
      · exact leav_none h i (by omega)
theorem leav_some : ∀ {k l : Nat}, leav rs bs s q k = some l → l < k ∧ 0 < vec (row rs l) s ∧ ∀ i, i < k → 0 < vec (row rs i) s → Lq rs bs s q l i
  | 0, l, h => by cases h
  | k + 1, l, h => by
    unfold leav at h
    split at h
    · rename_i hk
      split at h
      · rename_i hn
        cases h
        refine ⟨by omega, hk, fun i hi hp => ?_⟩
        by_cases e : i = k
        · subst e; exact ⟨Int.le_refl _, fun _ => Nat.le_refl _⟩
        · exact absurd hp (Int.not_lt.mpr (leav_none hn i (by omega)))
      · rename_i b hb
        obtain ⟨h1, h2, h3⟩ := leav_some hb
        split at h
        · rename_i hbt
          cases h
          unfold better at hbt
          simp only [Bool.or_eq_true, Bool.and_eq_true, decide_eq_true_eq] at hbt
          refine ⟨by omega, hk, fun i hi hp => ?_⟩
          by_cases e : i = k
          · subst e; exact ⟨Int.le_refl _, fun _ => Nat.le_refl _⟩
          · obtain ⟨g1, g2⟩ := h3 i (by omega) hp
            have kb : vec (row rs k) q * vec (row rs b) s ≤ vec (row rs b) q * vec (row rs k) s := by rcases hbt with z | z <;> omega
            have ki := frac_trans hk h2 hp kb g1
            refine ⟨ki, fun eq => ?_⟩
            have ik : vec (row rs i) q * vec (row rs b) s ≤ vec (row rs b) q * vec (row rs i) s := frac_trans (x := vec (row rs k) q) (y := vec (row rs k) s) hp hk h2 (by omega) kb
            have eb : vec (row rs b) q * vec (row rs i) s = vec (row rs i) q * vec (row rs b) s := by omega
            have bk : vec (row rs b) q * vec (row rs k) s ≤ vec (row rs k) q * vec (row rs b) s := frac_trans (x := vec (row rs i) q) (y := vec (row rs i) s) h2 hp hk (by omega) (by omega)
            have := g2 eb
            rcases hbt with z | z
            · omega
            · omega
        · rename_i hbt
          cases h
          unfold better at hbt
          simp only [Bool.or_eq_true, Bool.and_eq_true, decide_eq_true_eq, not_or, not_and] at hbt
          refine ⟨by omega, h2, fun i hi hp => ?_⟩
          by_cases e : i = k
          · subst e
            refine ⟨by omega, fun eq => ?_⟩
            have := hbt.2 eq.symm
            omega
          · exact h3 i (by omega) hp
    · rename_i hk
      obtain ⟨h1, h2, h3⟩ := leav_some h
      refine ⟨by omega, h2, fun i hi hp => ?_⟩
      by_cases e : i = k
      · subst e; exact absurd hp hk
      · exact h3 i (by omega) hp
end
theorem negs_cons {n : Nat} {c : List Int} {s : Nat} {t : List Nat} (h : negs n c = s :: t) : s < n ∧ vec c s < 0 ∧ ∀ j, j < s → 0 ≤ vec c j := by
  unfold negs at h
  have hm : s ∈ (List.range n).filter fun j => decide (vec c j < 0) := by rw [h]; exact List.mem_cons_self ..
  obtain ⟨h1, h2⟩ := List.mem_filter.mp hm
  refine ⟨List.mem_range.mp h1, of_decide_eq_true h2, fun j hj => ?_⟩
  refine Classical.byContradiction fun nn => ?_
  have hj2 : j ∈ (List.range n).filter fun j => decide (vec c j < 0) := List.mem_filter.mpr ⟨List.mem_range.mpr (by have := List.mem_range.mp h1; omega), decide_eq_true (by omega)⟩
  have ps : ((List.range n).filter fun j => decide (vec c j < 0)).Pairwise (· < ·) := List.Pairwise.filter _ List.pairwise_lt_range
  rw [h] at ps hj2
  rw [List.pairwise_cons] at ps
  rcases List.mem_cons.mp hj2 with e | e
  · omega
  · have := ps.1 j e
    omega
theorem negs_nil {n : Nat} {c : List Int} (h : negs n c = []) : ∀ j, j < n → 0 ≤ vec c j := fun j hj => by
  refine Classical.byContradiction fun nn => ?_
  have hj2 : j ∈ negs n c := List.mem_filter.mpr ⟨List.mem_range.mpr hj, decide_eq_true (by omega)⟩
  rw [h] at hj2
  cases hj2
end Lp

/-! The turns come to an end, and no number grows too great. -/
namespace Lp
theorem row_left {a b : List (List Int)} {i : Nat} (h : i < a.length) : row (a ++ b) i = row a i := by
  unfold row; rw [List.getD_eq_getElem?_getD, List.getD_eq_getElem?_getD, List.getElem?_append_left h]
theorem row_right {a b : List (List Int)} {i : Nat} (h : a.length ≤ i) : row (a ++ b) i = row b (i - a.length) := by
  unfold row; rw [List.getD_eq_getElem?_getD, List.getD_eq_getElem?_getD, List.getElem?_append_right h]
theorem bas_left {a b : List Nat} {i : Nat} (h : i < a.length) : bas (a ++ b) i = bas a i := by
  unfold bas; rw [List.getD_eq_getElem?_getD, List.getD_eq_getElem?_getD, List.getElem?_append_left h]
theorem bas_right {a b : List Nat} {i : Nat} (h : a.length ≤ i) : bas (a ++ b) i = bas b (i - a.length) := by
  unfold bas; rw [List.getD_eq_getElem?_getD, List.getD_eq_getElem?_getD, List.getElem?_append_right h]
theorem row_get {a : List (List Int)} {i : Nat} (h : i < a.length) : row a i = a[i] := by
  unfold row; rw [List.getD_eq_getElem?_getD, List.getElem?_eq_getElem h]; rfl
theorem row_mem {a : List (List Int)} {i : Nat} (h : i < a.length) : row a i ∈ a := by rw [row_get h]; exact List.getElem_mem h
theorem row_of {a : List (List Int)} {r : List Int} (h : r ∈ a) : ∃ i, i < a.length ∧ row a i = r := by
  obtain ⟨i, hi, e⟩ := List.getElem_of_mem h
  exact ⟨i, hi, by rw [row_get hi]; exact e⟩
theorem bas_get {a : List Nat} {i : Nat} (h : i < a.length) : bas a i = a[i] := by
  unfold bas; rw [List.getD_eq_getElem?_getD, List.getElem?_eq_getElem h]; rfl
theorem bas_set {a : List Nat} {l s i : Nat} (hl : l < a.length) : bas (a.set l s) i = if i = l then s else bas a i := by
  unfold bas
  rw [List.getD_eq_getElem?_getD, List.getD_eq_getElem?_getD, List.getElem?_set]
  by_cases e : l = i
  · subst e; rw [if_pos rfl, if_pos rfl, if_pos hl]; rfl
  · rw [if_neg e, if_neg (Ne.symm e)]
theorem turnR_len (rs : List (List Int)) (l s : Nat) : (turnR rs l s).length = rs.length := by unfold turnR; simp
theorem row_turnR {rs : List (List Int)} {l s i : Nat} (h : i < rs.length) : row (turnR rs l s) i = if i = l then row rs i else cleared (row rs i) (row rs l) s := by
  rw [row_get (by rw [turnR_len]; exact h)]
  unfold turnR
  rw [List.getElem_mapIdx, row_get h]
/-- what the first rows have -/
structure Orig (n m0 : Nat) (O : Nat → Vec) : Prop where
  ez : ∀ i, i < m0 → O i (n + m0) = 0
  ee : ∀ i k, i < m0 → k < m0 → O i (n + k) = if i = k then 1 else 0
structure Good (n m0 : Nat) (O : Nat → Vec) (c0 : Vec) (gr : List (List Int)) (gb : List Nat) (S : Sx) : Prop where
  len : ∀ r ∈ S.rows, r.length = n + m0 + 2
  clen : S.costs.length = n + m0 + 2
  bl : S.basis.length = S.rows.length
  tot : S.rows.length + gr.length = m0
  gl : gb.length = gr.length
  inv : Inv (fun _ => True) m0 O m0 (fun i => vec (row (S.rows ++ gr) i)) (fun i => bas (S.basis ++ gb) i)
  cost : Cost m0 O c0 (n + m0) m0 (fun i => bas (S.basis ++ gb) i) (vec S.costs)
  nn : ∀ i, i < m0 → 0 ≤ vec (row (S.rows ++ gr) i) (n + m0 + 1)
  prim : ∀ r ∈ S.rows, gcdL r = 1
  cprim : gcdL S.costs = 1
  gz : ∀ r ∈ gr, ∀ j, j < n → vec r j = 0
  blt : ∀ b ∈ S.basis, b < n + m0
section
variable {n m0 : Nat} {O : Nat → Vec} {c0 : Vec} {gr : List (List Int)} {gb : List Nat} {S S' : Sx}
theorem Good.step (G : Good n m0 O c0 gr gb S) (o : Orig n m0 O) {s l : Nat} (hs : s < n) (hl : l < S.rows.length) (hp : 0 < vec (row S.rows l) s) (rat : ∀ i, i < S.rows.length → 0 < vec (row S.rows i) s → Lq S.rows S.basis s (n + m0 + 1) l i) :
    Good n m0 O c0 gr gb (pivot S l s) ∧ Piv m0 (fun i => vec (row (S.rows ++ gr) i)) (fun i => bas (S.basis ++ gb) i) (fun i => vec (row ((pivot S l s).rows ++ gr) i)) (fun i => bas ((pivot S l s).basis ++ gb) i) l s ∧ PivC (fun i => vec (row (S.rows ++ gr) i)) l s (vec S.costs) (vec (pivot S l s).costs) := by
  have tl : (turnR S.rows l s).length = S.rows.length := turnR_len _ _ _
  have hm : S.rows.length ≤ m0 := by have := G.tot; omega
  have rl : row (S.rows ++ gr) l = row S.rows l := row_left hl
  have lenl := G.len _ (row_mem hl)
  have gz : ∀ i, S.rows.length ≤ i → i < m0 → ∀ j, j < n → vec (row (S.rows ++ gr) i) j = 0 := fun i h1 h2 j hj => by
    rw [row_right h1]
    exact G.gz _ (row_mem (by have := G.tot; omega)) j hj
  have P : Piv m0 (fun i => vec (row (S.rows ++ gr) i)) (fun i => bas (S.basis ++ gb) i) (fun i => vec (row ((pivot S l s).rows ++ gr) i)) (fun i => bas ((pivot S l s).basis ++ gb) i) l s := by
    refine ⟨by omega, by show 0 < vec (row (S.rows ++ gr) l) s; rw [rl]; exact hp, ?_, ?_, fun i hi ne => ?_, fun k hk ne => ?_⟩
    · show vec (row (turnR S.rows l s ++ gr) l) = vec (row (S.rows ++ gr) l)
      rw [row_left (by omega), row_turnR hl, if_pos rfl, rl]
    · show bas (S.basis.set l s ++ gb) l = s
      rw [bas_left (by rw [List.length_set, G.bl]; exact hl), bas_set (by rw [G.bl]; exact hl), if_pos rfl]
    · show bas (S.basis.set l s ++ gb) i = bas (S.basis ++ gb) i
      by_cases h : i < S.basis.length
      · rw [bas_left (by simpa using h), bas_left h, bas_set (by rw [G.bl]; exact hl), if_neg ne]
      · rw [bas_right (by simpa using h), bas_right (by omega), List.length_set]
    · show ∃ g : Int, 0 < g ∧ ∀ j, g * vec (row (turnR S.rows l s ++ gr) k) j = vec (row (S.rows ++ gr) l) s * vec (row (S.rows ++ gr) k) j - vec (row (S.rows ++ gr) k) s * vec (row (S.rows ++ gr) l) j
      by_cases h : k < S.rows.length
      · rw [row_left (by omega), row_turnR h, if_neg ne, row_left h, rl]
        exact cleared_vec ((G.len _ (row_mem h)).trans lenl.symm) hp
      · refine ⟨vec (row (S.rows ++ gr) l) s, by rw [rl]; exact hp, fun j => ?_⟩
        rw [gz k (by omega) hk s hs, row_right (by omega : (turnR S.rows l s).length ≤ k), row_right (by omega : S.rows.length ≤ k), tl]
        omega
  have PC : PivC (fun i => vec (row (S.rows ++ gr) i)) l s (vec S.costs) (vec (pivot S l s).costs) := by
    show ∃ g : Int, 0 < g ∧ ∀ j, g * vec (cleared S.costs (row S.rows l) s) j = vec (row (S.rows ++ gr) l) s * vec S.costs j - vec S.costs s * vec (row (S.rows ++ gr) l) j
    rw [rl]
    exact cleared_vec (G.clen.trans lenl.symm) hp
  have I' := G.inv.piv P trivial
  have C' := G.cost.piv G.inv P o.ez PC
  refine ⟨⟨fun r hr => ?_, ?_, ?_, ?_, G.gl, I', C', ?_, fun r hr => ?_, ?_, G.gz, fun b hb => ?_⟩, P, PC⟩
  · obtain ⟨i, hi, e⟩ := row_of hr
    have hi : i < (turnR S.rows l s).length := hi
    rw [← e]
    show (row (turnR S.rows l s) i).length = _
    rw [tl] at hi
    rw [row_turnR hi]
    split
    · exact G.len _ (row_mem hi)
    · rw [cleared_len ((G.len _ (row_mem hi)).trans lenl.symm)]; exact G.len _ (row_mem hi)
  · show (cleared S.costs (row S.rows l) s).length = _
    rw [cleared_len (G.clen.trans lenl.symm)]; exact G.clen
  · show (S.basis.set l s).length = (turnR S.rows l s).length
    rw [List.length_set, tl, G.bl]
  · show (turnR S.rows l s).length + gr.length = m0
    rw [tl]; exact G.tot
  · refine nn_piv P G.nn fun i hi hpi => ?_
    by_cases h : i < S.rows.length
    · have e : row (S.rows ++ gr) i = row S.rows i := row_left h
      show vec (row (S.rows ++ gr) l) _ * vec (row (S.rows ++ gr) i) s ≤ vec (row (S.rows ++ gr) i) _ * vec (row (S.rows ++ gr) l) s
      have hpi : 0 < vec (row (S.rows ++ gr) i) s := hpi
      rw [e, rl]
      rw [e] at hpi
      exact (rat i h hpi).1
    · have hpi : 0 < vec (row (S.rows ++ gr) i) s := hpi
      rw [gz i (by omega) hi s hs] at hpi
      omega
  · obtain ⟨i, hi, e⟩ := row_of hr
    have hi : i < (turnR S.rows l s).length := hi
    rw [← e]
    show gcdL (row (turnR S.rows l s) i) = 1
    rw [tl] at hi
    rw [row_turnR hi]
    split
    · exact G.prim _ (row_mem hi)
    · rename_i ne
      refine cleared_prim (j := bas (S.basis ++ gb) i) ((G.len _ (row_mem hi)).trans lenl.symm) hp (G.prim _ (row_mem hi)) ?_
      have z := G.inv.zero l i (by omega) (by omega) (Ne.symm ne)
      have p := G.inv.pos i (by omega)
      have z : vec (row (S.rows ++ gr) l) (bas (S.basis ++ gb) i) = 0 := z
      have p : 0 < vec (row (S.rows ++ gr) i) (bas (S.basis ++ gb) i) := p
      rw [rl] at z
      rw [row_left hi] at p
      rw [z]
      have := Int.mul_pos hp p
      omega
  · show gcdL (cleared S.costs (row S.rows l) s) = 1
    refine cleared_prim (j := n + m0) (G.clen.trans lenl.symm) hp G.cprim ?_
    have z : vec (row (S.rows ++ gr) l) (n + m0) = 0 := G.inv.z0 o.ez (by omega : l < m0)
    rw [rl] at z
    rw [z]
    have := Int.mul_pos hp G.cost.pos
    omega
  · have hb : b ∈ S.basis.set l s := hb
    rcases List.mem_or_eq_of_mem_set hb with h | h
    · exact G.blt b h
    · omega
/-- sizes -/
theorem Good.size (G : Good n m0 O c0 gr gb S) (o : Orig n m0 O) {M : Nat → Nat} (hM : ∀ i, i < m0 → ∀ j, (O i j).natAbs ≤ M i) {r : List Int} (hr : r ∈ S.rows) (j : Nat) : (vec r j).natAbs ≤ fac m0 * pr M m0 := by
  obtain ⟨i, hi, e⟩ := row_of hr
  have hm : i < m0 := by have := G.tot; omega
  obtain ⟨P, T, a, b, ha, hb, h⟩ := G.inv.rowdet rfl (fun _ => trivial) (fun k => n + k) o.ee hm
  have h1 := prim_le (r := vec r) ha hb (fun j => by have := h j; rw [row_left hi, e] at this; exact this) (prim_of (G.prim r hr)) j
  exact Nat.le_trans h1 (det_le m0 hM _)
theorem Good.csize (G : Good n m0 O c0 gr gb S) (o : Orig n m0 O) (hc : c0 (n + m0) = 1) {M : Nat → Nat} (hM : ∀ i, i < m0 → ∀ j, (O i j).natAbs ≤ M i) (hC : ∀ j, (c0 j).natAbs ≤ M m0) (j : Nat) : (vec S.costs j).natAbs ≤ fac (m0 + 1) * pr M (m0 + 1) := by
  obtain ⟨T, a, b, ha, hb, h⟩ := G.inv.costdet G.cost rfl (fun _ => trivial) (fun k => n + k) o.ee o.ez hc
  have h1 := prim_le (r := vec S.costs) ha hb h (prim_of G.cprim) j
  refine Nat.le_trans h1 (det_le (m0 + 1) (fun i hi j => ?_) _)
  show ((if i = m0 then c0 else O i) j).natAbs ≤ _
  split
  · rename_i e; subst e; exact hC j
  · exact hM i (by omega) j
/-! ### the end -/
theorem Good.stp (G : Good n m0 O c0 gr gb S) (o : Orig n m0 O) (h : stp n (n + m0 + 1) S = some S') : ∃ s l, s < n ∧ vec S.costs s < 0 ∧ (∀ j, j < s → 0 ≤ vec S.costs j) ∧ S' = pivot S l s ∧ l < S.rows.length ∧ 0 < vec (row S.rows l) s ∧ ∀ i, i < S.rows.length → 0 < vec (row S.rows i) s → Lq S.rows S.basis s (n + m0 + 1) l i := by
  unfold Lp.stp at h
  split at h
  · cases h
  · rename_i s t hn
    split at h
    · cases h
    · rename_i l hl
      cases h
      obtain ⟨h1, h2, h3⟩ := leav_some hl
      obtain ⟨g1, g2, g3⟩ := negs_cons hn
      exact ⟨s, l, g1, g2, g3, rfl, h1, h2, h3⟩
theorem Good.next (G : Good n m0 O c0 gr gb S) (o : Orig n m0 O) (h : Lp.stp n (n + m0 + 1) S = some S') : Good n m0 O c0 gr gb S' := by
  obtain ⟨s, l, h1, _, _, rfl, h4, h5, h6⟩ := G.stp o h
  exact (G.step o h1 h4 h5 h6).1
theorem Good.go (G : Good n m0 O c0 gr gb S) (o : Orig n m0 O) : ∀ t, Good n m0 O c0 gr gb (go n (n + m0 + 1) t S)
  | 0 => G
  | t + 1 => by
    rw [go_succ]
    split
    · exact G.go o t
    · rename_i S' h
      exact (G.go o t).next o h
theorem go_rows (n q : Nat) (S : Sx) : ∀ t, (Lp.go n q t S).rows.length = S.rows.length
  | 0 => rfl
  | t + 1 => by
    rw [go_succ]
    split
    · exact go_rows n q S t
    · rename_i S' h
      unfold Lp.stp at h
      split at h
      · cases h
      · split at h
        · cases h
        · cases h
          show (turnR _ _ _).length = _
          rw [turnR_len]
          exact go_rows n q S t
/-- a basis as a number -/
def code (N : Nat) : List Nat → Nat
  | [] => 0
  | b :: bs => b + N * code N bs
theorem code_lt {N : Nat} : ∀ {bs : List Nat}, (∀ b ∈ bs, b < N) → code N bs < N ^ bs.length
  | [], _ => by show 0 < N ^ 0; simp
  | b :: bs, h => by
    have h1 := code_lt (N := N) (bs := bs) fun x hx => h x (List.mem_cons_of_mem _ hx)
    have h2 := h b (List.mem_cons_self ..)
    show b + N * code N bs < N ^ (bs.length + 1)
    rw [Nat.pow_succ]
    have h3 : N * (code N bs + 1) ≤ N * N ^ bs.length := Nat.mul_le_mul_left N h1
    have h4 : N * (code N bs + 1) = N * code N bs + N := by rw [Nat.mul_add]; omega
    have h5 : N ^ bs.length * N = N * N ^ bs.length := Nat.mul_comm _ _
    omega
theorem code_inj {N : Nat} : ∀ {a b : List Nat}, a.length = b.length → (∀ x ∈ a, x < N) → (∀ x ∈ b, x < N) → code N a = code N b → a = b
  | [], [], _, _, _, _ => rfl
  | x :: a, y :: b, hl, ha, hb, h => by
    have hx := ha x (List.mem_cons_self ..)
    have hy := hb y (List.mem_cons_self ..)
    have h : x + N * code N a = y + N * code N b := h
    have h1 : (x + N * code N a) % N = x := by rw [Nat.add_mul_mod_self_left, Nat.mod_eq_of_lt hx]
    have h2 : (y + N * code N b) % N = y := by rw [Nat.add_mul_mod_self_left, Nat.mod_eq_of_lt hy]
    have e : x = y := by rw [← h1, h, h2]
    subst e
    have h3 : N * code N a = N * code N b := by omega
    have h4 : code N a = code N b := Nat.eq_of_mul_eq_mul_left (by omega) h3
    rw [code_inj (by simpa using hl) (fun z hz => ha z (List.mem_cons_of_mem _ hz)) (fun z hz => hb z (List.mem_cons_of_mem _ hz)) h4]
  | [], _ :: _, hl, _, _, _ => by simp at hl
  | _ :: _, [], hl, _, _, _ => by simp at hl
theorem twice_of (K : Nat) (f : Nat → Nat) (h : ∀ t, f t < K) : ∃ a d, 0 < d ∧ f a = f (a + d) := by
  have hn : ¬ ((List.range (K + 1)).map f).Nodup := fun hn => by
    have h1 := len_le_of_nodup (L := List.range K) hn fun x hx => by
      obtain ⟨t, _, e⟩ := List.mem_map.mp hx
      exact List.mem_range.mpr (by rw [← e]; exact h t)
    simp at h1
    omega
  obtain ⟨X, a, M, Y, e⟩ := split_twice hn
  have g1 : ((List.range (K + 1)).map f)[X.length]? = some a := by rw [e, List.getElem?_append_right (Nat.le_refl _)]; simp
  have g2 : ((List.range (K + 1)).map f)[X.length + (M.length + 1)]? = some a := by
    rw [e, List.getElem?_append_right (by omega), show X.length + (M.length + 1) - X.length = M.length + 1 by omega, List.getElem?_cons_succ, List.getElem?_append_right (Nat.le_refl _)]
    simp
  have key : ∀ i, ((List.range (K + 1)).map f)[i]? = some a → f i = a := fun i hi => by
    rw [List.getElem?_map] at hi
    cases q : (List.range (K + 1))[i]? with
    | none => rw [q] at hi; cases hi
    | some j =>
      rw [q] at hi
      obtain ⟨h1, h2⟩ := List.getElem?_eq_some_iff.mp q
      rw [List.getElem_range] at h2
      subst h2
      exact Option.some.inj hi
  exact ⟨X.length, M.length + 1, by omega, (key _ g1).trans (key _ g2).symm⟩
theorem Good.ends (G : Good n m0 O c0 gr gb S) (o : Orig n m0 O) : ∃ T, Lp.stp n (n + m0 + 1) (Lp.go n (n + m0 + 1) T S) = none := by
  refine Classical.byContradiction fun nx => ?_
  have hs : ∀ t, ∃ S', Lp.stp n (n + m0 + 1) (Lp.go n (n + m0 + 1) t S) = some S' := fun t => by
    cases h : Lp.stp n (n + m0 + 1) (Lp.go n (n + m0 + 1) t S) with
    | none => exact absurd ⟨t, h⟩ nx
    | some S' => exact ⟨S', rfl⟩
  have hg := fun t => G.go o t
  have nxt : ∀ t, ∃ s l, s < n ∧ vec (Lp.go n (n + m0 + 1) t S).costs s < 0 ∧ (∀ j, j < s → 0 ≤ vec (Lp.go n (n + m0 + 1) t S).costs j) ∧ Lp.go n (n + m0 + 1) (t + 1) S = pivot (Lp.go n (n + m0 + 1) t S) l s ∧ l < (Lp.go n (n + m0 + 1) t S).rows.length ∧ 0 < vec (row (Lp.go n (n + m0 + 1) t S).rows l) s ∧
      ∀ i, i < (Lp.go n (n + m0 + 1) t S).rows.length → 0 < vec (row (Lp.go n (n + m0 + 1) t S).rows i) s → Lq (Lp.go n (n + m0 + 1) t S).rows (Lp.go n (n + m0 + 1) t S).basis s (n + m0 + 1) l i := fun t => by
    obtain ⟨S', h⟩ := hs t
    obtain ⟨s, l, h1, h2, h3, h4, h5⟩ := (hg t).stp o h
    refine ⟨s, l, h1, h2, h3, ?_, h5⟩
    rw [go_succ, h, h4]
  let sf := fun t => Classical.choose (nxt t)
  let lf := fun t => Classical.choose (Classical.choose_spec (nxt t))
  have hf := fun t => Classical.choose_spec (Classical.choose_spec (nxt t))
  obtain ⟨a, d, hd, hc⟩ := twice_of ((n + m0) ^ S.rows.length) (fun t => code (n + m0) (Lp.go n (n + m0 + 1) t S).basis) fun t => by
    have h1 := code_lt (hg t).blt
    rw [(hg t).bl, go_rows] at h1
    exact h1
  have hb : (Lp.go n (n + m0 + 1) a S).basis = (Lp.go n (n + m0 + 1) (a + d) S).basis := code_inj (by rw [(hg a).bl, (hg (a + d)).bl, go_rows, go_rows]) (hg a).blt (hg (a + d)).blt hc
  refine no_cycle (A := fun _ => True) (m0 := m0) (m := m0) (T := d) (O := O) (c0 := c0) (z := n + m0) (q := n + m0 + 1) (R := fun t i => vec (row ((Lp.go n (n + m0 + 1) (a + t) S).rows ++ gr) i)) (B := fun t i => bas ((Lp.go n (n + m0 + 1) (a + t) S).basis ++ gb) i) (c := fun t => vec (Lp.go n (n + m0 + 1) (a + t) S).costs) (l := fun t => lf (a + t)) (s := fun t => sf (a + t)) ⟨fun t _ => (hg (a + t)).inv, fun t _ => (hg (a + t)).cost, fun t _ => (hg (a + t)).nn, fun t _ => ?_, fun t _ => ?_, fun t _ => ?_, fun t _ i hi hp => ?_, fun _ _ => trivial⟩ hd o.ez trivial (fun i hi => ?_)
  · obtain ⟨h1, h2, h3, h4, h5, h6, h7⟩ := hf (a + t)
    have h8 := ((hg (a + t)).step o h1 h5 h6 h7).2.1
    rw [← h4] at h8
    exact h8
  · obtain ⟨h1, h2, h3, h4, h5, h6, h7⟩ := hf (a + t)
    have h8 := ((hg (a + t)).step o h1 h5 h6 h7).2.2
    rw [← h4] at h8
    exact h8
  · obtain ⟨h1, h2, h3, h4, h5, h6, h7⟩ := hf (a + t)
    exact ⟨h2, h3⟩
  · obtain ⟨h1, h2, h3, h4, h5, h6, h7⟩ := hf (a + t)
    have tt := (hg (a + t)).tot
    have bl := (hg (a + t)).bl
    show vec (row ((Lp.go n (n + m0 + 1) (a + t) S).rows ++ gr) (lf (a + t))) (n + m0 + 1) * vec (row ((Lp.go n (n + m0 + 1) (a + t) S).rows ++ gr) i) (sf (a + t)) ≤ vec (row ((Lp.go n (n + m0 + 1) (a + t) S).rows ++ gr) i) (n + m0 + 1) * vec (row ((Lp.go n (n + m0 + 1) (a + t) S).rows ++ gr) (lf (a + t))) (sf (a + t)) ∧ (vec (row ((Lp.go n (n + m0 + 1) (a + t) S).rows ++ gr) (lf (a + t))) (n + m0 + 1) * vec (row ((Lp.go n (n + m0 + 1) (a + t) S).rows ++ gr) i) (sf (a + t)) = vec (row ((Lp.go n (n + m0 + 1) (a + t) S).rows ++ gr) i) (n + m0 + 1) * vec (row ((Lp.go n (n + m0 + 1) (a + t) S).rows ++ gr) (lf (a + t))) (sf (a + t)) → bas ((Lp.go n (n + m0 + 1) (a + t) S).basis ++ gb) (lf (a + t)) ≤ bas ((Lp.go n (n + m0 + 1) (a + t) S).basis ++ gb) i)
    have hp : 0 < vec (row ((Lp.go n (n + m0 + 1) (a + t) S).rows ++ gr) i) (sf (a + t)) := hp
    by_cases h : i < (Lp.go n (n + m0 + 1) (a + t) S).rows.length
    · rw [row_left h] at hp ⊢
      rw [row_left h5, bas_left (by rw [bl]; exact h5), bas_left (by rw [bl]; exact h)]
      exact h7 i h hp
    · rw [row_right (by omega), (hg (a + t)).gz _ (row_mem (by omega)) _ h1] at hp
      omega
  · show bas ((Lp.go n (n + m0 + 1) (a + d) S).basis ++ gb) i = bas ((Lp.go n (n + m0 + 1) a S).basis ++ gb) i
    rw [hb]
end
end Lp

/-! Unknowns, or numbers that show there are none. -/
namespace Lp
theorem vec_append (a b : List Int) (j : Nat) : vec (a ++ b) j = if j < a.length then vec a j else vec b (j - a.length) := by
  unfold vec
  rw [List.getD_eq_getElem?_getD, List.getD_eq_getElem?_getD, List.getD_eq_getElem?_getD]
  split
  · rename_i h; rw [List.getElem?_append_left h]
  · rename_i h; rw [List.getElem?_append_right (by omega)]
theorem vec_range (m : Nat) (f : Nat → Int) (j : Nat) : vec ((List.range m).map f) j = if j < m then f j else 0 := by
  split
  · rename_i h; rw [vec_get (by simpa using h)]; simp
  · rename_i h; rw [vec_out (by simpa using h)]
theorem vec_set (a : List Int) (l : Nat) (x : Int) (j : Nat) : vec (a.set l x) j = if j = l ∧ l < a.length then x else vec a j := by
  unfold vec
  rw [List.getD_eq_getElem?_getD, List.getD_eq_getElem?_getD, List.getElem?_set]
  by_cases e : l = j
  · subst e
    by_cases h : l < a.length
    · rw [if_pos rfl, if_pos h, if_pos ⟨rfl, h⟩]; rfl
    · rw [if_pos rfl, if_neg h, if_neg (fun z => h z.2), List.getElem?_eq_none (by omega)]
  · rw [if_neg e, if_neg (fun z => e z.1.symm)]
theorem vec_rep (k j : Nat) : vec (List.replicate k 0) j = 0 := by
  by_cases h : j < k
  · rw [vec_get (by simpa using h)]; simp
  · rw [vec_out (by simpa using h)]
theorem lin.sum {φ : Vec → Int} (L : lin φ) (O : Nat → Vec) : ∀ m, φ (fun j => sm m fun i => O i j) = sm m fun i => φ (O i)
  | 0 => L.zero
  | m + 1 => by
    have h := L 1 1 (fun j => sm m fun i => O i j) (O m)
    have e : (fun j => 1 * (sm m fun i => O i j) + 1 * O m j) = fun j => sm (m + 1) fun i => O i j := by
      funext j
      show _ = (sm m fun i => O i j) + O m j
      omega
    rw [e, L.sum O m] at h
    show _ = sm m (fun i => φ (O i)) + φ (O m)
    omega
/-! ### the first rows -/
def sg (g : Int) : Int := if 0 ≤ g then 1 else -1
def ab (g : Int) : Int := if g < 0 then -g else g
theorem sg_ab (g : Int) : sg g * g = ab g := by unfold sg ab; split <;> split <;> omega
theorem sg_sg (g : Int) : sg g * sg g = 1 := by unfold sg; split <;> decide
theorem ab_nn (g : Int) : 0 ≤ ab g := by unfold ab; split <;> omega
theorem ab_abs (g : Int) : (ab g).natAbs = g.natAbs := by unfold ab; split <;> omega
def own (m i : Nat) : List Int := (List.range m).map fun o => if o = i then 1 else 0
def row0 (m i : Nat) (r : List Int) (g : Int) : List Int := r.map (sg g * ·) ++ own m i ++ [0, ab g]
def rows0 (A : List (List Int)) (b : List Int) : List (List Int) := A.mapIdx fun i r => row0 A.length i r (vec b i)
def basis0 (n m : Nat) : List Nat := (List.range m).map (n + ·)
def clr (n : Nat) : Nat → List Int → List Int
  | 0, c => c
  | k + 1, c => (clr n k c).set (n + k) 0
def fold0 (w : Nat) (rs : List (List Int)) : List Int := rs.foldl (fun c r => c.zipWith (· - ·) r) (List.replicate w 0)
def costs1 (n m : Nat) (rs : List (List Int)) : List Int := (clr n m (fold0 (n + m + 2) rs)).set (n + m) 1
def st1 (n : Nat) (A : List (List Int)) (b : List Int) : Sx := ⟨rows0 A b, basis0 n A.length, costs1 n A.length (rows0 A b)⟩
def OO (A : List (List Int)) (b : List Int) (i : Nat) : Vec := vec (row (rows0 A b) i)
/-- the sizes fit -/
structure Fit (n : Nat) (A : List (List Int)) (b : List Int) : Prop where
  wid : ∀ r ∈ A, r.length = n
  len : b.length = A.length
section
variable {n : Nat} {A : List (List Int)} {b : List Int}
theorem row_rows0 {i : Nat} (h : i < A.length) : row (rows0 A b) i = row0 A.length i (row A i) (vec b i) := by
  have h2 : i < (A.mapIdx fun i r => row0 A.length i r (vec b i)).length := by simpa using h
  show row (A.mapIdx fun i r => row0 A.length i r (vec b i)) i = _
  rw [row_get h2, row_get h, List.getElem_mapIdx]
theorem OO_at (F : Fit n A b) {i : Nat} (h : i < A.length) (j : Nat) : OO A b i j = if j < n then sg (vec b i) * vec (row A i) j else if j < n + A.length then (if j = n + i then 1 else 0) else if j = n + A.length + 1 then ab (vec b i) else 0 := by
  unfold OO
  rw [row_rows0 h]
  have hl : (row A i).length = n := F.wid _ (row_mem h)
  unfold row0
  rw [vec_append, vec_append]
  simp only [List.length_append, List.length_map, own, List.length_range, hl]
  by_cases h1 : j < n
  · rw [if_pos (by omega), if_pos h1, if_pos h1, vec_map (by simp)]
  · by_cases h2 : j < n + A.length
    · simp only [h1, h2, if_true, if_false]
      rw [vec_range, if_pos (by omega)]
      by_cases e : j = n + i
      · rw [if_pos e, if_pos (by omega)]
      · rw [if_neg e, if_neg (by omega)]
    · simp only [h1, h2, if_false]
      by_cases e : j = n + A.length + 1
      · rw [if_pos e, e, show n + A.length + 1 - (n + A.length) = 1 by omega]; rfl
      · rw [if_neg e]
        by_cases f : j = n + A.length
        · rw [f, show n + A.length - (n + A.length) = 0 by omega]; rfl
        · exact vec_out (by show 2 ≤ _; omega)
theorem orig_of (F : Fit n A b) : Orig n A.length (OO A b) := by
  refine ⟨fun i hi => ?_, fun i k hi hk => ?_⟩
  · rw [OO_at F hi, if_neg (by omega), if_neg (by omega), if_neg (by omega)]
  · rw [OO_at F hi, if_neg (by omega), if_pos (by omega)]
    by_cases e : i = k
    · rw [if_pos e, if_pos (by omega)]
    · rw [if_neg e, if_neg (by omega)]
def c01 (n m : Nat) : Vec := fun j => if n ≤ j ∧ j ≤ n + m then 1 else 0
theorem zipSub_len {c r : List Int} (h : c.length = r.length) : (c.zipWith (· - ·) r).length = c.length := by rw [List.length_zipWith]; omega
theorem fold_vec {w : Nat} : ∀ (rs : List (List Int)) (c : List Int), c.length = w → (∀ r ∈ rs, r.length = w) → (rs.foldl (fun c r => c.zipWith (· - ·) r) c).length = w ∧ ∀ j, vec (rs.foldl (fun c r => c.zipWith (· - ·) r) c) j = vec c j - sm rs.length fun i => vec (row rs i) j
  | [], c, hc, _ => ⟨hc, fun j => by show vec c j = vec c j - 0; omega⟩
  | r :: rs, c, hc, h => by
    have hr := h r (List.mem_cons_self ..)
    obtain ⟨h1, h2⟩ := fold_vec (w := w) rs (c.zipWith (· - ·) r) (by rw [zipSub_len (by omega)]; exact hc) fun x hx => h x (List.mem_cons_of_mem _ hx)
    refine ⟨h1, fun j => ?_⟩
    show vec (rs.foldl _ (c.zipWith (· - ·) r)) j = _
    rw [h2 j, vec_zip (by rfl) (by omega)]
    have key : ∀ k, sm (k + 1) (fun i => vec (row (r :: rs) i) j) = vec r j + sm k fun i => vec (row rs i) j := by
      intro k
      induction k with
      | zero => show 0 + vec r j = vec r j + 0; omega
      | succ k ih => show sm (k + 1) _ + vec (row rs k) j = vec r j + (sm k _ + vec (row rs k) j); rw [ih]; omega
    rw [List.length_cons, key]
    omega
theorem clr_vec {n w : Nat} (c : List Int) (hc : c.length = w) : ∀ k, n + k < w → (clr n k c).length = w ∧ ∀ j, vec (clr n k c) j = if n ≤ j ∧ j < n + k then 0 else vec c j
  | 0, _ => ⟨hc, fun j => by rw [if_neg (by omega)]; rfl⟩
  | k + 1, h => by
    obtain ⟨h1, h2⟩ := clr_vec (n := n) c hc k (by omega)
    refine ⟨by show ((clr n k c).set (n + k) 0).length = w; rw [List.length_set]; exact h1, fun j => ?_⟩
    show vec ((clr n k c).set (n + k) 0) j = _
    rw [vec_set, h2]
    by_cases e : j = n + k
    · rw [if_pos ⟨e, by omega⟩, if_pos (by omega)]
    · rw [if_neg (fun z => e z.1)]
      by_cases f : n ≤ j ∧ j < n + k
      · rw [if_pos f, if_pos (by omega)]
      · rw [if_neg f, if_neg (by omega)]
theorem rows0_len : (rows0 A b).length = A.length := by unfold rows0; simp
theorem rows0_wid (F : Fit n A b) : ∀ r ∈ rows0 A b, r.length = n + A.length + 2 := fun r hr => by
  obtain ⟨i, hi, e⟩ := row_of hr
  rw [rows0_len] at hi
  rw [← e, row_rows0 hi]
  unfold row0 own
  simp [F.wid _ (row_mem hi)]
  omega
theorem costs1_len (F : Fit n A b) : (costs1 n A.length (rows0 A b)).length = n + A.length + 2 := by
  obtain ⟨h1, _⟩ := fold_vec (w := n + A.length + 2) (rows0 A b) (List.replicate (n + A.length + 2) 0) (by simp) (rows0_wid F)
  obtain ⟨h2, _⟩ := clr_vec (n := n) (fold0 (n + A.length + 2) (rows0 A b)) h1 A.length (by omega)
  unfold costs1
  rw [List.length_set]
  exact h2
theorem costs1_vec (F : Fit n A b) (j : Nat) : vec (costs1 n A.length (rows0 A b)) j = c01 n A.length j - sm A.length fun i => OO A b i j := by
  obtain ⟨h1, f1⟩ := fold_vec (w := n + A.length + 2) (rows0 A b) (List.replicate (n + A.length + 2) 0) (by simp) (rows0_wid F)
  obtain ⟨h2, f2⟩ := clr_vec (n := n) (fold0 (n + A.length + 2) (rows0 A b)) h1 A.length (by omega)
  have f3 : vec (fold0 (n + A.length + 2) (rows0 A b)) j = - sm A.length fun i => OO A b i j := by
    have := f1 j
    rw [vec_rep, rows0_len] at this
    show vec ((rows0 A b).foldl _ _) j = _
    rw [this]
    show 0 - sm A.length (fun i => OO A b i j) = _
    omega
  unfold costs1
  rw [vec_set, h2, f2, f3]
  unfold c01
  by_cases e : j = n + A.length
  · rw [if_pos ⟨e, by omega⟩, if_pos (by omega), sm_zero fun i hi => by rw [e]; exact (orig_of F).ez i hi]
    omega
  · rw [if_neg (fun z => e z.1)]
    by_cases f : n ≤ j ∧ j < n + A.length
    · rw [if_pos f, if_pos (by omega), sm_one (k := j - n) (by omega) fun i hi ne => by
        have := (orig_of F).ee i (j - n) hi (by omega)
        rw [show n + (j - n) = j by omega, if_neg ne] at this
        exact this]
      have := (orig_of F).ee (j - n) (j - n) (by omega) (by omega)
      rw [show n + (j - n) = j by omega, if_pos rfl] at this
      omega
    · rw [if_neg f, if_neg (by omega)]
      omega
theorem basis0_at {n m i : Nat} (h : i < m) : bas (basis0 n m) i = n + i := by
  rw [bas_get (by unfold basis0; simpa using h)]
  unfold basis0
  simp
theorem gcd1 {r : List Int} {j : Nat} (h : vec r j = 1) : gcdL r = 1 := by
  have hj : j < r.length := by
    refine Classical.byContradiction fun n => ?_
    rw [vec_out (by omega)] at h
    omega
  have h1 := gcdL_dvd (vec_in hj)
  rw [h] at h1
  have h2 : gcdL r ∣ 1 := Int.natCast_dvd_natCast.mp h1
  exact Nat.dvd_one.mp h2
theorem good1 (F : Fit n A b) : Good n A.length (OO A b) (c01 n A.length) [] [] (st1 n A b) := by
  have o := orig_of F
  have rl : (rows0 A b).length = A.length := rows0_len
  have ro : ∀ i, vec (row (rows0 A b ++ []) i) = OO A b i := fun i => by rw [List.append_nil]; rfl
  have bo : ∀ i, i < A.length → bas (basis0 n A.length ++ []) i = n + i := fun i hi => by rw [List.append_nil]; exact basis0_at hi
  refine ⟨rows0_wid F, costs1_len F, by show (basis0 n A.length).length = _; unfold basis0; simp [st1, rl], by show (rows0 A b).length + 0 = _; omega, rfl, ?_, ?_, fun i hi => ?_, fun r hr => ?_, ?_, (fun r hr => by cases hr), fun x hx => ?_⟩
  · show Inv _ _ _ _ (fun i => vec (row (rows0 A b ++ []) i)) (fun i => bas (basis0 n A.length ++ []) i)
    rw [funext ro]
    refine ⟨fun i hi => ?_, fun i k hi hk ne => ?_, fun _ _ => trivial, fun φ L S h => h, fun φ L h => h⟩
    · show 0 < OO A b i (bas (basis0 n A.length ++ []) i)
      rw [bo i hi, o.ee i i hi hi, if_pos rfl]
      decide
    · show OO A b i (bas (basis0 n A.length ++ []) k) = 0
      rw [bo k hk, o.ee i k hi hk, if_neg ne]
  · show Cost _ _ _ _ _ (fun i => bas (basis0 n A.length ++ []) i) (vec (costs1 n A.length (rows0 A b)))
    have cz : vec (costs1 n A.length (rows0 A b)) (n + A.length) = 1 := by
      rw [costs1_vec F, sm_zero fun i hi => o.ez i hi]
      unfold c01
      rw [if_pos (by omega)]
      rfl
    refine ⟨by rw [cz]; decide, fun i hi => ?_, fun φ L h => ?_⟩
    · show vec (costs1 n A.length (rows0 A b)) (bas (basis0 n A.length ++ []) i) = 0
      rw [bo i hi, costs1_vec F, sm_one hi fun k hk ne => by rw [o.ee k i hk hi, if_neg ne], o.ee i i hi hi, if_pos rfl]
      unfold c01
      rw [if_pos (by omega)]
      rfl
    · rw [cz]
      have e : vec (costs1 n A.length (rows0 A b)) = fun j => 1 * c01 n A.length j - 1 * sm A.length fun i => OO A b i j := by
        funext j
        rw [costs1_vec F]
        omega
      rw [e, L.sub, L.sum, sm_zero fun i hi => h i hi]
      omega
  · show 0 ≤ vec (row (rows0 A b ++ []) i) _
    rw [ro, OO_at F hi, if_neg (by omega), if_neg (by omega), if_pos rfl]
    exact ab_nn _
  · obtain ⟨i, hi, e⟩ := row_of hr
    have hi : i < (rows0 A b).length := hi
    rw [rl] at hi
    refine gcd1 (j := n + i) ?_
    rw [← e]
    show OO A b i (n + i) = 1
    rw [o.ee i i hi hi, if_pos rfl]
  · refine gcd1 (j := n + A.length) ?_
    show vec (costs1 n A.length (rows0 A b)) (n + A.length) = 1
    rw [costs1_vec F, sm_zero fun i hi => o.ez i hi]
    unfold c01
    rw [if_pos (by omega)]
    rfl
  · have hx : x ∈ (List.range A.length).map (n + ·) := hx
    obtain ⟨i, hi, e⟩ := List.mem_map.mp hx
    have := List.mem_range.mp hi
    omega
/-! ### how it ends -/
open Classical in
/-- the state where the turns end -/
noncomputable def endOf (n q : Nat) (S : Sx) : Sx := if h : ∃ T, stp n q (go n q T S) = none then go n q (Classical.choose h) S else S
noncomputable def fin1 (n : Nat) (A : List (List Int)) (b : List Int) : Sx := endOf n (n + A.length + 1) (st1 n A b)
theorem endOf_good {m0 : Nat} {O : Nat → Vec} {c0 : Vec} {gr : List (List Int)} {gb : List Nat} {S : Sx} (G : Good n m0 O c0 gr gb S) (o : Orig n m0 O) : Good n m0 O c0 gr gb (endOf n (n + m0 + 1) S) ∧ stp n (n + m0 + 1) (endOf n (n + m0 + 1) S) = none ∧ ∃ T, endOf n (n + m0 + 1) S = go n (n + m0 + 1) T S := by
  have h := G.ends o
  unfold endOf
  rw [dif_pos h]
  exact ⟨G.go o _, Classical.choose_spec h, _, rfl⟩
/-- in the first stage some row goes -/
theorem leav1 (F : Fit n A b) {S : Sx} (G : Good n A.length (OO A b) (c01 n A.length) [] [] S) {s : Nat} (hs : s < n) (hc : vec S.costs s < 0) : leav S.rows S.basis s (n + A.length + 1) S.rows.length ≠ none := fun h => by
  have hn := leav_none h
  obtain ⟨P, w, hP, hw, hk⟩ := G.inv.form (s := s) trivial
  have f1 := G.cost.all _ fn_lin hk
  rw [fn_zero G.cost.zero] at f1
  have tot := G.tot
  simp only [List.length_nil, Nat.add_zero] at tot
  have nn : 0 ≤ fn P w A.length (fun i => bas (S.basis ++ []) i) (fun i => vec (row (S.rows ++ []) i) s) s (c01 n A.length) := by
    unfold fn
    have e : c01 n A.length s = 0 := by unfold c01; rw [if_neg (by omega)]
    rw [e]
    have : 0 ≤ sm A.length fun i => -(w i * vec (row (S.rows ++ []) i) s * c01 n A.length (bas (S.basis ++ []) i)) := sm_nonneg fun i hi => by
      have h1 : vec (row (S.rows ++ []) i) s ≤ 0 := by rw [List.append_nil]; exact hn i (by omega)
      have h2 : 0 ≤ c01 n A.length (bas (S.basis ++ []) i) := by unfold c01; split <;> decide
      have h3 := Int.mul_nonneg (Int.mul_nonneg (Int.le_of_lt (hw i hi).1) (by omega : 0 ≤ -vec (row (S.rows ++ []) i) s)) h2
      grind
    have e2 : (sm A.length fun i => -(w i * vec (row (S.rows ++ []) i) s * c01 n A.length (bas (S.basis ++ []) i))) = -1 * sm A.length fun i => w i * vec (row (S.rows ++ []) i) s * c01 n A.length (bas (S.basis ++ []) i) := by
      rw [← sm_mul]
      exact sm_congr fun i _ => by omega
    show 0 ≤ P * 0 - sm A.length fun i => w i * vec (row (S.rows ++ []) i) s * c01 n A.length (bas (S.basis ++ []) i)
    omega
  have h1 := Int.mul_nonneg (Int.le_of_lt G.cost.pos) nn
  have h2 := Int.mul_pos hP (by omega : 0 < -vec S.costs s)
  have h3 : P * -vec S.costs s = -(P * vec S.costs s) := by grind
  omega
theorem fin1_ok (F : Fit n A b) : Good n A.length (OO A b) (c01 n A.length) [] [] (fin1 n A b) ∧ negs n (fin1 n A b).costs = [] := by
  obtain ⟨G, h, _⟩ := endOf_good (good1 F) (orig_of F)
  refine ⟨G, ?_⟩
  have h : stp n (n + A.length + 1) (fin1 n A b) = none := h
  unfold stp at h
  split at h
  · assumption
  · rename_i s t hn
    obtain ⟨h1, h2, _⟩ := negs_cons hn
    split at h
    · rename_i hl
      exact absurd hl (leav1 F G h1 h2)
    · cases h
/-- the numbers that show that there are no unknowns -/
def nums (n m : Nat) (b c : List Int) : List Int := (b.map sg).zipWith (· * ·) ((List.range m).map fun i => vec c (n + m) - vec c (n + i))
theorem nums_at {m i : Nat} {c : List Int} (hb : b.length = m) (h : i < m) : vec (nums n m b c) i = sg (vec b i) * (vec c (n + m) - vec c (n + i)) := by
  unfold nums
  rw [vec_get (by rw [List.length_zipWith]; simp [hb, h]), List.getElem_zipWith]
  simp only [List.getElem_map, List.getElem_range]
  rw [vec_get (r := b) (by omega)]
/-- a column's form by the rows put in -/
def fc (n m : Nat) (O : Nat → Vec) (j : Nat) : Vec → Int := fun v => v j - sm m fun i => O i j * v (n + i)
theorem fc_lin {m j : Nat} {O : Nat → Vec} : lin (fc n m O j) := fun x y u v => by
  unfold fc
  have e : (sm m fun i => O i j * (x * u (n + i) + y * v (n + i))) = sm m fun i => x * (O i j * u (n + i)) + y * (O i j * v (n + i)) := sm_congr fun i _ => by grind
  rw [e, sm_lin]
  grind
theorem fc_kill {m j : Nat} {O : Nat → Vec} (o : Orig n m O) {k : Nat} (hk : k < m) : fc n m O j (O k) = 0 := by
  unfold fc
  rw [sm_one hk fun i hi ne => by rw [o.ee k i hk hi, if_neg (Ne.symm ne)]; omega, o.ee k k hk hk, if_pos rfl]
  omega
theorem none1 (F : Fit n A b) (h : vec (fin1 n A b).costs (n + A.length + 1) < 0) :
    (∀ j, j < n → (sm A.length fun i => vec (nums n A.length b (fin1 n A b).costs) i * vec (row A i) j) ≤ 0) ∧ 0 < sm A.length fun i => vec (nums n A.length b (fin1 n A b).costs) i * vec b i := by
  obtain ⟨G, hn⟩ := fin1_ok F
  have o := orig_of F
  have key : ∀ j, n ≤ j → ¬ j ≤ n + A.length ∨ j < n → True := fun _ _ _ => trivial
  have gen : ∀ j, vec (fin1 n A b).costs j = vec (fin1 n A b).costs (n + A.length) * (c01 n A.length j - sm A.length fun i => OO A b i j) + sm A.length fun i => OO A b i j * vec (fin1 n A b).costs (n + i) := fun j => by
    have f := G.cost.all _ (fc_lin (n := n) (m := A.length) (j := j) (O := OO A b)) fun k hk => fc_kill o hk
    unfold fc at f
    have e : (sm A.length fun i => OO A b i j * c01 n A.length (n + i)) = sm A.length fun i => OO A b i j := sm_congr fun i hi => by
      unfold c01
      rw [if_pos (by omega)]
      omega
    rw [e] at f
    omega
  have sumj : ∀ j (f : Nat → Int), (∀ i, i < A.length → vec (nums n A.length b (fin1 n A b).costs) i * f i = OO A b i j * (vec (fin1 n A b).costs (n + A.length) - vec (fin1 n A b).costs (n + i))) → (sm A.length fun i => vec (nums n A.length b (fin1 n A b).costs) i * f i) = vec (fin1 n A b).costs (n + A.length) * c01 n A.length j - vec (fin1 n A b).costs j := fun j f hf => by
    rw [sm_congr hf, gen j]
    have e : (sm A.length fun i => OO A b i j * (vec (fin1 n A b).costs (n + A.length) - vec (fin1 n A b).costs (n + i))) = vec (fin1 n A b).costs (n + A.length) * (sm A.length fun i => OO A b i j) - sm A.length fun i => OO A b i j * vec (fin1 n A b).costs (n + i) := by
      have e1 : (sm A.length fun i => OO A b i j * (vec (fin1 n A b).costs (n + A.length) - vec (fin1 n A b).costs (n + i))) = sm A.length fun i => vec (fin1 n A b).costs (n + A.length) * OO A b i j + (-1) * (OO A b i j * vec (fin1 n A b).costs (n + i)) := sm_congr fun i _ => by grind
      rw [e1, sm_lin]
      omega
    rw [e]
    grind
  refine ⟨fun j hj => ?_, ?_⟩
  · rw [sumj j (fun i => vec (row A i) j) fun i hi => by
      rw [nums_at F.len hi, OO_at F hi, if_pos hj]
      grind]
    have e : c01 n A.length j = 0 := by unfold c01; rw [if_neg (by omega)]
    rw [e]
    have := negs_nil hn j hj
    omega
  · rw [sumj (n + A.length + 1) (fun i => vec b i) fun i hi => by
      rw [nums_at F.len hi, OO_at F hi, if_neg (by omega), if_neg (by omega), if_pos rfl, ← sg_ab]
      grind]
    have e : c01 n A.length (n + A.length + 1) = 0 := by unfold c01; rw [if_neg (by omega)]
    rw [e]
    omega
end
end Lp

/-! The unknowns as fractions. -/
namespace Lp
def frac (t b : Int) : Int × Int := (t / (Int.gcd t b : Int), b / (Int.gcd t b : Int))
theorem frac_ok {t b : Int} (hb : 0 < b) : 0 < (frac t b).2 ∧ Int.gcd (frac t b).1 (frac t b).2 = 1 ∧ (frac t b).1 * b = t * (frac t b).2 ∧ t = (Int.gcd t b : Int) * (frac t b).1 ∧ b = (Int.gcd t b : Int) * (frac t b).2 ∧ (0 : Int) < Int.gcd t b := by
  have hg : (0 : Int) < Int.gcd t b := by
    have : Int.gcd t b ≠ 0 := fun e => by have := (Int.gcd_eq_zero_iff.mp e).2; omega
    omega
  have e1 : t = (Int.gcd t b : Int) * (frac t b).1 := (Int.mul_ediv_cancel' (Int.gcd_dvd_left ..)).symm
  have e2 : b = (Int.gcd t b : Int) * (frac t b).2 := (Int.mul_ediv_cancel' (Int.gcd_dvd_right ..)).symm
  have p2 : 0 < (frac t b).2 := mulpos hg (by omega)
  refine ⟨p2, ?_, ?_, e1, e2, hg⟩
  · have h2 : Int.gcd ((Int.gcd t b : Int) * (frac t b).1) ((Int.gcd t b : Int) * (frac t b).2) = (Int.gcd t b : Int).natAbs * Int.gcd (frac t b).1 (frac t b).2 := Int.gcd_mul_left ..
    rw [← e1, ← e2, Int.natAbs_natCast] at h2
    have hg2 : 0 < Int.gcd t b := by omega
    exact Nat.eq_of_mul_eq_mul_left hg2 (by omega)
  · generalize (Int.gcd t b : Int) = g at e1 e2 hg
    have h3 : g * ((frac t b).1 * b - t * (frac t b).2) = 0 := by grind
    have := mul0 hg h3
    omega
def fat (x : List (Int × Int)) (j : Nat) : Int × Int := x.getD j (0, 1)
def unk (n q : Nat) (rs : List (List Int)) (bs : List Nat) : Nat → List (Int × Int)
  | 0 => List.replicate n (0, 1)
  | k + 1 => if bas bs k < n then (unk n q rs bs k).set (bas bs k) (frac (vec (row rs k) q) (vec (row rs k) (bas bs k))) else unk n q rs bs k
theorem unk_len (n q : Nat) (rs : List (List Int)) (bs : List Nat) : ∀ k, (unk n q rs bs k).length = n
  | 0 => by show (List.replicate n _).length = n; simp
  | k + 1 => by
    unfold unk
    split
    · rw [List.length_set]; exact unk_len n q rs bs k
    · exact unk_len n q rs bs k
theorem fat_set {x : List (Int × Int)} {l j : Nat} {y : Int × Int} : fat (x.set l y) j = if j = l ∧ l < x.length then y else fat x j := by
  unfold fat
  rw [List.getD_eq_getElem?_getD, List.getD_eq_getElem?_getD, List.getElem?_set]
  by_cases e : l = j
  · subst e
    by_cases h : l < x.length
    · rw [if_pos rfl, if_pos h, if_pos ⟨rfl, h⟩]; rfl
    · rw [if_pos rfl, if_neg h, if_neg (fun z => h z.2), List.getElem?_eq_none (by omega)]
  · rw [if_neg e, if_neg (fun z => e z.1.symm)]
theorem unk_in {n q : Nat} {rs : List (List Int)} {bs : List Nat} : ∀ {k : Nat}, (∀ i i', i < k → i' < k → bas bs i = bas bs i' → i = i') → ∀ i, i < k → bas bs i < n → fat (unk n q rs bs k) (bas bs i) = frac (vec (row rs i) q) (vec (row rs i) (bas bs i))
  | 0, _, i, hi, _ => by omega
  | k + 1, h, i, hi, hn => by
    unfold unk
    by_cases e : i = k
    · subst e
      rw [if_pos hn, fat_set, if_pos ⟨rfl, by rw [unk_len]; exact hn⟩]
    · have ih := unk_in (n := n) (q := q) (rs := rs) (k := k) (fun a b ha hb => h a b (by omega) (by omega)) i (by omega) hn
      split
      · rw [fat_set, if_neg (fun z => e (h i k hi (by omega) z.1))]
        exact ih
      · exact ih
theorem unk_out {n q : Nat} {rs : List (List Int)} {bs : List Nat} : ∀ {k j : Nat}, (∀ i, i < k → bas bs i ≠ j) → fat (unk n q rs bs k) j = (0, 1)
  | 0, j, _ => by
    show fat (List.replicate n (0, 1)) j = _
    unfold fat
    rw [List.getD_eq_getElem?_getD, List.getElem?_replicate]
    split <;> rfl
  | k + 1, j, h => by
    unfold unk
    split
    · rw [fat_set, if_neg (fun z => h k (by omega) z.1.symm)]
      exact unk_out fun i hi => h i (by omega)
    · exact unk_out fun i hi => h i (by omega)
structure Sol (n : Nat) (A : List (List Int)) (b : List Int) (x : List (Int × Int)) (P : Int) (X : Nat → Int) : Prop where
  pos : 0 < P
  len : x.length = n
  nn : ∀ j, j < n → 0 ≤ X j
  fr : ∀ j, j < n → 0 < (fat x j).2 ∧ Int.gcd (fat x j).1 (fat x j).2 = 1 ∧ X j * (fat x j).2 = P * (fat x j).1
  eq : ∀ k, k < A.length → P * vec b k = sm n fun j => X j * vec (row A k) j
  few : ((List.range n).filter fun j => decide (X j ≠ 0)).length ≤ A.length
theorem sm_split (a b : Nat) (f : Nat → Int) : sm (a + b) f = sm a f + sm b fun i => f (a + i) := by
  induction b with
  | zero => show sm a f = sm a f + 0; omega
  | succ b ih => show sm (a + b) f + f (a + b) = sm a f + (sm b _ + f (a + b)); rw [ih]; omega
theorem sm_if {m k : Nat} (h : k < m) (f : Nat → Int) : (sm m fun j => if k = j then f j else 0) = f k := by
  rw [sm_one h fun i hi ne => if_neg (Ne.symm ne), if_pos rfl]
section
variable {n : Nat} {A : List (List Int)} {b : List Int} {c0 : Vec} {gr : List (List Int)} {gb : List Nat} {S : Sx}
/-- a state whose unknowns put in are 0 tells a solution; P and X as the last column has them -/
theorem Good.sol (F : Fit n A b) (G : Good n A.length (OO A b) c0 gr gb S) (gbl : ∀ x ∈ gb, x < n + A.length) (h0 : ∀ i, i < A.length → n ≤ bas (S.basis ++ gb) i → vec (row (S.rows ++ gr) i) (n + A.length + 1) = 0) :
    ∃ P X, Sol n A b (unk n (n + A.length + 1) S.rows S.basis S.rows.length) P X ∧ ∀ φv : Vec, (∀ j, n ≤ j → φv j = 0) → ∀ w : Nat → Int, (∀ i, i < A.length → 0 < w i ∧ w i * vec (row (S.rows ++ gr) i) (bas (S.basis ++ gb) i) = P) →
      (sm A.length fun i => w i * vec (row (S.rows ++ gr) i) (n + A.length + 1) * φv (bas (S.basis ++ gb) i)) = sm n fun j => X j * φv j := by
  have o := orig_of F
  obtain ⟨P, w, hP, hw, hk⟩ := G.inv.form (s := n + A.length + 1) trivial
  have tot := G.tot
  have bl := G.bl
  have gl := G.gl
  let N := n + A.length
  have bN : ∀ i, i < A.length → bas (S.basis ++ gb) i < n + A.length := fun i hi => by
    by_cases h : i < S.basis.length
    · rw [bas_left h]; exact G.blt _ (by rw [bas_get h]; exact List.getElem_mem h)
    · rw [bas_right (by omega)]
      have hg : i - S.basis.length < gb.length := by omega
      exact gbl _ (by rw [bas_get hg]; exact List.getElem_mem hg)
  let X : Nat → Int := fun j => sm A.length fun i => if bas (S.basis ++ gb) i = j then w i * vec (row (S.rows ++ gr) i) (n + A.length + 1) else 0
  have Xeq : ∀ v : Vec, (sm A.length fun i => w i * vec (row (S.rows ++ gr) i) (n + A.length + 1) * v (bas (S.basis ++ gb) i)) = sm (n + A.length) fun j => X j * v j := fun v => by
    have e1 : (sm (n + A.length) fun j => X j * v j) = sm (n + A.length) fun j => sm A.length fun i => if bas (S.basis ++ gb) i = j then w i * vec (row (S.rows ++ gr) i) (n + A.length + 1) * v j else 0 := sm_congr fun j _ => by
      show (sm A.length fun i => _) * v j = _
      rw [Int.mul_comm, ← sm_mul]
      exact sm_congr fun i _ => by
        by_cases e : bas (S.basis ++ gb) i = j
        · rw [if_pos e, if_pos e]; grind
        · rw [if_neg e, if_neg e]; omega
    rw [e1, sm_swap]
    exact sm_congr fun i hi => (sm_if (bN i hi) fun j => w i * vec (row (S.rows ++ gr) i) (n + A.length + 1) * v j).symm
  have inj : ∀ i k, i < A.length → k < A.length → bas (S.basis ++ gb) i = bas (S.basis ++ gb) k → i = k := fun i k hi hk e => G.inv.inj hi hk e
  have Xat : ∀ i, i < A.length → X (bas (S.basis ++ gb) i) = w i * vec (row (S.rows ++ gr) i) (n + A.length + 1) := fun i hi => by
    show (sm A.length fun k => if bas (S.basis ++ gb) k = bas (S.basis ++ gb) i then w k * vec (row (S.rows ++ gr) k) (n + A.length + 1) else 0) = _
    rw [sm_one hi fun k hk ne => if_neg fun e => ne (inj k i hk hi e), if_pos rfl]
  have Xout : ∀ j, (∀ i, i < A.length → bas (S.basis ++ gb) i ≠ j) → X j = 0 := fun j h => sm_zero fun i hi => if_neg (h i hi)
  have Xart : ∀ j, n ≤ j → X j = 0 := fun j hj => by
    refine sm_zero fun i hi => ?_
    by_cases e : bas (S.basis ++ gb) i = j
    · rw [if_pos e, h0 i hi (by omega)]; omega
    · exact if_neg e
  have Xnn : ∀ j, 0 ≤ X j := fun j => sm_nonneg fun i hi => by
    by_cases e : bas (S.basis ++ gb) i = j
    · rw [if_pos e]; exact Int.mul_nonneg (Int.le_of_lt (hw i hi).1) (G.nn i hi)
    · rw [if_neg e]; exact Int.le_refl _
  have main : ∀ k, k < A.length → P * ab (vec b k) = sm n fun j => X j * (sg (vec b k) * vec (row A k) j) := fun k hk' => by
    have h1 := hk k hk'
    have h1 : P * OO A b k (n + A.length + 1) - (sm A.length fun i => w i * vec (row (S.rows ++ gr) i) (n + A.length + 1) * OO A b k (bas (S.basis ++ gb) i)) = 0 := h1
    rw [Xeq, OO_at F hk', if_neg (by omega), if_neg (by omega), if_pos rfl, sm_split] at h1
    have z : (sm A.length fun i => X (n + i) * OO A b k (n + i)) = 0 := sm_zero fun i hi => by rw [Xart (n + i) (by omega)]; omega
    rw [z] at h1
    have e : (sm n fun j => X j * OO A b k j) = sm n fun j => X j * (sg (vec b k) * vec (row A k) j) := sm_congr fun j hj => by rw [OO_at F hk', if_pos hj]
    rw [e] at h1
    omega
  refine ⟨P, X, ⟨hP, unk_len _ _ _ _ _, fun j _ => Xnn j, fun j hj => ?_, fun k hk' => ?_, ?_⟩, fun v hv w' hw' => ?_⟩
  · have injS : ∀ i k, i < S.rows.length → k < S.rows.length → bas S.basis i = bas S.basis k → i = k := fun i k hi hk e => inj i k (by omega) (by omega) (by rw [bas_left (by omega), bas_left (by omega)]; exact e)
    by_cases h : ∃ i, i < S.rows.length ∧ bas S.basis i = j
    · obtain ⟨i, hi, e⟩ := h
      have hia : i < A.length := by omega
      have hu := unk_in (n := n) (q := n + A.length + 1) (rs := S.rows) injS i hi (by omega)
      rw [e] at hu
      have bi : bas (S.basis ++ gb) i = j := by rw [bas_left (by omega)]; exact e
      have ri : row (S.rows ++ gr) i = row S.rows i := row_left hi
      have pos : 0 < vec (row S.rows i) j := by have := G.inv.pos i hia; rw [← ri, ← bi]; exact this
      obtain ⟨f1, f2, f3, _⟩ := frac_ok (t := vec (row S.rows i) (n + A.length + 1)) pos
      rw [hu]
      refine ⟨f1, f2, ?_⟩
      have hX := Xat i hia
      rw [bi, ri] at hX
      have hPw := (hw i hia).2
      rw [bi, ri] at hPw
      rw [hX]
      generalize frac (vec (row S.rows i) (n + A.length + 1)) (vec (row S.rows i) j) = f at f1 f2 f3
      have : w i * vec (row S.rows i) (n + A.length + 1) * f.2 = w i * (vec (row S.rows i) (n + A.length + 1) * f.2) := by grind
      rw [this, ← f3, ← hPw]
      grind
    · have hu := unk_out (n := n) (q := n + A.length + 1) (rs := S.rows) (k := S.rows.length) (j := j) fun i hi e => h ⟨i, hi, e⟩
      rw [hu]
      refine ⟨by decide, by decide, ?_⟩
      have hX : X j = 0 := by
        by_cases h2 : ∃ i, i < A.length ∧ bas (S.basis ++ gb) i = j
        · obtain ⟨i, hi, e⟩ := h2
          have hge : S.rows.length ≤ i := by
            refine Classical.byContradiction fun nn => h ⟨i, by omega, ?_⟩
            rw [bas_left (by omega)] at e
            exact e
          have gz : vec (row (S.rows ++ gr) i) j = 0 := by
            rw [row_right hge]
            exact G.gz _ (row_mem (by omega)) j hj
          have := G.inv.pos i hi
          have : 0 < vec (row (S.rows ++ gr) i) (bas (S.basis ++ gb) i) := this
          rw [e, gz] at this
          omega
        · exact Xout j fun i hi e => h2 ⟨i, hi, e⟩
      rw [hX]
      show (0 : Int) * 1 = P * 0
      omega
  · have h1 := main k hk'
    have e : (sm n fun j => X j * (sg (vec b k) * vec (row A k) j)) = sg (vec b k) * sm n fun j => X j * vec (row A k) j := by
      rw [← sm_mul]
      exact sm_congr fun j _ => by grind
    rw [e] at h1
    have h2 := sg_ab (vec b k)
    have h3 := sg_sg (vec b k)
    have h4 : sg (vec b k) * (P * ab (vec b k)) = P * vec b k := by
      rw [← h2]
      have : sg (vec b k) * (P * (sg (vec b k) * vec b k)) = (sg (vec b k) * sg (vec b k)) * (P * vec b k) := by grind
      rw [this, h3]
      omega
    rw [← h4, h1]
    have : sg (vec b k) * (sg (vec b k) * sm n fun j => X j * vec (row A k) j) = (sg (vec b k) * sg (vec b k)) * sm n fun j => X j * vec (row A k) j := by grind
    rw [this, h3]
    omega
  · have h1 := len_le_of_nodup (C := (List.range n).filter fun j => decide (X j ≠ 0)) (L := S.basis ++ gb) (List.Pairwise.filter _ List.nodup_range) fun j hj => by
      have h2 := of_decide_eq_true (List.mem_filter.mp hj).2
      by_cases h : ∃ i, i < A.length ∧ bas (S.basis ++ gb) i = j
      · obtain ⟨i, hi, e⟩ := h
        have hl : i < (S.basis ++ gb).length := by rw [List.length_append]; omega
        rw [← e, bas_get hl]
        exact List.getElem_mem hl
      · exact absurd (Xout j fun i hi e => h ⟨i, hi, e⟩) h2
    rw [List.length_append] at h1
    omega
  · have ew : ∀ i, i < A.length → w' i = w i := fun i hi => by
      have h1 := (hw' i hi).2
      have h2 := (hw i hi).2
      have hp := G.inv.pos i hi
      have hp : 0 < vec (row (S.rows ++ gr) i) (bas (S.basis ++ gb) i) := hp
      have h3 : vec (row (S.rows ++ gr) i) (bas (S.basis ++ gb) i) * (w' i - w i) = 0 := by grind
      have := mul0 hp h3
      omega
    rw [sm_congr fun i hi => by rw [ew i hi], Xeq, sm_split]
    have z : (sm A.length fun i => X (n + i) * v (n + i)) = 0 := sm_zero fun i hi => by rw [hv (n + i) (by omega)]; omega
    rw [z]
    omega
/-- the first stage, if it ends at 0 -/
theorem some1 (F : Fit n A b) (h : ¬ vec (fin1 n A b).costs (n + A.length + 1) < 0) : (∀ i, i < A.length → n ≤ bas ((fin1 n A b).basis ++ []) i → vec (row ((fin1 n A b).rows ++ []) i) (n + A.length + 1) = 0) := by
  obtain ⟨G, hn⟩ := fin1_ok F
  obtain ⟨P, w, hP, hw, hk⟩ := G.inv.form (s := n + A.length + 1) trivial
  have f := G.cost.all _ fn_lin hk
  rw [fn_zero G.cost.zero] at f
  have f : P * vec (fin1 n A b).costs (n + A.length + 1) = vec (fin1 n A b).costs (n + A.length) * (P * c01 n A.length (n + A.length + 1) - sm A.length fun i => w i * vec (row ((fin1 n A b).rows ++ []) i) (n + A.length + 1) * c01 n A.length (bas ((fin1 n A b).basis ++ []) i)) := f
  have e : c01 n A.length (n + A.length + 1) = 0 := by unfold c01; rw [if_neg (by omega)]
  rw [e] at f
  have tnn : ∀ i, i < A.length → 0 ≤ w i * vec (row ((fin1 n A b).rows ++ []) i) (n + A.length + 1) * c01 n A.length (bas ((fin1 n A b).basis ++ []) i) := fun i hi => by
    have h2 : 0 ≤ c01 n A.length (bas ((fin1 n A b).basis ++ []) i) := by unfold c01; split <;> decide
    exact Int.mul_nonneg (Int.mul_nonneg (Int.le_of_lt (hw i hi).1) (G.nn i hi)) h2
  have s0 : (sm A.length fun i => w i * vec (row ((fin1 n A b).rows ++ []) i) (n + A.length + 1) * c01 n A.length (bas ((fin1 n A b).basis ++ []) i)) = 0 := by
    have h1 := sm_nonneg tnn
    have h2 := Int.mul_nonneg (Int.le_of_lt hP) (by omega : 0 ≤ vec (fin1 n A b).costs (n + A.length + 1))
    have cz := G.cost.pos
    have h3 : vec (fin1 n A b).costs (n + A.length) * (sm A.length fun i => w i * vec (row ((fin1 n A b).rows ++ []) i) (n + A.length + 1) * c01 n A.length (bas ((fin1 n A b).basis ++ []) i)) ≤ 0 := by
      generalize (sm A.length fun i => w i * vec (row ((fin1 n A b).rows ++ []) i) (n + A.length + 1) * c01 n A.length (bas ((fin1 n A b).basis ++ []) i)) = Y at f h1
      have : vec (fin1 n A b).costs (n + A.length) * (P * 0 - Y) = -(vec (fin1 n A b).costs (n + A.length) * Y) := by grind
      omega
    generalize (sm A.length fun i => w i * vec (row ((fin1 n A b).rows ++ []) i) (n + A.length + 1) * c01 n A.length (bas ((fin1 n A b).basis ++ []) i)) = Y at h1 h3
    have h4 : 0 ≤ vec (fin1 n A b).costs (n + A.length) * -Y := by
      have : vec (fin1 n A b).costs (n + A.length) * -Y = -(vec (fin1 n A b).costs (n + A.length) * Y) := by grind
      omega
    have := mulnn cz h4
    omega
  intro i hi hB
  have h1 := sm_all0 tnn s0 i hi
  have hblt : bas ((fin1 n A b).basis ++ []) i < n + A.length := by
    have tot := G.tot
    have bl := G.bl
    simp only [List.length_nil] at tot
    rw [List.append_nil, bas_get (by omega)]
    exact G.blt _ (List.getElem_mem _)
  have e2 : c01 n A.length (bas ((fin1 n A b).basis ++ []) i) = 1 := by unfold c01; rw [if_pos (by omega)]
  rw [e2] at h1
  exact mul0 (hw i hi).1 (by omega)
/-- what the first stage tells: unknowns -/
theorem sol1 (F : Fit n A b) (h : ¬ vec (fin1 n A b).costs (n + A.length + 1) < 0) : ∃ P X, Sol n A b (unk n (n + A.length + 1) (fin1 n A b).rows (fin1 n A b).basis (fin1 n A b).rows.length) P X := by
  obtain ⟨P, X, h1, _⟩ := Good.sol F (fin1_ok F).1 (fun x hx => by cases hx) (some1 F h)
  exact ⟨P, X, h1⟩
end
end Lp

namespace JL
open PySem PySem.Spec L2 Lp
/-! ### what the defs about sums do -/
abbrev encI (ns : List Int) : D := .lst (ns.map D.int)
abbrev encN (ns : List Nat) : D := .lst (ns.map fun (n : Nat) => D.int (n : Int))
abbrev encR (rs : List (List Int)) : D := .lst (rs.map fun r => encI r)
abbrev frD (f : Int × Int) : D := .tup [.int f.1, .int f.2]
abbrev encX (xs : List (Int × Int)) : D := .lst (xs.map frD)
def szL (k : Nat) (ns : List Int) : Prop := ∀ n ∈ ns, n.natAbs < 2 ^ k
theorem szL.vec {k : Nat} {ns : List Int} (h : szL k ns) (j : Nat) : (Lp.vec ns j).natAbs < 2 ^ k := by
  by_cases hj : j < ns.length
  · exact h _ (vec_in hj)
  · rw [vec_out (by omega)]
    exact Nat.two_pow_pos k
theorem szL_of {k : Nat} {ns : List Int} (h : ∀ j, (Lp.vec ns j).natAbs < 2 ^ k) : szL k ns := fun n hn => by
  obtain ⟨j, _, e⟩ := vec_mem hn
  rw [← e]
  exact h j
abbrev eqN : List Str := ["many", "signs", "rows", "basis"]
def R_shortened : List D → Out → Prop := fun ds o => ∃ ns : List Int, ns.length ≤ 1000 ∧ szL 9000 ns ∧ ds = [encI ns] ∧ o = .ret (encI (shorten ns))
def R_fraction : List D → Out → Prop := fun ds o => ∃ t b : Int, 0 < b ∧ b.natAbs < 2 ^ 9000 ∧ ds = [.int t, .int b] ∧ o = .ret (frD (frac t b))
def R_cleared : List D → Out → Prop := fun ds o => ∃ (r u : List Int) (s : Nat), r.length = u.length ∧ s < u.length ∧ u.length ≤ 1000 ∧ szL 4400 r ∧ szL 4400 u ∧ ds = [encI r, encI u, .int (s : Int)] ∧ o = .ret (encI (cleared r u s))
abbrev eqF (n : Nat) (sg : List Int) (rr : Addr) (rows : List (List Int)) (rb : Addr) (basis : List Nat) : Fs := [("many", .dat (.int (n : Int))), ("signs", .dat (encI sg)), ("rows", .li rr (rows.map fun r => encI r)), ("basis", .li rb (basis.map fun (b : Nat) => D.int (b : Int)))]
/-- rows of one width, of fair sizes -/
structure RowsOk (w : Nat) (rows : List (List Int)) (basis : List Nat) : Prop where
  wid : ∀ r ∈ rows, r.length = w
  sz : ∀ r ∈ rows, szL 4400 r
  bl : basis.length = rows.length
  w1 : w ≤ 1000
  few : rows.length ≤ 100
def R_turn : Fs → List D → Out → Fs → Prop := fun fs ds o fs' => ∃ (n : Nat) (sg : List Int) (rr rb : Addr) (rows : List (List Int)) (basis : List Nat) (costs : List Int) (w l s : Nat), RowsOk w rows basis ∧ costs.length = w ∧ szL 4400 costs ∧ l < rows.length ∧ s < w ∧ fs = eqF n sg rr rows rb basis ∧ ds = [encI costs, .int (l : Int), .int (s : Int)] ∧ o = .ret (encI (cleared costs (row rows l) s)) ∧ fs' = eqF n sg rr (turnR rows l s) rb (basis.set l s)
def optD : Option Nat → D
  | none => .non
  | some l => .int (l : Int)
def R_leaving : Fs → List D → Out → Fs → Prop := fun fs ds o fs' => ∃ (n : Nat) (sg : List Int) (rr rb : Addr) (rows : List (List Int)) (basis : List Nat) (w s : Nat), RowsOk w rows basis ∧ s < w ∧ fs = eqF n sg rr rows rb basis ∧ ds = [.int (s : Int)] ∧ o = .ret (optD (leav rows basis s (w - 1) rows.length)) ∧ fs' = fs
def R_unknowns : Fs → List D → Out → Fs → Prop := fun fs ds o fs' => ∃ (n : Nat) (sg : List Int) (rr rb : Addr) (rows : List (List Int)) (basis : List Nat) (w : Nat), RowsOk w rows basis ∧ n < w ∧ (∀ i, i < rows.length → bas basis i < n → 0 < vec (row rows i) (bas basis i)) ∧ fs = eqF n sg rr rows rb basis ∧ ds = [] ∧ o = .ret (encX (unk n (w - 1) rows basis rows.length)) ∧ fs' = fs
/-- the sizes that come up are fair -/
structure Sized (A : List (List Int)) (b : List Int) (M : Nat → Nat) : Prop where
  row : ∀ i, i < A.length → ∀ j, (OO A b i j).natAbs ≤ M i
  last : 1 ≤ M A.length
  all : fac (A.length + 1) * pr M (A.length + 1) < 2 ^ 4400
noncomputable def solD (n : Nat) (A : List (List Int)) (b : List Int) : D :=
  if vec (fin1 n A b).costs (n + A.length + 1) < 0 then .tup [.non, encI (nums n A.length b (fin1 n A b).costs)] else .tup [encX (unk n (n + A.length + 1) (fin1 n A b).rows (fin1 n A b).basis (fin1 n A b).rows.length), .non]
structure Task (n : Nat) (A : List (List Int)) (b : List Int) (M : Nat → Nat) : Prop where
  fit : Fit n A b
  sized : Sized A b M
  n0 : 0 < n
  n1 : n ≤ 500
  m0 : 0 < A.length
  m1 : A.length ≤ 50
def R_init : List D → Prop := fun ds => ∃ n A b M, Task n A b M ∧ ds = [encR A, encI b]
def R_made : List D → Fs → Prop := fun ds fs => ∃ n A b rr rb, ds = [encR A, encI b] ∧ (∀ r ∈ A, r.length = n) ∧ 0 < A.length ∧ fs = eqF n (b.map sg) rr (rows0 A b) rb (basis0 n A.length)
def R_solvedM : Fs → List D → Out → Fs → Prop := fun fs ds o fs' => ∃ (n : Nat) (A : List (List Int)) (b : List Int) (M : Nat → Nat) (rr rb : Addr), Task n A b M ∧ fs = eqF n (b.map sg) rr (rows0 A b) rb (basis0 n A.length) ∧ ds = [] ∧ o = .ret (solD n A b) ∧ fs' = eqF n (b.map sg) rr (fin1 n A b).rows rb (fin1 n A b).basis
/-! ### small laws -/
theorem log_of {x : Int} {k : Nat} (h : x.natAbs < 2 ^ k) (hk : 0 < k) : x.natAbs.log2 < k := by
  by_cases hz : x.natAbs = 0
  · rw [hz]; simpa using hk
  · exact (Nat.log2_lt hz).mpr h
theorem mulw {x y : Int} {k l : Nat} (hx : x.natAbs < 2 ^ k) (hy : y.natAbs < 2 ^ l) (hk : 0 < k) (hl : 0 < l) (h : k + l ≤ 1000000) : CMulW x y := by
  have h1 := log_of hx hk
  have h2 := log_of hy hl
  show _ + _ < _
  omega
theorem mul44 {x y : Int} (hx : x.natAbs < 2 ^ 4400) (hy : y.natAbs < 2 ^ 4400) : CMulW x y := mulw hx hy (by decide) (by decide) (by decide)
theorem atI_vec {ns : List Int} {j : Nat} (h : j < ns.length) : atI (ns.map D.int) (j : Int) = some (.int (vec ns j)) := by
  rw [atI_map D.int (v := vec ns j)]
  rw [vec_get h]
  exact atI_nat (List.getElem?_eq_getElem h)
theorem atI_last {α : Type} {ns : List α} {k : Nat} {x : α} (h0 : 0 < k) (hk : k ≤ ns.length) (h : ns[ns.length - k]? = some x) : atI ns (-(k : Int)) = some x := by
  unfold atI
  have e : ixN ns.length (-(k : Int)) = some (ns.length - k) := by
    unfold ixN
    rw [if_neg (by omega), if_pos (by omega)]
    congr 1
    omega
  rw [e]
  exact h
theorem atI_vlast {ns : List Int} {k : Nat} (h0 : 0 < k) (hk : k ≤ ns.length) : atI (ns.map D.int) (-(k : Int)) = some (.int (vec ns (ns.length - k))) := by
  refine atI_last h0 (by simpa using hk) ?_
  rw [List.length_map, List.getElem?_map, List.getElem?_eq_getElem (by omega), vec_get (by omega)]
  rfl
theorem atI_row {rows : List (List Int)} {i : Nat} (h : i < rows.length) : atI (rows.map fun r => encI r) (i : Int) = some (encI (row rows i)) := by
  refine atI_nat ?_
  rw [List.getElem?_map, List.getElem?_eq_getElem h, row_get h]
  rfl
theorem atI_bas {bs : List Nat} {i : Nat} (h : i < bs.length) : atI (bs.map fun (b : Nat) => D.int (b : Int)) (i : Int) = some (.int (bas bs i : Nat)) := by
  refine atI_nat ?_
  rw [List.getElem?_map, List.getElem?_eq_getElem h, bas_get h]
  rfl
theorem ixN_nat {n j : Nat} (h : j < n) : ixN n (j : Int) = some j := by
  unfold ixN
  rw [if_pos (by omega), if_pos (by omega)]
  simp
theorem gcd_of (a : Nat) (n : Int) : Int.gcd (a : Int) n = Nat.gcd a n.natAbs := rfl
theorem shorten_one {ns : List Int} (h : gcdL ns ≤ 1) : shorten ns = ns := by unfold shorten; rw [if_neg (by omega)]
theorem gcdL_take1 {ns : List Int} {i : Nat} (h : gcdL (ns.take i) = 1) : gcdL ns = 1 := by
  have e : ns = ns.take i ++ ns.drop i := (List.take_append_drop i ns).symm
  rw [e, gcdL_append, h]
  exact Nat.gcd_one_left _
theorem gcdL_take {ns : List Int} {i : Nat} {n : Int} (h : ns[i]? = some n) : gcdL (ns.take (i + 1)) = Nat.gcd (gcdL (ns.take i)) n.natAbs := by
  have hi := (List.getElem?_eq_some_iff.mp h).1
  have e : ns.take (i + 1) = ns.take i ++ [n] := by
    rw [List.take_add_one, h]
    rfl
  rw [e, gcdL_append]
  show Nat.gcd _ (Nat.gcd n.natAbs 0) = _
  rw [Nat.gcd_zero_right]
theorem gcdL_lt {ns : List Int} {k : Nat} (h : szL k ns) : gcdL ns < 2 ^ k := by
  by_cases h0 : gcdL ns = 0
  · rw [h0]; exact Nat.two_pow_pos k
  · have : ∃ n ∈ ns, n ≠ 0 := by
      refine Classical.byContradiction fun nx => h0 ?_
      have all : ∀ n ∈ ns, n = 0 := fun n hn => Classical.byContradiction fun z => nx ⟨n, hn, z⟩
      have : 0 ∣ gcdL ns := dvd_gcdL fun n hn => by rw [all n hn]; exact Nat.dvd_refl 0
      exact Nat.zero_dvd.mp this
    obtain ⟨n, hn, hz⟩ := this
    have h1 := Nat.le_of_dvd (by omega : 0 < n.natAbs) (Int.natAbs_dvd_natAbs.mpr (gcdL_dvd hn))
    rw [Int.natAbs_natCast] at h1
    exact Nat.lt_of_le_of_lt h1 (h n hn)
theorem eqF_rows {n : Nat} {sg : List Int} {rr rb : Addr} {rows : List (List Int)} {basis : List Nat} {i : Nat} {r : List Int} : eqF n sg rr (rows.set i r) rb basis = ([("many", .dat (.int (n : Int))), ("signs", .dat (encI sg)), ("rows", .li rr ((rows.map fun r => encI r).set i (encI r))), ("basis", .li rb (basis.map fun (b : Nat) => D.int (b : Int)))] : Fs) := by
  unfold eqF
  rw [List.map_set]
theorem eqF_basis {n : Nat} {sg : List Int} {rr rb : Addr} {rows : List (List Int)} {basis : List Nat} {i x : Nat} : eqF n sg rr rows rb (basis.set i x) = ([("many", .dat (.int (n : Int))), ("signs", .dat (encI sg)), ("rows", .li rr (rows.map fun r => encI r)), ("basis", .li rb ((basis.map fun (b : Nat) => D.int (b : Int)).set i (.int (x : Int))))] : Fs) := by
  unfold eqF
  rw [List.map_set]
theorem rng_natmap (m : Nat) : rng 0 (m : Int) = (List.range m).map fun (i : Nat) => D.int (i : Int) := by
  unfold rng
  rw [show ((m : Int) - 0).toNat = m by omega]
  exact List.map_congr_left fun i _ => by rw [Int.zero_add]
theorem pr_pos {M : Nat → Nat} : ∀ {t : Nat}, (∀ i, i < t → 1 ≤ M i) → 1 ≤ pr M t
  | 0, _ => Nat.le_refl _
  | t + 1, h => Nat.mul_pos (h t (by omega)) (pr_pos fun i hi => h i (by omega))
theorem pr_ge {M : Nat → Nat} : ∀ {t i : Nat}, (∀ i, i < t → 1 ≤ M i) → i < t → M i ≤ pr M t
  | 0, i, _, hi => by omega
  | t + 1, i, h, hi => by
    have h1 := pr_pos (M := M) (t := t) fun i hi => h i (by omega)
    by_cases e : i = t
    · subst e; exact Nat.le_mul_of_pos_right _ h1
    · exact Nat.le_trans (pr_ge (fun i hi => h i (by omega)) (by omega)) (Nat.le_mul_of_pos_left _ (h t (by omega)))
theorem fac_pos : ∀ t, 1 ≤ fac t
  | 0 => Nat.le_refl _
  | t + 1 => Nat.mul_pos (by omega) (fac_pos t)
section
variable {n : Nat} {A : List (List Int)} {b : List Int} {M : Nat → Nat}
theorem Sized.one (F : Fit n A b) (S : Sized A b M) : ∀ i, i < A.length + 1 → 1 ≤ M i := fun i hi => by
  by_cases e : i = A.length
  · subst e; exact S.last
  · have h := S.row i (by omega) (n + i)
    rw [(orig_of F).ee i i (by omega) (by omega), if_pos rfl] at h
    exact h
theorem Sized.row_le (F : Fit n A b) (S : Sized A b M) {i : Nat} (hi : i < A.length + 1) : M i < 2 ^ 4400 :=
  Nat.lt_of_le_of_lt (Nat.le_trans (pr_ge (S.one F) hi) (Nat.le_mul_of_pos_left _ (fac_pos _))) S.all
theorem Sized.rows_le (F : Fit n A b) (S : Sized A b M) : fac A.length * pr M A.length < 2 ^ 4400 := by
  refine Nat.lt_of_le_of_lt ?_ S.all
  show _ ≤ (A.length + 1) * fac A.length * (M A.length * pr M A.length)
  exact Nat.mul_le_mul (Nat.le_mul_of_pos_left _ (by omega)) (Nat.le_mul_of_pos_left _ S.last)
theorem Task.aent (t : Task n A b M) {i : Nat} (hi : i < A.length) : szL 4400 (row A i) := szL_of fun j => by
  by_cases hj : j < n
  · have h := t.sized.row i hi j
    rw [OO_at t.fit hi, if_pos hj, Int.natAbs_mul] at h
    have e : (sg (vec b i)).natAbs = 1 := by unfold sg; split <;> rfl
    rw [e, Nat.one_mul] at h
    exact Nat.lt_of_le_of_lt h (t.sized.row_le t.fit (by omega))
  · rw [vec_out (by rw [t.fit.wid _ (row_mem hi)]; omega)]
    exact Nat.two_pow_pos _
theorem Task.rowsOk (t : Task n A b M) {c0 : Vec} {gr : List (List Int)} {gb : List Nat} {S : Sx} (G : Good n A.length (OO A b) c0 gr gb S) : RowsOk (n + A.length + 2) S.rows S.basis :=
  ⟨G.len, fun r hr => szL_of fun j => Nat.lt_of_le_of_lt (G.size (orig_of t.fit) t.sized.row hr j) (t.sized.rows_le t.fit), G.bl, by have := t.n1; have := t.m1; omega, by have := G.tot; have := t.m1; omega⟩
theorem Task.costOk (t : Task n A b M) {c0 : Vec} {gr : List (List Int)} {gb : List Nat} {S : Sx} (G : Good n A.length (OO A b) c0 gr gb S) (hc : c0 (n + A.length) = 1) (hC : ∀ j, (c0 j).natAbs ≤ M A.length) : szL 4400 S.costs :=
  szL_of fun j => Nat.lt_of_le_of_lt (G.csize (orig_of t.fit) hc t.sized.row hC j) t.sized.all
theorem c01_le (m j : Nat) : (c01 n m j).natAbs ≤ 1 := by unfold c01; split <;> decide
end
end JL

namespace Lp
theorem go_stay {n q : Nat} {S : Sx} {T : Nat} (h : stp n q (go n q T S) = none) : ∀ d, go n q (T + d) S = go n q T S
  | 0 => rfl
  | d + 1 => by
    show go n q (T + d + 1) S = _
    rw [go_succ, go_stay h d, h]
theorem go_end {n q : Nat} {S : Sx} {T t : Nat} (h : stp n q (go n q T S) = none) (ht : stp n q (go n q t S) = none) : go n q t S = go n q T S := by
  rcases Nat.le_total t T with h1 | h1
  · have := go_stay ht (T - t)
    rw [show t + (T - t) = T by omega] at this
    exact this.symm
  · have := go_stay h (t - T)
    rw [show T + (t - T) = t by omega] at this
    exact this
theorem c01_le' (n m j : Nat) : (c01 n m j).natAbs ≤ 1 := by unfold c01; split <;> decide
theorem go_run {n q : Nat} {S : Sx} {T t : Nat} (h : stp n q (go n q T S) = none) (ht : stp n q (go n q t S) ≠ none) : t < T := by
  refine Classical.byContradiction fun nlt => ht ?_
  have := go_stay h (t - T)
  rw [show T + (t - T) = t by omega] at this
  rw [this]
  exact h
end Lp
namespace JL
open PySem PySem.Spec L2 Lp
section
variable {G : Ctx} {Z Z1 Z2 Z3 : State} {o b c e tg iter elt : Expr} {es : List Expr} {ds : List D} {pos pos' p p2 apos : Pos} {d d0 d1 d2 : D} {x f : Str} {P : OutS → Prop} {v : V} {C a dx r : Addr} {fs : Fs} {names : List Str}
/-- x = e, what the scope tells -/
theorem js_setE (i : Nat) {x : Str} (h : JE G e Z d Z1) (hp : P (.nx (Z1.put i d))) (hs : ∀ env : Env, env.scope = G.sc → swapsWith e (some (.Name x pos')) pos.line env = pure false) (hn : stB G.N G.sc G.fn i x = true := by kernel_rfl) : JS G (.Assign [.Name x pos'] e pos) Z P := by
  intro X f B σ H k W E tk en
  simp only [stB, Bool.and_eq_true, decide_eq_true_eq] at hn
  obtain ⟨l1, l2⟩ := loc_of f hn.2
  exact ⟨_, ps_set (i := i) (by rw [f.N]; exact f.nd) (by rw [f.N]; exact hn.1) l1 p_E (hs _ f.sc) l2, h X f B σ H k _ fun v H1 k1 p1 r1 => en.nx _ _ H1 hp (k1.set i r1)⟩
theorem eqv_ints : ∀ ns : List Int, PyData.eqv (py 2 (.lst (ns.map D.int))) (py 2 (.lst [])) = decide (ns = [])
  | [] => rfl
  | n :: ns => by show false = _; simp
theorem ok_ints (n : Nat) : ∀ ns : List Int, okD (n + 1) (.lst (ns.map D.int)) = true := fun ns => by
  show (ns.map D.int).all (okD n) = true
  rw [List.all_eq_true]
  intro x hx
  obtain ⟨i, _, rfl⟩ := List.mem_map.mp hx
  cases n <;> rfl
/-- xs != [], ints -/
theorem jt_neNil {ns : List Int} {p3 : Pos} (ha : JE G c Z (encI ns) Z1) : JT G (.Compare c [.NotEq] [.List [] p3] pos) Z (!decide (ns = [])) Z1 := by
  have := jt_ne (pos := pos) 2 ha (je_lst (G := G) (Z := Z1) (pos := p3) ja_nil) (ok_ints 1 ns) rfl
  rw [show eqD 2 (encI ns) (.lst []) = decide (ns = []) from eqv_ints ns] at this
  exact this
theorem jt_eqNil {ns : List Int} {p3 : Pos} (ha : JE G c Z (encI ns) Z1) : JT G (.Compare c [.Eq] [.List [] p3] pos) Z (decide (ns = [])) Z1 := by
  have := jt_eq (pos := pos) 2 ha (je_lst (G := G) (Z := Z1) (pos := p3) ja_nil) (ok_ints 1 ns) rfl
  rw [show eqD 2 (encI ns) (.lst []) = decide (ns = []) from eqv_ints ns] at this
  exact this
end
abbrev negI (n : Nat) (c : List Int) : List Int := (Lp.negs n c).map fun (j : Nat) => (j : Int)
theorem rep_ints (w : Nat) (x : Int) : (List.replicate ((w : Int)).toNat [D.int x]).flatten = (List.replicate w x).map D.int := by
  rw [Int.toNat_natCast]
  induction w with
  | zero => rfl
  | succ n ih => rw [List.replicate_succ, List.flatten_cons, ih]; rfl
end JL

namespace JL
open PySem PySem.Spec L2 Lp
/-! ### gates as rows of equations -/
def gAt (gs : List Gt) (k : Nat) : Gt := gs.getD k (0, 0, 0)
def entL (m : Nat) : List (Nat × Int) := (List.range (2 * m)).map fun j => (j / 2, if j % 2 = 0 then -1 else 1)
theorem entL_succ (m : Nat) : entL (m + 1) = entL m ++ [(m, -1), (m, 1)] := by
  unfold entL
  rw [show 2 * (m + 1) = 2 * m + 1 + 1 by omega, List.range_succ, List.range_succ, List.map_append, List.map_append, List.append_assoc]
  congr 1
  show [(2 * m / 2, _), ((2 * m + 1) / 2, _)] = _
  rw [show 2 * m / 2 = m by omega, show (2 * m + 1) / 2 = m by omega, if_pos (by omega), if_neg (by omega)]
theorem entL_len (m : Nat) : (entL m).length = 2 * m := by simp [entL]
theorem entL_mem {m : Nat} {e : Nat × Int} (h : e ∈ entL m) : e.1 < m ∧ (e.2 = -1 ∨ e.2 = 1) := by
  unfold entL at h
  obtain ⟨j, hj, rfl⟩ := List.mem_map.mp h
  have := List.mem_range.mp hj
  refine ⟨by show j / 2 < m; omega, ?_⟩
  show (if j % 2 = 0 then (-1 : Int) else 1) = -1 ∨ _
  split
  · exact .inl rfl
  · exact .inr rfl
abbrev encE (e : Nat × Int) : D := .tup [.int (e.1 : Int), .int e.2]
def pows (p : Int) (d : Nat) : List Int := (List.range (d + 1)).map fun i => p ^ i
theorem pows_succ (p : Int) (d : Nat) : pows p (d + 1) = pows p d ++ [p ^ d * p] := by
  unfold pows
  rw [List.range_succ, List.map_append]
  congr 1
  show [p ^ (d + 1)] = _
  rw [Int.pow_succ]
theorem pows_len (p : Int) (d : Nat) : (pows p d).length = d + 1 := by simp [pows]
theorem pows_at {p : Int} {d i : Nat} (h : i ≤ d) : vec (pows p d) i = p ^ i := by
  unfold pows
  rw [vec_range, if_pos (by omega)]
def rowsOf (gs : List Gt) (d : Nat) : List (List Int) := (List.range (d + 1)).map fun pw => (entL gs.length).map fun e => e.2 * (gAt gs e.1).1 ^ pw
def endOfE (gs : List Gt) (e : Nat × Int) : Int := if e.2 = 1 then (gAt gs e.1).2.2 else -(gAt gs e.1).2.1
def endsOf (gs : List Gt) : List Int := (entL gs.length).map (endOfE gs)
def matA (gs : List Gt) (d : Nat) : List (List Int) := rowsOf gs d ++ [endsOf gs]
def goalB (d : Nat) : List Int := List.replicate (d + 1) 0 ++ [-1]
def R_entries : List D → Out → Prop := fun ds o => ∃ gs : List Gt, gs.length ≤ 8 ∧ ds = [encGs gs] ∧ o = .ret (.lst ((entL gs.length).map encE))
def R_powers : List D → Out → Prop := fun ds o => ∃ (p : Int) (d : Nat), -20 ≤ p ∧ p ≤ 20 ∧ d ≤ 3 ∧ ds = [.int p, .int (d : Int)] ∧ o = .ret (encI (pows p d))
def R_rows : List D → Out → Prop := fun ds o => ∃ (gs : List Gt) (d : Nat), GatesOk gs ∧ d ≤ 3 ∧ ds = [encGs gs, .int (d : Int)] ∧ o = .ret (encR (rowsOf gs d))
def R_ends : List D → Out → Prop := fun ds o => ∃ gs : List Gt, GatesOk gs ∧ ds = [encGs gs] ∧ o = .ret (encI (endsOf gs))
theorem pow_le {p : Int} (h1 : -20 ≤ p) (h2 : p ≤ 20) : ∀ i : Nat, (p ^ i).natAbs ≤ 20 ^ i
  | 0 => by rw [Int.pow_zero]; decide
  | i + 1 => by
    rw [Int.pow_succ, Int.natAbs_mul, Nat.pow_succ]
    exact Nat.mul_le_mul (pow_le h1 h2 i) (by omega)
theorem pow8000 {p : Int} (h1 : -20 ≤ p) (h2 : p ≤ 20) {i : Nat} (hi : i ≤ 3) : (p ^ i).natAbs ≤ 8000 := Nat.le_trans (pow_le h1 h2 i) (Nat.le_trans (Nat.pow_le_pow_right (by decide) hi) (by decide))
theorem mulB {x y : Int} {k l : Nat} (hx : x.natAbs ≤ k) (hy : y.natAbs ≤ l) (hk : k < 2 ^ 64) (hl : l < 2 ^ 64) : CMulW x y := mulw (k := 64) (l := 64) (by omega) (by omega) (by decide) (by decide) (by decide)
theorem gAt_get {gs : List Gt} {k : Nat} (h : k < gs.length) : gAt gs k = gs[k] := by unfold gAt; rw [List.getD_eq_getElem?_getD, List.getElem?_eq_getElem h]; rfl
theorem gAt_mem {gs : List Gt} {k : Nat} (h : k < gs.length) : gAt gs k ∈ gs := by rw [gAt_get h]; exact List.getElem_mem h
theorem atI_gate {gs : List Gt} {k : Nat} (h : k < gs.length) : atI (gs.map encG) (k : Int) = some (encG (gAt gs k)) := by
  refine atI_nat ?_
  rw [List.getElem?_map, List.getElem?_eq_getElem h, gAt_get h]
  rfl
end JL

namespace JL
open PySem PySem.Spec L2 Lp
/-! ### a road or a bar -/
theorem dbl {a b k : Nat} (h1 : a < 2 ^ k) (h2 : b < 2 ^ k) : a + b < 2 ^ (k + 1) := by
  rw [Nat.pow_succ]
  omega
theorem rowsOf_len (gs : List Gt) (d : Nat) : (rowsOf gs d).length = d + 1 := by simp [rowsOf]
theorem matA_len (gs : List Gt) (d : Nat) : (matA gs d).length = d + 2 := by simp [matA, rowsOf_len]
theorem goalB_len (d : Nat) : (goalB d).length = d + 2 := by simp [goalB]
theorem goalB_at {d i : Nat} (h : i < d + 2) : vec (goalB d) i = if i = d + 1 then -1 else 0 := by
  unfold goalB
  rw [vec_append, List.length_replicate]
  by_cases e : i = d + 1
  · rw [if_neg (by omega), if_pos e, e, Nat.sub_self]; rfl
  · rw [if_pos (by omega), if_neg e, vec_rep]
theorem matA_row {gs : List Gt} {d i : Nat} (h : i < d + 1) : row (matA gs d) i = (entL gs.length).map fun e => e.2 * (gAt gs e.1).1 ^ i := by
  unfold matA
  rw [row_left (by rw [rowsOf_len]; exact h), row_get (by rw [rowsOf_len]; exact h)]
  unfold rowsOf
  rw [List.getElem_map, List.getElem_range]
theorem matA_last (gs : List Gt) (d : Nat) : row (matA gs d) (d + 1) = endsOf gs := by
  unfold matA
  rw [row_right (by rw [rowsOf_len]; exact Nat.le_refl _), rowsOf_len, Nat.sub_self]
  rfl
theorem matA_wid (gs : List Gt) (d : Nat) : ∀ r ∈ matA gs d, r.length = 2 * gs.length := fun r hr => by
  unfold matA rowsOf endsOf at hr
  rcases List.mem_append.mp hr with h | h
  · obtain ⟨pw, _, rfl⟩ := List.mem_map.mp h
    rw [List.length_map, entL_len]
  · rw [List.mem_singleton.mp h, List.length_map, entL_len]
theorem fit_gates (gs : List Gt) (d : Nat) : Fit (2 * gs.length) (matA gs d) (goalB d) := ⟨matA_wid gs d, by rw [goalB_len, matA_len]⟩
/-- entry j -/
def eAt (j : Nat) : Nat × Int := (j / 2, if j % 2 = 0 then -1 else 1)
theorem entL_at {m j : Nat} (h : j < 2 * m) (f : Nat × Int → Int) : vec ((entL m).map f) j = f (eAt j) := by
  rw [vec_get (by rw [List.length_map, entL_len]; exact h), List.getElem_map]
  unfold entL
  rw [List.getElem_map, List.getElem_range]
  rfl
theorem eAt_ok {m j : Nat} (h : j < 2 * m) : (eAt j).1 < m ∧ ((eAt j).2 = -1 ∨ (eAt j).2 = 1) := by
  refine ⟨by show j / 2 < m; omega, ?_⟩
  show (if j % 2 = 0 then (-1 : Int) else 1) = -1 ∨ (if j % 2 = 0 then (-1 : Int) else 1) = 1
  split
  · exact .inl rfl
  · exact .inr rfl
theorem end_le {gs : List Gt} (hg : GatesOk gs) {e : Nat × Int} (h : e.1 < gs.length) : (endOfE gs e).natAbs ≤ 50 := by
  have ok := hg.ok _ (gAt_mem h)
  have := ok.l1
  have := ok.l2
  have := ok.h2
  unfold endOfE
  split <;> omega
theorem matA_le {gs : List Gt} {d : Nat} (hg : GatesOk gs) (h3 : d ≤ 3) {i j : Nat} (hi : i < d + 2) : (vec (row (matA gs d) i) j).natAbs ≤ 8000 := by
  by_cases hj : j < 2 * gs.length
  · have ⟨h1, h2⟩ := eAt_ok hj
    by_cases e : i = d + 1
    · rw [e, matA_last]
      unfold endsOf
      rw [entL_at hj]
      exact Nat.le_trans (end_le hg h1) (by decide)
    · rw [matA_row (by omega), entL_at hj]
      have ok := hg.ok _ (gAt_mem h1)
      have hp := pow8000 ok.p1 ok.p2 (show i ≤ 3 by omega)
      rcases h2 with z | z <;> rw [z] <;> omega
  · rw [vec_out (by rw [matA_wid gs d _ (row_mem (by rw [matA_len]; exact hi))]; omega)]
    exact Nat.zero_le _
theorem sized_const {n : Nat} {A : List (List Int)} {b : List Int} {K : Nat} (F : Fit n A b) (hA : ∀ i j, i < A.length → (vec (row A i) j).natAbs ≤ K) (hb : ∀ i, i < A.length → (vec b i).natAbs ≤ K) (h1 : 1 ≤ K) (hs : fac (A.length + 1) * pr (fun _ => K) (A.length + 1) < 2 ^ 4400) : Sized A b fun _ => K := by
  refine ⟨fun i hi j => ?_, h1, hs⟩
  rw [OO_at F hi]
  split
  · rw [Int.natAbs_mul]
    have e : (sg (vec b i)).natAbs = 1 := by unfold sg; split <;> rfl
    rw [e, Nat.one_mul]
    exact hA i j hi
  · split
    · split
      · exact h1
      · exact Nat.zero_le _
    · split
      · rw [ab_abs]; exact hb i hi
      · exact Nat.zero_le _
theorem pr_const (K : Nat) : ∀ t, pr (fun _ => K) t = K ^ t
  | 0 => rfl
  | t + 1 => by show K * pr (fun _ => K) t = _; rw [pr_const K t, Nat.pow_succ, Nat.mul_comm]
theorem fac_mono {a b : Nat} (h : a ≤ b) : fac a ≤ fac b := by
  induction b with
  | zero => rw [show a = 0 by omega]; exact Nat.le_refl _
  | succ b ih =>
    by_cases e : a = b + 1
    · rw [e]; exact Nat.le_refl _
    · exact Nat.le_trans (ih (by omega)) (Nat.le_mul_of_pos_left _ (by omega))
/-- so many rows of such numbers are fair -/
theorem fair {K t k : Nat} (ht : t ≤ 7) (hK : 1 ≤ K) (hk : K ≤ 2 ^ k) (h : 13 + k * 7 ≤ 4399) : fac t * pr (fun _ => K) t < 2 ^ 4400 := by
  rw [pr_const]
  have h1 : fac t ≤ 2 ^ 13 := Nat.le_trans (fac_mono ht) (by decide)
  have h2 : K ^ t ≤ 2 ^ (k * 7) := Nat.le_trans (Nat.pow_le_pow_left hk t) (by rw [← Nat.pow_mul]; exact Nat.pow_le_pow_right (by decide) (Nat.mul_le_mul_left k ht))
  have h3 : fac t * K ^ t ≤ 2 ^ 13 * 2 ^ (k * 7) := Nat.mul_le_mul h1 h2
  rw [← Nat.pow_add] at h3
  exact Nat.lt_of_le_of_lt h3 (Nat.pow_lt_pow_right (by decide) (by omega))
theorem task_gates {gs : List Gt} {d : Nat} (hg : GatesOk gs) (h3 : d ≤ 3) : Task (2 * gs.length) (matA gs d) (goalB d) fun _ => 8000 := by
  have h1 := hg.one
  have h8 := hg.most
  have ml := matA_len gs d
  refine ⟨fit_gates gs d, sized_const (fit_gates gs d) (fun i j hi => matA_le hg h3 (by omega)) (fun i hi => ?_) (by decide) (fair (k := 13) (by omega) (by decide) (by decide) (by decide)), by omega, by omega, by omega, by omega⟩
  rw [goalB_at (by omega)]
  split <;> decide
/-! ### passing, barring -/
def PassI (gs : List Gt) (d : Nat) (y : Nat → Int) (Y : Int) : Prop := 0 < Y ∧ ∀ k, k < gs.length → (gAt gs k).2.1 * Y ≤ sm (d + 1) (fun i => y i * (gAt gs k).1 ^ i) ∧ sm (d + 1) (fun i => y i * (gAt gs k).1 ^ i) ≤ (gAt gs k).2.2 * Y
structure BarI (gs : List Gt) (d : Nat) (X : Nat → Int) : Prop where
  nn : ∀ j, j < 2 * gs.length → 0 ≤ X j
  zero : ∀ pw, pw ≤ d → (sm (2 * gs.length) fun j => X j * ((eAt j).2 * (gAt gs (eAt j).1).1 ^ pw)) = 0
  neg : (sm (2 * gs.length) fun j => X j * endOfE gs (eAt j)) < 0
theorem pass_end {gs : List Gt} {d : Nat} {y : Nat → Int} {Y : Int} (h : PassI gs d y Y) {j : Nat} (hj : j < 2 * gs.length) : (eAt j).2 * sm (d + 1) (fun i => y i * (gAt gs (eAt j).1).1 ^ i) ≤ Y * endOfE gs (eAt j) := by
  obtain ⟨h1, h2⟩ := eAt_ok hj
  obtain ⟨g1, g2⟩ := h.2 _ h1
  unfold endOfE
  rcases h2 with z | z
  · rw [z, if_neg (by decide)]
    generalize sm (d + 1) (fun i => y i * (gAt gs (eAt j).1).1 ^ i) = s at g1 g2
    have : Y * -(gAt gs (eAt j).1).2.1 = -((gAt gs (eAt j).1).2.1 * Y) := by grind
    omega
  · rw [z, if_pos rfl]
    generalize sm (d + 1) (fun i => y i * (gAt gs (eAt j).1).1 ^ i) = s at g1 g2
    have : Y * (gAt gs (eAt j).1).2.2 = (gAt gs (eAt j).1).2.2 * Y := by grind
    omega
/-- both can't be -/
theorem no_both {gs : List Gt} {d : Nat} {y X : Nat → Int} {Y : Int} (h : PassI gs d y Y) (b : BarI gs d X) : False := by
  have e1 : (sm (2 * gs.length) fun j => X j * ((eAt j).2 * sm (d + 1) fun i => y i * (gAt gs (eAt j).1).1 ^ i)) = 0 := by
    have e2 : (sm (2 * gs.length) fun j => X j * ((eAt j).2 * sm (d + 1) fun i => y i * (gAt gs (eAt j).1).1 ^ i)) = sm (2 * gs.length) fun j => sm (d + 1) fun i => y i * (X j * ((eAt j).2 * (gAt gs (eAt j).1).1 ^ i)) := sm_congr fun j _ => by
      rw [← sm_mul, ← sm_mul]
      exact sm_congr fun i _ => by grind
    rw [e2, sm_swap]
    exact sm_zero fun i hi => by rw [sm_mul, b.zero i (by omega)]; omega
  have h2 : (sm (2 * gs.length) fun j => X j * ((eAt j).2 * sm (d + 1) fun i => y i * (gAt gs (eAt j).1).1 ^ i)) ≤ sm (2 * gs.length) fun j => Y * (X j * endOfE gs (eAt j)) := sm_le fun j hj => by
    have h3 := Int.mul_le_mul_of_nonneg_left (pass_end h hj) (b.nn j hj)
    have e : X j * (Y * endOfE gs (eAt j)) = Y * (X j * endOfE gs (eAt j)) := by grind
    omega
  rw [e1, sm_mul] at h2
  have h4 := Int.mul_pos h.1 (by have := b.neg; omega : 0 < -(sm (2 * gs.length) fun j => X j * endOfE gs (eAt j)))
  have e5 : Y * -(sm (2 * gs.length) fun j => X j * endOfE gs (eAt j)) = -(Y * sm (2 * gs.length) fun j => X j * endOfE gs (eAt j)) := by grind
  omega
noncomputable def stOf (gs : List Gt) (d : Nat) : Sx := fin1 (2 * gs.length) (matA gs d) (goalB d)
/-- no bar was found -/
def noBar (gs : List Gt) (d : Nat) : Prop := vec (stOf gs d).costs (2 * gs.length + (d + 2) + 1) < 0
noncomputable def yOf (gs : List Gt) (d : Nat) : List Int := nums (2 * gs.length) (d + 2) (goalB d) (stOf gs d).costs
noncomputable def xOf (gs : List Gt) (d : Nat) : List (Int × Int) := unk (2 * gs.length) (2 * gs.length + (d + 2) + 1) (stOf gs d).rows (stOf gs d).basis (stOf gs d).rows.length
noncomputable def roadOf (gs : List Gt) (d : Nat) : List (Int × Int) := (yOf gs d).dropLast.map fun y => frac y (-vec (yOf gs d) (d + 1))
open Classical in
noncomputable def solvedD (gs : List Gt) (d : Nat) : D := if noBar gs d then .tup [.non, .tup ((roadOf gs d).map frD)] else .tup [encX (xOf gs d), .non]
theorem yOf_len (gs : List Gt) (d : Nat) : (yOf gs d).length = d + 2 := by
  unfold yOf nums
  rw [List.length_zipWith, List.length_map, List.length_map, goalB_len, List.length_range]
  omega
theorem road_pass {gs : List Gt} {d : Nat} (h : noBar gs d) : PassI gs d (vec (yOf gs d)) (-vec (yOf gs d) (d + 1)) := by
  have F := fit_gates gs d
  have ml := matA_len gs d
  have hn := none1 F (by rw [ml]; exact h)
  rw [ml] at hn
  obtain ⟨h1, h2⟩ := hn
  have e1 : (sm (d + 2) fun i => vec (yOf gs d) i * vec (goalB d) i) = -vec (yOf gs d) (d + 1) := by
    rw [sm_one (k := d + 1) (by omega) fun i hi ne => by rw [goalB_at hi, if_neg ne]; omega, goalB_at (by omega), if_pos rfl]
    omega
  have h2 : 0 < sm (d + 2) fun i => vec (yOf gs d) i * vec (goalB d) i := h2
  rw [e1] at h2
  have col : ∀ j, j < 2 * gs.length → (eAt j).2 * sm (d + 1) (fun i => vec (yOf gs d) i * (gAt gs (eAt j).1).1 ^ i) + vec (yOf gs d) (d + 1) * endOfE gs (eAt j) ≤ 0 := fun j hj => by
    have h3 : (sm (d + 2) fun i => vec (yOf gs d) i * vec (row (matA gs d) i) j) ≤ 0 := h1 j hj
    have e2 : (sm (d + 2) fun i => vec (yOf gs d) i * vec (row (matA gs d) i) j) = (sm (d + 1) fun i => vec (yOf gs d) i * vec (row (matA gs d) i) j) + vec (yOf gs d) (d + 1) * vec (row (matA gs d) (d + 1)) j := rfl
    rw [e2, matA_last] at h3
    unfold endsOf at h3
    rw [entL_at hj, sm_congr (g := fun i => (eAt j).2 * (vec (yOf gs d) i * (gAt gs (eAt j).1).1 ^ i)) fun i hi => by rw [matA_row hi, entL_at hj]; grind, sm_mul] at h3
    exact h3
  refine ⟨h2, fun k hk => ?_⟩
  have ca := col (2 * k) (by omega)
  have cb := col (2 * k + 1) (by omega)
  have ea : eAt (2 * k) = (k, -1) := by unfold eAt; rw [show 2 * k / 2 = k by omega, if_pos (by omega)]
  have eb : eAt (2 * k + 1) = (k, 1) := by unfold eAt; rw [show (2 * k + 1) / 2 = k by omega, if_neg (by omega)]
  rw [ea] at ca
  rw [eb] at cb
  unfold endOfE at ca cb
  dsimp only at ca cb
  rw [if_neg (by decide)] at ca
  rw [if_pos rfl] at cb
  generalize sm (d + 1) (fun i => vec (yOf gs d) i * (gAt gs k).1 ^ i) = s at ca cb
  generalize vec (yOf gs d) (d + 1) = Y at ca cb h2
  constructor
  · have : Y * -(gAt gs k).2.1 = (gAt gs k).2.1 * -Y := by grind
    omega
  · have : Y * (gAt gs k).2.2 = -((gAt gs k).2.2 * -Y) := by grind
    omega
theorem bar_sol {gs : List Gt} {d : Nat} (h : ¬ noBar gs d) : ∃ P X, Sol (2 * gs.length) (matA gs d) (goalB d) (xOf gs d) P X ∧ BarI gs d X := by
  have F := fit_gates gs d
  have ml := matA_len gs d
  obtain ⟨P, X, S⟩ := sol1 F (by rw [ml]; exact h)
  rw [ml] at S
  refine ⟨P, X, S, S.nn, fun pw hpw => ?_, ?_⟩
  · have h1 := S.eq pw (by omega)
    rw [goalB_at (by omega), if_neg (by omega), matA_row (by omega), sm_congr fun j hj => by rw [entL_at hj]] at h1
    omega
  · have h1 := S.eq (d + 1) (by omega)
    rw [goalB_at (by omega), if_pos rfl, matA_last, sm_congr (f := fun j => X j * vec (endsOf gs) j) (g := fun j => X j * endOfE gs (eAt j)) fun j hj => by unfold endsOf; rw [entL_at hj]] at h1
    have := S.pos
    omega
theorem cutD_last {ds : List D} : cutD ds none (some (-1)) = ds.dropLast := by
  unfold cutD
  have e : HT.sIx ds.length ds.length (some (-1)) = ds.length - 1 := by
    show (if (-1 : Int) < 0 then ((-1 : Int) + (ds.length : Int)).toNat else min (-1 : Int).toNat ds.length) = _
    rw [if_pos (by decide)]
    omega
  rw [e]
  show (ds.drop 0).take (ds.length - 1 - 0) = _
  rw [List.drop_zero, List.dropLast_eq_take]
  rfl
/-! ### what the defs about one road do -/
def R_solved : List D → Out → Prop := fun ds o => ∃ (gs : List Gt) (d : Nat), GatesOk gs ∧ d ≤ 3 ∧ ds = [encGs gs, .int (d : Int)] ∧ o = .ret (solvedD gs d)
theorem y_size {gs : List Gt} {d : Nat} (hg : GatesOk gs) (h3 : d ≤ 3) (i : Nat) : (vec (yOf gs d) i).natAbs < 2 ^ 4401 := by
  have t := task_gates hg h3
  have ml := matA_len gs d
  have G := (fin1_ok t.fit).1
  have fs : szL 4400 (stOf gs d).costs := t.costOk G (by unfold c01; rw [if_pos (by omega)]) (fun j => Nat.le_trans (c01_le' _ _ j) (by decide))
  by_cases hi : i < d + 2
  · have e : vec (yOf gs d) i = sg (vec (goalB d) i) * (vec (stOf gs d).costs (2 * gs.length + (d + 2)) - vec (stOf gs d).costs (2 * gs.length + i)) := nums_at (goalB_len d) hi
    rw [e, Int.natAbs_mul]
    have e1 : (sg (vec (goalB d) i)).natAbs = 1 := by unfold sg; split <;> rfl
    rw [e1, Nat.one_mul]
    have := Int.natAbs_sub_le (vec (stOf gs d).costs (2 * gs.length + (d + 2))) (vec (stOf gs d).costs (2 * gs.length + i))
    have h1 := fs.vec (2 * gs.length + (d + 2))
    have h2 := fs.vec (2 * gs.length + i)
    exact Nat.lt_of_le_of_lt this (dbl h1 h2)
  · rw [vec_out (by rw [yOf_len]; omega)]
    exact Nat.two_pow_pos _
theorem solD_gates (gs : List Gt) (d : Nat) : solD (2 * gs.length) (matA gs d) (goalB d) = if vec (stOf gs d).costs (2 * gs.length + (d + 2) + 1) < 0 then .tup [.non, encI (yOf gs d)] else .tup [encX (xOf gs d), .non] := by
  unfold solD
  rw [matA_len]
  rfl
theorem enc2_inj {A A' : List (List Int)} {b b' : List Int} (h : ([encR A, encI b] : List D) = [encR A', encI b']) : A' = A ∧ b' = b := by
  have inI : ∀ {x y : List Int}, x.map D.int = y.map D.int → y = x := fun {x y} => by
    induction x generalizing y with
    | nil => intro h; cases y with
      | nil => rfl
      | cons _ _ => cases h
    | cons a x ih =>
      intro h
      cases y with
      | nil => cases h
      | cons c y =>
        have h1 := List.cons.inj h
        have e1 : a = c := D.int.inj h1.1
        rw [ih h1.2, e1]
  have inR : ∀ {x y : List (List Int)}, (x.map fun r => encI r) = (y.map fun r => encI r) → y = x := fun {x y} => by
    induction x generalizing y with
    | nil => intro h; cases y with
      | nil => rfl
      | cons _ _ => cases h
    | cons a x ih =>
      intro h
      cases y with
      | nil => cases h
      | cons c y =>
        have h1 := List.cons.inj h
        have e1 : c = a := inI (D.lst.inj h1.1)
        rw [ih h1.2, e1]
  have h1 := List.cons.inj h
  have h2 := List.cons.inj h1.2
  exact ⟨inR (D.lst.inj h1.1), inI (D.lst.inj h2.1)⟩
/-- Equations(rows, goals).solved() -/
theorem je_eqs {G : Ctx} {Z Z1 : State} {C : Addr} {k1 k2 n : Nat} {e1 e2 : Expr} {p p2 apos pos : Pos} {A : List (List Int)} {b : List Int} {M : Nat → Nat} (FI : MakS G.g "Equations" C k1 (spI C 2 R_init R_made)) (FS : MethS G.g C "solved" k2 (spM C 0 R_solvedM)) (K : CK G.g C eqN) (hk : k1 + 1 ≤ G.k) (hk2 : k2 ≤ G.k) (ha : JA G [e1, e2] Z [encR A, encI b] Z1) (t : Task n A b M)
    (hg : glB G.sc "Equations" = true := by kernel_rfl) (he : ∀ env, starEach [e1, e2] env = (false, eval e1 env) :: starEach [e2] env := by intro _; rfl) (hpl : ∀ env, (backTo p2 (starEach [e2] env)).any (·.1) = false := by intro _; rfl)
    (ht : ∀ env, ∃ pl, eval (.Call (.Attribute (.Call (.Name "Equations" p) [e1, e2] [] p2) "solved" apos) [] [] pos) env = (do
      let ov ← eval (.Call (.Name "Equations" p) [e1, e2] [] p2) env
      standAt apos.atName
      let (f, first) ← holding [ov] (getMethod ov "solved" pl)
      callWith pos f first (backTo pos (starEach [] env)) (backToKw pos (keywordEach [] env))) := by intro _; exact ⟨_, rfl⟩) :
    JE G (.Call (.Attribute (.Call (.Name "Equations" p) [e1, e2] [] p2) "solved" apos) [] [] pos) Z (solD n A b) Z1 :=
  je_makeM FI FS K hk hk2 ha ⟨_, _, _, _, t, rfl⟩ (fun fs hfs => by
    obtain ⟨n', A', b', rr, rb, e1, e2, e3, rfl⟩ := hfs
    obtain ⟨rfl, rfl⟩ := enc2_inj e1
    have en : n' = n := by
      have h1 := e2 _ (Lp.row_mem (i := 0) e3)
      rw [t.fit.wid _ (Lp.row_mem (i := 0) e3)] at h1
      exact h1.symm
    subst en
    exact ⟨rfl, _, ⟨_, _, _, _, rr, rb, t, rfl, rfl, rfl, rfl⟩, rfl⟩) rfl hg he hpl ht
end JL

namespace JL
open PySem PySem.Spec L2 Lp
theorem Def.imp {g : Glob} {x : Str} {n k : Nat} {R R' : List D → Out → Prop} (F : Def g x n k R) (h : ∀ ds o, R' ds o → R ds o) : Def g x n k R' := by
  obtain ⟨f, fd, ps, FK, hm, kp, bs⟩ := F.ex
  exact ⟨f, fd, ps, FK.imp fun vs H Q E ⟨h1, S, ds, o, h2, h3, h4, h5⟩ => ⟨h1, S, ds, o, h2, h3, h _ _ h4, h5⟩, hm, kp, bs⟩
section
variable {G : Ctx} {Z Z1 Z2 Z3 : State} {a b c e tg iter elt : Expr} {es : List Expr} {ds : List D} {pos pos' p p2 p3 apos : Pos} {d d0 d1 d2 : D} {x y f : Str} {P : OutS → Prop}
/-- x, y = a, [..], the tuple made; y's list its own -/
theorem js_tupO (i j : Nat) {px py pt : Pos} {kt : Nat} {k2 pt2} (ha : JE G a Z d Z1) (hb : JA G es Z1 ds Z2) (hp : ∀ q, q ∉ Z2.S → P (.nx ⟨q :: Z2.S, (Z2.ρ.set j (some (.own q ds))).set i (some (.dat d))⟩)) (hw : ∀ env : Env, env.scope = G.sc → swappedStores [.Tuple [.Name x px, .Name y py] kt pt] (.Tuple [a, .List es p3] k2 pt2) env = pure none)
    (hij : i ≠ j := by decide) (hz : ds.length ≤ 100000 := by first | exact Nat.le_of_ble_eq_true rfl | omega) (hn : stB G.N G.sc G.fn i x = true := by kernel_rfl) (hn2 : stB G.N G.sc G.fn j y = true := by kernel_rfl)
    (hs : ∀ env, swapsWithSole [.Tuple [.Name x px, .Name y py] kt pt] (.Tuple [a, .List es p3] k2 pt2) pos.line env = pure false := by intro _; rfl)
    (hst : ∀ env, starEach [a, .List es p3] env = (false, eval a env) :: starEach [.List es p3] env := by intro _; rfl) :
    JS G (.Assign [.Tuple [.Name x px, .Name y py] kt pt] (.Tuple [a, .List es p3] k2 pt2) pos) Z P := by
  intro X t B σ H k W E tk en
  simp only [stB, Bool.and_eq_true, decide_eq_true_eq] at hn hn2
  obtain ⟨l1, l2⟩ := loc_of t hn.2
  obtain ⟨m1, m2⟩ := loc_of t hn2.2
  refine ⟨_, ps_asg (pe_tup (pa_cons p_E (pa_cons (pe_lst p_A) pa_nil) (hst _))) (pg_tup t.calm (pgs_cons (pg_name (i := i) (by rw [t.N]; exact t.nd) (by rw [t.N]; exact hn.1) l1 l2) (pgs_cons (pg_name (i := j) (by rw [t.N]; exact t.nd) (by rw [t.N]; exact hn2.1) m1 m2) pgs_nil))) (hs _) (hw _ t.sc), ha X t B σ H k _ fun u H1 k1 p1 r1 => hb X t B σ H1 k1 _ fun us H2 k2' p2 r2 => ⟨by rw [r2.1]; exact sz5 hz, fun q nq => ⟨by show 2 ≤ sizeLine; decide, fun tp nt => ?_⟩⟩⟩
  refine ⟨tp, [u, .ref q], rfl, .of upd_same, rfl, u, [.ref q], rfl, .ref q, [], rfl, rfl, ?_⟩
  have kO := k2'.own j nq r2
  have s2 := same_upd (o := .tup [u, .ref q]) nt
  have kp : Kp Z2.S H2 (q :: Z2.S) (upd H2 q (.lst us)) := fun x c r => r.keep (Pres.of_same (same_upd nq)) fun a o e m => by
    rcases List.mem_cons.mp m with z | z
    · rw [z, nq] at e; cases e
    · exact z
  have r3 : Rp (q :: Z2.S) (upd (upd H2 q (.lst us)) tp (.tup [u, .ref q])) u d := (Kp.same s2) _ _ (kp _ _ (p2 _ _ r1))
  have k3 := (kO.same s2).set i r3
  have e1 : (σ.set j (some (V.ref q))).set i (some u) = (σ.set i (some u)).set j (some (V.ref q)) := List.set_comm _ _ (Ne.symm hij)
  rw [e1] at k3
  exact en.nx _ _ _ (hp q (k2'.fresh nq)) k3
/-- a < b, tuples of ints -/
theorem je_ltT {ns ms : List Int} (ha : JE G a Z (.tup (ns.map D.int)) Z1) (hb : JE G b Z1 (.tup (ms.map D.int)) Z2) : JE G (.Compare a [.Lt] [b] pos) Z (.bl (HT.lexLt ns ms)) Z2 :=
  je_cmp (r := fun X => rLtT X.K) (fun _ f => op_ltT (by have := f.room.units; omega)) (nomark _) ha hb fun X f B σ H x y Q k r1 r2 q => by
    obtain ⟨l, xs, rfl, nl, el, rl⟩ := r1.inv_tup
    obtain ⟨m, ys, rfl, nm, em, rm⟩ := r2.inv_tup
    have ex : xs = ns.map V.int := rpa_map (fun b v r => r.inv_int) rl
    have ey : ys = ms.map V.int := rpa_map (fun b v r => r.inv_int) rm
    subst ex
    subst ey
    exact ⟨l, m, ns, ms, rfl, rfl, .of el, .of em, q _ H k Kp.refl (.bl _)⟩
end
/-! ### any(..) of ints -/
theorem truth_ints {prog : Program} {w : World} {A : Around} {ns : List Int} {its : List Value} (r : Vals (ns.map V.int) its) : TruthOf prog w A (fun i v => its.toArray[i]? = some v) (fun i => ns.getD i 0 != 0) := fun i v s Q E hv hq => by
  have hv' : its[i]? = some v := by simpa using hv
  have hl := r.length
  have hi : i < ns.length := by
    have := (List.getElem?_eq_some_iff.mp hv').1
    rw [List.length_map] at hl
    omega
  obtain ⟨u, e1, t, e2⟩ := r.get (x := V.int ns[i]) (by rw [List.getElem?_map, List.getElem?_eq_getElem hi]; rfl)
  rw [hv'] at e1
  cases e1
  subst e2
  have hg : ns.getD i 0 = ns[i] := by rw [List.getD_eq_getElem?_getD, List.getElem?_eq_getElem hi]; rfl
  have hq' : Q (ns.getD i 0 != 0) s := hq
  rw [hg] at hq'
  exact PyProof.Rows.truthy_int hq'
theorem anyI_range : ∀ ns : List Int, (List.range ns.length).any (fun i => ns.getD i 0 != 0) = ns.any (· != 0)
  | [] => rfl
  | b :: bs => by
    rw [List.length_cons, List.range_succ_eq_map, List.any_cons, List.any_map, List.any_cons, ← anyI_range bs]
    all_goals rfl
def rAnyI (K : PySem.W.Frag) : List V → Hp → VK → Prop := fun vs H Q => ∃ (a : Addr) (ns : List Int), vs = [V.ref a] ∧ SqL K H a (ns.map V.int) ∧ Q (.bl (ns.any (· != 0))) H
theorem cr_anyI {X : Cx} (hc : X.calm = true) : CallR X (.builtin "any") (rAnyI X.K) := by
  intro pins s σ H vs us Q I r h
  obtain ⟨a, ns, rfl, hs, q⟩ := h
  obtain ⟨its, rv, hl, _⟩ := I.list hs
  rw [Vals.ref1 r]
  have hlen := rv.length
  refine call_any_walk (iter_any hl.isList fun s₂ e2 st hne => ?_)
  subst e2
  refine ⟨_, _, _, _, _, _, _, rfl, Walks.list (A := X.A.in1) (I.ok.hd hc) _ a hne its.toArray, st, truth_ints rv, fun h' tk hk => ?_⟩
  refine ⟨.bl _, H, I.kept fun b o eo => hk b o (fun hmem => ?_) (Heap.get?_push_of_some _ eo), ?_, q⟩
  · rcases List.mem_cons.mp hmem with e1 | hmem
    · exact absurd (e1 ▸ Heap.lt_size eo) (Nat.lt_irrefl _)
    · cases hmem
  · show Value.bool _ = Value.bool _
    rw [← anyI_range, List.size_toArray, ← hlen, List.length_map]
theorem je_anyI {G : Ctx} {Z Z1 : State} {a : Expr} {p pos : Pos} {ns : List Int} (B : Bi G.g) (ha : JA G [a] Z [encI ns] Z1) (hg : glB G.sc "any" = true := by kernel_rfl) (he : ∀ env, starEach [a] env = (false, eval a env) :: starEach [] env := by intro _; rfl) (hpl : ∀ env, (backTo pos (starEach [] env)).any (·.1) = false := by intro _; rfl) : JE G (.Call (.Name "any" p) [a] [] pos) Z (.bl (ns.any (· != 0))) Z1 :=
  je_callB (r := fun X => rAnyI X.K) (fun X f => cr_anyI f.calm) B.any_ (by decide +kernel) hg ha (fun X f B2 σ H vs Q k r q => by
    obtain ⟨v, rfl, rr⟩ := one_of r
    obtain ⟨a, xs, rfl, na, e, ra⟩ := rr.inv_lst
    have ex : xs = ns.map V.int := rpa_map (fun b v r => r.inv_int) ra
    subst ex
    exact ⟨a, ns, rfl, .of e, q _ H (Same.refl H) (.bl _)⟩) he hpl
/-! ### entries -/
def mTri (m : Nat) (x : D) : Bool := match x with
  | .tup [a, _, _] => mBetween a 0 ((m : Int) - 1)
  | _ => false
def mSide (x : D) : Bool := match x with
  | .tup [_, b, _] => mBetween b (-1) 1 && !decide (intOf b = 0)
  | _ => false
def keyOf (x : D) : List Int := match x with
  | .tup [a, b, _] => [intOf a, intOf b]
  | _ => []
def upK (l : List D) : Bool := (List.range (l.length - 1)).all fun k => HT.lexLt (keyOf (l.getD k .non)) (keyOf (l.getD (k + 1) .non))
def mEntries (m : Nat) (most : Int) (v : D) : Bool := match v with
  | .tup l => decide ((l.length : Int) ≤ most) && (l.all (mTri m) && (l.all mSide && upK l))
  | _ => false
def R_areEnt : List D → Out → Prop := fun ds o => ∃ (gs : List Gt) (most : Int) (n : Nat) (v : D), gs.length ≤ 8 ∧ most ≤ 1000 ∧ dk n v = true ∧ ds = [encGs gs, .int most, v] ∧ o = .ret (.bl (mEntries gs.length most v))
def R_check0 : List D → Out → Prop := fun ds o => ∃ gs : List Gt, GatesOk gs ∧ ds = [encGs gs] ∧ o = .ret .non
def R_degree0 : List D → Out → Prop := fun ds o => ∃ d : Nat, d ≤ 3 ∧ ds = [.int (d : Int)] ∧ o = .ret .non
def R_both0 : List D → Out → Prop := fun ds o => ∃ (gs : List Gt) (d : Nat), GatesOk gs ∧ d ≤ 3 ∧ ds = [encGs gs, .int (d : Int)] ∧ o = .ret .non
/-! ### sums of entries with weights of any kind -/
abbrev TD := Nat × Int × D
def encTD (t : TD) : D := .tup [.int (t.1 : Int), .int t.2.1, t.2.2]
def sumRow (gs : List Gt) (ts : List TD) (pw : Nat) : D := .lst (ts.map fun t => .tup [.int (t.2.1 * (gAt gs t.1).1 ^ pw), t.2.2])
def sumEnd (gs : List Gt) (ts : List TD) : D := .lst (ts.map fun t => .tup [.int (endOfE gs (t.1, t.2.1)), t.2.2])
def R_sumsBy : List D → Out → Prop := fun ds o => ∃ (gs : List Gt) (d : Nat) (ts : List TD), GatesOk gs ∧ d ≤ 3 ∧ (∀ t ∈ ts, t.1 < gs.length ∧ (t.2.1 = -1 ∨ t.2.1 = 1)) ∧ ts.length ≤ 1000 ∧ ds = [encGs gs, .int (d : Int), .tup (ts.map encTD)] ∧ o = .ret (.lst (((List.range (d + 1)).map fun pw => sumRow gs ts pw) ++ [sumEnd gs ts]))
/-! ### bars -/
def mWt (x : D) : Bool := match x with
  | .tup [_, _, .int w] => decide (0 < w)
  | _ => false
def decT (x : D) : Nat × Int × Int := match x with
  | .tup [a, b, c] => ((intOf a).toNat, intOf b, intOf c)
  | _ => (0, 0, 0)
def encT (t : Nat × Int × Int) : D := .tup [.int (t.1 : Int), .int t.2.1, .int t.2.2]
def barSum (gs : List Gt) (ts : List (Nat × Int × Int)) (pw : Nat) : Int := (ts.map fun t => t.2.1 * (gAt gs t.1).1 ^ pw * t.2.2).sum
def barEnd (gs : List Gt) (ts : List (Nat × Int × Int)) : Int := (ts.map fun t => endOfE gs (t.1, t.2.1) * t.2.2).sum
def barT (gs : List Gt) (d : Nat) (ts : List (Nat × Int × Int)) : Bool := (List.range (d + 1)).all (fun pw => decide (barSum gs ts pw = 0)) && decide (barEnd gs ts < 0)
def itemsOf (v : D) : List D := match v with
  | .tup l => l
  | _ => []
def mBar (gs : List Gt) (d : Nat) (v : D) : Bool := mEntries gs.length ((d : Int) + 2) v && ((itemsOf v).all mWt && barT gs d ((itemsOf v).map decT))
def wtSmall (K : Nat) (x : D) : Prop := ∀ a b w, x = .tup [a, b, .int w] → w.natAbs < 2 ^ K
def R_isBar : List D → Out → Prop := fun ds o => ∃ (gs : List Gt) (d n : Nat) (v : D), GatesOk gs ∧ d ≤ 3 ∧ dk n v = true ∧ (∀ x ∈ itemsOf v, wtSmall 500000 x) ∧ ds = [encGs gs, .int (d : Int), v] ∧ o = .ret (.bl (mBar gs d v))
theorem side_ex {x : D} (h : mSide x = true) : ∃ a b c, x = .tup [a, .int b, c] ∧ (b = -1 ∨ b = 1) := by
  unfold mSide at h
  split at h
  · rename_i a b c
    simp only [Bool.and_eq_true, Bool.not_eq_true', decide_eq_false_iff_not] at h
    obtain ⟨i, rfl, h1, h2⟩ := mBetween_ex h.1
    refine ⟨a, i, c, rfl, ?_⟩
    have : i ≠ 0 := h.2
    omega
  · cases h
/-- entries, read -/
theorem entries_ex {m : Nat} {most : Int} {v : D} (h : mEntries m most v = true) : ∃ l, v = .tup l ∧ (l.length : Int) ≤ most ∧ upK l = true ∧ ∀ x ∈ l, ∃ (a : Nat) (b : Int) (c : D), x = .tup [.int (a : Int), .int b, c] ∧ a < m ∧ (b = -1 ∨ b = 1) := by
  unfold mEntries at h
  split at h
  · rename_i l
    simp only [Bool.and_eq_true, decide_eq_true_eq, List.all_eq_true] at h
    obtain ⟨h1, h2, h3, h4⟩ := h
    refine ⟨l, rfl, h1, h4, fun x hx => ?_⟩
    obtain ⟨a, b, c, rfl, hb⟩ := side_ex (h3 x hx)
    have ha := h2 _ hx
    have ha : mBetween a 0 ((m : Int) - 1) = true := ha
    obtain ⟨i, rfl, g1, g2⟩ := mBetween_ex ha
    exact ⟨i.toNat, b, c, by rw [show ((i.toNat : Nat) : Int) = i by omega], by omega, hb⟩
  · cases h
end JL

namespace JL
open PySem PySem.Spec L2 Lp
/-! ### weights as whole numbers -/
def lcmS (a : Int) (f : Int × Int) : Int := a * f.2 / (Int.gcd a f.2 : Int)
def lcmL (x : List (Int × Int)) : Int := x.foldl lcmS 1
def sizeOf' (L : Int) (f : Int × Int) : Int := f.1 * (L / f.2)
def sizesOf (x : List (Int × Int)) : List Int := x.map (sizeOf' (lcmL x))
noncomputable def barOf (gs : List Gt) (d : Nat) : List (Nat × Int × Int) := (((entL gs.length).zip (sizesOf (xOf gs d))).filter fun q => decide (0 < q.2)).map fun q => (q.1.1, q.1.2, q.2)
open Classical in
noncomputable def barD (gs : List Gt) (d : Nat) : D := if noBar gs d then .non else .tup ((barOf gs d).map encT)
open Classical in
noncomputable def roadD (gs : List Gt) (d : Nat) : D := if noBar gs d then .tup ((roadOf gs d).map frD) else .non
structure FrOk (k : Nat) (f : Int × Int) : Prop where
  pos : 0 < f.2
  sz1 : f.1.natAbs < 2 ^ k
  sz2 : f.2.natAbs < 2 ^ k
def R_common : List D → Out → Prop := fun ds o => ∃ x : List (Int × Int), (∀ f ∈ x, FrOk 4400 f) ∧ x.length ≤ 100 ∧ ds = [encX x] ∧ o = .ret (.int (lcmL x))
def R_whole : List D → Out → Prop := fun ds o => ∃ (f : Int × Int) (L : Int), FrOk 4400 f ∧ 0 < L ∧ L.natAbs < 2 ^ 500000 ∧ ds = [frD f, .int L] ∧ o = .ret (.int (sizeOf' L f))
def R_foundBar : List D → Out → Prop := fun ds o => ∃ (gs : List Gt) (d : Nat), GatesOk gs ∧ d ≤ 3 ∧ ds = [encGs gs, .int (d : Int)] ∧ o = .ret (barD gs d)
def R_someRoad : List D → Out → Prop := fun ds o => ∃ (gs : List Gt) (d : Nat), GatesOk gs ∧ d ≤ 3 ∧ ds = [encGs gs, .int (d : Int)] ∧ o = .ret (roadD gs d)
theorem gcd_pos' {a b : Int} (hb : 0 < b) : (0 : Int) < Int.gcd a b := (frac_ok hb).2.2.2.2.2
/-- one step: a common multiple -/
theorem lcmS_ok {a : Int} {f : Int × Int} (ha : 0 < a) (hf : 0 < f.2) : 0 < lcmS a f ∧ a ∣ lcmS a f ∧ f.2 ∣ lcmS a f ∧ lcmS a f ≤ a * f.2 := by
  have hg := gcd_pos' (a := a) hf
  obtain ⟨a', ea⟩ : (Int.gcd a f.2 : Int) ∣ a := Int.gcd_dvd_left ..
  obtain ⟨b', eb⟩ : (Int.gcd a f.2 : Int) ∣ f.2 := Int.gcd_dvd_right ..
  have e1 : lcmS a f = a * b' := by
    unfold lcmS
    have : a * f.2 = (a * b') * (Int.gcd a f.2 : Int) := by
      generalize (Int.gcd a f.2 : Int) = g at ea eb
      rw [eb]; grind
    rw [this]
    exact Int.mul_ediv_cancel _ (by omega)
  have e2 : lcmS a f = f.2 * a' := by
    rw [e1]
    generalize (Int.gcd a f.2 : Int) = g at ea eb
    rw [ea, eb]
    grind
  have hb' : 0 < b' := mulpos hg (by omega)
  refine ⟨by rw [e1]; exact Int.mul_pos ha hb', ⟨b', e1⟩, ⟨a', e2⟩, ?_⟩
  rw [e1]
  refine Int.mul_le_mul_of_nonneg_left ?_ (Int.le_of_lt ha)
  have h1 : (1 : Int) * b' ≤ (Int.gcd a f.2 : Int) * b' := Int.mul_le_mul_of_nonneg_right (by omega) (Int.le_of_lt hb')
  omega
theorem lcm_fold : ∀ (x : List (Int × Int)) (a : Int), 0 < a → (∀ f ∈ x, 0 < f.2) → 0 < x.foldl lcmS a ∧ a ∣ x.foldl lcmS a ∧ ∀ f ∈ x, f.2 ∣ x.foldl lcmS a
  | [], a, ha, _ => ⟨ha, Int.dvd_refl a, fun f hf => by cases hf⟩
  | f :: x, a, ha, h => by
    obtain ⟨h1, h2, h3, _⟩ := lcmS_ok ha (h f (List.mem_cons_self ..))
    obtain ⟨g1, g2, g3⟩ := lcm_fold x (lcmS a f) h1 fun y hy => h y (List.mem_cons_of_mem _ hy)
    refine ⟨g1, Int.dvd_trans h2 g2, fun y hy => ?_⟩
    rcases List.mem_cons.mp hy with e | e
    · rw [e]; exact Int.dvd_trans h3 g2
    · exact g3 y e
theorem lcmL_ok {x : List (Int × Int)} (h : ∀ f ∈ x, 0 < f.2) : 0 < lcmL x ∧ ∀ f ∈ x, f.2 ∣ lcmL x := by
  obtain ⟨h1, _, h3⟩ := lcm_fold x 1 (by decide) h
  exact ⟨h1, h3⟩
theorem lcm_size : ∀ (x : List (Int × Int)) (a : Int) (k : Nat), 0 < a → a.natAbs < 2 ^ k → (∀ f ∈ x, FrOk 4400 f) → (x.foldl lcmS a).natAbs < 2 ^ (k + 4400 * x.length)
  | [], a, k, _, h, _ => by simpa using h
  | f :: x, a, k, ha, hk, h => by
    have hf := h f (List.mem_cons_self ..)
    obtain ⟨h1, _, _, h4⟩ := lcmS_ok ha hf.pos
    have h5 : (lcmS a f).natAbs < 2 ^ (k + 4400) := by
      have h6 : (lcmS a f).natAbs ≤ (a * f.2).natAbs := by
        have := Int.mul_pos ha hf.pos
        omega
      rw [Int.natAbs_mul] at h6
      have h7 := Nat.mul_lt_mul'' hk hf.sz2
      rw [← Nat.pow_add] at h7
      omega
    have := lcm_size x (lcmS a f) (k + 4400) h1 h5 fun y hy => h y (List.mem_cons_of_mem _ hy)
    show (x.foldl lcmS (lcmS a f)).natAbs < _
    rw [List.length_cons, show k + 4400 * (x.length + 1) = k + 4400 + 4400 * x.length by omega]
    exact this
theorem unk_mem {n q : Nat} {rs : List (List Int)} {bs : List Nat} {f : Int × Int} : ∀ {k : Nat}, f ∈ unk n q rs bs k → f = (0, 1) ∨ ∃ i, i < k ∧ bas bs i < n ∧ f = frac (vec (row rs i) q) (vec (row rs i) (bas bs i))
  | 0, h => .inl (List.eq_of_mem_replicate h)
  | k + 1, h => by
    unfold unk at h
    split at h
    · rename_i hb
      rcases List.mem_or_eq_of_mem_set h with h | h
      · rcases unk_mem h with z | ⟨i, hi, z⟩
        · exact .inl z
        · exact .inr ⟨i, by omega, z⟩
      · exact .inr ⟨k, by omega, hb, h⟩
    · rcases unk_mem h with z | ⟨i, hi, z⟩
      · exact .inl z
      · exact .inr ⟨i, by omega, z⟩
theorem frac_size {t b : Int} {k : Nat} (hb : 0 < b) (h1 : t.natAbs < 2 ^ k) (h2 : b.natAbs < 2 ^ k) : FrOk k (frac t b) := by
  obtain ⟨f1, _, _, e1, e2, hg⟩ := frac_ok (t := t) hb
  have key : ∀ x y : Int, x = (Int.gcd t b : Int) * y → y.natAbs ≤ x.natAbs := fun x y e => by
    have := congrArg Int.natAbs e
    rw [Int.natAbs_mul] at this
    rw [this]
    exact Nat.le_mul_of_pos_left _ (by omega)
  exact ⟨f1, Nat.lt_of_le_of_lt (key _ _ e1) h1, Nat.lt_of_le_of_lt (key _ _ e2) h2⟩
theorem unk_ok {n q : Nat} {rs : List (List Int)} {bs : List Nat} {k : Nat} (hp : ∀ i, i < k → bas bs i < n → 0 < vec (row rs i) (bas bs i)) (hs : ∀ i, i < k → szL 4400 (row rs i)) : ∀ f ∈ unk n q rs bs k, FrOk 4400 f := fun f hf => by
  rcases unk_mem hf with rfl | ⟨i, hi, hb, rfl⟩
  · exact ⟨by decide, Nat.two_pow_pos _, Nat.one_lt_two_pow (by decide)⟩
  · exact frac_size (hp i hi hb) ((hs i hi).vec _) ((hs i hi).vec _)
theorem xOf_ok {gs : List Gt} {d : Nat} (hg : GatesOk gs) (h3 : d ≤ 3) : ∀ f ∈ xOf gs d, FrOk 4400 f := by
  have t := task_gates hg h3
  have G := (fin1_ok t.fit).1
  have ro := t.rowsOk G
  refine unk_ok (fun i hi hb => ?_) fun i hi => ro.sz _ (row_mem hi)
  have tot := G.tot
  simp only [List.length_nil, Nat.add_zero] at tot
  have := G.inv.pos i (by have : i < (fin1 (2 * gs.length) (matA gs d) (goalB d)).rows.length := hi; omega)
  have : 0 < vec (row ((fin1 (2 * gs.length) (matA gs d) (goalB d)).rows ++ []) i) (bas ((fin1 (2 * gs.length) (matA gs d) (goalB d)).basis ++ []) i) := this
  rw [List.append_nil, List.append_nil] at this
  exact this
theorem xOf_len (gs : List Gt) (d : Nat) : (xOf gs d).length = 2 * gs.length := unk_len _ _ _ _ _
end JL

/-! x[::-1] -/
namespace HT
open PySem PySem.Spec PyProof.Rows
section
variable {prog : Program} {w : World} {A : Around} {E : Value → Shared → Prop} {s : Shared}
theorem places_rev (n : Nat) : Builtin.Slice.slicePlaces ((n : Int) - 1) (-1) (-1) = n := by
  unfold Builtin.Slice.slicePlaces
  by_cases h : n = 0
  · subst h; rfl
  · simp
    omega
theorem adjust_rev (n : Nat) : Builtin.Slice.sliceAdjust none none (-1) (n : Int) = ((n : Int) - 1, -1) := by
  unfold Builtin.Slice.sliceAdjust
  rfl
theorem sliceApplied_rev {sl : Addr} {t : Tok} {n : Nat} {Q : Int × Int × Nat → Shared → Prop} (hs : s.heap.IsSliceOf sl .none .none (.int (-1) t))
    (h : Q ((n : Int) - 1, -1, n) s) : wpAny (model prog w) A (Builtin.Slice.sliceApplied (.ref sl) (pure (n : Int))) Q E s := by
  obtain ⟨os, hos, hcs, hds⟩ := id hs
  unfold Builtin.Slice.sliceApplied Builtin.Slice.sliceFields
  refine wpAny_bind (wpAny_bind (wpAny_field hos hds (x := .none) rfl (wpAny_bind (wpAny_field hos hds (x := .none) rfl (wpAny_bind (wpAny_field hos hds (x := .int (-1) t) rfl (wpAny_pure ?_)))))))
  refine wpAny_bind (slicePart_int ?_)
  show wpAny _ _ (if ((-1 : Int) == 0) = true then _ else _) _ _ s
  rw [if_neg (by decide)]
  refine wpAny_bind (slicePart_none (wpAny_bind (slicePart_none (wpAny_bind (wpAny_pure ?_)))))
  show wpAny _ _ (match Builtin.Slice.sliceAdjust none none (-1) (n : Int) with | (lo, hi) => pure (lo, (-1 : Int), Builtin.Slice.slicePlaces lo hi (-1))) _ _ s
  rw [adjust_rev n]
  show wpAny _ _ (pure ((n : Int) - 1, (-1 : Int), Builtin.Slice.slicePlaces ((n : Int) - 1) (-1) (-1))) _ _ s
  rw [places_rev]
  exact wpAny_pure h
theorem pick_rev (xs : Array Value) : ((List.range xs.size).filterMap fun (m : Nat) => xs[(((xs.size : Nat) : Int) - 1 + (m : Int) * -1).toNat]?).toArray = xs.toList.reverse.toArray := by
  congr 1
  have key : ∀ m, m < xs.size → xs[(((xs.size : Nat) : Int) - 1 + (m : Int) * -1).toNat]? = xs.toList.reverse[m]? := fun m hm => by
    rw [List.getElem?_reverse (by simpa using hm), Array.getElem?_toList]
    congr 1
    simp
    omega
  have e : (List.range xs.size).filterMap (fun (m : Nat) => xs[(((xs.size : Nat) : Int) - 1 + (m : Int) * -1).toNat]?) = (List.range xs.size).filterMap fun m => xs.toList.reverse[m]? := by
    have cg : ∀ L : List Nat, (∀ m ∈ L, m < xs.size) → L.filterMap (fun (m : Nat) => xs[(((xs.size : Nat) : Int) - 1 + (m : Int) * -1).toNat]?) = L.filterMap fun m => xs.toList.reverse[m]? := fun L => by
      induction L with
      | nil => intro _; rfl
      | cons a L ih =>
        intro hL
        rw [List.filterMap_cons, List.filterMap_cons, key a (hL a (List.mem_cons_self ..)), ih fun m hm => hL m (List.mem_cons_of_mem _ hm)]
    exact cg _ fun m hm => List.mem_range.mp hm
  rw [e]
  have gen : ∀ (l : List Value) (k : Nat), (List.range k).filterMap (fun m => l[m]?) = l.take k := fun l k => by
    induction k with
    | zero => rfl
    | succ k ih =>
      rw [List.range_succ, List.filterMap_append, ih, List.take_add_one]
      congr 1
  rw [gen, List.take_of_length_le (by simp)]
theorem getItem_tuple_rev {t sl : Addr} {tk : Tok} {items : Array Value} {Q : Value → Shared → Prop} (ht : IsTup s.heap t items) (hs : s.heap.IsSliceOf sl .none .none (.int (-1) tk))
    (h : Q (.ref s.heap.objs.size) { s with heap := s.heap.push { cls := .type "tuple", data := .seq items.toList.reverse.toArray } })
    (hsz : items.size ≤ sizeLine) : wpAny (model prog w) A (getItem (.ref t) (.ref sl)) Q E s := by
  have htake : sizeOk (.seq items.toList.reverse.toArray) := by
    show items.toList.reverse.toArray.size ≤ sizeLine
    simpa using hsz
  obtain ⟨os, hos, hcs, hds⟩ := id hs
  have hTs : s.TypeIs (.ref sl) "slice" := ⟨os, hos, hcs⟩
  unfold getItem
  try with_reducible refine wpAny_holding ?_
  first | refine wpAny_bind (wpAny_pure ?_) | skip
  refine wpAny_bind (wpAny_sequenceKey ht.typeIs (by decide) ?_)
  refine wpAny_bind (wpAny_callSpecial?_slot (name := Str.ofString "__getitem__") ht.typeIs PyProof.Rows.slot_tuple_getitem
    (wpAny_call_entry PyProof.Rows.slot_tuple_getitem ht.typeIs entry_tuple_getitem ?_ (args_tuple_getitem _ _)))
  show wpAny _ _ (Builtin.Tuple.tupleItemsOf (.ref t) >>= _) _ _ s
  refine wpAny_bind (tupleItemsOf_ ht ?_)
  refine wpAny_bind (wpAny_typeOf hTs ?_)
  rw [if_pos (by decide)]
  refine wpAny_bind (sliceApplied_rev hs ?_)
  show wpAny _ _ (if ((((items.size : Nat) : Int) - 1 == 0) && ((-1 : Int) == 1) && (items.size == items.size)) = true then _ else _) _ _ s
  rw [if_neg (by simp), pick_rev]
  first
    | exact wpAny_bind (m := Builtin.Tuple.tupleExact _) (wpAny_newObj_type (wpAny_pure ⟨_, rfl, wpAny_pure h⟩) htake)
    | exact wpAny_bind (m := Builtin.Tuple.tupleExact _) (wpAny_newObj_type (wpAny_bind (wpAny_pure (wpAny_pure ⟨_, rfl, wpAny_pure h⟩))) htake)
    | exact wpAny_bind (wpAny_bind (m := Builtin.Tuple.tupleExact _) (wpAny_newObj_type (wpAny_pure (wpAny_pure ⟨_, rfl, wpAny_pure h⟩)) htake))
    | exact wpAny_bind (wpAny_bind (m := Builtin.Tuple.tupleExact _) (wpAny_newObj_type (wpAny_pure ⟨_, rfl, wpAny_pure h⟩) htake))
end
end HT
namespace JL
open PySem PySem.Spec L2 PyProof.Rows
/-- what a slice [::-1] of a value is -/
def RvR (X : Cx) (r : V → Hp → VK → Prop) : Prop :=
  ∀ (pins : List (Addr × Obj)) (s : Shared) (σ : L2.St) (H : Hp) (x : V) (v : Value) (t : Tok) (sl : Addr) (Q : VK), Inv X pins σ H s → RelV x v → s.heap.IsSliceOf sl .none .none (.int (-1) t) → r x H Q →
    ∃ T id, typeLookup (.type T) "__getitem__" = pure (some (.builtin id)) ∧ s.TypeIs v T ∧ wpAny (model X.prog X.w) X.A (getItem v (.ref sl)) (EP X pins σ Q) X.xe s
def tRv (r : V → Hp → VK → Prop) (te ts : TE) : TE := fun σ H Q => te σ H fun x H1 => ts σ H1 fun y H2 => y = .int (-1) ∧ r x H2 Q
theorem pe_rev {X : Cx} {e st : Expr} {te ts : TE} {p2 pos : Pos} {r : V → Hp → VK → Prop} (hr : RvR X r) (he : PE X e te) (hst : PE X st ts) : PE X (.Subscript e (.Slice none none (some st) p2) pos) (tRv r te ts) := by
  refine ⟨fun pins s σ H Q I h => ?_⟩
  refine Subscript_ (thn (he.run pins s σ H _ I h) fun v s1 ⟨x, H1, I1, r1, q1⟩ => ?_)
  refine wpAny_Slice ?_
  rw [evalPart_none, evalPart_some]
  refine wpAny_pure (wpAny_pure (thn (hst.run pins s1 σ H1 _ I1 q1) fun vs s3 ⟨y, H3, I3, ry, ey, q3⟩ => ?_))
  subst ey
  obtain ⟨t, rfl⟩ := ry
  have I4 : Inv X pins σ H3 { s3 with heap := s3.heap.push { cls := .type "slice", data := .fields #[.none, .none, .int (-1) t] } } := I3.kept (t' := s3.toks) fun b ob q => Heap.get?_push_of_some _ q
  obtain ⟨T, id, hT, ht, hg⟩ := hr pins { s3 with heap := s3.heap.push { cls := .type "slice", data := .fields #[.none, .none, .int (-1) t] } } σ H3 x v t s3.heap.objs.size Q I4 r1 (Heap.IsSliceOf.new ..) q3
  show wpAny (model X.prog X.w) X.A (subscriptTail e (.Slice none none (some st) p2) v (.ref s3.heap.objs.size)) (EP X pins σ Q) X.xe { s3 with heap := s3.heap.push { cls := .type "slice", data := .fields #[.none, .none, .int (-1) t] } }
  exact tail_any (ops := [v, .ref s3.heap.objs.size]) ht hT hg (by with_unfolding_all rfl)
theorem vals_rev : ∀ {xs : List V} {us : List Value}, Vals xs us → Vals xs.reverse us.reverse
  | _, _, .nil => .nil
  | _ :: _, _ :: _, .cons r t => by
    rw [List.reverse_cons, List.reverse_cons]
    exact (vals_rev t).append (.cons r .nil)
theorem rv_tup {X : Cx} : RvR X (fun x H Q => ∃ a xs, x = .ref a ∧ SqT X.K H a xs ∧ ∀ p, H p = none → Q (.ref p) (upd H p (.tup xs.reverse))) := by
  intro pins s σ H x v t sl Q I rx hs h
  obtain ⟨a, xs, rfl, hx, q⟩ := h
  cases rx
  obtain ⟨its, r, ht, hz⟩ := I.tuple hx
  have hlen : its.toArray.size = xs.length := by rw [List.size_toArray]; exact r.length.symm
  refine ⟨"tuple", _, PyProof.Rows.slot_tuple_getitem.lookup, ht.typeIs, ?_⟩
  refine HT.getItem_tuple_rev ht hs ?_ (by rw [hlen]; exact hz)
  refine ⟨.ref s.heap.objs.size, _, I.laid (t' := s.toks) (o := .tup xs.reverse) (fun b ob q => Heap.get?_push_of_some _ q) (Nat.le_refl _) ?_, rfl, q _ (I.hok.fresh (Nat.le_refl _))⟩
  exact ⟨by rw [List.length_reverse]; exact hz, _, vals_rev r, by simpa using IsTup.new _ _⟩
theorem rev_bounds (n : Nat) : sliceBounds none none (some (-1)) n = ((n : Int) - 1, -1, -1) := rfl
theorem pick_revL (its : List Value) : slicePick its.toArray none none (some (-1)) = its.reverse.toArray := by
  unfold slicePick
  rw [rev_bounds]
  have e : sliceRange (((its.toArray.size : Nat) : Int) - 1) (-1) (-1) = (List.range its.toArray.size).map fun (k : Nat) => ((((its.toArray.size : Nat) : Int) - 1) + (-1) * (k : Int)).toNat := by
    unfold sliceRange
    dsimp only
    rw [if_neg (by decide)]
    congr 2
    by_cases h : its.toArray.size = 0
    · rw [h]; rfl
    · rw [if_pos (by omega)]
      simp
  dsimp only
  rw [e, List.filterMap_map]
  have := HT.pick_rev its.toArray
  rw [show its.toArray.toList = its by simp] at this
  rw [← this]
  congr 2
  funext m
  show its.toArray[(_ + (-1) * (m : Int)).toNat]? = its.toArray[(_ + (m : Int) * -1).toNat]?
  rw [Int.mul_comm]
theorem rv_lst {X : Cx} : RvR X (fun x H Q => ∃ a xs, x = .ref a ∧ SqL X.K H a xs ∧ ∀ p, H p = none → Q (.ref p) (upd H p (.lst xs.reverse))) := by
  intro pins s σ H x v t sl Q I rx hs h
  obtain ⟨a, xs, rfl, hx, q⟩ := h
  cases rx
  obtain ⟨its, r, ht, hz⟩ := I.list hx
  have hlen := r.length
  refine ⟨"list", _, slot_list_getitem.lookup, ht.isList.typeIs, ?_⟩
  refine wpAny_getItem_list_slice ht.isList hs .none .none (.int (-1) t) (by decide) ?_ (by rw [List.size_toArray]; omega)
  rw [pick_revL]
  refine ⟨.ref s.heap.objs.size, _, I.laid (t' := s.toks) (o := .lst xs.reverse) (fun b ob q => Heap.get?_push_of_some _ q) (Nat.le_refl _) ?_, rfl, q _ (I.hok.fresh (Nat.le_refl _))⟩
  exact ⟨by rw [List.length_reverse]; exact hz, _, 0, vals_rev r, Heap.get?_push_size _ rfl⟩
section
variable {G : Ctx} {Z Z1 Z2 : State} {a b : Expr} {ds : List D} {p2 pos : Pos} {r : Addr}
theorem je_revT (ha : JE G a Z (.tup ds) Z1) (hb : JE G b Z1 (.int (-1)) Z1) : JE G (.Subscript a (.Slice none none (some b) p2) pos) Z (.tup ds.reverse) Z1 := fun X f B σ H k Q q =>
  ⟨_, pe_rev rv_tup p_E p_E, ha X f B σ H k _ fun x H1 k1 p1 r1 => hb X f B σ H1 k1 _ fun y H2 k2 p2 r2 => by
    obtain ⟨l, xs, rfl, nl, e, ra⟩ := (p2 _ _ r1).inv_tup
    refine ⟨r2.inv_int, l, xs, rfl, .of e, fun n nn => ?_⟩
    have s := same_upd (o := .tup xs.reverse) nn
    exact q _ _ (k2.same s) ((p1.trans p2).trans (Kp.same s)) (rp_tup (k2.fresh nn) upd_same ((Kp.same s).all ra.reverse))⟩
theorem je_revL (ha : JE G a Z (.lst ds) Z1) (hb : JE G b Z1 (.int (-1)) Z1) : JE G (.Subscript a (.Slice none none (some b) p2) pos) Z (.lst ds.reverse) Z1 := fun X f B σ H k Q q =>
  ⟨_, pe_rev rv_lst p_E p_E, ha X f B σ H k _ fun x H1 k1 p1 r1 => hb X f B σ H1 k1 _ fun y H2 k2 p2 r2 => by
    obtain ⟨l, xs, rfl, nl, e, ra⟩ := (p2 _ _ r1).inv_lst
    refine ⟨r2.inv_int, l, xs, rfl, .of e, fun n nn => ?_⟩
    have s := same_upd (o := .lst xs.reverse) nn
    exact q _ _ (k2.same s) ((p1.trans p2).trans (Kp.same s)) (rp_lst (k2.fresh nn) upd_same ((Kp.same s).all ra.reverse))⟩
theorem je_revR (ha : JE G a Z (.ref r) Z1) (hb : JE G b Z1 (.int (-1)) Z1) (hh : Has Z1 r ds) : JE G (.Subscript a (.Slice none none (some b) p2) pos) Z (.lst ds.reverse) Z1 := fun X f B σ H k Q q =>
  ⟨_, pe_rev rv_lst p_E p_E, ha X f B σ H k _ fun x H1 k1 p1 r1 => hb X f B σ H1 k1 _ fun y H2 k2 p2 r2 => by
    obtain ⟨xs, e, ra⟩ := hh B σ H2 k2
    cases r1.inv_ref
    refine ⟨r2.inv_int, r, xs, rfl, .of e, fun n nn => ?_⟩
    have s := same_upd (o := .lst xs.reverse) nn
    exact q _ _ (k2.same s) ((p1.trans p2).trans (Kp.same s)) (rp_lst (k2.fresh nn) upd_same ((Kp.same s).all ra.reverse))⟩
end
end JL

namespace JL
open PySem PySem.Spec L2 Lp
/-! ### a found bar is one -/
structure GoodBar (gs : List Gt) (d : Nat) (ts : List (Nat × Int × Int)) : Prop where
  few : ts.length ≤ d + 2
  up : ts.Pairwise fun a b => HT.lexLt [(a.1 : Int), a.2.1] [(b.1 : Int), b.2.1] = true
  ok : ∀ t ∈ ts, t.1 < gs.length ∧ (t.2.1 = -1 ∨ t.2.1 = 1) ∧ 0 < t.2.2 ∧ t.2.2.natAbs < 2 ^ 490000
  zero : ∀ pw, pw ≤ d → barSum gs ts pw = 0
  neg : barEnd gs ts < 0
theorem sum_filter (n : Nat) (p : Nat → Bool) (f : Nat → Int) : (((List.range n).filter p).map f).sum = sm n fun j => if p j = true then f j else 0 := by
  induction n with
  | zero => rfl
  | succ n ih =>
    rw [List.range_succ, List.filter_append, List.map_append, List.sum_append, ih]
    show _ = (sm n _) + (if p n = true then f n else 0)
    congr 1
    by_cases h : p n = true
    · rw [List.filter_cons, if_pos h, if_pos h]; simp
    · rw [List.filter_cons, if_neg h, if_neg h]; simp
theorem lexLt_ent {i j : Nat} (h : i < j) : HT.lexLt [((eAt i).1 : Int), (eAt i).2] [((eAt j).1 : Int), (eAt j).2] = true := by
  show (if ((i / 2 : Nat) : Int) = ((j / 2 : Nat) : Int) then (if (if i % 2 = 0 then (-1 : Int) else 1) = (if j % 2 = 0 then (-1 : Int) else 1) then false else decide ((if i % 2 = 0 then (-1 : Int) else 1) < (if j % 2 = 0 then (-1 : Int) else 1))) else decide (((i / 2 : Nat) : Int) < ((j / 2 : Nat) : Int))) = true
  by_cases e : i / 2 = j / 2
  · have e1 : i % 2 = 0 := by omega
    have e2 : ¬ j % 2 = 0 := by omega
    rw [if_pos (by omega), if_pos e1, if_neg e2]
    decide
  · rw [if_neg (by omega)]
    exact decide_eq_true (by omega)
theorem barOf_eq (gs : List Gt) (d : Nat) : barOf gs d = ((List.range (2 * gs.length)).filter fun j => decide (0 < vec (sizesOf (xOf gs d)) j)).map fun j => ((eAt j).1, (eAt j).2, vec (sizesOf (xOf gs d)) j) := by
  have hl : (sizesOf (xOf gs d)).length = 2 * gs.length := by unfold sizesOf; rw [List.length_map, xOf_len]
  have e : (entL gs.length).zip (sizesOf (xOf gs d)) = (List.range (2 * gs.length)).map fun j => (eAt j, vec (sizesOf (xOf gs d)) j) := by
    apply List.ext_getElem
    · rw [List.length_zip, entL_len, hl, List.length_map, List.length_range]; omega
    · intro i h1 h2
      rw [List.length_map, List.length_range] at h2
      rw [List.getElem_zip, List.getElem_map, List.getElem_range, vec_get (by omega)]
      congr 1
      unfold entL
      rw [List.getElem_map, List.getElem_range]
      rfl
  unfold barOf
  rw [e, List.filter_map, List.map_map]
  rfl
theorem barOf_good {gs : List Gt} {d : Nat} (hg : GatesOk gs) (h3 : d ≤ 3) (hn : ¬ noBar gs d) : GoodBar gs d (barOf gs d) := by
  obtain ⟨P, X, S, b⟩ := bar_sol hn
  have xo := xOf_ok hg h3
  have xl := xOf_len gs d
  obtain ⟨lp, ld⟩ := lcmL_ok fun f hf => (xo f hf).pos
  have ls : (lcmL (xOf gs d)).natAbs < 2 ^ 480000 := Nat.lt_of_lt_of_le (lcm_size (xOf gs d) 1 1 (by decide) (by decide) xo) (Nat.pow_le_pow_right (by decide) (by rw [xl]; have := hg.most; omega))
  -- the sizes are the unknowns up to a factor
  have rel : ∀ j, j < 2 * gs.length → P * vec (sizesOf (xOf gs d)) j = lcmL (xOf gs d) * X j ∧ (vec (sizesOf (xOf gs d)) j).natAbs < 2 ^ 490000 := fun j hj => by
    have e1 : vec (sizesOf (xOf gs d)) j = sizeOf' (lcmL (xOf gs d)) (fat (xOf gs d) j) := by
      unfold sizesOf fat
      rw [vec_get (by rw [List.length_map]; omega), List.getElem_map, List.getD_eq_getElem?_getD, List.getElem?_eq_getElem (by omega)]
      rfl
    have hm : fat (xOf gs d) j ∈ xOf gs d := by
      unfold fat
      rw [List.getD_eq_getElem?_getD, List.getElem?_eq_getElem (by omega)]
      exact List.getElem_mem _
    obtain ⟨f1, f2, f3⟩ := S.fr j hj
    obtain ⟨c, ec⟩ := ld _ hm
    have fo := xo _ hm
    rw [e1]
    unfold sizeOf'
    generalize fat (xOf gs d) j = f at *
    have ediv : lcmL (xOf gs d) / f.2 = c := by rw [ec]; exact Int.mul_ediv_cancel_left _ (by omega)
    rw [ediv]
    refine ⟨?_, ?_⟩
    · rw [ec]; grind
    · rw [Int.natAbs_mul]
      have hc : c.natAbs < 2 ^ 480000 := by
        have := congrArg Int.natAbs ec
        rw [Int.natAbs_mul] at this
        have h1 : c.natAbs ≤ f.2.natAbs * c.natAbs := Nat.le_mul_of_pos_left _ (by omega)
        omega
      have := Nat.mul_lt_mul'' fo.sz1 hc
      rw [← Nat.pow_add] at this
      exact Nat.lt_of_lt_of_le this (Nat.pow_le_pow_right (by decide) (by decide))
  have snn : ∀ j, j < 2 * gs.length → 0 ≤ vec (sizesOf (xOf gs d)) j := fun j hj => by
    refine mulnn S.pos ?_
    rw [(rel j hj).1]
    exact Int.mul_nonneg (Int.le_of_lt lp) (S.nn j hj)
  have sumP : ∀ f : Nat → Int, P * (((List.range (2 * gs.length)).filter fun j => decide (0 < vec (sizesOf (xOf gs d)) j)).map fun j => f j * vec (sizesOf (xOf gs d)) j).sum = lcmL (xOf gs d) * sm (2 * gs.length) fun j => X j * f j := fun f => by
    rw [sum_filter, ← sm_mul, ← sm_mul]
    refine sm_congr fun j hj => ?_
    have h1 := (rel j hj).1
    by_cases hp : 0 < vec (sizesOf (xOf gs d)) j
    · rw [if_pos (decide_eq_true hp)]; grind
    · have h0 : vec (sizesOf (xOf gs d)) j = 0 := by have := snn j hj; omega
      rw [h0] at h1
      have hX : X j = 0 := mul0 lp (by omega)
      rw [if_neg (by simpa using hp), hX]
      omega
  rw [barOf_eq]
  refine ⟨?_, ?_, fun t ht => ?_, fun pw hpw => ?_, ?_⟩
  · rw [List.length_map]
    have hf := S.few
    rw [matA_len] at hf
    refine Nat.le_trans ?_ hf
    have : ((List.range (2 * gs.length)).filter fun j => decide (0 < vec (sizesOf (xOf gs d)) j)) = (List.range (2 * gs.length)).filter fun j => decide (X j ≠ 0) := by
      refine List.filter_congr fun j hj => ?_
      have hj := List.mem_range.mp hj
      have h1 := (rel j hj).1
      by_cases hX : X j = 0
      · rw [hX] at h1
        have h0 : vec (sizesOf (xOf gs d)) j = 0 := mul0 S.pos (by omega)
        rw [h0, hX]
        rfl
      · have hp : 0 < vec (sizesOf (xOf gs d)) j := by
          refine mulpos S.pos ?_
          rw [h1]
          exact Int.mul_pos lp (by have := S.nn j hj; omega)
        rw [decide_eq_true hp, decide_eq_true hX]
    rw [this]
    exact Nat.le_refl _
  · rw [List.pairwise_map]
    refine List.Pairwise.imp ?_ (List.Pairwise.filter _ List.pairwise_lt_range)
    intro i j hij
    exact lexLt_ent hij
  · obtain ⟨j, hj, rfl⟩ := List.mem_map.mp ht
    obtain ⟨h1, h2⟩ := List.mem_filter.mp hj
    have hj := List.mem_range.mp h1
    obtain ⟨g1, g2⟩ := eAt_ok hj
    exact ⟨g1, g2, of_decide_eq_true h2, (rel j hj).2⟩
  · unfold barSum
    rw [List.map_map]
    have h1 := sumP fun j => (eAt j).2 * (gAt gs (eAt j).1).1 ^ pw
    rw [b.zero pw hpw] at h1
    exact mul0 S.pos (by rw [show lcmL (xOf gs d) * 0 = 0 by omega] at h1; exact h1)
  · unfold barEnd
    rw [List.map_map]
    have h1 := sumP fun j => endOfE gs (eAt j)
    have h2 := b.neg
    have h3 := Int.mul_pos lp (by omega : 0 < -(sm (2 * gs.length) fun j => X j * endOfE gs (eAt j)))
    have e : lcmL (xOf gs d) * -(sm (2 * gs.length) fun j => X j * endOfE gs (eAt j)) = -(lcmL (xOf gs d) * sm (2 * gs.length) fun j => X j * endOfE gs (eAt j)) := by grind
    have h4 : 0 < P * -((((List.range (2 * gs.length)).filter fun j => decide (0 < vec (sizesOf (xOf gs d)) j)).map ((fun t => endOfE gs (t.1, t.2.1) * t.2.2) ∘ fun j => ((eAt j).1, (eAt j).2, vec (sizesOf (xOf gs d)) j))).sum) := by
      have e2 : P * -((((List.range (2 * gs.length)).filter fun j => decide (0 < vec (sizesOf (xOf gs d)) j)).map ((fun t => endOfE gs (t.1, t.2.1) * t.2.2) ∘ fun j => ((eAt j).1, (eAt j).2, vec (sizesOf (xOf gs d)) j))).sum) = -(P * (((List.range (2 * gs.length)).filter fun j => decide (0 < vec (sizesOf (xOf gs d)) j)).map fun j => endOfE gs (eAt j) * vec (sizesOf (xOf gs d)) j).sum) := by
        rw [Int.mul_neg]
        rfl
      rw [e2, h1]
      omega
    have := mulpos S.pos h4
    omega
theorem encT_dec (t : Nat × Int × Int) : decT (encT t) = t := by
  show ((t.1 : Int).toNat, t.2.1, t.2.2) = t
  rw [Int.toNat_natCast]
theorem decT_map (ts : List (Nat × Int × Int)) : (ts.map encT).map decT = ts := by
  rw [List.map_map]
  exact (List.map_congr_left fun t _ => encT_dec t).trans (List.map_id' _)
theorem upK_enc {ts : List (Nat × Int × Int)} (h : ts.Pairwise fun a b => HT.lexLt [(a.1 : Int), a.2.1] [(b.1 : Int), b.2.1] = true) : upK (ts.map encT) = true := by
  unfold upK
  rw [List.all_eq_true]
  intro k hk
  rw [List.length_map] at hk
  have hk := List.mem_range.mp hk
  have key : ∀ i (hi : i < ts.length), keyOf ((ts.map encT).getD i .non) = [(ts[i].1 : Int), ts[i].2.1] := fun i hi => by
    rw [List.getD_eq_getElem?_getD, List.getElem?_map, List.getElem?_eq_getElem hi]
    rfl
  rw [key k (by omega), key (k + 1) (by omega)]
  exact List.pairwise_iff_getElem.mp h k (k + 1) (by omega) (by omega) (by omega)
theorem mEntries_enc {m : Nat} {most : Int} {ts : List (Nat × Int × Int)} (h1 : (ts.length : Int) ≤ most) (h2 : ts.Pairwise fun a b => HT.lexLt [(a.1 : Int), a.2.1] [(b.1 : Int), b.2.1] = true) (h3 : ∀ t ∈ ts, t.1 < m ∧ (t.2.1 = -1 ∨ t.2.1 = 1)) : mEntries m most (.tup (ts.map encT)) = true := by
  show (decide (((ts.map encT).length : Int) ≤ most) && ((ts.map encT).all (mTri m) && ((ts.map encT).all mSide && upK (ts.map encT)))) = true
  rw [List.length_map, decide_eq_true h1, upK_enc h2]
  simp only [Bool.true_and, Bool.and_true, Bool.and_eq_true, List.all_eq_true]
  refine ⟨fun x hx => ?_, fun x hx => ?_⟩
  · obtain ⟨t, ht, rfl⟩ := List.mem_map.mp hx
    show mBetween (.int (t.1 : Int)) 0 ((m : Int) - 1) = true
    exact bet_in (by omega) (by have := (h3 t ht).1; omega)
  · obtain ⟨t, ht, rfl⟩ := List.mem_map.mp hx
    show (mBetween (.int t.2.1) (-1) 1 && !decide (t.2.1 = 0)) = true
    rcases (h3 t ht).2 with z | z <;> rw [z] <;> rfl
theorem GoodBar.is {gs : List Gt} {d : Nat} {ts : List (Nat × Int × Int)} (b : GoodBar gs d ts) : mBar gs d (.tup (ts.map encT)) = true := by
  unfold mBar
  rw [mEntries_enc (by have := b.few; omega) b.up fun t ht => ⟨(b.ok t ht).1, (b.ok t ht).2.1⟩]
  show (true && ((ts.map encT).all mWt && barT gs d ((ts.map encT).map decT))) = true
  rw [decT_map]
  simp only [Bool.true_and, Bool.and_eq_true, List.all_eq_true]
  refine ⟨fun x hx => ?_, ?_⟩
  · obtain ⟨t, ht, rfl⟩ := List.mem_map.mp hx
    exact decide_eq_true (b.ok t ht).2.2.1
  · unfold barT
    simp only [Bool.and_eq_true, List.all_eq_true, decide_eq_true_eq]
    exact ⟨fun pw hpw => b.zero pw (by have := List.mem_range.mp hpw; omega), b.neg⟩
theorem GoodBar.small {gs : List Gt} {d : Nat} {ts : List (Nat × Int × Int)} (b : GoodBar gs d ts) : ∀ x ∈ ts.map encT, wtSmall 500000 x := fun x hx a' b' w e => by
  obtain ⟨t, ht, rfl⟩ := List.mem_map.mp hx
  cases e
  exact Nat.lt_of_lt_of_le (b.ok t ht).2.2.2 (Nat.pow_le_pow_right (by decide) (by decide))
theorem dk_bar (ts : List (Nat × Int × Int)) : dk 2 (.tup (ts.map encT)) = true := by
  show (ts.map encT).all (dk 1) = true
  rw [List.all_eq_true]
  intro x hx
  obtain ⟨t, _, rfl⟩ := List.mem_map.mp hx
  rfl
end JL

namespace JL
open PySem PySem.Spec L2 Lp
/-! ### bars changed, bars of three gates -/
structure Bar3 (gs : List Gt) (d : Nat) (ts : List (Nat × Int × Int)) : Prop where
  few : ts.length ≤ d + 2
  up : ts.Pairwise fun a b => HT.lexLt [(a.1 : Int), a.2.1] [(b.1 : Int), b.2.1] = true
  ok : ∀ t ∈ ts, t.1 < gs.length ∧ (t.2.1 = -1 ∨ t.2.1 = 1) ∧ 0 < t.2.2 ∧ t.2.2.natAbs < 2 ^ 500000
  zero : ∀ pw, pw ≤ d → barSum gs ts pw = 0
  neg : barEnd gs ts < 0
theorem Bar3.is {gs : List Gt} {d : Nat} {ts : List (Nat × Int × Int)} (b : Bar3 gs d ts) : mBar gs d (.tup (ts.map encT)) = true := by
  unfold mBar
  rw [mEntries_enc (by have := b.few; omega) b.up fun t ht => ⟨(b.ok t ht).1, (b.ok t ht).2.1⟩]
  show (true && ((ts.map encT).all mWt && barT gs d ((ts.map encT).map decT))) = true
  rw [decT_map]
  simp only [Bool.true_and, Bool.and_eq_true, List.all_eq_true]
  refine ⟨fun x hx => ?_, ?_⟩
  · obtain ⟨t, ht, rfl⟩ := List.mem_map.mp hx
    exact decide_eq_true (b.ok t ht).2.2.1
  · unfold barT
    simp only [Bool.and_eq_true, List.all_eq_true, decide_eq_true_eq]
    exact ⟨fun pw hpw => b.zero pw (by have := List.mem_range.mp hpw; omega), b.neg⟩
theorem small_of {ts : List (Nat × Int × Int)} (b : ∀ t ∈ ts, t.2.2.natAbs < 2 ^ 500000) : ∀ x ∈ ts.map encT, wtSmall 500000 x := fun x hx a' b' w e => by
  obtain ⟨t, ht, rfl⟩ := List.mem_map.mp hx
  cases e
  exact b t ht
/-- weights made greater -/
def moreT (s : Int) (t : Nat × Int × Int) : Nat × Int × Int := (t.1, t.2.1, s * t.2.2)
theorem more_bar {gs : List Gt} {d : Nat} {ts : List (Nat × Int × Int)} (b : GoodBar gs d ts) {s : Int} (h1 : 2 ≤ s) (h2 : s ≤ 10) : Bar3 gs d (ts.map (moreT s)) where
  few := by rw [List.length_map]; exact b.few
  up := List.pairwise_map.mpr (b.up.imp fun h => h)
  ok := fun t ht => by
    obtain ⟨u, hu, rfl⟩ := List.mem_map.mp ht
    obtain ⟨o1, o2, o3, o4⟩ := b.ok u hu
    refine ⟨o1, o2, Int.mul_pos (by omega) o3, ?_⟩
    show (s * u.2.2).natAbs < _
    rw [Int.natAbs_mul]
    have h3 : s.natAbs < 2 ^ 4 := by show _ < 16; omega
    have h4 : s.natAbs * u.2.2.natAbs < 2 ^ 4 * 2 ^ 490000 := Nat.mul_lt_mul'' h3 o4
    rw [← Nat.pow_add] at h4
    exact Nat.lt_of_lt_of_le h4 (Nat.pow_le_pow_right (by decide) (by decide))
  zero := fun pw h => by
    have := b.zero pw h
    have e : barSum gs (ts.map (moreT s)) pw = s * barSum gs ts pw := by
      unfold barSum
      rw [List.map_map]
      clear b this
      induction ts with
      | nil => simp
      | cons t l ih =>
        rw [List.map_cons, List.map_cons, List.sum_cons, List.sum_cons, ih, Int.mul_add]
        congr 1
        show t.2.1 * (gAt gs t.1).1 ^ pw * (s * t.2.2) = _
        grind
    rw [e, this, Int.mul_zero]
  neg := by
    have := b.neg
    have e : barEnd gs (ts.map (moreT s)) = s * barEnd gs ts := by
      unfold barEnd
      rw [List.map_map]
      clear b this
      induction ts with
      | nil => simp
      | cons t l ih =>
        rw [List.map_cons, List.map_cons, List.sum_cons, List.sum_cons, ih, Int.mul_add]
        congr 1
        show endOfE gs (t.1, t.2.1) * (s * t.2.2) = _
        grind
    rw [e]
    exact Int.mul_neg_of_pos_of_neg (by omega) this
/-- gates made narrower -/
def slimG (g : Gt) : Gt := (g.1, (g.2.1 + g.2.2) / 2, (g.2.1 + g.2.2) / 2)
theorem slim_ok {gs : List Gt} (h : GatesOk gs) : GatesOk (gs.map slimG) where
  one := by rw [List.length_map]; exact h.one
  most := by rw [List.length_map]; exact h.most
  ok := fun g hg => by
    obtain ⟨u, hu, rfl⟩ := List.mem_map.mp hg
    have o := h.ok u hu
    have a1 := o.p1
    have a2 := o.p2
    have a3 := o.l1
    have a4 := o.l2
    have a5 := o.h2
    exact ⟨a1, a2, by show _ ≤ (u.2.1 + u.2.2) / 2; omega, by show (u.2.1 + u.2.2) / 2 ≤ (u.2.1 + u.2.2) / 2; omega, by show (u.2.1 + u.2.2) / 2 ≤ _; omega⟩
  up := List.pairwise_map.mpr (h.up.imp fun h => h)
theorem gAt_slim {gs : List Gt} {k : Nat} (h : k < gs.length) : gAt (gs.map slimG) k = slimG (gAt gs k) := by
  rw [gAt_get (by rw [List.length_map]; exact h), List.getElem_map, gAt_get h]
theorem slim_bar {gs : List Gt} (hg : GatesOk gs) {d : Nat} {ts : List (Nat × Int × Int)} (b : GoodBar gs d ts) : Bar3 (gs.map slimG) d ts where
  few := b.few
  up := b.up
  ok := fun t ht => by
    obtain ⟨o1, o2, o3, o4⟩ := b.ok t ht
    exact ⟨by rw [List.length_map]; exact o1, o2, o3, Nat.lt_of_lt_of_le o4 (Nat.pow_le_pow_right (by decide) (by decide))⟩
  zero := fun pw h => by
    rw [← b.zero pw h]
    unfold barSum
    congr 1
    apply List.map_congr_left
    intro t ht
    rw [gAt_slim (b.ok t ht).1]
    rfl
  neg := by
    refine Int.lt_of_le_of_lt ?_ b.neg
    have ok := b.ok
    unfold barEnd
    clear b
    induction ts with
    | nil => exact Int.le_refl _
    | cons t l ih =>
      rw [List.map_cons, List.map_cons, List.sum_cons, List.sum_cons]
      have h1 := ih fun u hu => ok u (by simp [hu])
      obtain ⟨o1, o2, o3, o4⟩ := ok t (by simp)
      have h2 : endOfE (gs.map slimG) (t.1, t.2.1) ≤ endOfE gs (t.1, t.2.1) := by
        unfold endOfE
        dsimp only
        rw [gAt_slim o1]
        have o := hg.ok _ (gAt_mem o1)
        have a4 := o.l2
        split
        · show ((gAt gs t.1).2.1 + (gAt gs t.1).2.2) / 2 ≤ _; omega
        · show -(((gAt gs t.1).2.1 + (gAt gs t.1).2.2) / 2) ≤ _; omega
      have h3 := Int.mul_le_mul_of_nonneg_right h2 (Int.le_of_lt o3)
      omega
/-- three gates in a row -/
structure Thr (p s e l r : Int) : Prop where
  p1 : -4 ≤ p
  p2 : p ≤ 4
  s1 : 1 ≤ s
  s2 : s ≤ 5
  e1 : 1 ≤ e
  e2 : e ≤ 9
  l1 : -4 ≤ l
  l2 : l ≤ 4
  r1 : -4 ≤ r
  r2 : r ≤ 4
def thr3 (p s e l r : Int) : List Gt := [(p, l, l), (p + 2, 30 + e, 50), (p + 2 + s, r, r)]
def wid3 (p s e l r : Int) : List Gt := [(p, l, 50), (p + 2, 30 + e, 50), (p + 2 + s, r, 50)]
def val3 (s : Int) : List (Nat × Int × Int) := [(0, 1, s), (1, -1, s + 2), (2, 1, 2)]
theorem gates3 {p s a b c d e f : Int} (h1 : -4 ≤ p) (h2 : p ≤ 4) (h3 : 1 ≤ s) (h4 : s ≤ 5) (ha : -50 ≤ a ∧ a ≤ b ∧ b ≤ 50) (hc : -50 ≤ c ∧ c ≤ d ∧ d ≤ 50) (he : -50 ≤ e ∧ e ≤ f ∧ f ≤ 50) : GatesOk [(p, a, b), (p + 2, c, d), (p + 2 + s, e, f)] where
  one := by simp
  most := by simp
  ok := fun g hg => by
    simp only [List.mem_cons, List.not_mem_nil, or_false] at hg
    rcases hg with rfl | rfl | rfl
    · exact ⟨by show -20 ≤ p; omega, by show p ≤ 20; omega, by show -50 ≤ a; omega, by show a ≤ b; omega, by show b ≤ 50; omega⟩
    · exact ⟨by show -20 ≤ p + 2; omega, by show p + 2 ≤ 20; omega, by show -50 ≤ c; omega, by show c ≤ d; omega, by show d ≤ 50; omega⟩
    · exact ⟨by show -20 ≤ p + 2 + s; omega, by show p + 2 + s ≤ 20; omega, by show -50 ≤ e; omega, by show e ≤ f; omega, by show f ≤ 50; omega⟩
  up := by
    simp only [List.pairwise_cons, List.mem_cons, List.not_mem_nil, or_false, false_implies, implies_true, List.Pairwise.nil, and_true]
    refine ⟨fun g hg => ?_, fun g hg => ?_⟩
    · rcases hg with rfl | rfl
      · show p < p + 2; omega
      · show p < p + 2 + s; omega
    · subst hg; show p + 2 < p + 2 + s; omega
theorem thr_ok {p s e l r : Int} (t : Thr p s e l r) : GatesOk (thr3 p s e l r) := by
  obtain ⟨p1, p2, s1, s2, e1, e2, l1, l2, r1, r2⟩ := t
  exact gates3 p1 p2 s1 s2 (by omega) (by omega) (by omega)
theorem wid_ok {p s e l r : Int} (t : Thr p s e l r) : GatesOk (wid3 p s e l r) := by
  obtain ⟨p1, p2, s1, s2, e1, e2, l1, l2, r1, r2⟩ := t
  exact gates3 p1 p2 s1 s2 (by omega) (by omega) (by omega)
theorem sum3 (p s e l r a b c : Int) (pw : Nat) : barSum [(p, a, b), (p + 2, c, 50), (p + 2 + s, e, l)] (val3 s) pw = 1 * p ^ pw * s + (-1 * (p + 2) ^ pw * (s + 2) + (1 * (p + 2 + s) ^ pw * 2 + 0)) := rfl
theorem end_thr (p s e l r : Int) : barEnd (thr3 p s e l r) (val3 s) = l * s + (-(30 + e) * (s + 2) + (r * 2 + 0)) := rfl
theorem end_wid (p s e l r : Int) : barEnd (wid3 p s e l r) (val3 s) = 50 * s + (-(30 + e) * (s + 2) + (50 * 2 + 0)) := rfl
theorem end_neg {p s e l r : Int} (t : Thr p s e l r) : l * s + (-(30 + e) * (s + 2) + (r * 2 + 0)) < 0 := by
  obtain ⟨p1, p2, s1, s2, e1, e2, l1, l2, r1, r2⟩ := t
  have h1 : l * s ≤ 4 * s := Int.mul_le_mul_of_nonneg_right l2 (by omega)
  have h2 : -(30 + e) * (s + 2) ≤ -31 * (s + 2) := Int.mul_le_mul_of_nonneg_right (by omega) (by omega)
  omega
theorem thr_bar {p s e l r : Int} (t : Thr p s e l r) : Bar3 (thr3 p s e l r) 1 (val3 s) where
  few := by show 3 ≤ 3; omega
  up := by
    unfold val3
    simp only [List.pairwise_cons, List.mem_cons, List.not_mem_nil, or_false, false_implies, implies_true, List.Pairwise.nil, and_true]
    refine ⟨fun g hg => ?_, fun g hg => ?_⟩
    · rcases hg with rfl | rfl <;> rfl
    · subst hg; rfl
  ok := fun u hu => by
    have big : 2 ^ 4 ≤ 2 ^ 500000 := Nat.pow_le_pow_right (by decide) (by decide)
    have s1 := t.s1
    have s2 := t.s2
    unfold val3 at hu
    simp only [List.mem_cons, List.not_mem_nil, or_false] at hu
    rcases hu with rfl | rfl | rfl
    · exact ⟨by show 0 < 3; decide, .inr rfl, by show 0 < s; omega, Nat.lt_of_lt_of_le (by show s.natAbs < 16; omega) big⟩
    · exact ⟨by show 1 < 3; decide, .inl rfl, by show 0 < s + 2; omega, Nat.lt_of_lt_of_le (by show (s + 2).natAbs < 16; omega) big⟩
    · exact ⟨by show 2 < 3; decide, .inr rfl, by show (0 : Int) < 2; omega, Nat.lt_of_lt_of_le (by show (2 : Int).natAbs < 16; omega) big⟩
  zero := fun pw h => by
    unfold thr3
    rw [sum3 (p := p) (s := s) (r := r)]
    rcases pw with _ | _ | pw
    · rw [Int.pow_zero, Int.pow_zero, Int.pow_zero]; omega
    · rw [Int.pow_succ, Int.pow_succ, Int.pow_succ, Int.pow_zero, Int.pow_zero, Int.pow_zero]; grind
    · omega
  neg := by rw [end_thr]; exact end_neg t
theorem thr_two {p s e l r : Int} (t : Thr p s e l r) : mBar (thr3 p s e l r) 2 (.tup ((val3 s).map encT)) = false := by
  unfold mBar barT
  have e1 : ((List.range (2 + 1)).all fun pw => decide (barSum (thr3 p s e l r) ((itemsOf (.tup ((val3 s).map encT))).map decT) pw = 0)) = false := by
    rw [Bool.eq_false_iff]
    intro z
    rw [List.all_eq_true] at z
    have z := of_decide_eq_true (z 2 (List.mem_range.mpr (by omega)))
    have z : barSum (thr3 p s e l r) (((val3 s).map encT).map decT) 2 = 0 := z
    rw [decT_map] at z
    unfold thr3 at z
    rw [sum3 (p := p) (s := s) (r := r)] at z
    have e2 : 1 * p ^ 2 * s + (-1 * (p + 2) ^ 2 * (s + 2) + (1 * (p + 2 + s) ^ 2 * 2 + 0)) = 2 * (s * (s + 2)) := by grind
    rw [e2] at z
    have := Int.mul_pos (show 0 < s by have := t.s1; omega) (show 0 < s + 2 by have := t.s1; omega)
    omega
  rw [e1]
  simp
theorem thr_zero (gs : List Gt) (s : Int) : mBar gs 0 (.tup ((val3 s).map encT)) = false := by
  unfold mBar mEntries
  show ((decide ((3 : Int) ≤ 2) && _) && _) = false
  simp
def val2 : List (Nat × Int × Int) := [(0, 1, 1), (1, -1, 1)]
theorem thr_bar0 {p s e l r : Int} (t : Thr p s e l r) : Bar3 (thr3 p s e l r) 0 val2 where
  few := by show 2 ≤ 2; omega
  up := by
    unfold val2
    simp only [List.pairwise_cons, List.mem_cons, List.not_mem_nil, or_false, false_implies, implies_true, List.Pairwise.nil, and_true]
    intro g hg
    subst hg; rfl
  ok := fun u hu => by
    have big : 2 ^ 4 ≤ 2 ^ 500000 := Nat.pow_le_pow_right (by decide) (by decide)
    unfold val2 at hu
    simp only [List.mem_cons, List.not_mem_nil, or_false] at hu
    rcases hu with rfl | rfl
    · exact ⟨by show 0 < 3; decide, .inr rfl, by decide, Nat.lt_of_lt_of_le (by show (1 : Int).natAbs < 16; omega) big⟩
    · exact ⟨by show 1 < 3; decide, .inl rfl, by decide, Nat.lt_of_lt_of_le (by show (1 : Int).natAbs < 16; omega) big⟩
  zero := fun pw h => by
    have : pw = 0 := by omega
    subst this
    show 1 * p ^ 0 * 1 + (-1 * (p + 2) ^ 0 * 1 + 0) = 0
    rw [Int.pow_zero, Int.pow_zero]
    decide
  neg := by
    show l * 1 + (-(30 + e) * 1 + 0) < 0
    have := t.l2
    have := t.e1
    omega
theorem wid_not {p s e l r : Int} (t : Thr p s e l r) : mBar (wid3 p s e l r) 1 (.tup ((val3 s).map encT)) = false := by
  unfold mBar barT
  have e1 : decide (barEnd (wid3 p s e l r) ((itemsOf (.tup ((val3 s).map encT))).map decT) < 0) = false := by
    refine decide_eq_false fun z => ?_
    have z : barEnd (wid3 p s e l r) (((val3 s).map encT).map decT) < 0 := z
    rw [decT_map, end_wid] at z
    have h2 : -39 * (s + 2) ≤ -(30 + e) * (s + 2) := Int.mul_le_mul_of_nonneg_right (by have := t.e2; omega) (by have := t.s1; omega)
    have := t.s1
    omega
  rw [e1]
  simp
theorem sm6 (f : Nat → Int) : sm 6 f = 0 + f 0 + f 1 + f 2 + f 3 + f 4 + f 5 := rfl
def xx3 (s : Int) (j : Nat) : Int := match j with
  | 1 => s
  | 2 => s + 2
  | 5 => 2
  | _ => 0
theorem thr_barI {p s e l r : Int} (t : Thr p s e l r) : BarI (thr3 p s e l r) 1 (xx3 s) where
  nn := fun j hj => by
    have := t.s1
    unfold xx3
    split <;> omega
  zero := fun pw h => by
    show sm 6 _ = 0
    rw [sm6]
    show 0 + 0 * (-1 * p ^ pw) + s * (1 * p ^ pw) + (s + 2) * (-1 * (p + 2) ^ pw) + 0 * (1 * (p + 2) ^ pw) + 0 * (-1 * (p + 2 + s) ^ pw) + 2 * (1 * (p + 2 + s) ^ pw) = 0
    rcases pw with _ | _ | pw
    · rw [Int.pow_zero, Int.pow_zero, Int.pow_zero]; omega
    · rw [Int.pow_succ, Int.pow_succ, Int.pow_succ, Int.pow_zero, Int.pow_zero, Int.pow_zero]; grind
    · omega
  neg := by
    show sm 6 _ < 0
    rw [sm6]
    show 0 + 0 * (-l) + s * l + (s + 2) * (-(30 + e)) + 0 * 50 + 0 * (-r) + 2 * r < 0
    have := end_neg t
    have e1 : s * l = l * s := Int.mul_comm _ _
    have e2 : (s + 2) * (-(30 + e)) = -(30 + e) * (s + 2) := Int.mul_comm _ _
    omega
theorem thr_road {p s e l r : Int} (t : Thr p s e l r) : roadD (thr3 p s e l r) 1 = .non := by
  unfold roadD
  rw [if_neg]
  exact fun h => no_both (road_pass h) (thr_barI t)
theorem wid_road {p s e l r : Int} (t : Thr p s e l r) : isNon (roadD (wid3 p s e l r) 1) = false := by
  unfold roadD
  rw [if_pos]
  · rfl
  · refine Classical.byContradiction fun h => ?_
    obtain ⟨P, X, _, b⟩ := bar_sol h
    refine no_both (y := fun i => if i = 0 then 45 else 0) (Y := 1) ⟨by decide, fun k hk => ?_⟩ b
    have hk : k < 3 := hk
    obtain ⟨p1, p2, s1, s2, e1, e2, l1, l2, r1, r2⟩ := t
    have e0 : ∀ x : Int, (sm (1 + 1) fun i => (if i = 0 then (45 : Int) else 0) * x ^ i) = 45 := fun x => by
      show 0 + 45 * x ^ 0 + 0 * x ^ 1 = 45
      rw [Int.pow_zero]
      omega
    rw [e0]
    rcases k with _ | _ | _ | k
    · show l * 1 ≤ 45 ∧ (45 : Int) ≤ 50 * 1; omega
    · show (30 + e) * 1 ≤ 45 ∧ (45 : Int) ≤ 50 * 1; omega
    · show r * 1 ≤ 45 ∧ (45 : Int) ≤ 50 * 1; omega
    · omega
end JL

namespace JL
open PySem PySem.Spec L2
/-! ### the head's facts of a class, and of a law that catches nothing -/
def dM (C m qual : Str) (st : Stmt) : He.DefD := ⟨(C, some m), m, qual, defArgs st, defBody st, defScope st, [], []⟩
def faF : List He.Fa := freeL.map He.Fa.free
section
variable {K : PySem.W.Frag} {h : Heap} {g : Glob} {fa : List He.Fa} {fn : List He.DefD}
theorem bi_ofF (X : g.K.In h) (G : h.Ns mainGlobals g.mg) (c : He.SaysD fa fn g.K) (hf : ∀ f ∈ faF, f ∈ fa) : Bi g := by
  have key : ∀ x, x ∈ freeL → g.mg x = none := fun x hx => He.free_ok X G (c.facts (hf _ (List.mem_map.mpr ⟨x, hx, rfl⟩)))
  exact ⟨key _ (by simp [freeL]), key _ (by simp [freeL]), key _ (by simp [freeL]), key _ (by simp [freeL]), key _ (by simp [freeL]), key _ (by simp [freeL]), key _ (by simp [freeL]), key _ (by simp [freeL]), key _ (by simp [freeL]), key _ (by simp [freeL]),
    key _ (by simp [freeL]), key _ (by simp [freeL]), key _ (by simp [freeL]), key _ (by simp [freeL]), key _ (by simp [freeL]), key _ (by simp [freeL]), key _ (by simp [freeL]), key _ (by simp [freeL]), key _ (by simp [freeL]), key _ (by simp [freeL])⟩
theorem methAt_of (c : He.SaysD fa fn g.K) {x m qual : Str} {st : Stmt} (h1 : He.Fa.meth x m ∈ fa) (h2 : dM x m qual st ∈ fn) : MethAt g (He.ga g.K x) m qual st := by
  obtain ⟨fd, F⟩ := c.defs h2
  exact ⟨_, fd, He.meth_ok (c.facts h1), F⟩
theorem makAt_of (X : g.K.In h) (G : h.Ns mainGlobals g.mg) (c : He.SaysD fa fn g.K) {x qual : Str} {st : Stmt} (h0 : He.Fa.glo x ∈ fa) (h1 : He.Fa.mkr x ∈ fa) (h2 : dM x "__init__" qual st ∈ fn) : MakAt g x (He.ga g.K x) qual st := by
  obtain ⟨fd, F⟩ := c.defs h2
  exact ⟨He.glo_ok X G (c.facts h0), _, fd, He.mkr_ok (c.facts h1), F⟩
theorem ck_of (c : He.SaysD fa fn g.K) {x : Str} {names : List Str} (h1 : He.Fa.cls x ∈ fa) (h2 : ∀ f ∈ names.map (He.Fa.noat x), f ∈ fa) : CK g (He.ga g.K x) names :=
  ⟨He.cls_ok (c.facts h1), fun f hf => He.noat_ok (c.facts (h2 _ (List.mem_map.mpr ⟨f, hf, rfl⟩)))⟩
end
end JL

namespace JL
open PySem PySem.Spec L2 Lp
/-! ### fractions: what is computed, told by numbers that need not be in lowest terms -/
theorem dvd_co {b a e : Int} (h : b ∣ a * e) (h1 : Int.gcd a b = 1) : b ∣ e := by
  rw [← Int.natAbs_dvd_natAbs]
  rw [← Int.natAbs_dvd_natAbs, Int.natAbs_mul] at h
  have c : Nat.Coprime b.natAbs a.natAbs := by
    have : Nat.gcd a.natAbs b.natAbs = 1 := h1
    rw [Nat.Coprime, Nat.gcd_comm]
    exact this
  exact c.dvd_of_dvd_mul_left h
theorem low_eq {a b c e : Int} (hb : 0 < b) (he : 0 < e) (h1 : Int.gcd a b = 1) (h2 : Int.gcd c e = 1) (h : a * e = c * b) : a = c ∧ b = e := by
  have d1 : b ∣ e := by
    have : b ∣ a * e := ⟨c, by rw [h]; exact Int.mul_comm _ _⟩
    exact dvd_co this h1
  have d2 : e ∣ b := by
    have : e ∣ c * b := ⟨a, by rw [← h]; exact Int.mul_comm _ _⟩
    exact dvd_co this h2
  have e1 : b = e := Int.le_antisymm (Int.le_of_dvd he d1) (Int.le_of_dvd hb d2)
  subst e1
  exact ⟨Int.eq_of_mul_eq_mul_right (by omega) h, rfl⟩
theorem frac_eq {a b c e : Int} (hb : 0 < b) (he : 0 < e) (h : a * e = c * b) : frac a b = frac c e := by
  obtain ⟨p1, g1, x1, _, _, _⟩ := frac_ok (t := a) hb
  obtain ⟨p2, g2, x2, _, _, _⟩ := frac_ok (t := c) he
  have key : (frac a b).1 * (frac c e).2 = (frac c e).1 * (frac a b).2 := by
    apply Int.eq_of_mul_eq_mul_right (show b * e ≠ 0 from Int.ne_of_gt (Int.mul_pos hb he))
    calc (frac a b).1 * (frac c e).2 * (b * e) = ((frac a b).1 * b) * ((frac c e).2 * e) := by grind
      _ = (a * (frac a b).2) * ((frac c e).2 * e) := by rw [x1]
      _ = (a * e) * ((frac a b).2 * (frac c e).2) := by grind
      _ = (c * b) * ((frac a b).2 * (frac c e).2) := by rw [h]
      _ = ((c * (frac c e).2) * (frac a b).2) * b := by grind
      _ = (((frac c e).1 * e) * (frac a b).2) * b := by rw [x2]
      _ = (frac c e).1 * (frac a b).2 * (b * e) := by grind
  obtain ⟨r1, r2⟩ := low_eq p1 p2 g1 g2 key
  exact Prod.ext r1 r2
theorem frac_iff {a b c e : Int} (hb : 0 < b) (he : 0 < e) : frac a b = frac c e ↔ a * e = c * b := by
  refine ⟨fun h => ?_, frac_eq hb he⟩
  obtain ⟨p1, _, x1, _, _, _⟩ := frac_ok (t := a) hb
  obtain ⟨p2, _, x2, _, _, _⟩ := frac_ok (t := c) he
  rw [h] at x1 p1
  apply Int.eq_of_mul_eq_mul_right (show (frac c e).2 ≠ 0 by omega)
  calc a * e * (frac c e).2 = (a * (frac c e).2) * e := by grind
    _ = ((frac c e).1 * b) * e := by rw [← x1]
    _ = ((frac c e).1 * e) * b := by grind
    _ = (c * (frac c e).2) * b := by rw [x2]
    _ = c * b * (frac c e).2 := by grind
theorem frac_one (a : Int) : frac a 1 = (a, 1) := by
  unfold frac
  rw [Int.gcd_one]
  simp
theorem frac_le {a b : Int} (hb : 0 < b) : (frac a b).1.natAbs ≤ a.natAbs ∧ (frac a b).2 ≤ b := by
  obtain ⟨p1, _, _, x1, x2, x3⟩ := frac_ok (t := a) hb
  refine ⟨?_, ?_⟩
  · have := congrArg Int.natAbs x1
    rw [Int.natAbs_mul] at this
    rw [this]
    exact Nat.le_mul_of_pos_left _ (by omega)
  · have h1 : 1 * (frac a b).2 ≤ (Int.gcd a b : Int) * (frac a b).2 := Int.mul_le_mul_of_nonneg_right (by omega) (by omega)
    omega
theorem plus_frac {a b c e : Int} (hb : 0 < b) (he : 0 < e) : frac ((frac a b).1 * (frac c e).2 + (frac c e).1 * (frac a b).2) ((frac a b).2 * (frac c e).2) = frac (a * e + c * b) (b * e) := by
  obtain ⟨p1, _, x1, _, _, _⟩ := frac_ok (t := a) hb
  obtain ⟨p2, _, x2, _, _, _⟩ := frac_ok (t := c) he
  refine frac_eq (Int.mul_pos p1 p2) (Int.mul_pos hb he) ?_
  generalize frac a b = f at *
  generalize frac c e = g at *
  calc (f.1 * g.2 + g.1 * f.2) * (b * e) = (f.1 * b) * g.2 * e + (g.1 * e) * f.2 * b := by grind
    _ = (a * f.2) * g.2 * e + (c * g.2) * f.2 * b := by rw [x1, x2]
    _ = (a * e + c * b) * (f.2 * g.2) := by grind
theorem times_frac {a b c e : Int} (hb : 0 < b) (he : 0 < e) : frac ((frac a b).1 * (frac c e).1) ((frac a b).2 * (frac c e).2) = frac (a * c) (b * e) := by
  obtain ⟨p1, _, x1, _, _, _⟩ := frac_ok (t := a) hb
  obtain ⟨p2, _, x2, _, _, _⟩ := frac_ok (t := c) he
  refine frac_eq (Int.mul_pos p1 p2) (Int.mul_pos hb he) ?_
  generalize frac a b = f at *
  generalize frac c e = g at *
  calc (f.1 * g.1) * (b * e) = (f.1 * b) * (g.1 * e) := by grind
    _ = (a * f.2) * (c * g.2) := by rw [x1, x2]
    _ = (a * c) * (f.2 * g.2) := by grind
theorem below_frac {a b c e : Int} (hb : 0 < b) (he : 0 < e) : (frac a b).1 * (frac c e).2 < (frac c e).1 * (frac a b).2 ↔ a * e < c * b := by
  obtain ⟨p1, _, x1, _, _, _⟩ := frac_ok (t := a) hb
  obtain ⟨p2, _, x2, _, _, _⟩ := frac_ok (t := c) he
  generalize frac a b = f at *
  generalize frac c e = g at *
  have h1 : (f.1 * g.2) * (b * e) = (a * e) * (f.2 * g.2) := by
    calc (f.1 * g.2) * (b * e) = (f.1 * b) * g.2 * e := by grind
      _ = (a * f.2) * g.2 * e := by rw [x1]
      _ = (a * e) * (f.2 * g.2) := by grind
  have h2 : (g.1 * f.2) * (b * e) = (c * b) * (f.2 * g.2) := by
    calc (g.1 * f.2) * (b * e) = (g.1 * e) * f.2 * b := by grind
      _ = (c * g.2) * f.2 * b := by rw [x2]
      _ = (c * b) * (f.2 * g.2) := by grind
  have q1 := Int.mul_pos hb he
  have q2 := Int.mul_pos p1 p2
  constructor
  · intro h
    have := Int.mul_lt_mul_of_pos_right h q1
    rw [h1, h2] at this
    exact Int.lt_of_mul_lt_mul_right this (Int.le_of_lt q2)
  · intro h
    have := Int.mul_lt_mul_of_pos_right h q2
    rw [← h1, ← h2] at this
    exact Int.lt_of_mul_lt_mul_right this (Int.le_of_lt q1)
/-- a fraction of fair size -/
structure FS (K : Nat) (f : Int × Int) : Prop where
  pos : 0 < f.2
  top : f.1.natAbs < 2 ^ 499000
  bot : f.2.natAbs < 2 ^ K
def R_plus : List D → Out → Prop := fun ds o => ∃ (f g : Int × Int), FS 4450 f ∧ FS 4450 g ∧ ds = [frD f, frD g] ∧ o = .ret (frD (frac (f.1 * g.2 + g.1 * f.2) (f.2 * g.2)))
def R_times : List D → Out → Prop := fun ds o => ∃ (f g : Int × Int), FS 4450 f ∧ FS 4450 g ∧ ds = [frD f, frD g] ∧ o = .ret (frD (frac (f.1 * g.1) (f.2 * g.2)))
def R_below : List D → Out → Prop := fun ds o => ∃ (f g : Int × Int), FS 4450 f ∧ FS 4450 g ∧ ds = [frD f, frD g] ∧ o = .ret (.bl (decide (f.1 * g.2 < g.1 * f.2)))
end JL

namespace JL
open PySem PySem.Spec L2 Lp
/-! ### heights -/
def plusF (f g : Int × Int) : Int × Int := frac (f.1 * g.2 + g.1 * f.2) (f.2 * g.2)
def timesF (f g : Int × Int) : Int × Int := frac (f.1 * g.1) (f.2 * g.2)
def hF (pl : Int × Int) : List (Int × Int) → Int × Int
  | [] => (0, 1)
  | c :: r => plusF (timesF (hF pl r) pl) c
/-- the law's way: from the front, with powers -/
def lF (pl : Int × Int) : List (Int × Int) → Int × Int → Int × Int → Int × Int
  | [], f, _ => f
  | c :: r, f, pw => lF pl r (plusF f (timesF c pw)) (timesF pw pl)
/-- in lowest terms -/
structure Low (f : Int × Int) : Prop where
  pos : 0 < f.2
  one : Int.gcd f.1 f.2 = 1
theorem Low.eq {f : Int × Int} (h : Low f) : frac f.1 f.2 = f := by
  obtain ⟨p1, g1, x1, _, _, _⟩ := frac_ok (t := f.1) h.pos
  obtain ⟨r1, r2⟩ := low_eq p1 h.pos g1 h.one x1
  exact Prod.ext r1 r2
theorem low_frac {a b : Int} (hb : 0 < b) : Low (frac a b) := ⟨(frac_ok hb).1, (frac_ok hb).2.1⟩
theorem plusF_frac {a b c e : Int} (hb : 0 < b) (he : 0 < e) : plusF (frac a b) (frac c e) = frac (a * e + c * b) (b * e) := plus_frac hb he
theorem timesF_frac {a b c e : Int} (hb : 0 < b) (he : 0 < e) : timesF (frac a b) (frac c e) = frac (a * c) (b * e) := times_frac hb he
theorem low_plus {f g : Int × Int} (hf : Low f) (hg : Low g) : Low (plusF f g) := low_frac (Int.mul_pos hf.pos hg.pos)
theorem low_times {f g : Int × Int} (hf : Low f) (hg : Low g) : Low (timesF f g) := low_frac (Int.mul_pos hf.pos hg.pos)
theorem low_hF {pl : Int × Int} (hp : Low pl) : ∀ {r : List (Int × Int)}, (∀ c ∈ r, Low c) → Low (hF pl r)
  | [], _ => ⟨show (0 : Int) < 1 by decide, show Int.gcd 0 1 = 1 by decide⟩
  | c :: r, h => low_plus (low_times (low_hF hp fun x hx => h x (by simp [hx])) hp) (h c (by simp))
theorem lF_eq {pl : Int × Int} (hp : Low pl) : ∀ (r : List (Int × Int)) (f pw : Int × Int), Low f → Low pw → (∀ c ∈ r, Low c) → lF pl r f pw = plusF f (timesF pw (hF pl r))
  | [], f, pw, hf, hw, _ => by
    show f = plusF f (timesF pw (0, 1))
    have e0 : ((0, 1) : Int × Int) = frac 0 1 := by rw [frac_one]
    conv => rhs; rw [← hf.eq, ← hw.eq, e0, timesF_frac hw.pos (by decide), plusF_frac hf.pos (Int.mul_pos hw.pos (by decide))]
    conv => lhs; rw [← hf.eq]
    exact frac_eq hf.pos (Int.mul_pos hf.pos (Int.mul_pos hw.pos (by decide))) (by grind)
  | c :: r, f, pw, hf, hw, h => by
    have hc := h c (by simp)
    have hr : ∀ x ∈ r, Low x := fun x hx => h x (by simp [hx])
    have hh := low_hF hp hr
    show lF pl r (plusF f (timesF c pw)) (timesF pw pl) = plusF f (timesF pw (plusF (timesF (hF pl r) pl) c))
    rw [lF_eq hp r _ _ (low_plus hf (low_times hc hw)) (low_times hw hp) hr]
    generalize hF pl r = x at *
    have p1 := hf.pos
    have p2 := hw.pos
    have p3 := hc.pos
    have p4 := hh.pos
    have p5 := hp.pos
    rw [← hf.eq, ← hw.eq, ← hc.eq, ← hh.eq, ← hp.eq]
    generalize f.1 = f1 at *
    generalize f.2 = f2 at *
    generalize pw.1 = w1 at *
    generalize pw.2 = w2 at *
    generalize c.1 = c1 at *
    generalize c.2 = c2 at *
    generalize x.1 = x1 at *
    generalize x.2 = x2 at *
    generalize pl.1 = l1 at *
    generalize pl.2 = l2 at *
    have q1 := Int.mul_pos p3 p2
    have q2 := Int.mul_pos p2 p5
    have q3 := Int.mul_pos p4 p5
    rw [timesF_frac p3 p2, plusF_frac p1 q1, timesF_frac p2 p5, timesF_frac q2 p4, plusF_frac (Int.mul_pos p1 q1) (Int.mul_pos q2 p4), timesF_frac p4 p5, plusF_frac q3 p3, timesF_frac p2 (Int.mul_pos q3 p3), plusF_frac p1 (Int.mul_pos p2 (Int.mul_pos q3 p3))]
    exact frac_eq (Int.mul_pos (Int.mul_pos p1 q1) (Int.mul_pos q2 p4)) (Int.mul_pos p1 (Int.mul_pos p2 (Int.mul_pos q3 p3))) (by grind)
/-- a road over one bottom, at a whole place -/
def polyL (p : Int) : List Int → Int
  | [] => 0
  | y :: r => y + p * polyL p r
theorem hF_poly {Y : Int} (hY : 0 < Y) (p : Int) : ∀ ys : List Int, hF (p, 1) (ys.map fun y => frac y Y) = frac (polyL p ys) Y
  | [] => by
    show ((0, 1) : Int × Int) = frac 0 Y
    rw [← frac_one]
    exact frac_eq (by decide) hY (by grind)
  | y :: r => by
    show plusF (timesF (hF (p, 1) (r.map fun y => frac y Y)) (p, 1)) (frac y Y) = _
    rw [hF_poly hY p r, ← frac_one, timesF_frac hY (by decide), plusF_frac (Int.mul_pos hY (by decide)) hY]
    refine frac_eq (Int.mul_pos (Int.mul_pos hY (by decide)) hY) hY ?_
    show _ = (y + p * polyL p r) * _
    grind
theorem lF_hF {pl : Int × Int} (hp : Low pl) {r : List (Int × Int)} (h : ∀ c ∈ r, Low c) : lF pl r (0, 1) (1, 1) = hF pl r := by
  rw [lF_eq hp r _ _ ⟨by decide, by decide⟩ ⟨by decide, by decide⟩ h]
  have hh := low_hF hp h
  have e0 : ((0, 1) : Int × Int) = frac 0 1 := by rw [frac_one]
  have e1 : ((1, 1) : Int × Int) = frac 1 1 := by rw [frac_one]
  rw [e0, e1]
  conv => lhs; rw [← hh.eq, timesF_frac (by decide) hh.pos, plusF_frac (by decide) (Int.mul_pos (by decide) hh.pos)]
  conv => rhs; rw [← hh.eq]
  exact frac_eq (Int.mul_pos (by decide) (Int.mul_pos (by decide) hh.pos)) hh.pos (by grind)
end JL

namespace JL
open PySem PySem.Spec L2 Lp
/-! ### passing: few gates, more degrees -/
theorem sm_two : ∀ (m : Nat) (f : Nat → Int), sm (2 * m) f = sm m fun k => f (2 * k) + f (2 * k + 1)
  | 0, _ => rfl
  | m + 1, f => by
    show sm (2 * m) f + f (2 * m) + f (2 * m + 1) = sm m (fun k => f (2 * k) + f (2 * k + 1)) + (f (2 * m) + f (2 * m + 1))
    rw [sm_two m f]
    omega
theorem eAt_even (k : Nat) : eAt (2 * k) = (k, -1) := by
  unfold eAt
  rw [if_pos (by omega), show 2 * k / 2 = k by omega]
theorem eAt_odd (k : Nat) : eAt (2 * k + 1) = (k, 1) := by
  unfold eAt
  rw [if_neg (by omega), show (2 * k + 1) / 2 = k by omega]
theorem BarI.less {gs : List Gt} {d e : Nat} {X : Nat → Int} (b : BarI gs e X) (h : d ≤ e) : BarI gs d X := ⟨b.nn, fun pw hp => b.zero pw (by omega), b.neg⟩
def prodS (x : Int) : List Int → Int
  | [] => 1
  | a :: q => (x - a) * prodS x q
theorem prodS_zero {x : Int} : ∀ {q : List Int}, x ∈ q → prodS x q = 0
  | a :: q, h => by
    rcases List.mem_cons.mp h with rfl | h
    · show (x - x) * _ = 0
      rw [Int.sub_self, Int.zero_mul]
    · show _ * prodS x q = 0
      rw [prodS_zero h, Int.mul_zero]
theorem prodS_ne {x : Int} : ∀ {q : List Int}, x ∉ q → prodS x q ≠ 0
  | [], _ => by show (1 : Int) ≠ 0; decide
  | a :: q, h => by
    have h1 : x ≠ a := fun e => h (by simp [e])
    have h2 := prodS_ne (x := x) (q := q) fun e => h (by simp [e])
    exact Int.mul_ne_zero (by omega) h2
theorem van {m d : Nat} {n p : Nat → Int} (h : ∀ e, e ≤ d → (sm m fun k => n k * p k ^ e) = 0) : ∀ (q : List Int) (e : Nat), q.length + e ≤ d → (sm m fun k => n k * (prodS (p k) q * p k ^ e)) = 0
  | [], e, he => by
    have := h e (by simpa using he)
    rw [← this]
    exact sm_congr fun k _ => by show n k * (1 * _) = _; rw [Int.one_mul]
  | a :: q, e, he => by
    simp only [List.length_cons] at he
    have h1 := van h q (e + 1) (by omega)
    have h2 := van h q e (by omega)
    have e1 : (sm m fun k => n k * (prodS (p k) (a :: q) * p k ^ e)) = sm m fun k => 1 * (n k * (prodS (p k) q * p k ^ (e + 1))) + (-a) * (n k * (prodS (p k) q * p k ^ e)) := sm_congr fun k _ => by
      show n k * ((p k - a) * prodS (p k) q * p k ^ e) = _
      rw [Int.pow_succ]
      grind
    rw [e1, sm_lin, h1, h2]
    simp
theorem few_none {gs : List Gt} {d : Nat} {X : Nat → Int} (hg : GatesOk gs) (hf : gs.length ≤ d + 1) (b : BarI gs d X) : False := by
  have net : ∀ e, e ≤ d → (sm gs.length fun k => (X (2 * k + 1) - X (2 * k)) * (gAt gs k).1 ^ e) = 0 := fun e he => by
    have := b.zero e he
    rw [sm_two] at this
    rw [← this]
    refine sm_congr fun k _ => ?_
    rw [eAt_even, eAt_odd]
    show _ = X (2 * k) * (-1 * (gAt gs k).1 ^ e) + X (2 * k + 1) * (1 * (gAt gs k).1 ^ e)
    grind
  have inj : ∀ i j, i < gs.length → j < gs.length → i ≠ j → (gAt gs i).1 ≠ (gAt gs j).1 := fun i j hi hj hn => by
    rw [gAt_get hi, gAt_get hj]
    rcases Nat.lt_or_gt_of_ne hn with h | h
    · have := List.pairwise_iff_getElem.mp hg.up i j hi hj h; omega
    · have := List.pairwise_iff_getElem.mp hg.up j i hj hi h; omega
  have same : ∀ t, t < gs.length → X (2 * t + 1) = X (2 * t) := fun t ht => by
    have hm : ((List.range gs.length).filter fun k => k != t).length + 1 ≤ gs.length := by
      have h1 : ((List.range gs.length).filter fun k => k != t).length < (List.range gs.length).length := List.length_filter_lt_length_iff_exists.mpr ⟨t, List.mem_range.mpr ht, by simp⟩
      rw [List.length_range] at h1
      omega
    have z := van net (((List.range gs.length).filter fun k => k != t).map fun k => (gAt gs k).1) 0 (by rw [List.length_map]; omega)
    rw [sm_one ht fun i hi hn => by
      have hq : (gAt gs i).1 ∈ ((List.range gs.length).filter fun k => k != t).map fun k => (gAt gs k).1 := List.mem_map.mpr ⟨i, List.mem_filter.mpr ⟨List.mem_range.mpr hi, by simpa using hn⟩, rfl⟩
      rw [prodS_zero hq]
      simp] at z
    rw [Int.pow_zero, Int.mul_one] at z
    rcases Int.mul_eq_zero.mp z with h | h
    · omega
    · refine absurd h (prodS_ne fun hm => ?_)
      obtain ⟨i, hi, e⟩ := List.mem_map.mp hm
      obtain ⟨h1, h2⟩ := List.mem_filter.mp hi
      exact inj i t (List.mem_range.mp h1) ht (by simpa using h2) e
  have ng := b.neg
  rw [sm_two] at ng
  refine absurd ng (Int.not_lt.mpr (sm_nonneg fun k hk => ?_))
  rw [eAt_even, eAt_odd, same k hk]
  show 0 ≤ X (2 * k) * -(gAt gs k).2.1 + X (2 * k) * (gAt gs k).2.2
  have nn := b.nn (2 * k) (by omega)
  have o := (hg.ok _ (gAt_mem hk)).l2
  have := Int.mul_le_mul_of_nonneg_left o nn
  have e : X (2 * k) * -(gAt gs k).2.1 = -(X (2 * k) * (gAt gs k).2.1) := by grind
  omega
/-- no bar of few gates; a road of one degree is a road of the next -/
theorem few_noBar {gs : List Gt} {d : Nat} (hg : GatesOk gs) (hf : gs.length ≤ d + 1) : noBar gs d := Classical.byContradiction fun h => by
  obtain ⟨_, X, _, b⟩ := bar_sol h
  exact few_none hg hf b
theorem noBar_next {gs : List Gt} {d : Nat} (h : noBar gs d) : noBar gs (d + 1) := Classical.byContradiction fun h' => by
  obtain ⟨_, X, _, b⟩ := bar_sol h'
  exact no_both (road_pass h) (b.less (Nat.le_succ d))
theorem noBar_pass {gs : List Gt} {d : Nat} {y : Nat → Int} {Y : Int} (h : PassI gs d y Y) : noBar gs d := Classical.byContradiction fun h' => by
  obtain ⟨_, X, _, b⟩ := bar_sol h'
  exact no_both h b
/-- the sum of powers is the height -/
theorem poly_sm (p : Int) : ∀ ys : List Int, polyL p ys = sm ys.length fun i => vec ys i * p ^ i
  | [] => rfl
  | y :: r => by
    show y + p * polyL p r = _
    rw [poly_sm p r]
    show _ = sm (r.length + 1) _
    rw [show r.length + 1 = 1 + r.length by omega, sm_split]
    show _ = (0 + vec (y :: r) 0 * p ^ 0) + _
    rw [← sm_mul]
    have e0 : vec (y :: r) 0 = y := rfl
    rw [e0, Int.pow_zero]
    have : (sm r.length fun i => p * (vec r i * p ^ i)) = sm r.length fun i => vec (y :: r) (1 + i) * p ^ (1 + i) := sm_congr fun i _ => by
      have e1 : vec (y :: r) (1 + i) = vec r i := by rw [Nat.add_comm]; rfl
      rw [e1, Nat.add_comm, Int.pow_succ]
      grind
    rw [this]
    omega
end JL

namespace JL
open PySem PySem.Spec L2 Lp
/-! ### heights: contracts -/
structure HS (pl : Int × Int) (road : List (Int × Int)) : Prop where
  len : road.length ≤ 4
  spot : FS 4450 pl
  ok : ∀ c ∈ road, FS 4450 c
  at_ : ∀ i, FS 4450 (hF pl (road.drop i)) ∧ FS 4450 (timesF (hF pl (road.drop i)) pl)
def R_fheight : List D → Out → Prop := fun ds o => ∃ (road : List (Int × Int)) (pl : Int × Int), HS pl road ∧ ds = [.tup (road.map frD), frD pl] ∧ o = .ret (frD (hF pl road))
def stepL (pl : Int × Int) (s : (Int × Int) × (Int × Int)) (c : Int × Int) : (Int × Int) × (Int × Int) := (plusF s.1 (timesF c s.2), timesF s.2 pl)
def stL (pl : Int × Int) (road : List (Int × Int)) : (Int × Int) × (Int × Int) := road.foldl (stepL pl) ((0, 1), (1, 1))
theorem lF_fold (pl : Int × Int) : ∀ (r : List (Int × Int)) (f pw : Int × Int), lF pl r f pw = (r.foldl (stepL pl) (f, pw)).1
  | [], _, _ => rfl
  | c :: r, f, pw => lF_fold pl r _ _
theorem stL_hF {pl : Int × Int} (hp : Low pl) {r : List (Int × Int)} (h : ∀ c ∈ r, Low c) : (stL pl r).1 = hF pl r := by
  rw [← lF_hF hp h, lF_fold]
  rfl
structure LS (pl : Int × Int) (road : List (Int × Int)) : Prop where
  len : road.length ≤ 4
  spot : FS 4450 pl
  ok : ∀ c ∈ road, FS 4450 c
  at_ : ∀ i, FS 4450 (stL pl (road.take i)).1 ∧ FS 4450 (stL pl (road.take i)).2
  up : ∀ i c, road[i]? = some c → FS 4450 (timesF c (stL pl (road.take i)).2)
def R_lheight : List D → Out → Prop := fun ds o => ∃ (road : List (Int × Int)) (pl : Int × Int), LS pl road ∧ ds = [.tup (road.map frD), frD pl] ∧ o = .ret (frD (stL pl road).1)
/-! ### sizes -/
def Bd (n : Nat) (f : Int × Int) : Prop := 0 < f.2 ∧ f.1.natAbs < 2 ^ n ∧ f.2.natAbs < 2 ^ n
theorem bd_frac {n : Nat} {a b : Int} (hb : 0 < b) (h1 : a.natAbs < 2 ^ n) (h2 : b.natAbs < 2 ^ n) : Bd n (frac a b) := by
  obtain ⟨l1, l2⟩ := frac_le (a := a) hb
  have p := (frac_ok (t := a) hb).1
  exact ⟨p, by omega, by omega⟩
theorem bd_times {n m : Nat} {f g : Int × Int} (hf : Bd n f) (hg : Bd m g) : Bd (n + m) (timesF f g) := by
  refine bd_frac (Int.mul_pos hf.1 hg.1) ?_ ?_
  · rw [Int.natAbs_mul, Nat.pow_add]; exact Nat.mul_lt_mul'' hf.2.1 hg.2.1
  · rw [Int.natAbs_mul, Nat.pow_add]; exact Nat.mul_lt_mul'' hf.2.2 hg.2.2
theorem bd_plus {n m : Nat} {f g : Int × Int} (hf : Bd n f) (hg : Bd m g) : Bd (n + m + 1) (plusF f g) := by
  have h1 := Nat.mul_lt_mul'' hf.2.1 hg.2.2
  have h2 := Nat.mul_lt_mul'' hg.2.1 hf.2.2
  have h3 := Nat.mul_lt_mul'' hf.2.2 hg.2.2
  rw [← Nat.pow_add] at h1 h2 h3
  rw [Nat.add_comm m n] at h2
  refine bd_frac (Int.mul_pos hf.1 hg.1) ?_ ?_
  · have := Int.natAbs_add_le (f.1 * g.2) (g.1 * f.2)
    rw [Int.natAbs_mul, Int.natAbs_mul] at this
    rw [Nat.pow_succ]
    omega
  · rw [Int.natAbs_mul, Nat.pow_succ]
    omega
theorem Bd.mono {n m : Nat} {f : Int × Int} (h : Bd n f) (hn : n ≤ m) : Bd m f := ⟨h.1, Nat.lt_of_lt_of_le h.2.1 (Nat.pow_le_pow_right (by decide) hn), Nat.lt_of_lt_of_le h.2.2 (Nat.pow_le_pow_right (by decide) hn)⟩
theorem Bd.fs {n : Nat} {f : Int × Int} (h : Bd n f) (hn : n ≤ 4450) : FS 4450 f := ⟨h.1, Nat.lt_of_lt_of_le h.2.1 (Nat.pow_le_pow_right (by decide) (by omega)), Nat.lt_of_lt_of_le h.2.2 (Nat.pow_le_pow_right (by decide) hn)⟩
theorem bd_hF {pl : Int × Int} {n : Nat} (hp : Bd n pl) : ∀ {r : List (Int × Int)}, (∀ c ∈ r, Bd n c) → Bd ((2 * n + 1) * r.length + 1) (hF pl r)
  | [], _ => ⟨show (0 : Int) < 1 by decide, show (0 : Int).natAbs < 2 ^ 1 by decide, show (1 : Int).natAbs < 2 ^ 1 by decide⟩
  | c :: r, h => by
    have := bd_plus (bd_times (bd_hF hp (r := r) fun x hx => h x (by simp [hx])) hp) (h c (by simp))
    refine this.mono ?_
    rw [List.length_cons, Nat.mul_add]
    omega
/-- small fractions: all is small -/
theorem hs_small {pl : Int × Int} {road : List (Int × Int)} (hl : road.length ≤ 4) (hp : Bd 10 pl) (hr : ∀ c ∈ road, Bd 10 c) : HS pl road where
  len := hl
  spot := hp.fs (by decide)
  ok := fun c hc => (hr c hc).fs (by decide)
  at_ := fun i => by
    have h1 := bd_hF hp (r := road.drop i) fun c hc => hr c (List.mem_of_mem_drop hc)
    have h2 := bd_times h1 hp
    have hl2 : (road.drop i).length ≤ 4 := by rw [List.length_drop]; omega
    have : (2 * 10 + 1) * (road.drop i).length ≤ 84 := by omega
    exact ⟨h1.fs (by omega), h2.fs (by omega)⟩
end JL

namespace JL
open PySem PySem.Spec L2 PyProof.Rows
/-! ### enumerate over a tuple -/
theorem meets_enum_new0 {v : Value} {o : Obj} {H : Heap → Prop} (B : Begins v o H) :
    Meets (Builtin.«enumerate.__new__» ⟨[.type "enumerate", v], []⟩) (fun _ R s => H s.heap ∧
      R (.ok (.ret (.ref (s.heap.push o).objs.size))) { s with heap := (s.heap.push o).push { cls := .type "enumerate", data := .fields #[.none, .bool false, .ref s.heap.objs.size, rawInt 0, .none, .none] } }) :=
  .of_wp fun prog w A R s h => by
    obtain ⟨hp, g, d, tk, os⟩ := s; obtain ⟨h1, h⟩ := h
    have hsub := sub_enumerate
    have q1 : ∀ {A' : Around} {E : Value → Shared → Prop} {Q : Value → Shared → Prop}, Q (.ref hp.objs.size) ⟨hp.push o, g, d, tk, os⟩ → wpAny (model prog w) A' (pyIter v) Q E ⟨hp, g, d, tk, os⟩ :=
      fun q => B.iter prog w _ _ ⟨hp, g, d, tk, os⟩ _ h1 q
    wp_walk using q1
    refine wpAny_stack_any fun st => wpAny_pure ?_
    split
    · rename_i c _ _ _ _ _
      cases (c == Value.type "enumerate")
      · wp_walk using q1
        exact ⟨_, rfl, h⟩
      · wp_walk using q1
        exact ⟨_, rfl, h⟩
    · wp_walk using q1
      exact ⟨_, rfl, h⟩
theorem enum_begins0 {prog : Program} {w : World} {A : Around} {E : Value → Shared → Prop} {s : Shared} {v : Value} {o : Obj} {H : Heap → Prop} {Q : Value → Shared → Prop} (B : Begins v o H) (h1 : H s.heap)
    (h : ∀ h', IsEnum h' (s.heap.objs.size + 1) s.heap.objs.size 0 .none → h'.get? s.heap.objs.size = some o → h'.objs.size = s.heap.objs.size + 2 →
      (∀ b o, s.heap.get? b = some o → h'.get? b = some o) → Q (.ref (s.heap.objs.size + 1)) { s with heap := h' }) :
    wpAny (model prog w) A (call (.type "enumerate") [v]) Q E s := by
  refine callType_new F.called_enumerate (by decide) (F.typeCall_enumerate_1 _) (F.newCall_enumerate_1 _) (fun obj => F.args_object_init_2 obj _) F.entry_enumerate_new (meets_enum_new0 B) ⟨h1, ?_⟩
  have hz : (s.heap.push o).objs.size = s.heap.objs.size + 1 := Heap.size_push ..
  show _ ∧ _
  rw [hz]
  have he : IsEnum ((s.heap.push o).push { cls := .type "enumerate", data := .fields #[.none, .bool false, .ref s.heap.objs.size, rawInt 0, .none, .none] }) (s.heap.objs.size + 1) s.heap.objs.size 0 .none := by
    have := Heap.get?_push_size (s.heap.push o) (o := { cls := .type "enumerate", data := .fields #[.none, .bool false, .ref s.heap.objs.size, rawInt 0, .none, .none] }) rfl
    rw [hz] at this; exact this
  refine ⟨⟨_, he, rfl⟩, h _ he (Heap.get?_push_of_some _ (Heap.get?_push_size _ B.free)) (by rw [Heap.size_push, hz]) fun b o x => Heap.get?_push_of_some _ (Heap.get?_push_of_some _ x)⟩
def IteT (K : PySem.W.Frag) (a : Addr) : It :=
  ⟨fun i H => ∃ (xs : List V) (x : V), SqT K H a xs ∧ xs[i]? = some x, fun i H v H' => ∃ T x, v = .ref T ∧ H T = none ∧ H' = upd H T (.tup [.int (i : Nat), x]) ∧ ∀ xs, SqT K H a xs → xs[i]? = some x, fun i H => ∃ xs : List V, SqT K H a xs ∧ xs.length ≤ i⟩
theorem turn_enumT {P : Program} {w : World} {K : PySem.W.Frag} {elts : List Expr} {kk : Nat} {tpos : Pos} (a e it : Addr) :
    Turn P w K (.Tuple elts kk tpos) (IteT K a) [e, it] e (fun i h => (∃ old, IsEnum h e it ((i : Nat) : Int) old) ∧ h.IsTupleIter it a i ∧ e ≠ it) where
  mem := by simp
  obj := fun i h st b hb => by
    obtain ⟨⟨old, he⟩, ⟨o, ho, hc, hd⟩, _⟩ := st
    have e' : b = e ∨ b = it := by simpa using hb
    rcases e' with z | z
    · rw [z]; exact ⟨_, he, fun v q => nomatch q⟩
    · rw [z]; exact ⟨o, ho, fun v q => by rw [hd] at q; cases q⟩
  keep := fun i h h' st k => let ⟨⟨old, he⟩, hi, hne⟩ := st; ⟨⟨old, k e (by simp) _ he⟩, hi.at fun o q => k it (by simp) o q, hne⟩
  item := by
    intro X hP hw hK hc i pins s σ H E I hf st hg
    subst hP hw hK
    obtain ⟨⟨old, he⟩, hit, hne⟩ := st
    obtain ⟨xs, x, hq, hx⟩ := hg
    obtain ⟨its, rv, p, hz⟩ := I.tuple hq
    obtain ⟨u, hu, ru⟩ := rv.get hx
    have pt : s.heap.IsTuple a its.toArray := p
    have hel : e < s.heap.objs.size := Heap.lt_size he
    have hil : it < s.heap.objs.size := by obtain ⟨_, q, _⟩ := hit; exact Heap.lt_size q
    have ai : a ≠ it := fun z => by
      obtain ⟨o1, q1, c1, _⟩ := pt
      obtain ⟨o2, q2, c2, _⟩ := hit
      rw [z, q2] at q1
      cases q1
      rw [c1] at c2
      injection c2 with z2
      exact absurd z2 (by decide)
    have ae : e ≠ a := fun z => by
      obtain ⟨o1, q1, c1, _⟩ := pt
      have he' := he
      unfold IsEnum at he'
      rw [z, q1] at he'
      have z1 := congrArg Obj.cls (Option.some.inj he')
      rw [c1] at z1
      injection z1 with z2
      exact absurd z2 (by decide)
    have hil2 : i < its.toArray.size := by
      have := (List.getElem?_eq_some_iff.mp hu).1
      simpa using this
    refine wpAny_pyNext_enum_itemD (Draws.tuple (A := X.A.in1) (I.ok.hd hc) it a ai its.toArray) he ⟨hit, pt⟩ hil2 hne (by simp [hne, ae]) fun y h' tk hy ho hit' hT hsz hk => ?_
    have ey : y = u := by
      have h1 : its[i]? = some y := by simpa using hy
      rw [hu] at h1
      exact (Option.some.inj h1).symm
    subst ey
    refine ⟨_, rfl, wpAny_letOwnedTupleGo_enum (s := { s with heap := h', toks := tk + 1 }) ho fun h'' he' sb => ?_⟩
    have hT2 : h''.get? s.heap.objs.size = some { cls := .type "tuple", data := .seq #[.int i tk, y] } := (sb.2 _ (Nat.ne_of_gt hel)).trans hT
    have new : ObjOk X.prog X.w (upd H s.heap.objs.size (.tup [.int (i : Nat), x])) h'' s.heap.objs.size (.tup [.int (i : Nat), x]) :=
      ⟨by show 2 ≤ sizeLine; decide, [.int i tk, y], .cons ⟨_, rfl⟩ (.cons ru .nil), ⟨_, hT2, rfl, _, rfl⟩⟩
    have I1 : Inv X pins σ (upd H s.heap.objs.size (.tup [.int (i : Nat), x])) { s with heap := h'', toks := tk + 1 } :=
      I.turnedNew (ch := [e, it]) (fun b ob hb q => (sb.2 b (fun z => hb (by simp [z]))).trans (hk b ob (fun z => hb (by simp [z])) (fun z => hb (by simp [z])) q)) hf (Nat.le_refl _) new
    refine ⟨.ref s.heap.objs.size, _, I1, rfl, ⟨_, x, rfl, I.hok.fresh (Nat.le_refl _), rfl, fun ys hy => by rw [I.tuple_inj hy hq]; exact hx⟩, ⟨⟨y, ?_⟩, hit'.1.at fun o q => (sb.2 it (Ne.symm hne)).trans q, hne⟩, fun b hb => ?_⟩
    · have e1 : ((i + 1 : Nat) : Int) = (i : Int) + 1 := by omega
      rw [e1]; exact he'
    · have hb' : b < s.heap.objs.size := by
        have e' : b = e ∨ b = it := by simpa using hb
        rcases e' with z | z
        · rw [z]; exact hel
        · rw [z]; exact hil
      rw [upd_ne (Nat.ne_of_lt hb')]
      exact (hf b hb).1
  done := by
    intro X hP hw hK hc i pins s σ H E I hf st hg
    subst hP hw hK
    obtain ⟨⟨old, he⟩, hit, hne⟩ := st
    obtain ⟨xs, hq, hx⟩ := hg
    obtain ⟨its, rv, p, hz⟩ := I.tuple hq
    have pt : s.heap.IsTuple a its.toArray := p
    obtain ⟨f0, f1, f2, f3, f4, f5⟩ := hf it (by simp)
    have hl := rv.length
    have hT : s.TypeIs (.ref e) "enumerate" := ⟨_, he, rfl⟩
    unfold pyNext
    refine wpAny_bind (wpAny_attempt (wpAny_callSpecial?_slot (name := Str.ofString "__next__") hT F.slot_enumerate_next
      (wpAny_call_entry F.slot_enumerate_next hT F.entry_enumerate_next ?_ (F.args_enumerate_next_1 _))))
    show wpAny _ _ (field (.ref e) 2 >>= _) _ _ _
    refine wpAny_bind (wpAny_field he rfl (x := .ref it) rfl ?_)
    refine wpAny_bind (wpAny_nextOf_tuple_end (A := X.A.in1) (I.ok.hd hc) hit pt (by simp; omega) fun h' x he' hx' => ?_)
    obtain ⟨o, ho, hc2⟩ := hx'
    refine wpAny_bind (wpAny_isInstance (T := "StopIteration") (b := true) ⟨o, ho, hc2⟩ isSubtype_stop ?_)
    exact wpAny_pure ⟨rfl, I.turned (t' := s.toks) (fun b o hb q => he' b o hb q) f0 f1 f3 f4 f5⟩
  self := fun A i s Q E st h => let ⟨⟨_, he⟩, _⟩ := st; wpAny_pyIter_enum he h
def iEnumT (K : PySem.W.Frag) (ta : TA) : TI := fun σ H R => ta σ H fun vs H1 => ∃ a xs, vs = [.ref a] ∧ SqT K H1 a xs ∧ R (IteT K a) H1
theorem pi_enumT {X : Cx} {e : Expr} {ta : TA} {p pos tpos : Pos} {elts : List Expr} {kk : Nat} (hg : Gl X "enumerate") (hm : X.mg "enumerate" = none) (ha : PA X [e] ta) (hs : starEach [e] X.env = [(false, eval e X.env)] := by rfl) :
    PI X (.Tuple elts kk tpos) (.Call (.Name "enumerate" p) [e] [] pos) (iEnumT X.K ta) := by
  refine ⟨fun pins s σ H R I h => ?_⟩
  refine Call_ (ld_blt I hg hm boot_enumerate (PyProof.Rows.callWith_type1 (thn (ha.run pos pins s σ H _ I h) fun us s1 ⟨vs, H1, I1, r1, q1⟩ => ?_) hs rfl))
  obtain ⟨a, xs, ex, hq, q⟩ := q1
  subst ex
  cases r1 with
  | cons r rr =>
    cases rr
    cases r
    obtain ⟨its, rv, p', hz⟩ := I1.tuple hq
    have pt : s1.heap.IsTuple a its.toArray := p'
    refine enum_begins0 (begins_tuple a its.toArray) pt fun h' he hit hsz hk => wpAny_pyIter_enum he ?_
    have I2 : Inv X pins σ H1 { s1 with heap := h' } := I1.kept (t' := s1.toks) hk
    refine ⟨s1.heap.objs.size + 1, [s1.heap.objs.size + 1, s1.heap.objs.size], _, _, H1, rfl, I2, turn_enumT a (s1.heap.objs.size + 1) s1.heap.objs.size, ⟨⟨.none, he⟩, ⟨_, hit, rfl, rfl⟩, Nat.succ_ne_self _⟩, fun b hb => ?_, q⟩
    have e' : b = s1.heap.objs.size + 1 ∨ b = s1.heap.objs.size := by simpa using hb
    have hle : s1.heap.objs.size ≤ b := by
      rcases e' with z | z
      · rw [z]; exact Nat.le_add_right _ _
      · rw [z]; exact Nat.le_refl _
    exact I1.fpOk hle (I1.hok.fresh hle)
theorem ji_enT {G : Ctx} {Z Z1 : State} {a : Expr} {ds : List D} {p pos : Pos} {elts : List Expr} {kk : Nat} {tpos : Pos} (Bb : Bi G.g) (h : JA G [a] Z [.tup ds] Z1) (hg : glB G.sc "enumerate" = true := by kernel_rfl) (hs : ∀ env, starEach [a] env = [(false, eval a env)] := by intro _; rfl) :
    JI G (.Tuple elts kk tpos) (.Call (.Name "enumerate" p) [a] [] pos) Z (numd ds) Z1 := fun X f B σ H k R q =>
  ⟨_, pi_enumT (gl_of f hg).1 (by rw [f.mg]; exact Bb.enumerate_) p_A (hs _), h X f B σ H k _ fun vs H1 k1 p1 r1 => by
    obtain ⟨v, rfl⟩ : ∃ v, vs = [v] := by
      have := r1.1
      match vs, this with
      | [v], _ => exact ⟨v, rfl⟩
    have r := r1.head
    obtain ⟨a, xs, rfl, na, e, ra⟩ := r.inv_tup
    refine ⟨a, xs, rfl, .of e, q _ H1 [(.ref a, .tup ds)] k1 p1 (kept1 r) ⟨fun S H i kp hi => ?_, fun S H kp => ?_, fun S H i x H' d dm kp ed y => ?_⟩⟩
    · obtain ⟨a', xs', e1, _, e', ra'⟩ := (kp (.ref a, .tup ds) (by simp)).inv_tup
      cases e1
      have hl : i < xs'.length := by rw [ra'.1, ← numd_len]; exact hi
      exact ⟨xs', xs'[i], .of e', List.getElem?_eq_getElem hl⟩
    · obtain ⟨a', xs', e1, _, e', ra'⟩ := (kp (.ref a, .tup ds) (by simp)).inv_tup
      cases e1
      exact ⟨xs', .of e', by rw [ra'.1, numd_len]; exact Nat.le_refl _⟩
    · obtain ⟨a', xs', e1, _, e', ra'⟩ := (kp (.ref a, .tup ds) (by simp)).inv_tup
      cases e1
      obtain ⟨T, z, rfl, nT, rfl, y⟩ := y
      obtain ⟨d', e2, rfl⟩ := numd_get ed
      exact pair_new dm nT (.int _) (ra'.2 i z d' (y xs' (.of e')) e2)⟩
end JL

namespace JL
open PySem PySem.Spec L2 PyProof.Rows
/-! ### sorted tuples of ints, of any lengths -/
def no1 : Nat → Bool := fun _ => false
theorem items_ints {xs : List Value} {ns : List Int} (h : IntsAre xs ns) : ∀ i, tupItems no1 i xs = some (ns.map Sum.inl) := by
  induction h with
  | nil => intro i; rfl
  | cons n t h ih =>
    intro i
    show (if no1 i = true then none else (tupItems no1 (i + 1) _).map (Sum.inl n :: ·)) = _
    rw [ih (i + 1)]
    rfl
theorem key_ints {h : Heap} {v : Value} {ns : List Int} (t : TS.TupInts h v ns) : G.tupKeyC h no1 v = some (ns.map Sum.inl) := by
  obtain ⟨a, xs, rfl, ⟨o, ho, hc, n, hd⟩, i⟩ := t
  have e1 : G.isTupObj h (.ref a) = true := by
    unfold G.isTupObj
    simp only [ho, hc]
    decide
  unfold G.tupKeyC
  rw [if_pos e1]
  unfold tupKey
  simp only [ho, hd]
  exact items_ints i 0
theorem lex_inl : ∀ ns ms : List Int, lexLt itemOrd (ns.map Sum.inl) (ms.map Sum.inl) = HT.lexLt ns ms
  | [], [] => rfl
  | [], _ :: _ => rfl
  | _ :: _, [] => rfl
  | n :: ns, m :: ms => by
    rw [HT.lexLt_cons, List.map_cons, List.map_cons, lex_cons, lex_inl ns ms]
    show (decide (n < m) || (!decide (m < n) && HT.lexLt ns ms)) = _
    by_cases e : n = m
    · subst e
      rw [if_pos rfl, decide_eq_false (Int.lt_irrefl n)]
      rfl
    · rw [if_neg e]
      by_cases h : n < m
      · rw [decide_eq_true h]; rfl
      · rw [decide_eq_false h, decide_eq_true (by omega : m < n)]; rfl
theorem tupsOf_ints {h : Heap} : ∀ {vs : List Value}, (∀ v ∈ vs, ∃ ns, TS.TupInts h v ns ∧ ns ≠ []) → ∃ fs, TupsOf h no1 vs fs
  | [], _ => ⟨[], .nil⟩
  | v :: vs, x => by
    obtain ⟨fs, t⟩ := tupsOf_ints fun u hu => x u (List.mem_cons_of_mem _ hu)
    obtain ⟨ns, ⟨a, xs, rfl, ⟨o, ho, hc, n, hd⟩, i⟩, ne⟩ := x v (List.mem_cons_self ..)
    cases ns with
    | nil => exact absurd rfl ne
    | cons m ms =>
      have : ∃ t ys, xs.toList = .int m t :: ys := by
        generalize xs.toList = zs at i
        cases i with
        | cons _ t _ => exact ⟨t, _, rfl⟩
      obtain ⟨t0, ys, e⟩ := this
      refine ⟨_ :: fs, .cons ⟨a, o, xs, n, rfl, ho, hc, hd, ?_, fun _ => ⟨m, t0, rfl⟩, fun z => by cases z⟩ t⟩
      have z := congrArg (fun l : List Value => l[0]?) e
      simpa using z
/-- what a sort leaves -/
theorem out_lex {h : Heap} {vs : List Value} {arr : Array Keyed} (hx : ∀ v ∈ vs, ∃ ns, TS.TupInts h v ns ∧ ns ≠ []) (hp : arr.Perm (pairsOf vs)) (hs : SortedToK (G.tupKindC h no1) arr (pairsOf vs).size) :
    (arr.map (·.2)).toList.Perm vs ∧ (arr.map (·.2)).toList.Pairwise (fun u v => HT.lexLt (TS.intsOf h v) (TS.intsOf h u) = false) := by
  have hp' : arr.toList.Perm (vs.zip vs) := by
    have := Array.perm_iff_toList_perm.mp hp
    rw [pairsOf_toList] at this
    exact this
  have m : ∀ p ∈ arr.toList, p.1 = p.2 ∧ p.1 ∈ vs := fun p h => mem_zip_self (hp'.mem_iff.mp h)
  refine ⟨?_, ?_⟩
  · rw [Array.toList_map]
    have z := hp'.map Prod.snd
    rw [List.map_snd_zip (Nat.le_refl _)] at z
    exact z
  · rw [Array.toList_map, List.pairwise_map, List.pairwise_iff_getElem]
    intro i j hi hj hij
    have hsz : arr.size = (pairsOf vs).size := hp.size_eq
    have h1 := hs i j (by omega) (by rw [← hsz]; simpa using hj)
    have ki : ∀ k (hk : k < arr.toList.length), KK (G.tupKindC h no1) arr k = (TS.intsOf h (arr.toList[k]).2).map Sum.inl := fun k hk => by
      have hk' : k < arr.size := by simpa using hk
      obtain ⟨e1, e2⟩ := m _ (List.getElem_mem hk)
      obtain ⟨ns, t, _⟩ := hx _ e2
      unfold KK
      rw [Array.getElem?_eq_getElem hk']
      show (G.tupKeyC h no1 (arr[k]).1).getD [] = _
      have e3 : arr[k] = arr.toList[k] := by simp
      rw [e3, key_ints t]
      show ns.map Sum.inl = _
      rw [← e1, t.ints]
    rw [ki i hi, ki j hj] at h1
    have h1 : lexLt itemOrd ((TS.intsOf h (arr.toList[j]).2).map Sum.inl) ((TS.intsOf h (arr.toList[i]).2).map Sum.inl) = false := h1
    rw [lex_inl] at h1
    exact h1
def rSortL (K : PySem.W.Frag) : List V → Hp → VK → Prop := fun vs H Q => ∃ (a : Addr) (xs : List V), vs = [V.ref a] ∧ SqL K H a xs ∧ (∀ x ∈ xs, ∃ ns, TupI K H x ns ∧ ns ≠ []) ∧
  ∀ (ys : List V) (p : Addr), ys.Perm xs → ys.Pairwise (fun x y => ∀ n m, TupI K H x n → TupI K H y m → HT.lexLt m n = false) → H p = none → Q (.ref p) (upd H p (.lst ys))
theorem cr_sortL {X : Cx} : CallR X (.builtin "sorted") (rSortL X.K) := by
  intro pins s σ H vs us Q I r h
  obtain ⟨a, xs, rfl, hs, hx, q⟩ := h
  obtain ⟨its, rv, hl, hz⟩ := I.list hs
  rw [Vals.ref1 r]
  obtain ⟨e1, e2⟩ := bkV_refs rv fun x m => by
    obtain ⟨ns, ⟨t, e, _⟩, _⟩ := hx x m
    exact ⟨t, e⟩
  have hv' : ∀ v ∈ its, ∃ ns, TS.TupInts s.heap v ns ∧ ns ≠ [] := fun v hv => by
    obtain ⟨t, rfl⟩ := e2 v hv
    have hm : V.ref t ∈ xs := by
      rw [e1]
      exact List.mem_map.mpr ⟨_, hv, rfl⟩
    obtain ⟨ns, ⟨t', e, ht⟩, hn⟩ := hx _ hm
    cases e
    exact ⟨ns, tupI_raw I ht, hn⟩
  obtain ⟨fs, tf⟩ := tupsOf_ints hv'
  refine G.sorted_tups (shape := no1) hl.isList tf (fun v hv => by obtain ⟨ns, t, _⟩ := hv' v hv; exact ⟨_, key_ints t⟩) (by rw [← rv.length]; exact hz) fun st' a1 a2 _ => ?_
  obtain ⟨h1, h2⟩ := out_lex hv' a1 a2
  obtain ⟨ep, he'⟩ := PyProof.Rows.sortedAll_at s.heap its ((arrOf st').map (·.2))
  have h3 : ∀ u ∈ ((arrOf st').map (·.2)).toList, ∃ a, u = Value.ref a := fun u hu => e2 u (h1.mem_iff.mp hu)
  have hp : (((arrOf st').map (·.2)).toList.map bkV).Perm xs := by
    rw [e1]
    exact h1.map bkV
  have hlen : (((arrOf st').map (·.2)).toList.map bkV).length ≤ sizeLine := by
    rw [hp.length_eq]
    exact hz
  refine ⟨.ref _, upd H (s.heap.objs.size + 1) (.lst (((arrOf st').map (·.2)).toList.map bkV)), I.laid (t' := s.toks) (fun _ _ => PyProof.Rows.sortedAll_old) (Nat.le_succ _) ⟨hlen, _, ep, bkV_vals h3, he'⟩, rfl, q _ _ hp ?_ (I.hok.fresh (Nat.le_succ _))⟩
  rw [List.pairwise_map]
  refine List.Pairwise.imp (fun {u v} huv n m hn hm => ?_) h2
  obtain ⟨t, et, ht⟩ := hn
  obtain ⟨t', et', ht'⟩ := hm
  have eu := bkV_ref et
  have ev := bkV_ref et'
  have i1 : TS.intsOf s.heap u = n := by
    rw [eu]
    exact (tupI_raw I ht).ints
  have i2 : TS.intsOf s.heap v = m := by
    rw [ev]
    exact (tupI_raw I ht').ints
  rw [← i1, ← i2]
  exact huv
/-! ### the sorted list as plain data -/
abbrev tI (ns : List Int) : D := .tup (ns.map D.int)
def insT (x : List Int) : List (List Int) → List (List Int)
  | [] => [x]
  | y :: l => if HT.lexLt y x = true then y :: insT x l else x :: y :: l
def sortT : List (List Int) → List (List Int)
  | [] => []
  | x :: l => insT x (sortT l)
theorem lex_asym : ∀ {a b : List Int}, HT.lexLt a b = true → HT.lexLt b a = false := fun {a b} h => by
  rw [← lex_inl] at h ⊢
  exact KeyOrd.klt_asymm (O := listOrd itemOrd) h
theorem lex_tr {a b c : List Int} (h1 : HT.lexLt a b = true) (h2 : HT.lexLt b c = true) : HT.lexLt a c = true := by
  rw [← lex_inl] at h1 h2 ⊢
  exact lex_trans _ _ _ h1 h2
theorem lex_ntr {a b c : List Int} (h1 : HT.lexLt b a = false) (h2 : HT.lexLt c b = false) : HT.lexLt c a = false := by
  rw [← lex_inl] at h1 h2 ⊢
  exact KeyOrd.kle_trans (O := listOrd itemOrd) h1 h2
theorem inl_inj : ∀ {a b : List Int}, a.map (Sum.inl : Int → Int ⊕ List Nat) = b.map Sum.inl → a = b
  | [], [], _ => rfl
  | [], _ :: _, h => by cases h
  | _ :: _, [], h => by cases h
  | x :: a, y :: b, h => by
    rw [List.map_cons, List.map_cons] at h
    injection h with h1 h2
    injection h1 with h1
    rw [h1, inl_inj h2]
theorem lex_anti {a b : List Int} (h1 : HT.lexLt a b = false) (h2 : HT.lexLt b a = false) : a = b := by
  rw [← lex_inl] at h1 h2
  exact inl_inj (lex_total _ _ h1 h2)
theorem insT_perm (x : List Int) : ∀ l, (insT x l).Perm (x :: l)
  | [] => List.Perm.refl _
  | y :: l => by
    unfold insT
    split
    · exact (List.Perm.cons y (insT_perm x l)).trans (List.Perm.swap x y l)
    · exact List.Perm.refl _
theorem sortT_perm : ∀ l, (sortT l).Perm l
  | [] => List.Perm.refl _
  | x :: l => (insT_perm x (sortT l)).trans (List.Perm.cons x (sortT_perm l))
abbrev LeT (a b : List Int) : Prop := HT.lexLt b a = false
theorem insT_sorted {x : List Int} : ∀ {l}, l.Pairwise LeT → (insT x l).Pairwise LeT
  | [], _ => List.pairwise_singleton _ _
  | y :: l, h => by
    rw [List.pairwise_cons] at h
    unfold insT
    split
    · rename_i hxy
      rw [List.pairwise_cons]
      refine ⟨fun z hz => ?_, insT_sorted h.2⟩
      rcases List.mem_cons.mp ((insT_perm x l).mem_iff.mp hz) with rfl | hz
      · exact lex_asym hxy
      · exact h.1 z hz
    · rename_i hxy
      have hxy : HT.lexLt y x = false := by simpa using hxy
      rw [List.pairwise_cons]
      refine ⟨fun z hz => ?_, by rw [List.pairwise_cons]; exact h⟩
      rcases List.mem_cons.mp hz with rfl | hz
      · exact hxy
      · exact lex_ntr hxy (h.1 z hz)
theorem sortT_sorted : ∀ l, (sortT l).Pairwise LeT
  | [] => List.Pairwise.nil
  | x :: l => insT_sorted (sortT_sorted l)
theorem sortT_uniq : ∀ {l m : List (List Int)}, l.Perm m → l.Pairwise LeT → m.Pairwise LeT → l = m
  | [], m, p, _, _ => (List.nil_perm.mp p).symm
  | x :: l, [], p, _, _ => by have := p.length_eq; simp at this
  | x :: l, y :: m, p, h1, h2 => by
    rw [List.pairwise_cons] at h1 h2
    have e : x = y := by
      have hx : x ∈ y :: m := p.mem_iff.mp (List.mem_cons_self ..)
      have hy : y ∈ x :: l := p.mem_iff.mpr (List.mem_cons_self ..)
      rcases List.mem_cons.mp hx with e | hx
      · exact e
      · rcases List.mem_cons.mp hy with e | hy
        · exact e.symm
        · exact lex_anti (h2.1 x hx) (h1.1 y hy)
    subst e
    rw [sortT_uniq ((List.perm_cons x).mp p) h1.2 h2.2]
/-- strictly rising is sorted -/
theorem sortT_up {l : List (List Int)} (h : l.Pairwise fun a b => HT.lexLt a b = true) : sortT l = l := sortT_uniq (sortT_perm l) (sortT_sorted l) (h.imp fun z => lex_asym z)
variable {G : Ctx} {Z Z1 Z2 : State} {a b : Expr} {p p2 p3 pos : Pos}
theorem rp_tupI {K : PySem.W.Frag} {S : List Addr} {H : Hp} {v : V} {ns : List Int} (r : Rp S H v (tI ns)) : TupI K H v ns := by
  obtain ⟨t, xs, rfl, _, e, ra⟩ := r.inv_tup
  have ex : xs = ns.map V.int := rpa_map (fun b v r => r.inv_int) ra
  subst ex
  exact ⟨t, rfl, .of e⟩
theorem rpa_get_tup {S : List Addr} {H : Hp} : ∀ {xs : List V} {ks : List (List Int)}, RpA S H xs (ks.map tI) → ∀ x ∈ xs, ∃ ns ∈ ks, Rp S H x (tI ns)
  | [], _, _, x, hx => by cases hx
  | y :: xs, [], r, x, hx => by have := r.1; simp at this
  | y :: xs, n :: ks, r, x, hx => by
    rcases List.mem_cons.mp hx with rfl | hx
    · exact ⟨n, by simp, r.head⟩
    · obtain ⟨ns, h1, h2⟩ := rpa_get_tup r.tail x hx
      exact ⟨ns, by simp [h1], h2⟩
/-- a permutation of values is one of what they are -/
theorem rpa_perm {S : List Addr} {H : Hp} {ys xs : List V} (p : ys.Perm xs) : ∀ {ks : List (List Int)}, RpA S H xs (ks.map tI) → ∃ ls : List (List Int), ls.Perm ks ∧ RpA S H ys (ls.map tI) := by
  induction p with
  | nil => intro ks r; exact ⟨ks, List.Perm.refl _, r⟩
  | cons x p ih =>
    intro ks r
    cases ks with
    | nil => have := r.1; simp at this
    | cons k ks =>
      obtain ⟨ls, h1, h2⟩ := ih r.tail
      exact ⟨k :: ls, h1.cons k, RpA.cons r.head h2⟩
  | swap x y l =>
    intro ks r
    match ks, r with
    | [], r => have := r.1; simp at this
    | [_], r => have := r.1; simp at this
    | k1 :: k2 :: ks, r => exact ⟨k2 :: k1 :: ks, List.Perm.swap _ _ _, RpA.cons r.tail.head (RpA.cons r.head r.tail.tail)⟩
  | trans p1 p2 ih1 ih2 =>
    intro ks r
    obtain ⟨ls, h1, h2⟩ := ih2 r
    obtain ⟨ms, h3, h4⟩ := ih1 h2
    exact ⟨ms, h3.trans h1, h4⟩
theorem pw_keys {S : List Addr} {H : Hp} {K : PySem.W.Frag} : ∀ {ys : List V} {ls : List (List Int)}, RpA S H ys (ls.map tI) → ys.Pairwise (fun x y => ∀ n m, TupI K H x n → TupI K H y m → HT.lexLt m n = false) → ls.Pairwise LeT
  | [], [], _, _ => List.Pairwise.nil
  | [], _ :: _, r, _ => by have := r.1; simp at this
  | _ :: _, [], r, _ => by have := r.1; simp at this
  | y :: ys, l :: ls, r, h => by
    rw [List.pairwise_cons] at h ⊢
    refine ⟨fun m hm => ?_, pw_keys r.tail h.2⟩
    obtain ⟨i, hi, e⟩ := List.getElem_of_mem hm
    obtain ⟨x, hx, rx⟩ := r.tail.get (i := i) (d := tI m) (by rw [List.getElem?_map, List.getElem?_eq_getElem hi, e]; rfl)
    exact h.1 x (List.mem_of_getElem? hx) l m (rp_tupI r.head) (rp_tupI rx)
theorem je_sortedT {ks : List (List Int)} (B : Bi G.g) (ha : JA G [a] Z [.lst (ks.map tI)] Z1) (hne : ∀ k ∈ ks, k ≠ []) (hg : glB G.sc "sorted" = true := by kernel_rfl) (he : ∀ env, starEach [a] env = (false, eval a env) :: starEach [] env := by intro _; rfl) (hpl : ∀ env, (backTo pos (starEach [] env)).any (·.1) = false := by intro _; rfl) :
    JE G (.Call (.Name "sorted" p) [a] [] pos) Z (.lst ((sortT ks).map tI)) Z1 :=
  je_callB (r := fun X => rSortL X.K) (fun X _ => cr_sortL) B.sorted_ (by decide +kernel) hg ha (fun X f B2 σ H vs Q k r q => by
    obtain ⟨v, rfl, rr⟩ := one_of r
    obtain ⟨l, xs, rfl, nl, e, ra⟩ := rr.inv_lst
    refine ⟨l, xs, rfl, .of e, fun x hx => ?_, fun ys n hp hs nn => ?_⟩
    · obtain ⟨ns, h1, h2⟩ := rpa_get_tup ra x hx
      exact ⟨ns, rp_tupI h2, hne ns h1⟩
    · obtain ⟨ls, h1, h2⟩ := rpa_perm hp ra
      have en : ls = sortT ks := sortT_uniq (h1.trans (sortT_perm ks).symm) (pw_keys h2 hs) (sortT_sorted ks)
      subst en
      exact q _ _ (same_upd nn) (rp_lst (k.fresh nn) upd_same (RpA.keep (Pres.of_same (same_upd nn)) (fun _ _ _ z => z) h2))) he hpl
end JL

namespace JL
open PySem PySem.Spec L2 PyProof.Rows
/-! ### sorted(set(xs)), tuples of ints -/
section
variable {P : Program} {w : World} {A : Around} {E : Value → Shared → Prop} {s : Shared}
abbrev rf (q : Addr × List Int) : Value := .ref q.1
theorem rows_in {L : List (Addr × List Int)} : ∀ us : List Value, (∀ u ∈ us, u ∈ L.map rf) → ∃ M : List (Addr × List Int), us = M.map rf ∧ ∀ q ∈ M, q ∈ L
  | [], _ => ⟨[], rfl, fun _ z => nomatch z⟩
  | u :: us, h => by
    obtain ⟨M, e, k⟩ := rows_in us fun x z => h x (.tail _ z)
    obtain ⟨q, kq, eq⟩ := List.mem_map.mp (h u (.head _))
    refine ⟨q :: M, by rw [e, ← eq]; rfl, fun r z => ?_⟩
    cases z with
    | head => exact kq
    | tail _ z => exact k r z
theorem sorted_setL {a : Addr} {L : List (Addr × List Int)} {es : Array (Int × Value)} {ep : Nat} {t : SetTable} {Q : Value → Shared → Prop} (R : SetTR P w s.heap a L es ep t) (h0 : A.handled = none) (ne : ∀ q ∈ L, q.2 ≠ [])
    (done : ∀ (s2 : Shared) (l : Addr) (us : List Value) (c : Nat) (M : List (Addr × List Int)), (∀ x y, s.heap.get? x = some y → s2.heap.get? x = some y) → s2.gens = s.gens → s2.os = s.os → s.heap.objs.size ≤ l →
      s2.heap.get? l = some (seqObj "list" us.toArray c) → us = M.map rf → M.Perm L → M.Pairwise (fun q r => LeT q.2 r.2) → Q (.ref l) s2) :
    wpAny (model P w) A (call (.builtin "sorted") [.ref a]) Q E s := by
  obtain ⟨ob, g0, ex0, d0⟩ := R.ob
  have few := R.few
  have size := R.size
  refine Calls.call_function_entry kind_sorted plain_sorted entry_sorted (args_sorted1 _) (show wpAny _ _ (Builtin.«sorted» _) _ _ _ from ?_)
  unfold Builtin.«sorted»
  refine wpAny_bind (wpAny_pure (show wpAny _ _ _ _ _ _ from wpAny_bind (collect_set (A := A.in1) h0 ⟨ob, g0, ex0.1, d0⟩ R.fits (by unfold scanBound; omega) R.tab.ris R.led fun s1 vs old sz gn osn pm => ?_)))
  have en : es.toList.map (·.2) = L.map rf := by rw [R.rows]; exact List.map_map ..
  rw [en] at pm
  have lv : vs.length < 64 := by have := pm.length_eq; rw [List.length_map] at this; omega
  have uniq : ∀ q ∈ L, ∀ r ∈ L, q.1 = r.1 → q = r := fun q kq r kr e => by
    have x1 := R.tup q kq
    rw [e] at x1
    exact Prod.ext e (x1.inj (R.tup r kr))
  have ndL : L.Nodup := nodup_of_map R.nd
  have ndR : (L.map rf).Nodup := List.pairwise_map.mpr (ndL.imp_of_mem fun {q r} kq kr n e => n (uniq q kq r kr (by injection e)))
  refine wpAny_bind (wpAny_newList ?_ (by rw [sizeLine_eq]; omega))
  have at1 : (s1.heap.push (seqObj "list" vs.toArray 0)).get? s1.heap.objs.size = some (seqObj "list" vs.toArray 0) := Heap.get?_push_size _ rfl
  have ti : ∀ q ∈ L, TS.TupInts (s1.heap.push (seqObj "list" vs.toArray 0)) (rf q) q.2 := fun q kq => tupInts_of (isT_keep (R.tup q kq) fun b u e => Heap.get?_push_of_some _ (old b u e))
  have tv : ∀ v ∈ vs, ∃ ns, TS.TupInts (s1.heap.push (seqObj "list" vs.toArray 0)) v ns ∧ ns ≠ [] := fun v kv => by
    obtain ⟨q, kq, e⟩ := List.mem_map.mp (pm.mem_iff.mp kv)
    exact ⟨q.2, by rw [← e]; exact ti q kq, ne q kq⟩
  obtain ⟨fs, tf⟩ := tupsOf_ints tv
  refine wpAny_bind (wpAny_holding (wpAny_call_entry slot_list_sort ⟨_, at1, rfl⟩ entry_list_sort (G.list_sort_tups (shape := no1) (s := { s1 with heap := s1.heap.push (seqObj "list" vs.toArray 0) }) at1 tf (fun v kv => by obtain ⟨ns, z, _⟩ := tv v kv; exact ⟨_, key_ints z⟩) (by rw [sizeLine_eq]; omega) fun st' p1 p2 _ => ⟨_, rfl, ?_⟩) (args_list_sort _)))
  obtain ⟨o1, o2⟩ := out_lex tv p1 p2
  obtain ⟨c, hc⟩ := sortedHeap_at (vs := vs) (out := (arrOf st').map (·.2)) at1
  obtain ⟨M, eM, kM⟩ := rows_in (L := L) _ fun u ku => pm.mem_iff.mp (o1.mem_iff.mp ku)
  have pM : (M.map rf).Perm (L.map rf) := by rw [← eM]; exact o1.trans pm
  have permM : M.Perm L := by
    refine (List.perm_ext_iff_of_nodup (nodup_of_map (pM.nodup_iff.mpr ndR)) ndL).mpr fun q => ⟨kM q, fun kq => ?_⟩
    obtain ⟨r, kr, e⟩ := List.mem_map.mp (pM.mem_iff.mpr (List.mem_map.mpr ⟨q, kq, rfl⟩))
    rw [← uniq r (kM r kr) q kq (by injection e)]
    exact kr
  rw [eM] at o2
  refine wpAny_pure ⟨_, rfl, done _ s1.heap.objs.size _ c M (fun x y e => ?_) gn osn sz (by rw [← Array.toArray_toList (xs := (arrOf st').map (·.2))] at hc; exact hc) eM permM ((List.pairwise_map.mp o2).imp_of_mem fun {q r} kq kr z => ?_)⟩
  · have lt := Heap.lt_size (old x y e)
    show (sortedHeap (s1.heap.push (seqObj "list" vs.toArray 0)) s1.heap.objs.size vs ((arrOf st').map (·.2))).get? x = some y
    rw [sortedHeap_old (Nat.ne_of_lt lt) (by rw [size_push']; exact Nat.lt_succ_of_lt lt)]
    exact Heap.get?_push_of_some _ (old x y e)
  · rw [(ti q (kM q kq)).ints, (ti r (kM r kr)).ints] at z
    exact z
end
/-- sorted of a set of tuples of ints -/
def rSortS (P : Program) (w : World) (K : PySem.W.Frag) : List V → Hp → VK → Prop := fun vs H Q => ∃ (a : Addr) (L : List (Addr × List Int)), vs = [V.ref a] ∧ H a = some (SetTO P w a L) ∧ (∀ q ∈ L, SqT K H q.1 (q.2.map V.int) ∧ q.2 ≠ []) ∧
  ∀ (M : List (Addr × List Int)) (l : Addr), M.Perm L → (M.map (·.2)).Nodup → M.Pairwise (fun q r => LeT q.2 r.2) → H l = none → Q (.ref l) (upd H l (.lst (M.map fun q => V.ref q.1)))
theorem cr_sortS {X : Cx} (hc : X.calm = true) : CallR X (.builtin "sorted") (rSortS X.prog X.w X.K) := by
  intro pins s σ H vs us Q I r h
  obtain ⟨a, L, rfl, ha, hk, q⟩ := h
  have R0 : SetT0 X.prog X.w s.heap a L := (I.hok a _ ha).1
  obtain ⟨es, ep, t, R⟩ := R0.full fun x kx => I.isT (hk x kx).1
  rw [Vals.ref1 r]
  refine sorted_setL R (I.ok.hd hc) (fun x kx => (hk x kx).2) fun s2 l us c M old gn osn sz gl eM pM pw => ?_
  have ml : (M.map fun q => V.ref q.1).length ≤ sizeLine := by have := R.few; rw [List.length_map, sizeLine_eq, pM.length_eq]; omega
  have nl : H l = none := I.hok.fresh sz
  have vv : Vals (M.map fun q => V.ref q.1) us := by rw [eM]; exact vals_of_refs M
  have J : Inv X pins σ (upd H l (.lst (M.map fun q => V.ref q.1))) { s with heap := s2.heap, gens := s2.gens, drawn := s2.drawn, toks := s2.toks } :=
    I.call (ch := []) (Un.laid old sz nl) (I.hok.laid old sz ⟨ml, us, c, vv, gl⟩) (by rw [gn]; exact I.bare) (fun _ z => nomatch z)
  have es2 : s2 = { s with heap := s2.heap, gens := s2.gens, drawn := s2.drawn, toks := s2.toks } := by
    obtain ⟨_, _, _, _, _⟩ := s2
    obtain ⟨_, _, _, _, _⟩ := s
    cases osn
    rfl
  rw [es2]
  exact ⟨.ref l, _, J, rfl, q M l pM ((pM.map (·.2)).nodup_iff.mpr R.nd) pw nl⟩
section
variable {G : Ctx} {Z Z1 Z2 : State} {a b : Expr} {p p2 p3 pos : Pos}
theorem addrs_of {S : List Addr} {H : Hp} {K : PySem.W.Frag} : ∀ {xs : List V} {ks : List (List Int)}, RpA S H xs (ks.map tI) → ∃ L : List (Addr × List Int), xs = (L.map fun q => V.ref q.1) ∧ L.map (·.2) = ks ∧ ∀ q ∈ L, SqT K H q.1 (q.2.map V.int) ∧ Rp S H (.ref q.1) (tI q.2)
  | [], [], _ => ⟨[], rfl, rfl, fun _ z => nomatch z⟩
  | [], _ :: _, r => by have := r.1; simp at this
  | _ :: _, [], r => by have := r.1; simp at this
  | x :: xs, k :: ks, r => by
    obtain ⟨L, e1, e2, h⟩ := addrs_of (K := K) r.tail
    obtain ⟨t, et, ht⟩ := rp_tupI (K := K) r.head
    subst et
    refine ⟨(t, k) :: L, by rw [e1]; rfl, by rw [← e2]; rfl, fun q z => ?_⟩
    cases z with
    | head => exact ⟨ht, r.head⟩
    | tail _ z => exact h q z
theorem nodup_uniq : ∀ {l m : List (List Int)}, (∀ x, x ∈ l ↔ x ∈ m) → l.Pairwise LeT → l.Nodup → (m.Pairwise fun a b => HT.lexLt a b = true) → l = m := fun {l m} h h1 h2 h3 => by
  have nm : m.Nodup := h3.imp fun {x y} z e => by
    subst e
    have := lex_asym z
    rw [z] at this
    cases this
  exact sortT_uniq ((List.perm_ext_iff_of_nodup h2 nm).mpr h) h1 (h3.imp fun z => lex_asym z)
/-- sorted(set(xs)), xs rising: as it is -/
theorem je_sortSet {ks : List (List Int)} (B : Bi G.g) (ha : JA G [a] Z [.lst (ks.map tI)] Z1) (hne : ∀ k ∈ ks, k ≠ []) (hl : ks.length < 64) (hup : ks.Pairwise fun a b => HT.lexLt a b = true) (hg : glB G.sc "sorted" = true := by kernel_rfl) (hg2 : glB G.sc "set" = true := by kernel_rfl)
    (he : ∀ env, starEach [a] env = (false, eval a env) :: starEach [] env := by intro _; rfl) (hpl : ∀ env, (backTo p3 (starEach [] env)).any (·.1) = false := by intro _; rfl) (he2 : ∀ env, starEach [.Call (.Name "set" p2) [a] [] p3] env = (false, eval (.Call (.Name "set" p2) [a] [] p3) env) :: starEach [] env := by intro _; rfl) (hpl2 : ∀ env, (backTo pos (starEach [] env)).any (·.1) = false := by intro _; rfl) :
    JE G (.Call (.Name "sorted" p) [.Call (.Name "set" p2) [a] [] p3] [] pos) Z (.lst (ks.map tI)) Z1 := fun X f B2 σ H k Q q => by
  have hs : PE X (.Call (.Name "set" p2) [a] [] p3) _ := pe_callTy (cr_setOfT f.calm f.room.units) (gl_of f hg2).1 (by rw [f.mg]; exact B.set_) (by decide +kernel) p_A (he := he _) (hpl := hpl _)
  refine ⟨_, pe_callB (cr_sortS f.calm) (gl_of f hg).1 (by rw [f.mg]; exact B.sorted_) (by decide +kernel) (pa_cons hs pa_nil (he2 _)) (he := he2 _) (hpl := hpl2 _), ?_⟩
  refine ha X f B2 σ H k _ fun vs H1 k1 p1 r1 => ?_
  obtain ⟨v, rfl, rr⟩ := one_of r1
  obtain ⟨l, xs, rfl, nl, e, ra⟩ := rr.inv_lst
  obtain ⟨L, e1, e2, h⟩ := addrs_of (K := X.K) ra
  subst e1
  refine ⟨l, L, rfl, .of e, fun x kx => (h x kx).1, by have := congrArg List.length e2; rw [List.length_map] at this; omega, fun a1 L1 n1 s1 s2 => ?_⟩
  have sm1 : Same H1 (upd H1 a1 (SetTO X.prog X.w a1 L1)) := same_upd n1
  refine ⟨a1, L1, rfl, upd_same, fun x kx => ⟨by
    obtain ⟨t, et, ht⟩ := rp_tupI (K := X.K) ((h x (s1 x kx)).2.keep (Pres.of_same sm1) fun _ _ _ z => z)
    cases et
    exact ht, fun z => hne _ ?_ z⟩, fun M l2 pM nd pw n2 => ?_⟩
  · rw [← e2]; exact List.mem_map.mpr ⟨x, s1 x kx, rfl⟩
  · have sm2 : Same (upd H1 a1 (SetTO X.prog X.w a1 L1)) (upd (upd H1 a1 (SetTO X.prog X.w a1 L1)) l2 (.lst (M.map fun q => V.ref q.1))) := same_upd n2
    have sm : Same H1 _ := fun b o z => sm2 b o (sm1 b o z)
    have eM : M.map (·.2) = ks := nodup_uniq (fun x => ⟨fun z => by
        obtain ⟨q, kq, rfl⟩ := List.mem_map.mp z
        rw [← e2]; exact List.mem_map.mpr ⟨q, s1 q (pM.mem_iff.mp kq), rfl⟩, fun z => by
        rw [← e2] at z
        obtain ⟨q, kq, rfl⟩ := List.mem_map.mp z
        exact (pM.map (·.2)).mem_iff.mpr (s2 q kq)⟩) (List.pairwise_map.mpr pw) nd hup
    refine q _ _ (k1.same sm) (p1.trans (Kp.same sm)) (rp_lst ((k1.same sm1).fresh n2) upd_same ?_)
    rw [← eM, List.map_map]
    refine ⟨by rw [List.length_map, List.length_map], fun i x d hx hd => ?_⟩
    rw [List.getElem?_map] at hx hd
    cases hm : M[i]? with
    | none => rw [hm] at hx; cases hx
    | some qq =>
      rw [hm] at hx hd
      cases hx
      cases hd
      exact (h qq (s1 qq (pM.mem_iff.mp (List.mem_of_getElem? hm)))).2.keep (Pres.of_same sm) fun _ _ _ z => z
end
end JL

namespace JL
open PySem PySem.Spec L2 PyProof.Rows
/-! ### i not in range(n) -/
theorem cr_range1 {X : Cx} : CallR X (.type "range") (fun vs H Q => ∃ i, vs = [V.int i] ∧ ∀ p, H p = none → Q (.ref p) (upd H p (.rng 0 i))) := by
  intro pins s σ H vs us Q I r h
  obtain ⟨i, rfl, q⟩ := h
  obtain ⟨u, rfl, ri⟩ : ∃ u, us = [u] ∧ RelV (.int i) u := by
    cases r with
    | cons r t => cases t; exact ⟨_, rfl, r⟩
  obtain ⟨t, rfl⟩ := ri
  refine call_range_1 ⟨.ref s.heap.objs.size, upd H s.heap.objs.size (.rng 0 i), I.laid (t' := _) (fun b o e => Heap.get?_push_of_some _ e) (Nat.le_refl _) ?_, rfl, q _ (I.hok.fresh (Nat.le_refl _))⟩
  exact ⟨_, _, _, Heap.get?_push_size _ rfl⟩
theorem op_nin_rng {X : Cx} : OpR X (compareOp .NotIn) (fun x y H Q => ∃ i a lo hi, x = V.int i ∧ y = V.ref a ∧ H a = some (.rng lo hi) ∧ Q (.bl (!decide (lo ≤ i ∧ i < hi))) H) := by
  intro pins s σ H x y v u Q I rx ry h
  obtain ⟨i, a, lo, hi, rfl, rfl, ha, q⟩ := h
  obtain ⟨k, rfl⟩ := rx
  cases ry
  obtain ⟨t1, t2, t3, ho⟩ := I.hok a _ ha
  show wpAny _ _ (do return Value.bool !(← contains (Value.ref a) (Value.int i k))) _ _ s
  refine wpAny_bind (wpAny_contains_slot (T := "range") ⟨_, ho, rfl⟩ F.slot_range_contains (call_meets F.slot_range_contains ⟨_, ho, rfl⟩ F.entry_range_contains (F.args_range_contains_2 _ _) (q_contains a lo hi i t1 t2 t3 k) ⟨ho, wpAny_truthy_bool (wpAny_pure ⟨.bl _, H, I, rfl, by rw [place1]; exact q⟩)⟩))
section
variable {G : Ctx} {Z Z1 Z2 : State} {a b : Expr} {p p2 p3 pos : Pos} {i n : Int}
theorem jt_ninRng (B : Bi G.g) (ha : JE G a Z (.int i) Z1) (hb : JA G [b] Z1 [.int n] Z2) (hm : behindInMarks .NotIn (.Call (.Name "range" p2) [b] [] p3) = false := by rfl) (hg : glB G.sc "range" = true := by kernel_rfl) (he : ∀ env, starEach [b] env = (false, eval b env) :: starEach [] env := by intro _; rfl) (hpl : ∀ env, (backTo p3 (starEach [] env)).any (·.1) = false := by intro _; rfl) :
    JT G (.Compare a [.NotIn] [.Call (.Name "range" p2) [b] [] p3] pos) Z (!decide (0 ≤ i ∧ i < n)) Z2 := fun X f B2 σ H k Q q => by
  have hr : PE X (.Call (.Name "range" p2) [b] [] p3) _ := pe_callTy cr_range1 (gl_of f hg).1 (by rw [f.mg]; exact B.range_) (by decide +kernel) p_A (he := he _) (hpl := hpl _)
  refine ⟨_, pt_cmpR op_nin_rng p_E hr hm, ?_⟩
  refine ha X f B2 σ H k _ fun v H1 k1 p1 r1 => ?_
  refine hb X f B2 σ H1 k1 _ fun vs H2 k2 p2' r2 => ?_
  obtain ⟨w, rfl, rw_⟩ := one_of r2
  cases rw_.inv_int
  cases r1.inv_int
  refine ⟨n, rfl, fun p' hp => ⟨i, p', 0, n, rfl, rfl, upd_same, ?_⟩⟩
  have sm := same_upd (o := HO.rng 0 n) hp
  exact ⟨_, rfl, q _ (k2.same sm) ((p1.trans p2').trans (Kp.same sm))⟩
end
end JL

namespace JL
open PySem PySem.Spec L2 Lp
/-! ### sizes of heights and sums -/
theorem p2_le {a b : Nat} (h : a ≤ b) : 2 ^ a ≤ 2 ^ b := Nat.pow_le_pow_right (by decide) h
theorem fs_frac {a b : Int} (hb : 0 < b) (h1 : a.natAbs < 2 ^ 499000) (h2 : b.natAbs < 2 ^ 4450) : FS 4450 (frac a b) := by
  obtain ⟨l1, l2⟩ := frac_le (a := a) hb
  obtain ⟨f1, _⟩ := frac_ok (t := a) hb
  exact ⟨f1, Nat.lt_of_le_of_lt l1 h1, Nat.lt_of_le_of_lt (by omega : (frac a b).2.natAbs ≤ b.natAbs) h2⟩
theorem fs_whole {a : Int} (h1 : a.natAbs < 2 ^ 499000) : FS 4450 (a, 1) := ⟨show (0 : Int) < 1 by decide, h1, Nat.one_lt_two_pow (by decide)⟩
theorem fs_lt {a : Int} (h : a.natAbs ≤ 160000) : FS 4450 (a, 1) := fs_whole (Nat.lt_of_lt_of_le (by omega : a.natAbs < 2 ^ 18) (p2_le (by omega)))
theorem poly_le {p : Int} (hp : p.natAbs ≤ 20) {k : Nat} : ∀ {ys : List Int}, (∀ y ∈ ys, y.natAbs < 2 ^ k) → (polyL p ys).natAbs < 2 ^ (k + 6 * ys.length)
  | [], _ => by show (0 : Int).natAbs < _; exact Nat.two_pow_pos _
  | y :: ys, h => by
    have ih := poly_le (k := k) hp fun z hz => h z (.tail _ hz)
    have h1 := h y (.head _)
    show (y + p * polyL p ys).natAbs < 2 ^ (k + 6 * (ys.length + 1))
    have h2 := Int.natAbs_add_le y (p * polyL p ys)
    rw [Int.natAbs_mul] at h2
    have h3 : p.natAbs * (polyL p ys).natAbs ≤ 20 * 2 ^ (k + 6 * ys.length) := Nat.mul_le_mul hp (Nat.le_of_lt ih)
    have h4 : 2 ^ k ≤ 2 ^ (k + 6 * ys.length) := p2_le (by omega)
    have h5 : 2 ^ (k + 6 * (ys.length + 1)) = 64 * 2 ^ (k + 6 * ys.length) := by rw [show k + 6 * (ys.length + 1) = 6 + (k + 6 * ys.length) by omega, Nat.pow_add]
    omega
section
variable {Y p : Int} {ys : List Int}
structure OneB (Y : Int) (ys : List Int) : Prop where
  pos : 0 < Y
  bot : Y.natAbs < 2 ^ 4401
  top : ∀ y ∈ ys, y.natAbs < 2 ^ 4401
  len : ys.length ≤ 4
theorem OneB.ok (o : OneB Y ys) : ∀ c ∈ ys.map (fun y => frac y Y), FS 4450 c := fun c hc => by
  obtain ⟨y, hy, rfl⟩ := List.mem_map.mp hc
  exact fs_frac o.pos (Nat.lt_of_lt_of_le (o.top y hy) (p2_le (by omega))) (Nat.lt_of_lt_of_le o.bot (p2_le (by omega)))
theorem OneB.poly (o : OneB Y ys) (hp : p.natAbs ≤ 20) {zs : List Int} (hz : ∀ z ∈ zs, z ∈ ys) (hl : zs.length ≤ 4) : (polyL p zs).natAbs < 2 ^ 4425 :=
  Nat.lt_of_lt_of_le (poly_le hp fun z h => o.top z (hz z h)) (p2_le (by omega))
theorem mul20 {a b : Int} {k : Nat} (ha : a.natAbs < 2 ^ k) (hb : b.natAbs ≤ 160000) : (a * b).natAbs < 2 ^ (k + 18) := by
  rw [Int.natAbs_mul, Nat.pow_add]
  have h1 : a.natAbs * b.natAbs ≤ a.natAbs * 160000 := Nat.mul_le_mul_left _ hb
  have h2 : (2 : Nat) ^ 18 = 262144 := by decide
  rw [h2]
  omega
theorem OneB.hs (o : OneB Y ys) (hp : p.natAbs ≤ 20) : HS (p, 1) (ys.map fun y => frac y Y) := by
  have hY := o.pos
  have b1 : Y.natAbs < 2 ^ 4450 := Nat.lt_of_lt_of_le o.bot (p2_le (by omega))
  refine ⟨by rw [List.length_map]; exact o.len, fs_lt (by omega), o.ok, fun i => ?_⟩
  rw [← List.map_drop, hF_poly hY]
  have pl := o.poly hp (zs := ys.drop i) (fun z h => List.mem_of_mem_drop h) (by rw [List.length_drop]; have := o.len; omega)
  refine ⟨fs_frac hY (Nat.lt_of_lt_of_le pl (p2_le (by omega))) b1, ?_⟩
  rw [← frac_one p, timesF_frac hY (by decide)]
  exact fs_frac (by omega) (Nat.lt_of_lt_of_le (mul20 pl (by omega)) (p2_le (by omega))) (by rw [Int.mul_one]; exact b1)
theorem step_poly (hY : 0 < Y) : ∀ (ys : List Int) (a q : Int), (ys.map fun y => frac y Y).foldl (stepL (p, 1)) (frac a Y, (q, 1)) = (frac (a + q * polyL p ys) Y, (q * p ^ ys.length, 1))
  | [], a, q => by
    show (frac a Y, (q, (1 : Int))) = (frac (a + q * 0) Y, (q * p ^ 0, 1))
    rw [Int.mul_zero, Int.add_zero, Int.pow_zero, Int.mul_one]
  | y :: ys, a, q => by
    rw [List.map_cons, List.foldl_cons]
    have e1 : stepL (p, 1) (frac a Y, (q, 1)) (frac y Y) = (frac (a + q * y) Y, (q * p, 1)) := by
      show (plusF (frac a Y) (timesF (frac y Y) (q, 1)), timesF (q, 1) (p, 1)) = _
      rw [← frac_one q, timesF_frac hY (by decide), plusF_frac hY (by omega), ← frac_one p, timesF_frac (by decide) (by decide)]
      refine Prod.ext (frac_eq (Int.mul_pos hY (by omega)) hY ?_) (frac_one _)
      grind
    rw [e1, step_poly hY ys]
    refine Prod.ext ?_ (Prod.ext ?_ rfl)
    · show frac (a + q * y + q * p * polyL p ys) Y = frac (a + q * (y + p * polyL p ys)) Y
      congr 1
      grind
    · show q * p * p ^ ys.length = q * p ^ (ys.length + 1)
      rw [Int.pow_succ]
      grind
theorem stL_poly (hY : 0 < Y) (ys : List Int) : stL (p, 1) (ys.map fun y => frac y Y) = (frac (polyL p ys) Y, (p ^ ys.length, 1)) := by
  have e0 : ((0, 1) : Int × Int) = frac 0 Y := by rw [← frac_one]; exact frac_eq (by decide) hY (by omega)
  unfold stL
  rw [e0, step_poly hY, Int.zero_add, Int.one_mul, Int.one_mul]
theorem pow_le4 (hp : p.natAbs ≤ 20) {n : Nat} (h : n ≤ 4) : (p ^ n).natAbs ≤ 160000 := by
  have := pow_le (p := p) (by omega) (by omega) n
  have h2 : 20 ^ n ≤ 20 ^ 4 := Nat.pow_le_pow_right (by decide) h
  omega
theorem OneB.ls (o : OneB Y ys) (hp : p.natAbs ≤ 20) : LS (p, 1) (ys.map fun y => frac y Y) := by
  have hY := o.pos
  have hl := o.len
  have b1 : Y.natAbs < 2 ^ 4450 := Nat.lt_of_lt_of_le o.bot (p2_le (by omega))
  refine ⟨by rw [List.length_map]; exact o.len, fs_lt (by omega), o.ok, fun i => ?_, fun i c hc => ?_⟩
  · rw [← List.map_take, stL_poly hY]
    have pl := o.poly hp (zs := ys.take i) (fun z h => List.mem_of_mem_take h) (by rw [List.length_take]; omega)
    exact ⟨fs_frac hY (Nat.lt_of_lt_of_le pl (p2_le (by omega))) b1, fs_lt (pow_le4 hp (by rw [List.length_take]; omega))⟩
  · rw [List.getElem?_map] at hc
    obtain ⟨y, hy, rfl⟩ := Option.map_eq_some_iff.mp hc
    rw [← List.map_take, stL_poly hY]
    show FS 4450 (timesF (frac y Y) (p ^ (ys.take i).length, 1))
    rw [← frac_one (p ^ _), timesF_frac hY (by decide)]
    exact fs_frac (by omega) (Nat.lt_of_lt_of_le (mul20 (o.top y (List.mem_of_getElem? hy)) (pow_le4 hp (by rw [List.length_take]; omega))) (p2_le (by omega))) (by rw [Int.mul_one]; exact b1)
end
/-! small fractions -/
theorem bd_one : Bd 1 (1, 1) := ⟨show (0 : Int) < 1 by decide, show (1 : Int).natAbs < 2 ^ 1 by decide, show (1 : Int).natAbs < 2 ^ 1 by decide⟩
theorem bd_zero : Bd 1 (0, 1) := ⟨show (0 : Int) < 1 by decide, show (0 : Int).natAbs < 2 ^ 1 by decide, show (1 : Int).natAbs < 2 ^ 1 by decide⟩
theorem bd_fold {pl : Int × Int} {n : Nat} (hp : Bd n pl) : ∀ (r : List (Int × Int)) (f pw : Int × Int) (a b : Nat), (∀ c ∈ r, Bd n c) → Bd a f → Bd b pw → Bd (a + r.length * (n + b + n * r.length + 1)) (r.foldl (stepL pl) (f, pw)).1 ∧ Bd (b + n * r.length) (r.foldl (stepL pl) (f, pw)).2
  | [], f, pw, a, b, _, hf, hw => ⟨by simpa using hf, by simpa using hw⟩
  | c :: r, f, pw, a, b, h, hf, hw => by
    have h1 := bd_times (h c (.head _)) hw
    have h2 := bd_plus hf h1
    have h3 := bd_times hw hp
    obtain ⟨g1, g2⟩ := bd_fold hp r (plusF f (timesF c pw)) (timesF pw pl) (a + (n + b) + 1) (b + n) (fun x hx => h x (.tail _ hx)) h2 h3
    refine ⟨g1.mono ?_, g2.mono ?_⟩
    · rw [List.length_cons]
      have e1 : n * (r.length + 1) = n * r.length + n := Nat.mul_succ ..
      have e2 : (r.length + 1) * (n + b + (n * r.length + n) + 1) = r.length * (n + b + (n * r.length + n) + 1) + (n + b + (n * r.length + n) + 1) := Nat.succ_mul ..
      have e3 : n + (b + n) + n * r.length + 1 = n + b + (n * r.length + n) + 1 := by omega
      rw [e1, e2, e3]
      omega
    · rw [List.length_cons, Nat.mul_succ]
      omega
theorem ls_small {pl : Int × Int} {road : List (Int × Int)} (hl : road.length ≤ 4) (hp : Bd 10 pl) (hr : ∀ c ∈ road, Bd 10 c) : LS pl road := by
  have main : ∀ i, Bd 300 (stL pl (road.take i)).1 ∧ Bd 100 (stL pl (road.take i)).2 := fun i => by
    obtain ⟨g1, g2⟩ := bd_fold hp (road.take i) (0, 1) (1, 1) 1 1 (fun c hc => hr c (List.mem_of_mem_take hc)) bd_zero bd_one
    have hi : (road.take i).length ≤ 4 := by rw [List.length_take]; omega
    refine ⟨g1.mono ?_, g2.mono (by omega)⟩
    have : (road.take i).length * (10 + 1 + 10 * (road.take i).length + 1) ≤ 4 * 52 := Nat.mul_le_mul hi (by omega)
    omega
  exact ⟨hl, hp.fs (by omega), fun c hc => (hr c hc).fs (by omega), fun i => ⟨(main i).1.fs (by omega), (main i).2.fs (by omega)⟩, fun i c hc => (bd_times (hr c (List.mem_of_getElem? hc)) (main i).2).fs (by omega)⟩
/-! sums of products -/
abbrev Cw := Int × (Int × Int)
def sumF (l : List Cw) : Int × Int := l.foldl (fun t x => plusF t (timesF (x.1, 1) x.2)) (0, 1)
structure SS (l : List Cw) : Prop where
  at_ : ∀ i, FS 4450 (sumF (l.take i))
  up : ∀ x ∈ l, FS 4450 (x.1, 1) ∧ FS 4450 x.2 ∧ FS 4450 (timesF (x.1, 1) x.2)
theorem sumF_snoc (l : List Cw) (x : Cw) : sumF (l ++ [x]) = plusF (sumF l) (timesF (x.1, 1) x.2) := by unfold sumF; rw [List.foldl_append]; rfl
/-- over one bottom -/
theorem sum_one {P : Int} (hP : 0 < P) (W : Cw → Int) : ∀ (l : List Cw) (a : Int), (∀ x ∈ l, x.2 = frac (W x) P) → l.foldl (fun t x => plusF t (timesF (x.1, 1) x.2)) (frac a P) = frac (a + (l.map fun x => x.1 * W x).sum) P
  | [], a, _ => by show frac a P = frac (a + 0) P; rw [Int.add_zero]
  | x :: l, a, h => by
    rw [List.foldl_cons]
    have e1 : plusF (frac a P) (timesF (x.1, 1) x.2) = frac (a + x.1 * W x) P := by
      rw [h x (.head _), ← frac_one x.1, timesF_frac (by decide) hP, plusF_frac hP (by omega)]
      refine frac_eq (Int.mul_pos hP (by omega)) hP ?_
      grind
    rw [e1, sum_one hP W l _ fun y hy => h y (.tail _ hy), List.map_cons, List.sum_cons, Int.add_assoc]
theorem sumF_one {P : Int} (hP : 0 < P) (W : Cw → Int) (l : List Cw) (h : ∀ x ∈ l, x.2 = frac (W x) P) : sumF l = frac ((l.map fun x => x.1 * W x).sum) P := by
  have e0 : ((0, 1) : Int × Int) = frac 0 P := by rw [← frac_one]; exact frac_eq (by decide) hP (by omega)
  unfold sumF
  rw [e0, sum_one hP W l 0 h, Int.zero_add]
theorem sum_bd {k : Nat} : ∀ {ns : List Int}, (∀ n ∈ ns, n.natAbs < 2 ^ k) → ns.sum.natAbs ≤ ns.length * 2 ^ k
  | [], _ => by show (0 : Int).natAbs ≤ _; exact Nat.zero_le _
  | n :: ns, h => by
    have ih := sum_bd (k := k) fun z hz => h z (.tail _ hz)
    have h1 := h n (.head _)
    have h2 := Int.natAbs_add_le n ns.sum
    rw [List.sum_cons, List.length_cons, Nat.succ_mul]
    omega
/-- whole weights -/
theorem ss_whole {l : List Cw} (hl : l.length ≤ 100) (h : ∀ x ∈ l, x.1.natAbs ≤ 8000 ∧ x.2.2 = 1 ∧ x.2.1.natAbs < 2 ^ 490000) : SS l := by
  have pr : ∀ x ∈ l, (x.1 * x.2.1).natAbs < 2 ^ 490018 := fun x hx => by
    rw [Int.mul_comm]
    exact mul20 (h x hx).2.2 (by have := (h x hx).1; omega)
  have ew : ∀ x ∈ l, x.2 = frac x.2.1 1 := fun x hx => by rw [frac_one]; exact Prod.ext rfl (h x hx).2.1
  refine ⟨fun i => ?_, fun x hx => ⟨fs_lt (by have := (h x hx).1; omega), ?_, ?_⟩⟩
  · rw [sumF_one (by decide) (fun x => x.2.1) _ fun x hx => ew x (List.mem_of_mem_take hx), frac_one]
    refine fs_whole (Nat.lt_of_le_of_lt (sum_bd (k := 490018) fun n hn => ?_) ?_)
    · obtain ⟨x, hx, rfl⟩ := List.mem_map.mp hn
      exact pr x (List.mem_of_mem_take hx)
    · rw [List.length_map, List.length_take]
      have h1 : min i l.length ≤ 100 := by omega
      have h2 : min i l.length * 2 ^ 490018 ≤ 100 * 2 ^ 490018 := Nat.mul_le_mul_right _ h1
      have h3 : 100 * 2 ^ 490018 < 2 ^ 7 * 2 ^ 490018 := Nat.mul_lt_mul_of_pos_right (by decide) (Nat.two_pow_pos _)
      rw [← Nat.pow_add] at h3
      exact Nat.lt_of_le_of_lt h2 (Nat.lt_of_lt_of_le h3 (p2_le (by omega)))
  · rw [ew x hx, frac_one]
    exact fs_whole (Nat.lt_of_lt_of_le (h x hx).2.2 (p2_le (by omega)))
  · rw [ew x hx, ← frac_one x.1, timesF_frac (by decide) (by decide), Int.mul_one, frac_one]
    exact fs_whole (Nat.lt_of_lt_of_le (pr x hx) (p2_le (by omega)))
/-- small weights, few of them -/
theorem bd_sum {k : Nat} : ∀ (l : List Cw) (a : Nat) (t : Int × Int), (∀ x ∈ l, x.1.natAbs ≤ 8000 ∧ Bd k x.2) → Bd a t → Bd (a + l.length * (k + 14)) (l.foldl (fun t x => plusF t (timesF (x.1, 1) x.2)) t)
  | [], a, t, _, ht => by simpa using ht
  | x :: l, a, t, h, ht => by
    have hx : Bd 13 (x.1, 1) := ⟨show (0 : Int) < 1 by decide, by have := (h x (.head _)).1; show x.1.natAbs < 8192; omega, show (1 : Int).natAbs < 2 ^ 13 by decide⟩
    have h2 := bd_plus ht (bd_times hx (h x (.head _)).2)
    exact (bd_sum l _ _ (fun y hy => h y (.tail _ hy)) h2).mono (by rw [List.length_cons, Nat.succ_mul]; omega)
theorem ss_small {l : List Cw} (hl : l.length ≤ 8) (h : ∀ x ∈ l, x.1.natAbs ≤ 8000 ∧ Bd 500 x.2) : SS l := by
  refine ⟨fun i => ?_, fun x hx => ⟨fs_lt (by have := (h x hx).1; omega), (h x hx).2.fs (by omega), ?_⟩⟩
  · have := bd_sum (k := 500) (l.take i) 1 (0, 1) (fun x hx => h x (List.mem_of_mem_take hx)) bd_zero
    refine Bd.fs this ?_
    rw [List.length_take]
    have : min i l.length ≤ 8 := by omega
    have := Nat.mul_le_mul_right (500 + 14) this
    omega
  · have hx' : Bd 13 (x.1, 1) := ⟨show (0 : Int) < 1 by decide, by have := (h x hx).1; show x.1.natAbs < 8192; omega, show (1 : Int).natAbs < 2 ^ 13 by decide⟩
    exact (bd_times hx' (h x hx).2).fs (by omega)
end JL

namespace JL
open PySem PySem.Spec L2
/-! ### defs of the script, the town and data -/
abbrev RT := List Int → List Int → List D → D → List Int → Prop
def spT (K : PySem.W.Frag) (n : Nat) (R : RT) : Sp := fun vs H Q E => ∃ (S : List Addr) (a q : Addr) (ns ts : List Int) (ws : List V) (ds : List D) (d : D) (ts' : List Int), vs = .ref a :: .ref q :: ws ∧ ws.length = n ∧ RpA S H ws ds ∧ Dom S H ∧ q ∈ S ∧ ScrIn K H a ns ∧ H q = some (.lst (ts.map V.int)) ∧ R ns ts ds d ts' ∧
  ∀ v' H', (∀ b ob, H b = some ob → b ≠ q → H' b = some ob) → H' q = some (.lst (ts'.map V.int)) → Rp S H' v' d → Q v' H'
def rhoT (N : List Str) (K : PySem.W.Frag) (a q : Addr) (ns ts : List Int) (ds : List D) : Rho := (scr a K ns :: twn q ts :: ds.map EV.dat).map some ++ List.replicate (N.length - (ds.length + 2)) none
theorem ok_town {N : List Str} {K : PySem.W.Frag} {S : List Addr} {H : Hp} {a q : Addr} {ns ts : List Int} {ws : List V} {ds : List D} (r : RpA S H ws ds) (dm : Dom S H) (hS : q ∈ S) (hA : ScrIn K H a ns) (hQ : H q = some (.lst (ts.map V.int))) (hN : ds.length + 2 ≤ N.length) :
    Ok ⟨H, [q], S, fun _ _ => False, fun _ _ => False⟩ ⟨S, rhoT N K a q ns ts ds⟩ (L2.start N (.ref a :: .ref q :: ws)) H := by
  have hl : (scr a K ns :: twn q ts :: ds.map EV.dat).length = ds.length + 2 := by simp
  have key : ∀ (i : Nat) ev, (scr a K ns :: twn q ts :: ds.map EV.dat)[i]? = some ev → (i = 0 ∧ ev = scr a K ns) ∨ (i = 1 ∧ ev = twn q ts) ∨ ∃ j d, i = j + 2 ∧ ds[j]? = some d ∧ ev = .dat d := fun i ev h => by
    match i with
    | 0 => cases h; exact .inl ⟨rfl, rfl⟩
    | 1 => cases h; exact .inr (.inl ⟨rfl, rfl⟩)
    | j + 2 =>
      have h : (ds.map EV.dat)[j]? = some ev := h
      rw [List.getElem?_map] at h
      obtain ⟨d, hd, rfl⟩ := Option.map_eq_some_iff.mp h
      exact .inr (.inr ⟨j, d, rfl, hd, rfl⟩)
  have := ok_start (N := N) (S := S) (M := [q]) (H := H) (vs := .ref a :: .ref q :: ws) (evs := scr a K ns :: twn q ts :: ds.map EV.dat) (by simp [r.1]) (by omega) (fun i w ev h1 h2 => ?_) (fun i j e f h1 h2 b m1 m2 => ?_) (fun e he b hb => ?_) (fun e he q' ds' z => ?_) dm (fun b hb => by rw [List.mem_singleton.mp hb]; exact hS)
  · rw [hl] at this
    exact this
  · rcases key i ev h2 with ⟨rfl, rfl⟩ | ⟨rfl, rfl⟩ | ⟨j, d, rfl, hd, rfl⟩
    · cases h1; exact ⟨rfl, (fun _ m => by cases m), hA, scr_sound⟩
    · cases h1; exact ⟨rfl, (fun _ m => by rw [List.mem_singleton.mp m]; exact hS), hQ, twn_sound⟩
    · have h1 : ws[j]? = some w := h1
      exact ⟨w, rfl, r.2 j w d h1 hd⟩
  · have w : ∀ (n : Nat) e, (scr a K ns :: twn q ts :: ds.map EV.dat)[n]? = some e → b ∈ e.foot → n = 1 := fun n e hn hb => by
      rcases key n e hn with ⟨rfl, rfl⟩ | ⟨rfl, rfl⟩ | ⟨j, d, rfl, hd, rfl⟩
      · cases hb
      · rfl
      · cases hb
    rw [w i e h1 m1, w j f h2 m2]
  · obtain ⟨i, hi, e'⟩ := List.getElem_of_mem he
    rcases key i e (by rw [List.getElem?_eq_getElem hi, e']) with ⟨_, rfl⟩ | ⟨_, rfl⟩ | ⟨j, d, _, _, rfl⟩
    · cases hb
    · exact hb
    · cases hb
  · obtain ⟨i, hi, e'⟩ := List.getElem_of_mem he
    rcases key i e (by rw [List.getElem?_eq_getElem hi, e']) with ⟨_, rfl⟩ | ⟨_, rfl⟩ | ⟨j, d, _, _, rfl⟩ <;> cases z
theorem town_at {g : Glob} {x : Str} {st : Stmt} {N ps : List Str} {k n : Nat} {R : RT} (h : DefAt g x st) (S : FnScope N ps (defScope st)) (hn : ps.length = n + 2)
    (hb : ∀ (kV doc pm : Value) (an : Option Addr) (cdv ct : Value) (us : List Value), us.length = ps.length → bindArgs (PySem.W.fnOf x x (defArgs st) (defBody st) (defScope st) .none kV doc pm an cdv ct) ⟨us, []⟩ = pure (ps.zip us))
    (body : ∀ (T : List Addr) (a q : Addr) (ns ts : List Int) (ds : List D) (d : D) (ts' : List Int), R ns ts ds d ts' → ds.length = n → q ∈ T → JSs ⟨g, N, defScope st, k, fun _ => true, true⟩ (defBody st) ⟨T, rhoT N g.K a q ns ts ds⟩ (postRt fun Z d' => d' = d ∧ Z.ρ[1]? = some (some (twn q ts')))) : DefS g x (k + 1) (spT g.K n R) := by
  have hp : ps.length ≤ N.length := by
    have := congrArg List.length S.pre
    rw [List.length_take] at this
    omega
  refine defs_at h S hb (fun vs H Q E h => ?_) fun vs H Q E hsp => ?_
  · obtain ⟨_, _, _, _, _, ws, _, _, _, rfl, hl, _⟩ := h
    simp [hl, hn]
  · obtain ⟨T, a, q, ns, ts, ws, ds, d, ts', rfl, hl, r, dm, hS, hA, hQ, hR, hQQ⟩ := hsp
    have hd : ds.length = n := by rw [← r.1]; exact hl
    refine ⟨⟨H, [q], T, fun _ _ => False, fun _ _ => False⟩, _, _, ok_town r dm hS hA hQ (by omega), ends_rt fun Z d' v σ H' hp ok rv => ?_, body T a q ns ts ds d ts' hR hd hS⟩
    obtain ⟨rfl, hr⟩ := hp
    obtain ⟨_, _, _, _, h2, _⟩ := ok.env 1 _ hr
    exact hQQ v H' (fun b ob e n => ok.out b ob e fun m => n (List.mem_singleton.mp m)) h2 rv
section
variable {G : Ctx} {Z Z1 : State} {e1 e2 : Expr} {es : List Expr} {p pos : Pos} {k n : Nat} {a q : Addr} {ns ts ts' : List Int} {ds : List D} {d : D} {x : Str} {R : RT}
theorem je_town (F : DefS G.g x k (spT G.g.K n R)) (hk : k ≤ G.k) (is it : Nat) (ha : JA G (e1 :: e2 :: es) Z (.ref a :: .ref q :: ds) Z1) (hs : Z1.ρ[is]? = some (some (scr a G.g.K ns))) (ht : Z1.ρ[it]? = some (some (twn q ts))) (hr : R ns ts ds d ts') (hn : ds.length = n := by rfl) (hg : glB G.sc x = true := by kernel_rfl)
    (he : ∀ env, starEach (e1 :: e2 :: es) env = (false, eval e1 env) :: starEach (e2 :: es) env := by intro _; rfl) (hpl : ∀ env, (backTo pos (starEach (e2 :: es) env)).any (·.1) = false := by intro _; rfl) :
    JE G (.Call (.Name x p) (e1 :: e2 :: es) [] pos) Z d ⟨Z1.S, Z1.ρ.set it (some (twn q ts'))⟩ :=
  je_eff F hk ha (fun B σ H vs Q k1 r1 qq => by
    match vs, r1 with
    | [], r1 => have := r1.1; simp at this
    | [_], r1 => have := r1.1; simp at this
    | v1 :: v2 :: ws, r1 =>
      cases r1.head.inv_ref
      cases r1.tail.head.inv_ref
      obtain ⟨_, _, _, _, hp1, _⟩ := k1.env is _ hs
      obtain ⟨_, _, _, hS, hp2, _⟩ := k1.env it _ ht
      refine ⟨Z1.S, a, q, ns, ts, ws, ds, d, ts', rfl, by rw [r1.tail.tail.1]; exact hn, r1.tail.tail, k1.dom, hS q (List.mem_singleton.mpr rfl), hp1, hp2, hr, fun v' H' h1 h2 h3 => ?_⟩
      obtain ⟨k2, kp⟩ := k1.mutRes (H' := H') (P' := fun _ H => H q = some (.lst (ts'.map V.int))) ht (fun b o e n => h1 b o e fun z => n (List.mem_singleton.mpr z)) (fun a m' => by rw [List.mem_singleton.mp m']; exact ⟨_, h2, fun z => z⟩) h2 twn_sound
      exact qq v' H' k2 kp h3) hg he hpl
end
end JL

namespace JL
open PySem PySem.Spec L2 Lp
/-! ### what the law's own sums and entries do -/
abbrev Tw := Nat × Int × (Int × Int)
def encTw (t : Tw) : D := .tup [.int (t.1 : Int), .int t.2.1, frD t.2.2]
def cwP (gs : List Gt) (pw : Nat) (t : Tw) : Cw := (t.2.1 * (gAt gs t.1).1 ^ pw, t.2.2)
def cwE (gs : List Gt) (t : Tw) : Cw := (endOfE gs (t.1, t.2.1), t.2.2)
def lsum (gs : List Gt) (ts : List Tw) (pw : Nat) : Int × Int := sumF (ts.map (cwP gs pw))
def lend (gs : List Gt) (ts : List Tw) : Int × Int := sumF (ts.map (cwE gs))
/-- a sequence of these -/
def Sq (d : D) (ds : List D) : Prop := d = .lst ds ∨ d = .tup ds
theorem ji_sq {G : Ctx} {Z Z1 : State} {tg iter : Expr} {d : D} {ds : List D} (hd : Sq d ds) (h : JE G iter Z d Z1) : JI G tg iter Z ds Z1 := by
  rcases hd with rfl | rfl
  · exact ji_list h
  · exact ji_tup h
theorem je_lenSq {G : Ctx} {Z Z1 : State} {a : Expr} {p pos : Pos} {d : D} {ds : List D} (hd : Sq d ds) (B : Bi G.g) (ha : JA G [a] Z [d] Z1) (hg : glB G.sc "len" = true := by kernel_rfl) (he : ∀ env, starEach [a] env = (false, eval a env) :: starEach [] env := by intro _; rfl) (hpl : ∀ env, (backTo pos (starEach [] env)).any (·.1) = false := by intro _; rfl) : JE G (.Call (.Name "len" p) [a] [] pos) Z (.int ds.length) Z1 := by
  rcases hd with rfl | rfl
  · exact je_lenL B ha hg he hpl
  · exact je_lenT B ha hg he hpl
structure TwOk (gs : List Gt) (d : Nat) (ts : List Tw) : Prop where
  ok : ∀ t ∈ ts, t.1 < gs.length ∧ (t.2.1 = -1 ∨ t.2.1 = 1)
  len : ts.length ≤ 100
  ss : ∀ pw, pw ≤ d → SS (ts.map (cwP gs pw))
  se : SS (ts.map (cwE gs))
def R_lsums : List D → Out → Prop := fun ds o => ∃ (gs : List Gt) (d : Nat) (ts : List Tw) (v : D), GatesOk gs ∧ d ≤ 3 ∧ TwOk gs d ts ∧ Sq v (ts.map encTw) ∧ ds = [encGs gs, .int (d : Int), v] ∧ o = .ret (.lst (((List.range (d + 1)).map fun pw => frD (lsum gs ts pw)) ++ [frD (lend gs ts)]))
structure EntOk (gs : List Gt) (most : Int) (ts : List Tw) : Prop where
  ok : ∀ t ∈ ts, t.1 < gs.length ∧ (t.2.1 = -1 ∨ t.2.1 = 1) ∧ 0 < t.2.2.1
  up : ts.Pairwise fun a b => HT.lexLt [(a.1 : Int), a.2.1] [(b.1 : Int), b.2.1] = true
  few : (ts.length : Int) ≤ most
  len : ts.length < 64
def R_lentries : List D → Out → Prop := fun ds o => ∃ (gs : List Gt) (most : Int) (ts : List Tw) (v : D), gs.length ≤ 8 ∧ EntOk gs most ts ∧ Sq v (ts.map encTw) ∧ ds = [encGs gs, .int most, v] ∧ o = .ret (.bl true)
/-- the powers of a spot, as the law picks them -/
theorem pow_pick {s : Int} {pw : Nat} (h : pw ≤ 3) : atI [D.int 1, .int s, .int (s * s), .int (s * s * s)] (pw : Int) = some (.int (s ^ pw)) := by
  match pw, h with
  | 0, _ => rw [Int.pow_zero]; rfl
  | 1, _ => rw [Int.pow_succ, Int.pow_zero, Int.one_mul]; rfl
  | 2, _ => rw [Int.pow_succ, Int.pow_succ, Int.pow_zero, Int.one_mul]; rfl
  | 3, _ => rw [Int.pow_succ, Int.pow_succ, Int.pow_succ, Int.pow_zero, Int.one_mul]; rfl
theorem lsum_take {gs : List Gt} {ts : List Tw} {f : Tw → Cw} {i : Nat} {t : Tw} (h : ts[i]? = some t) : sumF ((ts.take (i + 1)).map f) = plusF (sumF ((ts.take i).map f)) (timesF ((f t).1, 1) (f t).2) := by
  rw [List.take_add_one, h]
  show sumF ((ts.take i ++ [t]).map f) = _
  rw [List.map_append]
  exact sumF_snoc _ _
/-! drawn roads over the bottom 6 -/
theorem six {c : Int × Int} (h1 : 1 ≤ c.2) (h2 : c.2 ≤ 3) : frac c.1 c.2 = frac (c.1 * (6 / c.2)) 6 := by
  refine frac_eq (by omega) (by decide) ?_
  rcases (by omega : c.2 = 1 ∨ c.2 = 2 ∨ c.2 = 3) with e | e | e <;> rw [e]
  · show c.1 * 6 = c.1 * 6 * 1; omega
  · show c.1 * 6 = c.1 * 3 * 2; omega
  · show c.1 * 6 = c.1 * 2 * 3; omega
/-- a road over one bottom passes a gate if its sums do -/
theorem pass_iff {g : Gt} {y Y : Int} (hY : 0 < Y) : (!decide ((frac y Y).1 * 1 < g.2.1 * (frac y Y).2) && !decide (g.2.2 * (frac y Y).2 < (frac y Y).1 * 1)) = (decide (g.2.1 * Y ≤ y) && decide (y ≤ g.2.2 * Y)) := by
  have h1 := below_frac (a := y) (b := Y) (c := g.2.1) (e := 1) hY (by decide)
  have h2 := below_frac (a := g.2.2) (b := 1) (c := y) (e := Y) (by decide) hY
  rw [frac_one] at h1 h2
  have h1 : (frac y Y).1 * 1 < g.2.1 * (frac y Y).2 ↔ y * 1 < g.2.1 * Y := h1
  have h2 : g.2.2 * (frac y Y).2 < (frac y Y).1 * 1 ↔ g.2.2 * Y < y * 1 := h2
  congr 1
  · rw [← decide_not]
    exact decide_eq_decide.mpr ⟨fun z => by have := fun w => z (h1.mpr w); omega, fun z w => by have := h1.mp w; omega⟩
  · rw [← decide_not]
    exact decide_eq_decide.mpr ⟨fun z => by have := fun w => z (h2.mpr w); omega, fun z w => by have := h2.mp w; omega⟩
/-- gates that are picked out of gates -/
theorem GatesOk.sub {gs hs : List Gt} (h : GatesOk gs) (s : hs.Sublist gs) (ne : hs ≠ []) : GatesOk hs :=
  ⟨by cases hs with | nil => exact absurd rfl ne | cons _ _ => exact Nat.succ_le_succ (Nat.zero_le _), Nat.le_trans s.length_le h.most, fun g m => h.ok g (s.subset m), h.up.sublist s⟩
end JL

namespace JL
open PySem PySem.Spec L2 Lp
/-! ### found roads, found bars, drawn roads: what the law asks of them -/
noncomputable abbrev yL (gs : List Gt) (d : Nat) : List Int := (yOf gs d).dropLast
noncomputable abbrev yB (gs : List Gt) (d : Nat) : Int := -vec (yOf gs d) (d + 1)
theorem vec_dropLast {l : List Int} {i : Nat} (h : i + 1 < l.length) : vec l.dropLast i = vec l i := by
  unfold vec
  rw [List.getD_eq_getElem?_getD, List.getD_eq_getElem?_getD, List.getElem?_dropLast, if_pos (by omega)]
theorem yL_len (gs : List Gt) (d : Nat) : (yL gs d).length = d + 1 := by
  show (yOf gs d).dropLast.length = d + 1
  rw [List.length_dropLast, yOf_len]
  rfl
section
variable {gs : List Gt} {d : Nat}
theorem road_one (hg : GatesOk gs) (h3 : d ≤ 3) (hn : noBar gs d) : OneB (yB gs d) (yL gs d) where
  pos := (road_pass hn).1
  bot := by show (-vec (yOf gs d) (d + 1)).natAbs < _; rw [Int.natAbs_neg]; exact y_size hg h3 _
  top := fun y hy => by
    obtain ⟨j, _, rfl⟩ := vec_mem (List.dropLast_subset _ hy)
    exact y_size hg h3 j
  len := by rw [yL_len]; omega
theorem roadOf_eq (gs : List Gt) (d : Nat) : roadOf gs d = (yL gs d).map fun y => frac y (yB gs d) := rfl
theorem road_low (hn : noBar gs d) : ∀ c ∈ roadOf gs d, Low c := fun c hc => by
  rw [roadOf_eq] at hc
  obtain ⟨y, _, rfl⟩ := List.mem_map.mp hc
  exact low_frac (road_pass hn).1
theorem road_len (gs : List Gt) (d : Nat) : (roadOf gs d).length = d + 1 := by rw [roadOf_eq, List.length_map, yL_len]
/-- roads over one bottom -/
def passI (Y : Int) (ys : List Int) (g : Gt) : Bool := decide (g.2.1 * Y ≤ polyL g.1 ys) && decide (polyL g.1 ys ≤ g.2.2 * Y)
theorem pass_poly {Y : Int} (hY : 0 < Y) (ys : List Int) (g : Gt) : (!decide ((hF (g.1, 1) (ys.map fun y => frac y Y)).1 * 1 < g.2.1 * (hF (g.1, 1) (ys.map fun y => frac y Y)).2) && !decide (g.2.2 * (hF (g.1, 1) (ys.map fun y => frac y Y)).2 < (hF (g.1, 1) (ys.map fun y => frac y Y)).1 * 1)) = passI Y ys g := by
  rw [hF_poly hY, pass_iff hY]
  rfl
theorem road_passes (hn : noBar gs d) : ∀ g ∈ gs, passI (yB gs d) (yL gs d) g = true := fun g hm => by
  obtain ⟨h0, h⟩ := road_pass hn
  obtain ⟨k, hk, e⟩ := List.getElem_of_mem hm
  have ek : gAt gs k = g := by rw [gAt_get hk, e]
  have hp := h k hk
  rw [ek] at hp
  have e1 : polyL g.1 (yL gs d) = sm (d + 1) fun i => vec (yOf gs d) i * g.1 ^ i := by
    rw [poly_sm, yL_len]
    exact sm_congr fun i hi => by rw [vec_dropLast (by rw [yOf_len]; omega)]
  unfold passI
  rw [e1, decide_eq_true hp.1, decide_eq_true hp.2]
  rfl
theorem plus0 (x : Int) : plusF (x, 1) (0, 1) = (x, 1) := by
  show frac (x * 1 + 0 * 1) (1 * 1) = (x, 1)
  rw [Int.mul_one, Int.zero_mul, Int.add_zero, Int.mul_one, frac_one]
theorem numsAll {f : Gt → Bool} (h : ∀ g ∈ gs, f g = true) : (List.range gs.length).filter (fun k => f (gAt gs k)) = List.range gs.length := List.filter_eq_self.mpr fun k hk => h _ (gAt_mem (List.mem_range.mp hk))
/-! bars -/
def wt1 (t : Nat × Int × Int) : Tw := (t.1, t.2.1, (t.2.2, 1))
theorem bar_tw {ts : List (Nat × Int × Int)} (hg : GatesOk gs) (h3 : d ≤ 3) (b : GoodBar gs d ts) : TwOk gs d (ts.map wt1) where
  ok := fun t ht => by
    obtain ⟨u, hu, rfl⟩ := List.mem_map.mp ht
    exact ⟨(b.ok u hu).1, (b.ok u hu).2.1⟩
  len := by rw [List.length_map]; have := b.few; omega
  ss := fun pw hp => by
    refine ss_whole (by rw [List.length_map, List.length_map]; have := b.few; omega) fun x hx => ?_
    obtain ⟨t, ht, rfl⟩ := List.mem_map.mp hx
    obtain ⟨u, hu, rfl⟩ := List.mem_map.mp ht
    obtain ⟨h1, h2, _, h4⟩ := b.ok u hu
    refine ⟨?_, rfl, h4⟩
    have go := hg.ok _ (gAt_mem h1)
    have := pow8000 go.p1 go.p2 (by omega : pw ≤ 3)
    show (u.2.1 * (gAt gs u.1).1 ^ pw).natAbs ≤ 8000
    rw [Int.natAbs_mul]
    rcases h2 with e | e <;> rw [e] <;> simpa using this
  se := by
    refine ss_whole (by rw [List.length_map, List.length_map]; have := b.few; omega) fun x hx => ?_
    obtain ⟨t, ht, rfl⟩ := List.mem_map.mp hx
    obtain ⟨u, hu, rfl⟩ := List.mem_map.mp ht
    obtain ⟨h1, h2, _, h4⟩ := b.ok u hu
    have := end_le hg (e := (u.1, u.2.1)) h1
    exact ⟨by show (endOfE gs (u.1, u.2.1)).natAbs ≤ 8000; omega, rfl, h4⟩
theorem sum_w1 (f : Tw → Cw) (hf : ∀ t, (f t).2 = t.2.2) (ts : List (Nat × Int × Int)) : sumF ((ts.map wt1).map f) = (((ts.map wt1).map fun t => (f t).1 * t.2.2.1).sum, 1) := by
  rw [sumF_one (P := 1) (by decide) (fun x => x.2.1) _ fun x hx => by
    obtain ⟨t, ht, rfl⟩ := List.mem_map.mp hx
    obtain ⟨u, hu, rfl⟩ := List.mem_map.mp ht
    rw [frac_one, hf]
    rfl, frac_one, List.map_map]
  congr 2
  exact List.map_congr_left fun t _ => by show (f t).1 * (f t).2.1 = _; rw [hf]
theorem lsum_bar (gs : List Gt) (ts : List (Nat × Int × Int)) (pw : Nat) : lsum gs (ts.map wt1) pw = (barSum gs ts pw, 1) := by
  unfold lsum
  rw [sum_w1 (cwP gs pw) (fun _ => rfl), List.map_map]
  rfl
theorem lend_bar (gs : List Gt) (ts : List (Nat × Int × Int)) : lend gs (ts.map wt1) = (barEnd gs ts, 1) := by
  unfold lend
  rw [sum_w1 (cwE gs) (fun _ => rfl), List.map_map]
  rfl
theorem bar_ent {ts : List (Nat × Int × Int)} (h3 : d ≤ 3) (b : GoodBar gs d ts) : EntOk gs ((d : Int) + 2) (ts.map wt1) where
  ok := fun t ht => by
    obtain ⟨u, hu, rfl⟩ := List.mem_map.mp ht
    exact ⟨(b.ok u hu).1, (b.ok u hu).2.1, (b.ok u hu).2.2.1⟩
  up := List.pairwise_map.mpr b.up
  few := by rw [List.length_map]; have := b.few; omega
  len := by rw [List.length_map]; have := b.few; omega
/-! drawn roads -/
abbrev fr6 (cs : List (Int × Int)) : List Int := cs.map fun c => c.1 * (6 / c.2)
theorem curve6 {cs : List (Int × Int)} (h : ∀ c ∈ cs, -4 ≤ c.1 ∧ c.1 ≤ 4 ∧ 1 ≤ c.2 ∧ c.2 ≤ 3) : cs.map (fun c => frac c.1 c.2) = (fr6 cs).map fun y => frac y 6 := by
  rw [List.map_map]
  exact List.map_congr_left fun c hc => six (h c hc).2.2.1 (h c hc).2.2.2
theorem curve_one {cs : List (Int × Int)} (hl : cs.length ≤ 4) (h : ∀ c ∈ cs, -4 ≤ c.1 ∧ c.1 ≤ 4 ∧ 1 ≤ c.2 ∧ c.2 ≤ 3) : OneB 6 (fr6 cs) where
  pos := by decide
  bot := Nat.lt_of_lt_of_le (show (6 : Int).natAbs < 2 ^ 3 by decide) (p2_le (by decide))
  top := fun y hy => by
    obtain ⟨c, hc, rfl⟩ := List.mem_map.mp hy
    obtain ⟨h1, h2, h4, h5⟩ := h c hc
    refine Nat.lt_of_lt_of_le (?_ : _ < 2 ^ 6) (p2_le (by decide))
    rcases (by omega : c.2 = 1 ∨ c.2 = 2 ∨ c.2 = 3) with e | e | e <;> rw [e]
    · show (c.1 * 6).natAbs < 64; omega
    · show (c.1 * 3).natAbs < 64; omega
    · show (c.1 * 2).natAbs < 64; omega
  len := by rw [List.length_map]; exact hl
theorem curve_bd {c : Int × Int} (h : -4 ≤ c.1 ∧ c.1 ≤ 4 ∧ 1 ≤ c.2 ∧ c.2 ≤ 3) : Bd 10 (frac c.1 c.2) := bd_frac (by omega) (by show _ < 1024; omega) (by show _ < 1024; omega)
theorem curve_low {cs : List (Int × Int)} (h : ∀ c ∈ cs, -4 ≤ c.1 ∧ c.1 ≤ 4 ∧ 1 ≤ c.2 ∧ c.2 ≤ 3) : ∀ c ∈ cs.map (fun c => frac c.1 c.2), Low c := fun c hc => by
  obtain ⟨x, hx, rfl⟩ := List.mem_map.mp hc
  exact low_frac (by have := h x hx; omega)
/-- gates that a road over one bottom passes have no bar -/
theorem pass_noBar {hs : List Gt} {Y : Int} {ys : List Int} (hY : 0 < Y) (hl : ys.length = d + 1) (h : ∀ g ∈ hs, passI Y ys g = true) : noBar hs d := by
  refine noBar_pass (y := vec ys) (Y := Y) ⟨hY, fun k hk => ?_⟩
  have := h _ (gAt_mem hk)
  unfold passI at this
  rw [poly_sm, hl, Bool.and_eq_true, decide_eq_true_eq, decide_eq_true_eq] at this
  exact this
end
end JL

namespace JL
open PySem PySem.Spec L2
def topS (i : Nat) : Stmt := PySem.Challenge.pw_gateroads_k10_whole_passing.main.body.getD i (.Pass ⟨0, 0, 0, 0⟩)

/-! divisor_of -/
theorem sc_divisor_of : FnScope ["one", "other"] ["one", "other"] (defScope (topS 2)) := ⟨rfl, rfl, rfl, by decide +kernel, rfl, by decide +kernel, by decide +kernel⟩
theorem abs_nat (a : Int) : (if a < 0 then -a else a) = (a.natAbs : Int) := by split <;> omega
theorem ok_divisor_of {g : Glob} {k : Nat} (h : DefAt g "divisor_of" (topS 2)) (B : Bi g) : Def g "divisor_of" 2 (k + 1) R_divisor := by
  refine def_at h sc_divisor_of (fun _ _ _ _ _ _ us hl => match us, hl with | [_, _], _ => rfl) fun T ds o hR hl => ?_
  obtain ⟨a, b, rfl, rfl⟩ := hR
  refine js_cons (js_par 0 1 (ja_cons (je_abs B (ja_cons (nm 0 rfl) ja_nil)) (ja_cons (je_abs B (ja_cons (nm 1 rfl) ja_nil)) ja_nil)) ?_ (fun env he => by obtain ⟨_, _, _, _, _, _, _, _, _⟩ := env; cases he; kernel_rfl))
  rw [abs_nat, abs_nat]
  refine js_mid (fun Z => Z = ⟨T, [some (.dat (.int (Int.gcd a b : Nat))), some (.dat (.int 0))]⟩) (js_while (fun m Z => ∃ x y : Nat, m = y ∧ Int.gcd (x : Int) (y : Int) = Int.gcd a b ∧ Z = ⟨T, [some (.dat (.int x)), some (.dat (.int y))]⟩) b.natAbs ⟨a.natAbs, b.natAbs, rfl, by rw [Int.gcd_natCast_natCast]; rfl, rfl⟩ (fun m Z hI => ?_)) ?_
  · obtain ⟨x, y, rfl, hg, rfl⟩ := hI
    refine ⟨!decide ((m : Int) = 0), _, jt_neI (nm 1 rfl) je_int, fun ht => ?_, fun ht => ?_⟩
    · have hy : 0 < m := by
        simp only [Bool.not_eq_true', decide_eq_false_iff_not] at ht
        omega
      refine js_cons (js_par 0 1 (ja_cons (nm 1 rfl) (ja_cons (je_mod (nm 0 rfl) (nm 1 rfl) (by omega)) ja_nil)) ?_ (fun env he => by obtain ⟨_, _, _, _, _, _, _, _, _⟩ := env; cases he; kernel_rfl))
      refine js_nil ⟨x % m, Nat.mod_lt _ hy, m, x % m, rfl, ?_, ?_⟩
      · rw [Int.natCast_emod, gcd_mod hy, hg]
      · show State.mk _ _ = State.mk _ _
        rw [Int.natCast_emod]
        rfl
    · have hy : m = 0 := by
        simp only [Bool.not_eq_false', decide_eq_true_eq] at ht
        omega
      subst hy
      show State.mk _ _ = State.mk _ _
      rw [← hg]
      simp
  · rintro _ rfl
    exact js_cons (js_ret (nm 0 rfl) rfl)

/-! shortened -/
theorem sc_shortened : FnScope ["numbers", "by", "one"] ["numbers"] (defScope (topS 3)) := ⟨rfl, rfl, rfl, by decide +kernel, rfl, by decide +kernel, by decide +kernel⟩
theorem ok_shortened {g : Glob} {k : Nat} (h : DefAt g "shortened" (topS 3)) (B : Bi g) (FD : Def g "divisor_of" 2 k R_divisor) : Def g "shortened" 1 (k + 1) R_shortened := by
  refine def_at h sc_shortened (fun _ _ _ _ _ _ us hl => match us, hl with | [_], _ => rfl) fun T ds o hR hl => ?_
  obtain ⟨ns, hz, hs, rfl, rfl⟩ := hR
  refine js_cons (js_set 1 je_int ?_)
  refine js_cons (js_for (ji_list (nm 0 rfl)) (fun i Z => ∃ x : Option D, Z = ⟨T, [some (.dat (encI ns)), some (.dat (.int (Lp.gcdL (ns.take i) : Nat))), x.map EV.dat]⟩) ⟨none, rfl⟩ (fun i d Z hd hI => ?_) fun Z hI => ?_)
  · obtain ⟨x, rfl⟩ := hI
    rw [List.getElem?_map] at hd
    cases hn : ns[i]? with
    | none => rw [hn] at hd; cases hd
    | some n =>
      rw [hn] at hd
      cases hd
      refine ⟨_, jg_name 2, js_cons (js_set 1 (je_call FD (Nat.le_refl _) (ja_cons (nm 1 rfl) (ja_cons (nm 2 rfl) ja_nil)) ⟨_, _, rfl, rfl⟩) ?_)⟩
      have e : Int.gcd ((Lp.gcdL (ns.take i) : Nat) : Int) n = Lp.gcdL (ns.take (i + 1)) := by rw [gcdL_take hn]; exact gcd_of _ _
      rw [e]
      refine js_cons (js_if (jt_eqI (nm 1 rfl) je_int) (fun h1 => ?_) fun h1 => js_nil ?_)
      · refine js_cons (js_ret (je_listL B (ja_cons (nm 0 rfl) ja_nil)) ?_)
        have h2 : Lp.gcdL (ns.take (i + 1)) = 1 := by have := of_decide_eq_true h1; omega
        show Out.ret _ = Out.ret _
        rw [shorten_one (by rw [gcdL_take1 h2]; exact Nat.le_refl _)]
      · exact js_nil ⟨some (.int n), rfl⟩
  · obtain ⟨x, rfl⟩ := hI
    rw [List.length_map, List.take_length]
    refine js_cons (js_ret (d := encI (Lp.shorten ns)) (je_ifP (jt_gt (nm 1 rfl) je_int) (fun h1 => ?_) fun h1 => ?_) rfl)
    · have h2 : 1 < Lp.gcdL ns := by have := of_decide_eq_true h1; omega
      refine JE.cast (JLc.je (lc0 (xs := ns) (enc := D.int) (own := [("one", 2)]) (tv := [2]) (fun n => .int (n / ((Lp.gcdL ns : Nat) : Int))) (ji_list (nm 0 rfl)) (by omega) (fun T n hn => ⟨_, jgw_name 2, rfl, je_fdiv (nm 2 rfl) (nm 1 rfl) ⟨by omega, ?_⟩⟩) (hvs := by cases x <;> rfl))) ?_
      · rw [Int.natAbs_natCast]
        exact log_of (x := ((Lp.gcdL ns : Nat) : Int)) (by rw [Int.natAbs_natCast]; exact gcdL_lt hs) (by omega)
      · unfold Lp.shorten
        rw [if_pos h2]
        show D.lst _ = D.lst (List.map D.int (List.map _ ns))
        rw [List.map_map]
        rfl
    · have h2 : Lp.gcdL ns ≤ 1 := by have := of_decide_eq_false h1; omega
      refine JE.cast (je_listL B (ja_cons (nm 0 rfl) ja_nil)) ?_
      rw [shorten_one h2]

/-! fraction -/
theorem sc_fraction : FnScope ["top", "bottom", "by"] ["top", "bottom"] (defScope (topS 4)) := ⟨rfl, rfl, rfl, by decide +kernel, rfl, by decide +kernel, by decide +kernel⟩
theorem ok_fraction {g : Glob} {k : Nat} (h : DefAt g "fraction" (topS 4)) (B : Bi g) (FD : Def g "divisor_of" 2 k R_divisor) : Def g "fraction" 2 (k + 1) R_fraction := by
  refine def_at h sc_fraction (fun _ _ _ _ _ _ us hl => match us, hl with | [_, _], _ => rfl) fun T ds o hR hl => ?_
  obtain ⟨t, b, hb, hz, rfl, rfl⟩ := hR
  refine js_cons (js_set 2 (je_call FD (Nat.le_refl _) (ja_cons (nm 0 rfl) (ja_cons (nm 1 rfl) ja_nil)) ⟨_, _, rfl, rfl⟩) ?_)
  have hg : (0 : Int) < Int.gcd t b := (Lp.frac_ok hb).2.2.2.2.2
  have hgl : Int.gcd t b ≤ b.natAbs := Nat.le_of_dvd (by omega) (Nat.gcd_dvd_right _ _)
  have hd : CDivW t (Int.gcd t b : Nat) := ⟨hg, log_of (x := ((Int.gcd t b : Nat) : Int)) (by rw [Int.natAbs_natCast]; exact Nat.lt_of_le_of_lt hgl hz) (by omega)⟩
  refine js_cons (js_set 2 (d := .int (Int.gcd t b : Nat)) (je_ifP (jt_gt (nm 1 rfl) je_int) (fun _ => nm 2 rfl) fun h1 => absurd hb (of_decide_eq_false h1)) ?_)
  exact js_cons (js_ret (je_tup (ja_cons (je_fdiv (nm 0 rfl) (nm 2 rfl) hd) (ja_cons (je_fdiv (nm 1 rfl) (nm 2 rfl) hd) ja_nil))) rfl)

/-! cleared -/
theorem sc_cleared : FnScope ["row", "other", "place", "factor", "pivot", "one", "two"] ["row", "other", "place"] (defScope (topS 32)) := ⟨rfl, rfl, rfl, by decide +kernel, rfl, by decide +kernel, by decide +kernel⟩
theorem zipd_ints (a b : List Int) : zipd (a.map D.int) (b.map D.int) = (a.zip b).map fun q => D.tup [.int q.1, .int q.2] := by
  induction a generalizing b with
  | nil => rfl
  | cons x a ih =>
    cases b with
    | nil => rfl
    | cons y b =>
      show D.tup [.int x, .int y] :: zipd (a.map D.int) (b.map D.int) = _
      rw [ih]
      rfl
theorem zip_map (f : Int → Int → Int) (a b : List Int) : (a.zip b).map (fun q => D.int (f q.1 q.2)) = (a.zipWith f b).map D.int := by
  induction a generalizing b with
  | nil => rfl
  | cons x a ih =>
    cases b with
    | nil => rfl
    | cons y b =>
      show D.int (f x y) :: (a.zip b).map _ = D.int (f x y) :: (a.zipWith f b).map D.int
      rw [ih]
theorem two_pow_le {a b : Nat} (h : a ≤ b) : 2 ^ a ≤ 2 ^ b := Nat.pow_le_pow_right (by decide) h
theorem sz_clear {r u : List Int} {p f : Int} (hr : szL 4400 r) (hu : szL 4400 u) (hp : p.natAbs < 2 ^ 4400) (hf : f.natAbs < 2 ^ 4400) : szL 9000 (r.zipWith (fun a b => a * p - f * b) u) := fun n hn => by
  obtain ⟨i, hi, e⟩ := List.getElem_of_mem hn
  rw [List.getElem_zipWith] at e
  rw [List.length_zipWith] at hi
  have h1 := hr _ (List.getElem_mem (show i < r.length by omega))
  have h2 := hu _ (List.getElem_mem (show i < u.length by omega))
  have g : ∀ x y : Int, x.natAbs < 2 ^ 4400 → y.natAbs < 2 ^ 4400 → (x * y).natAbs < 2 ^ 8800 := fun x y hx hy => by
    rw [Int.natAbs_mul]
    have := Nat.mul_lt_mul'' hx hy
    rwa [← Nat.pow_add] at this
  have g1 := g _ _ h1 hp
  have g2 := g _ _ hf h2
  have g3 := Int.natAbs_sub_le (r[i]'(by omega) * p) (f * u[i]'(by omega))
  rw [← e]
  have g4 : 2 * 2 ^ 8800 ≤ 2 ^ 9000 := by rw [← Nat.pow_succ']; exact two_pow_le (by omega)
  omega
theorem ok_cleared {g : Glob} {k : Nat} (h : DefAt g "cleared" (topS 32)) (B : Bi g) (FS : Def g "shortened" 1 k R_shortened) : Def g "cleared" 3 (k + 1) R_cleared := by
  refine def_at h sc_cleared (fun _ _ _ _ _ _ us hl => match us, hl with | [_, _, _], _ => rfl) fun T ds o hR hl => ?_
  obtain ⟨r, u, s, hlen, hs, hw, hr, hu, rfl, rfl⟩ := hR
  refine js_cons (js_asgE (je_tup (ja_cons (je_ixL (nm 0 rfl) (nm 2 rfl) (atI_vec (by omega))) (ja_cons (je_ixL (nm 1 rfl) (nm 2 rfl) (atI_vec hs)) ja_nil))) (jg_tup (jgs_cons (jg_name 3) (jgs_cons (jg_name 4) jgs_nil))) ?_ (fun env he => by obtain ⟨_, _, _, _, _, _, _, _, _⟩ := env; cases he; kernel_rfl))
  refine js_cons (js_if (jt_eqI (nm 3 rfl) je_int) (fun h1 => ?_) fun h1 => js_nil ?_)
  · refine js_cons (js_ret (nm 0 rfl) ?_)
    have h2 := of_decide_eq_true h1
    show Out.ret _ = Out.ret _
    unfold Lp.cleared
    rw [if_pos h2]
  · have h2 := of_decide_eq_false h1
    have e : Lp.cleared r u s = Lp.shorten (r.zipWith (fun a b => a * Lp.vec u s - Lp.vec r s * b) u) := by
      unfold Lp.cleared
      rw [if_neg h2]
    rw [e]
    have sz := sz_clear hr hu (hu.vec s) (hr.vec s)
    refine js_cons (js_ret (je_call FS (Nat.le_refl _) (ja_cons (JE.cast (JLc.je (lc0 (xs := r.zip u) (enc := fun q => D.tup [.int q.1, .int q.2]) (own := [("one", 5), ("two", 6)]) (tv := [5, 6]) (fun q => .int (q.1 * Lp.vec u s - Lp.vec r s * q.2)) (JI.cast (ji_zp B (ja_cons (nm 0 rfl) (ja_cons (nm 1 rfl) ja_nil))) (zipd_ints r u)) (by rw [List.length_zip]; omega) (fun T q hq => ?_))) ?_) ja_nil) ⟨_, ?_, sz, rfl, rfl⟩) rfl)
    · have q1 := hr _ (List.of_mem_zip hq).1
      have q2 := hu _ (List.of_mem_zip hq).2
      exact ⟨_, jgw_tup (jgsw_cons (jgw_name 5) (jgsw_cons (jgw_name 6) jgsw_nil)), rfl, je_sub (je_mul (nm 5 rfl) (nm 4 rfl) (mul44 q1 (hu.vec s))) (je_mul (nm 3 rfl) (nm 6 rfl) (mul44 (hr.vec s) q2))⟩
    · show D.lst _ = D.lst _
      rw [zip_map (fun a b => a * Lp.vec u s - Lp.vec r s * b)]
    · rw [List.length_zipWith]; omega

/-! Equations.turn -/
theorem sc_turn : FnScope ["self", "costs", "at", "place", "row", "number"] ["self", "costs", "at", "place"] (defScope (inClass (topS 31) 1)) := ⟨rfl, rfl, rfl, by decide +kernel, rfl, by decide +kernel, by decide +kernel⟩
def partR (rows : List (List Int)) (l s i : Nat) : List (List Int) := (Lp.turnR rows l s).take i ++ rows.drop i
theorem partR_0 (rows : List (List Int)) (l s : Nat) : partR rows l s 0 = rows := by simp [partR]
theorem partR_n (rows : List (List Int)) (l s : Nat) : partR rows l s rows.length = Lp.turnR rows l s := by
  unfold partR
  rw [List.drop_length, List.append_nil, ← Lp.turnR_len rows l s, List.take_length]
theorem partR_len {rows : List (List Int)} {l s i : Nat} (h : i ≤ rows.length) : (partR rows l s i).length = rows.length := by
  unfold partR
  rw [List.length_append, List.length_take, List.length_drop, Lp.turnR_len]
  omega
theorem partR_row {rows : List (List Int)} {l s i : Nat} (h : i < rows.length) : Lp.row (partR rows l s i) i = Lp.row rows i := by
  unfold partR
  have e : ((Lp.turnR rows l s).take i).length = i := by rw [List.length_take, Lp.turnR_len]; omega
  rw [Lp.row_right (by omega), e, Nat.sub_self, Lp.row_get (by rw [List.length_drop]; omega), Lp.row_get h, List.getElem_drop]
  congr 1
theorem partR_set {rows : List (List Int)} {l s i : Nat} (h : i < rows.length) : (partR rows l s i).set i (Lp.row (Lp.turnR rows l s) i) = partR rows l s (i + 1) := by
  have ht : i < (Lp.turnR rows l s).length := by rw [Lp.turnR_len]; exact h
  apply List.ext_getElem?
  intro j
  unfold partR
  rw [List.getElem?_set]
  have e : ((Lp.turnR rows l s).take i).length = i := by rw [List.length_take]; omega
  have e2 : ((Lp.turnR rows l s).take (i + 1)).length = i + 1 := by rw [List.length_take]; omega
  by_cases hj : i = j
  · subst hj
    rw [if_pos rfl, if_pos (by rw [List.length_append, e, List.length_drop]; omega), List.getElem?_append_left (by omega), List.getElem?_take, if_pos (by omega), List.getElem?_eq_getElem ht, Lp.row_get ht]
  · rw [if_neg hj]
    by_cases hlt : j < i
    · rw [List.getElem?_append_left (by omega), List.getElem?_append_left (by omega), List.getElem?_take, List.getElem?_take, if_pos hlt, if_pos (by omega)]
    · rw [List.getElem?_append_right (by omega), List.getElem?_append_right (by omega), e, e2, List.getElem?_drop, List.getElem?_drop]
      congr 1
      omega
theorem partR_same {rows : List (List Int)} {l s : Nat} (h : l < rows.length) : partR rows l s (l + 1) = partR rows l s l := by
  rw [← partR_set h]
  have hl : l < (partR rows l s l).length := by rw [partR_len (by omega)]; exact h
  have e : Lp.row (Lp.turnR rows l s) l = (partR rows l s l)[l] := by
    rw [Lp.row_turnR h, if_pos rfl, ← partR_row (s := s) h, Lp.row_get hl]
  rw [e, List.set_getElem_self]
theorem rng_nat {m : Nat} {i : Nat} {d : D} (h : (rng 0 (m : Int))[i]? = some d) : i < m ∧ d = .int (i : Int) := by
  unfold rng at h
  rw [List.getElem?_map] at h
  cases q : (List.range ((m : Int) - 0).toNat)[i]? with
  | none => rw [q] at h; cases h
  | some j =>
    rw [q] at h
    obtain ⟨h1, h2⟩ := List.getElem?_eq_some_iff.mp q
    rw [List.length_range] at h1
    rw [List.getElem_range] at h2
    subst h2
    cases h
    refine ⟨by omega, ?_⟩
    show D.int (0 + (i : Int)) = _
    rw [Int.zero_add]
theorem rng_natlen (m : Nat) : (rng 0 (m : Int)).length = m := by rw [rng_len]; omega
theorem ok_turn {g : Glob} {k : Nat} {C : Addr} (h : MethAt g C "turn" "Equations.turn" (inClass (topS 31) 1)) (B : Bi g) (K : CK g C eqN) (FC : Def g "cleared" 3 k R_cleared) : MethS g C "turn" (k + 1) (spM C 3 R_turn) := by
  refine meth_at h sc_turn rfl (fun _ _ _ _ _ _ us hl => match us, hl with | [_, _, _, _], _ => rfl) fun T a dx fs fs' ds o hR hf hl => ?_
  obtain ⟨n, sg, rr, rb, rows, basis, costs, w, l, s, ro, hc, hcs, hlr, hs, rfl, rfl, rfl, rfl⟩ := hR
  have hb := ro.bl
  have h100 := ro.few
  have hw := ro.w1
  refine js_cons (js_set 4 (je_ixR (je_fldR 0 2 K (nmT 0 rfl) rfl rfl) (nm 2 rfl) (has_thg 0 2 rfl rfl) (atI_row hlr)) ?_)
  refine js_cons (js_for (JI.cast (ji_r1 B (ja_cons (je_lenR B (ja_cons (je_fldR 0 2 K (nmT 0 rfl) rfl rfl) ja_nil) (has_thg 0 2 rfl rfl)) ja_nil) (by rw [List.length_map]; omega)) (by rw [List.length_map])) (fun i Z => ∃ x : Option D, Z = ⟨T, [some (thg (.ref a) (.ref a) C a dx (eqF n sg rr (partR rows l s i) rb basis)), some (.dat (encI costs)), some (.dat (.int (l : Int))), some (.dat (.int (s : Int))), some (.dat (encI (Lp.row rows l))), x.map EV.dat]⟩) ⟨none, by rw [partR_0]; rfl⟩ (fun i d Z hd hI => ?_) fun Z hI => ?_)
  · obtain ⟨x, rfl⟩ := hI
    obtain ⟨hi, rfl⟩ := rng_nat hd
    refine ⟨_, jg_name 5, js_cons (js_if (jt_neI (nm 5 rfl) (nm 2 rfl)) (fun h1 => ?_) fun h1 => ?_)⟩
    · have ne : i ≠ l := by
        simp only [Bool.not_eq_true', decide_eq_false_iff_not] at h1
        omega
      have hpl : i < (partR rows l s i).length := by rw [partR_len (by omega)]; exact hi
      refine js_cons (js_setLi 0 2 (l := i) (je_call FC (Nat.le_refl _) (ja_cons (je_ixR (je_fldR 0 2 K (nmT 0 rfl) rfl rfl) (nm 5 rfl) (has_thg 0 2 rfl rfl) (atI_row hpl)) (ja_cons (nm 4 rfl) (ja_cons (nm 3 rfl) ja_nil))) ⟨Lp.row rows i, Lp.row rows l, s, ?_, ?_, ?_, ?_, ?_, ?_, rfl⟩) (je_fldR 0 2 K (nmT 0 rfl) rfl rfl) (nm 5 rfl) rfl rfl (ixN_nat (by rw [List.length_map]; exact hpl)) (js_nil (js_nil ⟨some (.int (i : Int)), ?_⟩)))
      · rw [ro.wid _ (Lp.row_mem hi), ro.wid _ (Lp.row_mem hlr)]
      · rw [ro.wid _ (Lp.row_mem hlr)]; exact hs
      · rw [ro.wid _ (Lp.row_mem hlr)]; exact hw
      · exact ro.sz _ (Lp.row_mem hi)
      · exact ro.sz _ (Lp.row_mem hlr)
      · rw [partR_row hi]
      · have e : Lp.cleared (Lp.row rows i) (Lp.row rows l) s = Lp.row (Lp.turnR rows l s) i := by rw [Lp.row_turnR hi, if_neg ne]
        rw [e, ← partR_set hi, eqF_rows]
        rfl
    · have eq : i = l := by
        simp only [Bool.not_eq_false', decide_eq_true_eq] at h1
        omega
      refine js_nil (js_nil ⟨some (.int (i : Int)), ?_⟩)
      subst eq
      rw [partR_same hi]
      rfl
  · obtain ⟨x, rfl⟩ := hI
    rw [rng_natlen, partR_n]
    refine js_cons (js_setLi 0 3 (l := l) (nm 3 rfl) (je_fldR 0 3 K (nmT 0 rfl) rfl rfl) (nm 2 rfl) rfl rfl (ixN_nat (by rw [List.length_map]; omega)) ?_)
    refine js_cons (js_ret (je_call FC (Nat.le_refl _) (ja_cons (nm 1 rfl) (ja_cons (nm 4 rfl) (ja_cons (nm 3 rfl) ja_nil))) ⟨costs, Lp.row rows l, s, ?_, ?_, ?_, hcs, ?_, rfl, rfl⟩) ⟨rfl, ?_⟩)
    · rw [hc, ro.wid _ (Lp.row_mem hlr)]
    · rw [ro.wid _ (Lp.row_mem hlr)]; exact hs
    · rw [ro.wid _ (Lp.row_mem hlr)]; exact hw
    · exact ro.sz _ (Lp.row_mem hlr)
    · rw [eqF_basis]
      rfl

/-! Equations.leaving -/
theorem sc_leaving : FnScope ["self", "place", "best", "number", "row", "one", "two"] ["self", "place"] (defScope (inClass (topS 31) 2)) := ⟨rfl, rfl, rfl, by decide +kernel, rfl, by decide +kernel, by decide +kernel⟩
theorem ok_leaving {g : Glob} {k : Nat} {C : Addr} (h : MethAt g C "leaving" "Equations.leaving" (inClass (topS 31) 2)) (B : Bi g) (K : CK g C eqN) : MethS g C "leaving" (k + 1) (spM C 1 R_leaving) := by
  refine meth_at h sc_leaving rfl (fun _ _ _ _ _ _ us hl => match us, hl with | [_, _], _ => rfl) fun T a dx fs fs' ds o hR hf hl => ?_
  obtain ⟨n, sg, rr, rb, rows, basis, w, s, ro, hs, rfl, rfl, rfl, rfl⟩ := hR
  have hb := ro.bl
  refine js_cons (js_set 2 je_non ?_)
  refine js_cons (js_forR (jir_enum B (ja_cons (je_fldR 0 2 K (nmT 0 rfl) rfl rfl) ja_nil) (has_thg 0 2 rfl rfl)) (fun i Z => ∃ x3 x4 x5 x6 : Option D, Z = ⟨T, [some (thg (.ref a) (.ref a) C a dx (eqF n sg rr rows rb basis)), some (.dat (.int (s : Int))), some (.dat (optD (Lp.leav rows basis s (w - 1) i))), x3.map EV.dat, x4.map EV.dat, x5.map EV.dat, x6.map EV.dat]⟩) ⟨none, none, none, none, rfl⟩ (fun i Z hI => by obtain ⟨x3, x4, x5, x6, rfl⟩ := hI; exact has_thg 0 2 rfl rfl) (fun i d Z hd hI => ?_) fun Z hI => ?_)
  · obtain ⟨x3, x4, x5, x6, rfl⟩ := hI
    obtain ⟨d', hd', rfl⟩ := numd_get hd
    rw [List.getElem?_map] at hd'
    cases hn : rows[i]? with
    | none => rw [hn] at hd'; cases hd'
    | some r =>
      rw [hn] at hd'
      cases hd'
      obtain ⟨hi, hr⟩ := List.getElem?_eq_some_iff.mp hn
      have er : Lp.row rows i = r := by rw [Lp.row_get hi]; exact hr
      have rw_ : r.length = w := ro.wid r (by rw [← hr]; exact List.getElem_mem hi)
      have rs : szL 4400 r := ro.sz r (by rw [← hr]; exact List.getElem_mem hi)
      refine ⟨_, jg_tup (jgs_cons (jg_name 3) (jgs_cons (jg_name 4) jgs_nil)), js_cons (js_if (jt_gt (je_ixL (nm 4 rfl) (nm 1 rfl) (atI_vec (by omega))) je_int) (fun h1 => ?_) fun h1 => js_nil (js_nil ⟨some (.int (i : Int)), some (encI r), x5, x6, ?_⟩))⟩
      · have hp := of_decide_eq_true h1
        cases hb0 : Lp.leav rows basis s (w - 1) i with
        | none =>
          refine js_cons (js_if (jt_isN (nm 2 rfl)) (fun _ => js_cons (js_set 2 (nm 3 rfl) (js_nil (js_nil (js_nil ⟨some (.int (i : Int)), some (encI r), x5, x6, ?_⟩))))) (fun z => by cases z))
          have e : Lp.leav rows basis s (w - 1) (i + 1) = some i := by
            unfold Lp.leav
            rw [er, if_pos hp, hb0]
          rw [e]
          rfl
        | some b =>
          obtain ⟨hbi, hbp, _⟩ := Lp.leav_some hb0
          have hbr : b < rows.length := by omega
          have bw : (Lp.row rows b).length = w := ro.wid _ (Lp.row_mem hbr)
          have bs : szL 4400 (Lp.row rows b) := ro.sz _ (Lp.row_mem hbr)
          have q1 : atI (r.map D.int) (-1) = some (.int (Lp.vec r (w - 1))) := by rw [← rw_]; exact atI_vlast (k := 1) (by omega) (by omega)
          have q2 : atI ((Lp.row rows b).map D.int) (-1) = some (.int (Lp.vec (Lp.row rows b) (w - 1))) := by rw [← bw]; exact atI_vlast (k := 1) (by omega) (by omega)
          have eb : Lp.leav rows basis s (w - 1) (i + 1) = if Lp.better rows basis s (w - 1) b i = true then some i else some b := by
            show (if 0 < Lp.vec (Lp.row rows i) s then _ else _) = _
            rw [er, if_pos hp, hb0]
          refine js_cons (js_if (jt_isN (nm 2 rfl)) (fun z => by cases z) (fun _ => ?_))
          refine js_cons (js_par 5 6 (ja_cons (je_mul (je_ixL (nm 4 rfl) (je_neg je_int) q1) (je_ixL (je_ixR (je_fldR 0 2 K (nmT 0 rfl) rfl rfl) (nm 2 rfl) (has_thg 0 2 rfl rfl) (atI_row hbr)) (nm 1 rfl) (atI_vec (by omega))) (mul44 (rs.vec _) (bs.vec _)))
            (ja_cons (je_mul (je_ixL (je_ixR (je_fldR 0 2 K (nmT 0 rfl) rfl rfl) (nm 2 rfl) (has_thg 0 2 rfl rfl) (atI_row hbr)) (je_neg je_int) q2) (je_ixL (nm 4 rfl) (nm 1 rfl) (atI_vec (by omega))) (mul44 (bs.vec _) (rs.vec _))) ja_nil)) ?_ (fun env he => by obtain ⟨_, _, _, _, _, _, _, _, _⟩ := env; cases he; kernel_rfl))
          refine js_cons (js_if (t := Lp.better rows basis s (w - 1) b i) (jt_w (JW.cast (jw_or (jt_lt (nm 5 rfl) (nm 6 rfl)) fun _ => jw_or1 (jt_w (jw_and (jt_eqI (nm 5 rfl) (nm 6 rfl)) fun _ => jw_and1 (jt_lt (je_ixR (je_fldR 0 3 K (nmT 0 rfl) rfl rfl) (nm 3 rfl) (has_thg 0 3 rfl rfl) (atI_bas (by omega))) (je_ixR (je_fldR 0 3 K (nmT 0 rfl) rfl rfl) (nm 2 rfl) (has_thg 0 3 rfl rfl) (atI_bas (by omega))))))) ?_)) (fun h2 => ?_) fun h2 => ?_)
          · unfold Lp.better
            rw [er]
            congr 2
            exact decide_eq_decide.mpr Int.ofNat_lt
          · refine js_cons (js_set 2 (nm 3 rfl) (js_nil (js_nil (js_nil (js_nil ⟨some (.int (i : Int)), some (encI r), some (.int (Lp.vec r (w - 1) * Lp.vec (Lp.row rows b) s)), some (.int (Lp.vec (Lp.row rows b) (w - 1) * Lp.vec r s)), ?_⟩)))))
            rw [eb, if_pos h2]
            rfl
          · refine js_nil (js_nil (js_nil (js_nil ⟨some (.int (i : Int)), some (encI r), some (.int (Lp.vec r (w - 1) * Lp.vec (Lp.row rows b) s)), some (.int (Lp.vec (Lp.row rows b) (w - 1) * Lp.vec r s)), ?_⟩)))
            rw [eb, if_neg (by rw [h2]; decide)]
            rfl
      · have hp := of_decide_eq_false h1
        have e : Lp.leav rows basis s (w - 1) (i + 1) = Lp.leav rows basis s (w - 1) i := by
          show (if 0 < Lp.vec (Lp.row rows i) s then _ else _) = _
          rw [er, if_neg hp]
        rw [e]
        rfl
  · obtain ⟨x3, x4, x5, x6, rfl⟩ := hI
    rw [numd_len, List.length_map]
    exact js_cons (js_ret (nm 2 rfl) ⟨rfl, rfl⟩)

/-! Equations.unknowns -/
theorem sc_unknowns : FnScope ["self", "found", "number", "place"] ["self"] (defScope (inClass (topS 31) 4)) := ⟨rfl, rfl, rfl, by decide +kernel, rfl, by decide +kernel, by decide +kernel⟩
theorem rep_frD (n : Nat) : (List.replicate ((n : Int)).toNat [frD (0, 1)]).flatten = (List.replicate n ((0 : Int), (1 : Int))).map frD := by
  rw [Int.toNat_natCast]
  induction n with
  | zero => rfl
  | succ n ih => rw [List.replicate_succ, List.flatten_cons, ih]; rfl
theorem up44 {x : Int} (h : x.natAbs < 2 ^ 4400) : x.natAbs < 2 ^ 9000 := Nat.lt_of_lt_of_le h (Nat.pow_le_pow_right (by decide) (by decide))
theorem ok_unknowns {g : Glob} {k : Nat} {C : Addr} (h : MethAt g C "unknowns" "Equations.unknowns" (inClass (topS 31) 4)) (B : Bi g) (K : CK g C eqN) (FF : Def g "fraction" 2 k R_fraction) : MethS g C "unknowns" (k + 1) (spM C 0 R_unknowns) := by
  refine meth_at h sc_unknowns rfl (fun _ _ _ _ _ _ us hl => match us, hl with | [_], _ => rfl) fun T a dx fs fs' ds o hR hf hl => ?_
  obtain ⟨n, sg, rr, rb, rows, basis, w, ro, hnw, hp, rfl, rfl, rfl, rfl⟩ := hR
  have hb := ro.bl
  have hw := ro.w1
  refine js_cons (js_ownRep 1 (je_lst (ja_cons (je_tup (ja_cons je_int (ja_cons je_int ja_nil))) ja_nil)) (je_fld 0 0 K (nmT 0 rfl) rfl rfl) ⟨by omega, by omega⟩ (Nat.le_of_ble_eq_true rfl) fun q nq => ?_)
  rw [show (List.replicate ((n : Int)).toNat [D.tup [D.int 0, D.int 1]]).flatten = (List.replicate n ((0 : Int), (1 : Int))).map frD from rep_frD n]
  refine js_cons (js_forR (jir_enum B (ja_cons (je_fldR 0 3 K (nmT 0 rfl) rfl rfl) ja_nil) (has_thg 0 3 rfl rfl)) (fun i Z => ∃ x2 x3 : Option D, Z = ⟨q :: T, [some (thg (.ref a) (.ref a) C a dx (eqF n sg rr rows rb basis)), some (.own q ((Lp.unk n (w - 1) rows basis i).map frD)), x2.map EV.dat, x3.map EV.dat]⟩) ⟨none, none, rfl⟩ (fun i Z hI => by obtain ⟨x2, x3, rfl⟩ := hI; exact has_thg 0 3 rfl rfl) (fun i d Z hd hI => ?_) fun Z hI => ?_)
  · obtain ⟨x2, x3, rfl⟩ := hI
    obtain ⟨d', hd', rfl⟩ := numd_get hd
    rw [List.getElem?_map] at hd'
    cases hn : basis[i]? with
    | none => rw [hn] at hd'; cases hd'
    | some b =>
      rw [hn] at hd'
      cases hd'
      obtain ⟨hi, hr⟩ := List.getElem?_eq_some_iff.mp hn
      have er : Lp.bas basis i = b := by rw [Lp.bas_get hi]; exact hr
      have hir : i < rows.length := by omega
      have rw_ : (Lp.row rows i).length = w := ro.wid _ (Lp.row_mem hir)
      have rs : szL 4400 (Lp.row rows i) := ro.sz _ (Lp.row_mem hir)
      have q1 : atI ((Lp.row rows i).map D.int) (-1) = some (.int (Lp.vec (Lp.row rows i) (w - 1))) := by rw [← rw_]; exact atI_vlast (k := 1) (by omega) (by omega)
      refine ⟨_, jg_tup (jgs_cons (jg_name 2) (jgs_cons (jg_name 3) jgs_nil)), js_cons (js_if (jt_lt (nm 3 rfl) (je_fld 0 0 K (nmT 0 rfl) rfl rfl)) (fun h1 => ?_) fun h1 => js_nil (js_nil ⟨some (.int (i : Int)), some (.int (b : Int)), ?_⟩))⟩
      · have hbn : b < n := by have := of_decide_eq_true h1; omega
        have pos : 0 < Lp.vec (Lp.row rows i) b := by have := hp i hir (by rw [er]; exact hbn); rw [er] at this; exact this
        refine js_cons (js_ownSet 1 (l := b) (je_call FF (Nat.le_refl _) (ja_cons (je_ixL (je_ixR (je_fldR 0 2 K (nmT 0 rfl) rfl rfl) (nm 2 rfl) (has_thg 0 2 rfl rfl) (atI_row hir)) (je_neg je_int) q1) (ja_cons (je_ixL (je_ixR (je_fldR 0 2 K (nmT 0 rfl) rfl rfl) (nm 2 rfl) (has_thg 0 2 rfl rfl) (atI_row hir)) (nm 3 rfl) (atI_vec (by omega))) ja_nil)) ⟨_, _, pos, up44 (rs.vec _), rfl, rfl⟩) (nm 3 rfl) rfl (ixN_nat (by rw [List.length_map, Lp.unk_len]; exact hbn)) (js_nil (js_nil ⟨some (.int (i : Int)), some (.int (b : Int)), ?_⟩)))
        have e : Lp.unk n (w - 1) rows basis (i + 1) = (Lp.unk n (w - 1) rows basis i).set b (Lp.frac (Lp.vec (Lp.row rows i) (w - 1)) (Lp.vec (Lp.row rows i) b)) := by
          show (if Lp.bas basis i < n then _ else _) = _
          rw [er, if_pos hbn]
        rw [e, List.map_set]
        rfl
      · have hbn : ¬ b < n := by have := of_decide_eq_false h1; omega
        have e : Lp.unk n (w - 1) rows basis (i + 1) = Lp.unk n (w - 1) rows basis i := by
          show (if Lp.bas basis i < n then _ else _) = _
          rw [er, if_neg hbn]
        rw [e]
        rfl
  · obtain ⟨x2, x3, rfl⟩ := hI
    rw [numd_len, List.length_map, hb]
    exact js_melt 1 rfl nq (js_cons (js_ret (nm 1 rfl) ⟨rfl, rfl⟩))

/-! Equations.__init__ -/
theorem sc_init : FnScope ["self", "rows", "goals", "number", "row", "own", "goal", "other", "one"] ["self", "rows", "goals"] (defScope (inClass (topS 31) 0)) := ⟨rfl, rfl, rfl, by decide +kernel, rfl, by decide +kernel, by decide +kernel⟩
theorem take_rows0 {A : List (List Int)} {b : List Int} {i : Nat} (h : i < A.length) : (Lp.rows0 A b).take (i + 1) = (Lp.rows0 A b).take i ++ [Lp.row0 A.length i (Lp.row A i) (Lp.vec b i)] := by
  have hl : i < (Lp.rows0 A b).length := by rw [Lp.rows0_len]; exact h
  rw [List.take_add_one, List.getElem?_eq_getElem hl, ← Lp.row_rows0 h, Lp.row_get hl]
  rfl
theorem ok_init {g : Glob} {k : Nat} {C : Addr} (h : MakAt g "Equations" C "Equations.__init__" (inClass (topS 31) 0)) (B : Bi g) (K : CK g C eqN) : MakS g "Equations" C (k + 1) (spI C 2 R_init R_made) := by
  refine init_at h sc_init rfl (fun _ _ _ _ _ _ us hl => match us, hl with | [_, _, _], _ => rfl) fun T a dx ds hP hl => ?_
  obtain ⟨n, A, b, M, t, rfl⟩ := hP
  have m0 := t.m0
  have m1 := t.m1
  have n1 := t.n1
  have r0 : (Lp.row A 0).length = n := t.fit.wid _ (Lp.row_mem m0)
  have bl := t.fit.len
  refine js_cons (js_fldD 0 K (JE.cast (je_lenL B (ja_cons (je_ixL (nm 1 rfl) je_int (d := encI (Lp.row A 0)) (atI_row m0)) ja_nil)) (d1 := .int (n : Int)) (by rw [List.length_map, r0])) (nmT 0 rfl) rfl ?_)
  refine js_cons (js_fldD 0 K (JE.cast (JLc.je (lc0 (xs := b) (enc := D.int) (own := [("goal", 6)]) (tv := [6]) (fun y => .int (Lp.sg y)) (ji_list (nm 2 rfl)) (by omega) (fun T y hy => ⟨_, jgw_name 6, rfl, je_ifP (jt_ge (nm 6 rfl) je_int) (fun h1 => JE.cast je_int (by have := of_decide_eq_true h1; unfold Lp.sg; rw [if_pos this])) (fun h1 => JE.cast (je_neg je_int) (by have := of_decide_eq_false h1; unfold Lp.sg; rw [if_neg this]))⟩))) (d1 := encI (b.map Lp.sg)) (by show D.lst _ = D.lst (List.map _ (List.map _ _)); rw [List.map_map]; rfl)) (nmT 0 rfl) rfl ?_)
  refine js_cons (js_fldOwn 0 K ja_nil (fun T => nmT 0 rfl) rfl fun rr nrr => ?_)
  refine js_cons (js_for (ji_en B (ja_cons (nm 1 rfl) ja_nil)) (fun i Z => ∃ x3 x4 x5 : Option D, Z = ⟨rr :: T, [some (thg (.ref a) (.ref a) C a dx [("many", .dat (.int (n : Int))), ("signs", .dat (encI (b.map Lp.sg))), ("rows", .li rr (((Lp.rows0 A b).take i).map fun r => encI r))]), some (.dat (encR A)), some (.dat (encI b)), x3.map EV.dat, x4.map EV.dat, x5.map EV.dat, none, none, none]⟩) ⟨none, none, none, rfl⟩ (fun i d Z hd hI => ?_) fun Z hI => ?_)
  · obtain ⟨x3, x4, x5, rfl⟩ := hI
    obtain ⟨d', hd', rfl⟩ := numd_get hd
    rw [List.getElem?_map] at hd'
    cases hn : A[i]? with
    | none => rw [hn] at hd'; cases hd'
    | some r =>
      rw [hn] at hd'
      cases hd'
      obtain ⟨hi, hr⟩ := List.getElem?_eq_some_iff.mp hn
      have er : Lp.row A i = r := by rw [Lp.row_get hi]; exact hr
      have rl : r.length = n := by rw [← er]; exact t.fit.wid _ (Lp.row_mem hi)
      have rs : szL 4400 r := by rw [← er]; exact t.aent hi
      refine ⟨_, jg_tup (jgs_cons (jg_name 3) (jgs_cons (jg_name 4) jgs_nil)), ?_⟩
      refine js_cons (js_setLc 5 (d := encI (Lp.own A.length i)) (JLc.cast (lc0 (xs := List.range A.length) (enc := fun (o : Nat) => .int (o : Int)) (own := [("other", 7)]) (tv := [7]) (fun (o : Nat) => .int (if o = i then 1 else 0)) (JI.cast (ji_r1 B (ja_cons (je_lenL B (ja_cons (nm 1 rfl) ja_nil)) ja_nil) (by rw [List.length_map]; omega)) (by rw [List.length_map, rng_natmap])) (by rw [List.length_range]; omega) (fun T o ho => ⟨_, jgw_name 7, rfl, JE.cast (je_intB B (ja_cons (je_eqI (nm 7 rfl) (nm 3 rfl)) ja_nil)) ?_⟩)) ?_) ?_)
      · by_cases e : o = i
        · rw [if_pos e, decide_eq_true (by omega)]; rfl
        · rw [if_neg e, decide_eq_false (by omega)]; rfl
      · unfold Lp.own
        show D.lst _ = D.lst (List.map _ (List.map _ _))
        rw [List.map_map]
        rfl
      · refine js_cons (js_appLi 0 2 (je_fldR 0 2 K (nmT 0 rfl) rfl rfl) (d := encI (Lp.row0 A.length i r (Lp.vec b i))) (JE.cast (je_catL (je_catL (JLc.je (lc0 (xs := r) (enc := D.int) (own := [("one", 8)]) (tv := [8]) (fun y => .int (Lp.sg (Lp.vec b i) * y)) (ji_list (nm 4 rfl)) (by omega) (fun T y hy => ⟨_, jgw_name 8, rfl, je_mul (je_ixL (je_fld 0 1 K (nmT 0 rfl) rfl rfl) (nm 3 rfl) (d := .int (Lp.sg (Lp.vec b i))) ?_) (nm 8 rfl) ?_⟩))) (nm 5 rfl) ?_) (je_lst (ja_cons je_int (ja_cons (je_abs B (ja_cons (je_ixL (nm 2 rfl) (nm 3 rfl) (d := .int (Lp.vec b i)) (atI_vec (by omega))) ja_nil)) ja_nil))) ?_) ?_) (has_thg 0 2 rfl rfl) rfl rfl (js_nil ⟨some (.int (i : Int)), some (encI r), some (encI (Lp.own A.length i)), ?_⟩) ?_)
        · rw [atI_vec (by rw [List.length_map]; omega), Lp.vec_get (by rw [List.length_map]; omega), List.getElem_map, ← Lp.vec_get (by omega)]
        · have e1 : (Lp.sg (Lp.vec b i)).natAbs < 2 ^ 1 := by unfold Lp.sg; split <;> decide
          exact mulw e1 (rs y hy) (by decide) (by decide) (by decide)
        · simp only [List.length_map, Lp.own, List.length_range]; omega
        · simp only [List.length_map, List.length_append, Lp.own, List.length_range, List.length_cons, List.length_nil]; omega
        · show D.lst _ = D.lst _
          unfold Lp.row0
          rw [List.map_append, List.map_append, List.map_map]
          rfl
        · rw [take_rows0 hi, er, List.map_append]
          rfl
        · rw [List.length_map, List.length_take, Lp.rows0_len]; omega
  · obtain ⟨x3, x4, x5, rfl⟩ := hI
    rw [numd_len, List.length_map, ← Lp.rows0_len (A := A) (b := b), List.take_length]
    refine js_cons (js_fldLc 0 K (lc0F (xs := List.range A.length) (enc := fun (o : Nat) => .int (o : Int)) (own := [("number", 3)]) (tv := [3]) (fun (o : Nat) => .int ((n : Int) + (o : Int))) (JI.cast (ji_r1 B (ja_cons (je_lenL B (ja_cons (nm 1 rfl) ja_nil)) ja_nil) (by rw [List.length_map]; omega)) (by rw [List.length_map, rng_natmap])) (by rw [List.length_range]; omega) (fun T o ho => ⟨_, jgw_name 3, rfl, je_add (je_fld 0 0 K (nmT 0 rfl) rfl rfl) (nm 3 rfl)⟩) (hvs := by cases x3 <;> rfl)) (fun T => nmT 0 rfl) rfl (fun rb nrb => js_nil ⟨_, rfl, n, A, b, rr, rb, rfl, t.fit.wid, m0, ?_⟩))
    have e : ((List.range A.length).map fun (o : Nat) => D.int ((n : Int) + (o : Int))) = (Lp.basis0 n A.length).map fun (x : Nat) => D.int (x : Int) := by
      unfold Lp.basis0
      rw [List.map_map]
      exact List.map_congr_left fun o _ => by show D.int _ = D.int _; rw [Int.natCast_add]
    rw [e]
    rfl

/-! Equations.solved -/
theorem sc_eqsolved : FnScope ["self", "costs", "row", "number", "some", "found", "one", "two", "place"] ["self"] (defScope (inClass (topS 31) 3)) := ⟨rfl, rfl, rfl, by decide +kernel, rfl, by decide +kernel, by decide +kernel⟩
theorem fold_take {w : Nat} {rs : List (List Int)} {i : Nat} {r : List Int} (h : rs[i]? = some r) : Lp.fold0 w (rs.take (i + 1)) = (Lp.fold0 w (rs.take i)).zipWith (· - ·) r := by
  have e : rs.take (i + 1) = rs.take i ++ [r] := by rw [List.take_add_one, h]; rfl
  unfold Lp.fold0
  rw [e, List.foldl_append]
  rfl
theorem fold_len {w : Nat} {rs : List (List Int)} (h : ∀ r ∈ rs, r.length = w) (i : Nat) : (Lp.fold0 w (rs.take i)).length = w := (Lp.fold_vec (w := w) (rs.take i) _ (by simp) fun r hr => h r (List.mem_of_mem_take hr)).1
theorem ok_eqsolved {g : Glob} {k : Nat} {C : Addr} (h : MethAt g C "solved" "Equations.solved" (inClass (topS 31) 3)) (B : Bi g) (K : CK g C eqN) (FT : MethS g C "turn" k (spM C 3 R_turn)) (FL : MethS g C "leaving" k (spM C 1 R_leaving)) (FU : MethS g C "unknowns" k (spM C 0 R_unknowns)) : MethS g C "solved" (k + 1) (spM C 0 R_solvedM) := by
  refine meth_at h sc_eqsolved rfl (fun _ _ _ _ _ _ us hl => match us, hl with | [_], _ => rfl) fun T a dx fs fs' ds o hR hf hl => ?_
  obtain ⟨n, A, b, M, rr, rb, t, rfl, rfl, rfl, rfl⟩ := hR
  have m0 := t.m0
  have m1 := t.m1
  have n1 := t.n1
  have rl : (Lp.rows0 A b).length = A.length := Lp.rows0_len
  have wid := Lp.rows0_wid t.fit
  have ew : (n : Int) + ((((Lp.rows0 A b).map fun r => encI r).length : Nat) : Int) + 2 = ((n + A.length + 2 : Nat) : Int) := by rw [List.length_map, rl]; omega
  refine js_cons (js_set 1 (d := encI (List.replicate (n + A.length + 2) 0)) (JE.cast (je_repL (je_lst (ja_cons je_int ja_nil)) (JE.cast (je_add (je_add (je_fld 0 0 K (nmT 0 rfl) rfl rfl) (je_lenR B (ja_cons (je_fldR 0 2 K (nmT 0 rfl) rfl rfl) ja_nil) (has_thg 0 2 rfl rfl))) je_int) (congrArg D.int ew)) ⟨by omega, by omega⟩ (Nat.le_of_ble_eq_true rfl)) (by rw [rep_ints])) ?_)
  -- the sum of the rows
  refine js_mid (fun Z => ∃ q S', q ∉ S' ∧ ∃ x2, Z = ⟨q :: S', [some (thg (.ref a) (.ref a) C a dx (eqF n (b.map Lp.sg) rr (Lp.rows0 A b) rb (Lp.basis0 n A.length))), some (.own q ((Lp.fold0 (n + A.length + 2) (Lp.rows0 A b)).map D.int)), some (.dat x2), none, none, none, none, none, none]⟩)
    (js_forR (jir_list (je_fldR 0 2 K (nmT 0 rfl) rfl rfl) (has_thg 0 2 rfl rfl)) (fun i Z => (i < A.length ∧ ∃ x2 : Option D, Z = ⟨T, [some (thg (.ref a) (.ref a) C a dx (eqF n (b.map Lp.sg) rr (Lp.rows0 A b) rb (Lp.basis0 n A.length))), some (.dat (encI (Lp.fold0 (n + A.length + 2) ((Lp.rows0 A b).take i)))), x2.map EV.dat, none, none, none, none, none, none]⟩) ∨
      (i = A.length ∧ ∃ q S', q ∉ S' ∧ ∃ x2, Z = ⟨q :: S', [some (thg (.ref a) (.ref a) C a dx (eqF n (b.map Lp.sg) rr (Lp.rows0 A b) rb (Lp.basis0 n A.length))), some (.own q ((Lp.fold0 (n + A.length + 2) (Lp.rows0 A b)).map D.int)), some (.dat x2), none, none, none, none, none, none]⟩)) (.inl ⟨m0, none, rfl⟩) (fun i Z hI => ?_) (fun i d Z hd hI => ?_) fun Z hI => ?_) ?_
  · rcases hI with ⟨_, x2, rfl⟩ | ⟨_, q, S', _, x2, rfl⟩
    · exact has_thg 0 2 rfl rfl
    · exact has_thg 0 2 rfl rfl
  · rw [List.getElem?_map] at hd
    cases hn : (Lp.rows0 A b)[i]? with
    | none => rw [hn] at hd; cases hd
    | some r =>
      rw [hn] at hd
      cases hd
      obtain ⟨hi, hr⟩ := List.getElem?_eq_some_iff.mp hn
      rw [rl] at hi
      have rw_ : r.length = n + A.length + 2 := wid r (by rw [← hr]; exact List.getElem_mem _)
      rcases hI with ⟨_, x2, rfl⟩ | ⟨e, _⟩
      · refine ⟨_, jg_name 2, ?_⟩
        have fl := fold_len wid i
        have ef : ((Lp.fold0 (n + A.length + 2) ((Lp.rows0 A b).take i)).zip r).map (fun q => D.int (q.1 - q.2)) = (Lp.fold0 (n + A.length + 2) ((Lp.rows0 A b).take (i + 1))).map D.int := by rw [fold_take hn]; exact zip_map (· - ·) _ _
        by_cases last : i + 1 < A.length
        · refine js_cons (js_setE 1 (d := encI (Lp.fold0 (n + A.length + 2) ((Lp.rows0 A b).take (i + 1)))) (JE.cast (JLc.je (lc0 (xs := (Lp.fold0 (n + A.length + 2) ((Lp.rows0 A b).take i)).zip r) (enc := fun q => D.tup [.int q.1, .int q.2]) (own := [("one", 6), ("two", 7)]) (tv := [6, 7]) (fun q => .int (q.1 - q.2)) (JI.cast (ji_zp B (ja_cons (nm 1 rfl) (ja_cons (nm 2 rfl) ja_nil))) (zipd_ints _ r)) (by rw [List.length_zip]; omega) (fun T q hq => ⟨_, jgw_tup (jgsw_cons (jgw_name 6) (jgsw_cons (jgw_name 7) jgsw_nil)), rfl, je_sub (nm 6 rfl) (nm 7 rfl)⟩))) (by rw [ef])) (js_nil (.inl ⟨last, some (encI r), rfl⟩)) (fun env he => by obtain ⟨_, _, _, _, _, _, _, _, _⟩ := env; cases he; kernel_rfl))
        · have ei : i + 1 = A.length := by omega
          refine js_cons (js_ownLcC 1 (lc0F (xs := (Lp.fold0 (n + A.length + 2) ((Lp.rows0 A b).take i)).zip r) (enc := fun q => D.tup [.int q.1, .int q.2]) (own := [("one", 6), ("two", 7)]) (tv := [6, 7]) (fun q => .int (q.1 - q.2)) (JI.cast (ji_zp B (ja_cons (nm 1 rfl) (ja_cons (nm 2 rfl) ja_nil))) (zipd_ints _ r)) (by rw [List.length_zip]; omega) (fun T q hq => ⟨_, jgw_tup (jgsw_cons (jgw_name 6) (jgsw_cons (jgw_name 7) jgsw_nil)), rfl, je_sub (nm 6 rfl) (nm 7 rfl)⟩)) (fun q nq => js_nil (.inr ⟨ei, q, T, nq, encI r, ?_⟩)) (hs := fun env he => by obtain ⟨_, _, _, _, _, _, _, _, _⟩ := env; cases he; kernel_rfl))
          rw [ef, ei, ← rl, List.take_length]
          rfl
      · omega
  · rw [List.length_map, rl] at hI
    rcases hI with ⟨e, _⟩ | ⟨_, hI⟩
    · omega
    · exact hI
  · rintro _ ⟨q, S', nq, x2, rfl⟩
    have cl : ∀ i, i ≤ A.length → (Lp.clr n i (Lp.fold0 (n + A.length + 2) (Lp.rows0 A b))).length = n + A.length + 2 := fun i hi => by
      have := fold_len wid A.length
      rw [← rl, List.take_length, rl] at this
      exact (Lp.clr_vec (n := n) _ this i (by omega)).1
    refine js_mid (fun Z => ∃ x3 : Option D, Z = ⟨q :: S', [some (thg (.ref a) (.ref a) C a dx (eqF n (b.map Lp.sg) rr (Lp.rows0 A b) rb (Lp.basis0 n A.length))), some (.own q ((Lp.clr n A.length (Lp.fold0 (n + A.length + 2) (Lp.rows0 A b))).map D.int)), some (.dat x2), x3.map EV.dat, none, none, none, none, none]⟩)
      (js_for (JI.cast (ji_r1 B (ja_cons (je_lenR B (ja_cons (je_fldR 0 2 K (nmT 0 rfl) rfl rfl) ja_nil) (has_thg 0 2 rfl rfl)) ja_nil) (by rw [List.length_map]; omega)) (by rw [List.length_map, rl])) (fun i Z => ∃ x3 : Option D, Z = ⟨q :: S', [some (thg (.ref a) (.ref a) C a dx (eqF n (b.map Lp.sg) rr (Lp.rows0 A b) rb (Lp.basis0 n A.length))), some (.own q ((Lp.clr n i (Lp.fold0 (n + A.length + 2) (Lp.rows0 A b))).map D.int)), some (.dat x2), x3.map EV.dat, none, none, none, none, none]⟩) ⟨none, rfl⟩ (fun i d Z hd hI => ?_) fun Z hI => ?_) ?_
    · obtain ⟨x3, rfl⟩ := hI
      obtain ⟨hi, rfl⟩ := rng_nat hd
      refine ⟨_, jg_name 3, js_cons (js_ownSet 1 (l := n + i) je_int (je_add (je_fld 0 0 K (nmT 0 rfl) rfl rfl) (nm 3 rfl)) rfl ?_ (js_nil ⟨some (.int (i : Int)), ?_⟩))⟩
      · rw [show (n : Int) + (i : Int) = ((n + i : Nat) : Int) by omega, List.length_map, cl i (by omega)]
        exact ixN_nat (by omega)
      · show _ = State.mk _ [_, some (.own q (((Lp.clr n i (Lp.fold0 (n + A.length + 2) (Lp.rows0 A b))).set (n + i) 0).map D.int)), _, _, _, _, _, _, _]
        rw [List.map_set]
        rfl
    · rw [rng_natlen] at hI
      exact hI
    · rintro _ ⟨x3, rfl⟩
      refine js_cons (js_ownSet 1 (l := n + A.length) je_int (je_neg je_int) rfl ?_ ?_)
      · rw [List.length_map, cl A.length (Nat.le_refl _)]
        show ixN _ (-2) = _
        unfold ixN
        rw [if_neg (by decide), if_pos (by omega)]
        congr 1
        omega
      · refine js_melt 1 rfl nq ?_
        have ec : ((Lp.clr n A.length (Lp.fold0 (n + A.length + 2) (Lp.rows0 A b))).map D.int).set (n + A.length) (.int 1) = (Lp.costs1 n A.length (Lp.rows0 A b)).map D.int := by
          unfold Lp.costs1
          rw [List.map_set]
        rw [ec]
        have G1 := Lp.good1 t.fit
        have o := Lp.orig_of t.fit
        obtain ⟨GE, hE, Tn, hT⟩ := Lp.endOf_good G1 o
        have hE : Lp.stp n (n + A.length + 1) (Lp.go n (n + A.length + 1) Tn (Lp.st1 n A b)) = none := by rw [← hT]; exact hE
        have hT : Lp.fin1 n A b = Lp.go n (n + A.length + 1) Tn (Lp.st1 n A b) := hT
        have Gt := fun u => G1.go o u
        have lc_ : ∀ {u : Nat}, (Lp.go n (n + A.length + 1) u (Lp.st1 n A b)).costs.length = n + A.length + 2 := fun {u} => (Gt u).clen
        have negE : ∀ c : List Int, ((List.range n).filter fun j => decide (Lp.vec c j < 0)).map (fun (j : Nat) => D.int (j : Int)) = (negI n c).map D.int := fun c => by
          show _ = List.map D.int (List.map _ (Lp.negs n c))
          rw [List.map_map]
          rfl
        have nr : ∀ x3 : Option D, noRes [some (.dat .non), some (.dat .non), some (.dat x2), x3.map EV.dat, none, none, none, none, none] [8] = true := fun x3 => rfl
        refine js_cons (js_setLc 4 (d := encI (negI n (Lp.st1 n A b).costs)) (JLc.cast (lc (xs := List.range n) (enc := fun (j : Nat) => .int (j : Int)) (own := [("place", 8)]) (tv := [8]) (fun j => decide (Lp.vec (Lp.costs1 n A.length (Lp.rows0 A b)) j < 0)) (fun (j : Nat) => .int (j : Int)) (JI.cast (ji_r1 B (ja_cons (je_fld 0 0 K (nmT 0 rfl) rfl rfl) ja_nil) (by omega)) (rng_natmap n)) (by rw [List.length_range]; omega) (fun T j hj => ⟨_, jgw_name 8, jts_one (jt_lt (je_ixL (nm 1 rfl) (nm 8 rfl) (atI_vec (by rw [Lp.costs1_len t.fit]; have := List.mem_range.mp hj; omega))) je_int), rfl, fun _ => nm 8 rfl⟩)) (by rw [negE]; rfl)) ?_)
        refine js_mid (fun Z => ∃ x3 : Option D, Z = ⟨S', [some (thg (.ref a) (.ref a) C a dx (eqF n (b.map Lp.sg) rr (Lp.fin1 n A b).rows rb (Lp.fin1 n A b).basis)), some (.dat (encI (Lp.fin1 n A b).costs)), some (.dat x2), x3.map EV.dat, some (.dat (encI [])), none, none, none, none]⟩)
          (js_while (fun m Z => ∃ u, m = Tn - u ∧ ∃ x3 : Option D, Z = ⟨S', [some (thg (.ref a) (.ref a) C a dx (eqF n (b.map Lp.sg) rr (Lp.go n (n + A.length + 1) u (Lp.st1 n A b)).rows rb (Lp.go n (n + A.length + 1) u (Lp.st1 n A b)).basis)), some (.dat (encI (Lp.go n (n + A.length + 1) u (Lp.st1 n A b)).costs)), some (.dat x2), x3.map EV.dat, some (.dat (encI (negI n (Lp.go n (n + A.length + 1) u (Lp.st1 n A b)).costs))), none, none, none, none]⟩) Tn ⟨0, rfl, x3, rfl⟩ (fun m Z hI => ?_)) ?_
        · obtain ⟨u, rfl, x3, rfl⟩ := hI
          refine ⟨_, _, jt_neNil (nm 4 rfl), fun h1 => ?_, fun h1 => ?_⟩
          · simp only [Bool.not_eq_true', decide_eq_false_iff_not] at h1
            cases hn : Lp.negs n (Lp.go n (n + A.length + 1) u (Lp.st1 n A b)).costs with
            | nil => exact absurd (by rw [negI, hn]; rfl) h1
            | cons s rest =>
              obtain ⟨hs, hc, _⟩ := Lp.negs_cons hn
              cases hlv : Lp.leav (Lp.go n (n + A.length + 1) u (Lp.st1 n A b)).rows (Lp.go n (n + A.length + 1) u (Lp.st1 n A b)).basis s (n + A.length + 1) (Lp.go n (n + A.length + 1) u (Lp.st1 n A b)).rows.length with
              | none => exact absurd hlv (Lp.leav1 t.fit (Gt u) hs hc)
              | some l =>
                have hstp : Lp.stp n (n + A.length + 1) (Lp.go n (n + A.length + 1) u (Lp.st1 n A b)) = some (Lp.pivot (Lp.go n (n + A.length + 1) u (Lp.st1 n A b)) l s) := by
                  unfold Lp.stp
                  rw [hn]
                  show (match Lp.leav _ _ s _ _ with | none => none | some l => some (Lp.pivot _ l s)) = _
                  rw [hlv]
                have hgo : Lp.go n (n + A.length + 1) (u + 1) (Lp.st1 n A b) = Lp.pivot (Lp.go n (n + A.length + 1) u (Lp.st1 n A b)) l s := by rw [Lp.go_succ, hstp]
                have hlt : u < Tn := Lp.go_run hE (by rw [hstp]; exact fun z => by cases z)
                obtain ⟨hll, hlp, _⟩ := Lp.leav_some hlv
                have ro := t.rowsOk (Gt u)
                have at0 : atI ((negI n (Lp.go n (n + A.length + 1) u (Lp.st1 n A b)).costs).map D.int) 0 = some (.int (s : Int)) := by rw [negI, hn]; exact atI_nat (j := 0) rfl
                refine js_cons (js_set 1 (je_meth 0 FT K (Nat.le_refl _) (nmT 0 rfl) rfl (ja_cons (nm 1 rfl) (ja_cons (d := .int (l : Int)) (je_meth 0 FL K (Nat.le_refl _) (nmT 0 rfl) rfl (ja_cons (je_ixL (nm 4 rfl) je_int at0) ja_nil) rfl ⟨n, _, rr, rb, _, _, n + A.length + 2, s, ro, by omega, rfl, rfl, by rw [show n + A.length + 2 - 1 = n + A.length + 1 from rfl, hlv]; rfl, rfl⟩) (ja_cons (je_ixL (nm 4 rfl) je_int at0) ja_nil))) rfl ⟨n, _, rr, rb, _, _, _, n + A.length + 2, l, s, ro, lc_, t.costOk (Gt u) (by unfold Lp.c01; rw [if_pos (by omega)]) (fun j => Nat.le_trans (Lp.c01_le' n A.length j) t.sized.last), hll, by omega, rfl, rfl, rfl, rfl⟩) ?_)
                have clw : (Lp.cleared (Lp.go n (n + A.length + 1) u (Lp.st1 n A b)).costs (Lp.row (Lp.go n (n + A.length + 1) u (Lp.st1 n A b)).rows l) s).length = n + A.length + 2 := by
                  have := (Gt (u + 1)).clen
                  rw [hgo] at this
                  exact this
                refine js_cons (js_setLc 4 (d := encI (negI n (Lp.cleared (Lp.go n (n + A.length + 1) u (Lp.st1 n A b)).costs (Lp.row (Lp.go n (n + A.length + 1) u (Lp.st1 n A b)).rows l) s))) (JLc.cast (lc (xs := List.range n) (enc := fun (j : Nat) => .int (j : Int)) (own := [("place", 8)]) (tv := [8]) (fun j => decide (Lp.vec (Lp.cleared (Lp.go n (n + A.length + 1) u (Lp.st1 n A b)).costs (Lp.row (Lp.go n (n + A.length + 1) u (Lp.st1 n A b)).rows l) s) j < 0)) (fun (j : Nat) => .int (j : Int)) (JI.cast (ji_r1 B (ja_cons (je_fld 0 0 K (nmT 0 rfl) rfl rfl) ja_nil) (by omega)) (rng_natmap n)) (by rw [List.length_range]; omega) (fun T j hj => ⟨_, jgw_name 8, jts_one (jt_lt (je_ixL (nm 1 rfl) (nm 8 rfl) (atI_vec (by rw [clw]; have := List.mem_range.mp hj; omega))) je_int), rfl, fun _ => nm 8 rfl⟩)) (by rw [negE])) (js_nil ⟨Tn - (u + 1), by omega, u + 1, rfl, x3, ?_⟩))
                rw [hgo]
                rfl
          · simp only [Bool.not_eq_false', decide_eq_true_eq] at h1
            have hn : Lp.negs n (Lp.go n (n + A.length + 1) u (Lp.st1 n A b)).costs = [] := List.map_eq_nil_iff.mp h1
            have hstp : Lp.stp n (n + A.length + 1) (Lp.go n (n + A.length + 1) u (Lp.st1 n A b)) = none := by
              unfold Lp.stp
              rw [hn]
            have e := Lp.go_end hE hstp
            rw [← hT] at e
            rw [e] at hn
            refine ⟨x3, ?_⟩
            rw [e, negI, hn]
            rfl
        · rintro _ ⟨x3, rfl⟩
          have fc : (Lp.fin1 n A b).costs.length = n + A.length + 2 := GE.clen
          have fr : (Lp.fin1 n A b).rows.length = A.length := GE.tot
          have fs : szL 4400 (Lp.fin1 n A b).costs := t.costOk GE (by unfold Lp.c01; rw [if_pos (by omega)]) (fun j => Nat.le_trans (Lp.c01_le' n A.length j) t.sized.last)
          have a1 : atI ((Lp.fin1 n A b).costs.map D.int) (-1) = some (.int (Lp.vec (Lp.fin1 n A b).costs (n + A.length + 1))) := by
            have := atI_vlast (ns := (Lp.fin1 n A b).costs) (k := 1) (by omega) (by omega)
            rw [fc] at this
            exact this
          have a2 : atI ((Lp.fin1 n A b).costs.map D.int) (-2) = some (.int (Lp.vec (Lp.fin1 n A b).costs (n + A.length))) := by
            have := atI_vlast (ns := (Lp.fin1 n A b).costs) (k := 2) (by omega) (by omega)
            rw [fc] at this
            exact this
          refine js_cons (js_if (jt_lt (je_ixL (nm 1 rfl) (je_neg je_int) a1) je_int) (fun h1 => ?_) fun h1 => js_nil ?_)
          · have h1 := of_decide_eq_true h1
            refine js_cons (js_setLc 5 (d := encI ((List.range A.length).map fun i => Lp.vec (Lp.fin1 n A b).costs (n + A.length) - Lp.vec (Lp.fin1 n A b).costs (n + i))) (JLc.cast (lc0 (xs := List.range A.length) (enc := fun (j : Nat) => .int (j : Int)) (own := [("number", 3)]) (tv := [3]) (fun (i : Nat) => .int (Lp.vec (Lp.fin1 n A b).costs (n + A.length) - Lp.vec (Lp.fin1 n A b).costs (n + i))) (JI.cast (ji_r1 B (ja_cons (je_lenR B (ja_cons (je_fldR 0 2 K (nmT 0 rfl) rfl rfl) ja_nil) (has_thg 0 2 rfl rfl)) ja_nil) (by rw [List.length_map]; omega)) (by rw [List.length_map, fr, rng_natmap])) (by rw [List.length_range]; omega) (fun T i hi => ⟨_, jgw_name 3, rfl, je_sub (je_ixL (nm 1 rfl) (je_neg je_int) a2) (je_ixL (nm 1 rfl) (je_add (je_fld 0 0 K (nmT 0 rfl) rfl rfl) (nm 3 rfl)) ?_)⟩) (hvs := by cases x3 <;> rfl)) ?_) ?_)
            · rw [show (n : Int) + (i : Int) = ((n + i : Nat) : Int) by omega]
              exact atI_vec (by have := List.mem_range.mp hi; omega)
            · show D.lst _ = D.lst (List.map _ (List.map _ _))
              rw [List.map_map]
              rfl
            · refine js_cons (js_ret (je_tup (ja_cons je_non (ja_cons (JLc.je (lc0 (xs := (b.map Lp.sg).zip ((List.range A.length).map fun i => Lp.vec (Lp.fin1 n A b).costs (n + A.length) - Lp.vec (Lp.fin1 n A b).costs (n + i))) (enc := fun q => D.tup [.int q.1, .int q.2]) (own := [("one", 6), ("two", 7)]) (tv := [6, 7]) (fun q => .int (q.1 * q.2)) (JI.cast (ji_zp B (ja_cons (je_fld 0 1 K (nmT 0 rfl) rfl rfl) (ja_cons (nm 5 rfl) ja_nil))) (zipd_ints _ _)) (by rw [List.length_zip, List.length_map, List.length_map, List.length_range]; omega) (fun T q hq => ⟨_, jgw_tup (jgsw_cons (jgw_name 6) (jgsw_cons (jgw_name 7) jgsw_nil)), rfl, je_mul (nm 6 rfl) (nm 7 rfl) ?_⟩))) ja_nil))) ⟨?_, rfl⟩)
              · obtain ⟨q1, q2⟩ := List.of_mem_zip hq
                obtain ⟨y, _, e1⟩ := List.mem_map.mp q1
                obtain ⟨i, _, e2⟩ := List.mem_map.mp q2
                have g1 : q.1.natAbs < 2 ^ 1 := by rw [← e1]; unfold Lp.sg; split <;> decide
                have g2 : q.2.natAbs < 2 ^ 4401 := by
                  rw [← e2]
                  have := Int.natAbs_sub_le (Lp.vec (Lp.fin1 n A b).costs (n + A.length)) (Lp.vec (Lp.fin1 n A b).costs (n + i))
                  have h1 := fs.vec (n + A.length)
                  have h2 := fs.vec (n + i)
                  have h3 : 2 ^ 4401 = 2 * 2 ^ 4400 := Nat.pow_succ'
                  exact Nat.lt_of_le_of_lt this (by rw [h3, Nat.two_mul]; exact Nat.add_lt_add h1 h2)
                exact mulw g1 g2 (by decide) (by decide) (by decide)
              · show Out.ret (solD n A b) = Out.ret _
                unfold solD
                rw [if_pos h1, zip_map (· * ·)]
                rfl
          · have h1 := of_decide_eq_false h1
            have ro := t.rowsOk GE
            refine js_cons (js_ret (je_tup (ja_cons (je_meth0 0 FU K (Nat.le_refl _) (nmT 0 rfl) rfl ⟨n, _, rr, rb, _, _, n + A.length + 2, ro, by omega, fun i hi hb => ?_, rfl, rfl, rfl, rfl⟩) (ja_cons je_non ja_nil))) ⟨?_, rfl⟩)
            · have := GE.inv.pos i (by rw [← fr]; exact hi)
              have : 0 < Lp.vec (Lp.row ((Lp.fin1 n A b).rows ++ []) i) (Lp.bas ((Lp.fin1 n A b).basis ++ []) i) := this
              rw [List.append_nil, List.append_nil] at this
              exact this
            · show Out.ret (solD n A b) = Out.ret _
              unfold solD
              rw [if_neg h1]
              rfl

/-! entries_of -/
theorem sc_entries_of : FnScope ["gates", "found", "number"] ["gates"] (defScope (topS 34)) := ⟨rfl, rfl, rfl, by decide +kernel, rfl, by decide +kernel, by decide +kernel⟩
theorem ok_entries_of {g : Glob} {k : Nat} (h : DefAt g "entries_of" (topS 34)) (B : Bi g) : Def g "entries_of" 1 (k + 1) R_entries := by
  refine def_at h sc_entries_of (fun _ _ _ _ _ _ us hl => match us, hl with | [_], _ => rfl) fun T ds o hR hl => ?_
  obtain ⟨gs, h8, rfl, rfl⟩ := hR
  refine js_cons (js_own 1 ja_nil fun q nq => ?_)
  refine js_cons (js_for (JI.cast (ji_r1 B (ja_cons (je_lenT B (ja_cons (nm 0 rfl) ja_nil)) ja_nil) (by rw [List.length_map]; omega)) (by rw [List.length_map])) (fun i Z => ∃ x : Option D, Z = ⟨q :: T, [some (.dat (encGs gs)), some (.own q ((entL i).map encE)), x.map EV.dat]⟩) ⟨none, rfl⟩ (fun i d Z hd hI => ?_) fun Z hI => ?_)
  · obtain ⟨x, rfl⟩ := hI
    obtain ⟨hi, rfl⟩ := rng_nat hd
    refine ⟨_, jg_name 2, js_cons (js_ext 1 (je_lst (ja_cons (je_tup (ja_cons (nm 2 rfl) (ja_cons (je_neg je_int) ja_nil))) (ja_cons (je_tup (ja_cons (nm 2 rfl) (ja_cons je_int ja_nil))) ja_nil))) rfl (js_nil ⟨some (.int (i : Int)), ?_⟩) (hz := by rw [List.length_map, entL_len]; simp only [List.length_cons, List.length_nil]; omega))⟩
    rw [entL_succ, List.map_append]
    rfl
  · obtain ⟨x, rfl⟩ := hI
    rw [rng_natlen]
    exact js_melt 1 rfl nq (js_cons (js_ret (nm 1 rfl) rfl))

/-! powers_of -/
theorem sc_powers_of : FnScope ["place", "degree", "found", "time"] ["place", "degree"] (defScope (topS 35)) := ⟨rfl, rfl, rfl, by decide +kernel, rfl, by decide +kernel, by decide +kernel⟩
theorem ok_powers_of {g : Glob} {k : Nat} (h : DefAt g "powers_of" (topS 35)) (B : Bi g) : Def g "powers_of" 2 (k + 1) R_powers := by
  refine def_at h sc_powers_of (fun _ _ _ _ _ _ us hl => match us, hl with | [_, _], _ => rfl) fun T ds o hR hl => ?_
  obtain ⟨p, d, h1, h2, h3, rfl, rfl⟩ := hR
  refine js_cons (js_own 2 (ja_cons je_int ja_nil) fun q nq => ?_)
  refine js_cons (js_for (ji_r1 B (ja_cons (nm 1 rfl) ja_nil) (by omega)) (fun i Z => ∃ x : Option D, Z = ⟨q :: T, [some (.dat (.int p)), some (.dat (.int (d : Int))), some (.own q ((pows p i).map D.int)), x.map EV.dat]⟩) ⟨none, by rw [show pows p 0 = [1] by simp [pows]]; rfl⟩ (fun i e Z hd hI => ?_) fun Z hI => ?_)
  · obtain ⟨x, rfl⟩ := hI
    obtain ⟨hi, rfl⟩ := rng_nat hd
    have a1 : atI ((pows p i).map D.int) (-1) = some (.int (p ^ i)) := by
      have := atI_vlast (ns := pows p i) (k := 1) (by omega) (by rw [pows_len]; omega)
      rw [pows_len, show i + 1 - 1 = i by omega, pows_at (Nat.le_refl _)] at this
      exact this
    refine ⟨_, jg_name 3, js_cons (js_app 2 (je_mul (je_ownIx 2 (je_neg je_int) ⟨_, rfl⟩ rfl a1) (nm 0 rfl) (mulB (k := 8000) (l := 20) (pow8000 h1 h2 (by omega)) (by omega) (by decide) (by decide))) rfl (js_nil ⟨some (.int (i : Int)), ?_⟩) (hz := by rw [List.length_map, pows_len]; omega))⟩
    rw [pows_succ, List.map_append]
    rfl
  · obtain ⟨x, rfl⟩ := hI
    rw [rng_natlen]
    exact js_melt 2 rfl nq (js_cons (js_ret (nm 2 rfl) rfl))

/-! rows_of -/
theorem sc_rows_of : FnScope ["gates", "degree", "some", "gate", "power", "number", "side"] ["gates", "degree"] (defScope (topS 36)) := ⟨rfl, rfl, rfl, by decide +kernel, rfl, by decide +kernel, by decide +kernel⟩
theorem ok_rows_of {g : Glob} {k : Nat} (h : DefAt g "rows_of" (topS 36)) (B : Bi g) (FE : Def g "entries_of" 1 k R_entries) (FP : Def g "powers_of" 2 k R_powers) : Def g "rows_of" 2 (k + 1) R_rows := by
  refine def_at h sc_rows_of (fun _ _ _ _ _ _ us hl => match us, hl with | [_, _], _ => rfl) fun T ds o hR hl => ?_
  obtain ⟨gs, d, hg, h3, rfl, rfl⟩ := hR
  have h8 := hg.most
  refine js_cons (js_setE 2 (d := encR (gs.map fun y => pows y.1 d)) (JE.cast (JLc.je (lc0 (xs := gs) (enc := encG) (own := [("gate", 3)]) (tv := [3]) (fun y => encI (pows y.1 d)) (ji_tup (nm 0 rfl)) (by omega) (fun T y hy => ⟨_, jgw_name 3, rfl, je_call FP (Nat.le_refl _) (ja_cons (je_ixT (nm 3 rfl) je_int (d := .int y.1) rfl) (ja_cons (nm 1 rfl) ja_nil)) ⟨y.1, d, (hg.ok y hy).p1, (hg.ok y hy).p2, h3, rfl, rfl⟩⟩))) (by show D.lst _ = D.lst (List.map _ (List.map _ _)); rw [List.map_map]; rfl)) ?_ (fun env he => by obtain ⟨_, _, _, _, _, _, _, _, _⟩ := env; cases he; kernel_rfl))
  have row_ : ∀ i, i < gs.length → Lp.row (gs.map fun y => pows y.1 d) i = pows (gAt gs i).1 d := fun i hi => by
    rw [Lp.row_get (by simpa using hi), List.getElem_map, gAt_get hi]
  refine js_cons (js_ret (JE.cast (JLc.je (lc0 (xs := List.range (d + 1)) (enc := fun (j : Nat) => .int (j : Int)) (own := [("power", 4)]) (tv := [4]) (fun pw => encI ((entL gs.length).map fun e => e.2 * (gAt gs e.1).1 ^ pw)) (JI.cast (ji_r1 B (ja_cons (je_add (nm 1 rfl) je_int) ja_nil) (by omega)) (by rw [show (d : Int) + 1 = ((d + 1 : Nat) : Int) by omega, rng_natmap])) (by rw [List.length_range]; omega) (fun T pw hpw => ⟨_, jgw_name 4, rfl, JE.cast (JLc.je (lc0 (xs := entL gs.length) (enc := encE) (own := [("number", 5), ("side", 6)]) (tv := [5, 6]) (fun e => .int (e.2 * (gAt gs e.1).1 ^ pw)) (ji_list (je_call FE (Nat.le_refl _) (ja_cons (nm 0 rfl) ja_nil) ⟨gs, h8, rfl, rfl⟩)) (by rw [entL_len]; omega) (fun T e he => ⟨_, jgw_tup (jgsw_cons (jgw_name 5) (jgsw_cons (jgw_name 6) jgsw_nil)), rfl, je_mul (nm 6 rfl) (je_ixL (je_ixL (nm 2 rfl) (nm 5 rfl) (d := encI (pows (gAt gs e.1).1 d)) ?_) (nm 4 rfl) (d := .int ((gAt gs e.1).1 ^ pw)) ?_) ?_⟩))) ?_⟩))) ?_) rfl)
  · have := atI_row (rows := gs.map fun y => pows y.1 d) (i := e.1) (by rw [List.length_map]; exact (entL_mem he).1)
    rw [row_ _ (entL_mem he).1] at this
    exact this
  · have hp := List.mem_range.mp hpw
    rw [atI_vec (by rw [pows_len]; omega), pows_at (by omega)]
  · have hp := List.mem_range.mp hpw
    have ok := hg.ok _ (gAt_mem (entL_mem he).1)
    have e1 : e.2.natAbs ≤ 1 := by rcases (entL_mem he).2 with z | z <;> rw [z] <;> decide
    exact mulB e1 (pow8000 ok.p1 ok.p2 (by omega)) (by decide) (by decide)
  · show D.lst _ = D.lst (List.map _ (List.map _ _))
    rw [List.map_map]
    rfl
  · unfold rowsOf
    show D.lst _ = D.lst (List.map _ (List.map _ _))
    rw [List.map_map]
    rfl

/-! ends_of -/
theorem sc_ends_of : FnScope ["gates", "number", "side"] ["gates"] (defScope (topS 37)) := ⟨rfl, rfl, rfl, by decide +kernel, rfl, by decide +kernel, by decide +kernel⟩
theorem ok_ends_of {g : Glob} {k : Nat} (h : DefAt g "ends_of" (topS 37)) (B : Bi g) (FE : Def g "entries_of" 1 k R_entries) : Def g "ends_of" 1 (k + 1) R_ends := by
  refine def_at h sc_ends_of (fun _ _ _ _ _ _ us hl => match us, hl with | [_], _ => rfl) fun T ds o hR hl => ?_
  obtain ⟨gs, hg, rfl, rfl⟩ := hR
  have h8 := hg.most
  refine js_cons (js_ret (JE.cast (JLc.je (lc0 (xs := entL gs.length) (enc := encE) (own := [("number", 1), ("side", 2)]) (tv := [1, 2]) (fun e => .int (endOfE gs e)) (ji_list (je_call FE (Nat.le_refl _) (ja_cons (nm 0 rfl) ja_nil) ⟨gs, h8, rfl, rfl⟩)) (by rw [entL_len]; omega) (fun T e he => ⟨_, jgw_tup (jgsw_cons (jgw_name 1) (jgsw_cons (jgw_name 2) jgsw_nil)), rfl, je_ifP (jt_eqI (nm 2 rfl) je_int) (fun h1 => ?_) (fun h1 => ?_)⟩))) ?_) rfl)
  · have := of_decide_eq_true h1
    refine JE.cast (je_ixT (je_ixT (nm 0 rfl) (nm 1 rfl) (atI_gate (entL_mem he).1)) je_int (d := .int (gAt gs e.1).2.2) rfl) ?_
    unfold endOfE
    rw [if_pos this]
  · have := of_decide_eq_false h1
    refine JE.cast (je_neg (je_ixT (je_ixT (nm 0 rfl) (nm 1 rfl) (atI_gate (entL_mem he).1)) je_int (d := .int (gAt gs e.1).2.1) rfl)) ?_
    unfold endOfE
    rw [if_neg this]
  · unfold endsOf
    show D.lst _ = D.lst (List.map _ (List.map _ _))
    rw [List.map_map]
    rfl

/-! solved -/
theorem sc_solved : FnScope ["gates", "degree", "rows", "weights", "numbers", "one"] ["gates", "degree"] (defScope (topS 38)) := ⟨rfl, rfl, rfl, by decide +kernel, rfl, by decide +kernel, by decide +kernel⟩
theorem ok_solved {g : Glob} {k : Nat} {C : Addr} (h : DefAt g "solved" (topS 38)) (B : Bi g) (K : CK g C eqN) (FR : Def g "rows_of" 2 (k + 1) R_rows) (FE : Def g "ends_of" 1 (k + 1) R_ends) (FI : MakS g "Equations" C k (spI C 2 R_init R_made)) (FS : MethS g C "solved" (k + 1) (spM C 0 R_solvedM)) (FF : Def g "fraction" 2 (k + 1) R_fraction) : Def g "solved" 2 (k + 2) R_solved := by
  refine def_at h sc_solved (fun _ _ _ _ _ _ us hl => match us, hl with | [_, _], _ => rfl) fun T ds o hR hl => ?_
  obtain ⟨gs, d, hg, h3, rfl, rfl⟩ := hR
  have t := task_gates hg h3
  refine js_cons (js_set 2 (d := encR (matA gs d)) (JE.cast (je_catL (je_call FR (Nat.le_refl _) (ja_cons (nm 0 rfl) (ja_cons (nm 1 rfl) ja_nil)) ⟨gs, d, hg, h3, rfl, rfl⟩) (je_lst (ja_cons (je_call FE (Nat.le_refl _) (ja_cons (nm 0 rfl) ja_nil) ⟨gs, hg, rfl, rfl⟩) ja_nil)) (by rw [List.length_map, rowsOf_len]; simp only [List.length_cons, List.length_nil]; omega)) (by unfold matA; show D.lst _ = D.lst _; rw [List.map_append]; rfl)) ?_)
  have eb : ((List.replicate ((d : Int) + 1).toNat [D.int 0]).flatten ++ [D.int (-1)]) = (goalB d).map D.int := by
    unfold goalB
    rw [show (d : Int) + 1 = ((d + 1 : Nat) : Int) by omega, rep_ints, List.map_append]
    rfl
  by_cases hn : noBar gs d
  · have e1 : solD (2 * gs.length) (matA gs d) (goalB d) = .tup [.non, encI (yOf gs d)] := by rw [solD_gates]; exact if_pos hn
    have e2 : solvedD gs d = .tup [.non, .tup ((roadOf gs d).map frD)] := by unfold solvedD; rw [if_pos hn]
    rw [e2]
    have yp := (road_pass hn).1
    have al : atI ((yOf gs d).map D.int) (-1) = some (.int (Lp.vec (yOf gs d) (d + 1))) := by
      have := atI_vlast (ns := yOf gs d) (k := 1) (by omega) (by rw [yOf_len]; omega)
      rw [yOf_len] at this
      exact this
    refine js_cons (js_asgE (JE.cast (je_eqs FI FS K (Nat.le_refl _) (Nat.le_refl _) (ja_cons (nm 2 rfl) (ja_cons (JE.cast (je_catL (je_repL (je_lst (ja_cons je_int ja_nil)) (je_add (nm 1 rfl) je_int) ⟨by omega, by omega⟩ (Nat.le_of_ble_eq_true rfl)) (je_lst (ja_cons (je_neg je_int) ja_nil)) (by rw [show (d : Int) + 1 = ((d + 1 : Nat) : Int) by omega, rep_ints, List.length_map, List.length_replicate]; simp only [List.length_cons, List.length_nil]; omega)) (congrArg D.lst eb)) ja_nil)) t) e1) (jg_tup (jgs_cons (jg_name 3) (jgs_cons (jg_name 4) jgs_nil))) ?_ (fun env he => by obtain ⟨_, _, _, _, _, _, _, _, _⟩ := env; cases he; kernel_rfl))
    refine js_cons (js_if (jt_notN (nm 3 rfl)) (fun z => by cases z) (fun _ => js_nil ?_))
    refine js_cons (js_ret (je_tup (ja_cons je_non (ja_cons (JE.cast (je_tupleL B (ja_cons (JLc.je (lc0 (xs := (yOf gs d).dropLast) (enc := D.int) (own := [("one", 5)]) (tv := [5]) (fun y => frD (Lp.frac y (-Lp.vec (yOf gs d) (d + 1)))) (JI.cast (ji_list (je_slL (nm 4 rfl) jo_none (jo_some (je_neg je_int)))) (by rw [cutD_last, List.map_dropLast])) (by rw [List.length_dropLast, yOf_len]; omega) (fun T y hy => ⟨_, jgw_name 5, rfl, je_call FF (Nat.le_refl _) (ja_cons (nm 5 rfl) (ja_cons (je_neg (je_ixL (nm 4 rfl) (je_neg je_int) al)) ja_nil)) ⟨_, _, yp, ?_, rfl, rfl⟩⟩))) ja_nil)) ?_) ja_nil))) rfl)
    · rw [Int.natAbs_neg]
      exact Nat.lt_of_lt_of_le (y_size hg h3 _) (Nat.pow_le_pow_right (by decide) (by decide))
    · unfold roadOf
      rw [List.map_map]
      rfl
  · have e1 : solD (2 * gs.length) (matA gs d) (goalB d) = .tup [encX (xOf gs d), .non] := by rw [solD_gates]; exact if_neg hn
    have e2 : solvedD gs d = .tup [encX (xOf gs d), .non] := by unfold solvedD; rw [if_neg hn]
    rw [e2]
    refine js_cons (js_asgE (JE.cast (je_eqs FI FS K (Nat.le_refl _) (Nat.le_refl _) (ja_cons (nm 2 rfl) (ja_cons (JE.cast (je_catL (je_repL (je_lst (ja_cons je_int ja_nil)) (je_add (nm 1 rfl) je_int) ⟨by omega, by omega⟩ (Nat.le_of_ble_eq_true rfl)) (je_lst (ja_cons (je_neg je_int) ja_nil)) (by rw [show (d : Int) + 1 = ((d + 1 : Nat) : Int) by omega, rep_ints, List.length_map, List.length_replicate]; simp only [List.length_cons, List.length_nil]; omega)) (congrArg D.lst eb)) ja_nil)) t) e1) (jg_tup (jgs_cons (jg_name 3) (jgs_cons (jg_name 4) jgs_nil))) ?_ (fun env he => by obtain ⟨_, _, _, _, _, _, _, _, _⟩ := env; cases he; kernel_rfl))
    refine js_cons (js_if (jt_notN (nm 3 rfl)) (fun _ => js_cons (js_ret (je_tup (ja_cons (nm 3 rfl) (ja_cons je_non ja_nil))) rfl)) (fun z => by cases z))

/-! is_between -/
theorem sc_is_between : FnScope ["value", "low", "high"] ["value", "low", "high"] (defScope (topS 1)) := ⟨rfl, rfl, rfl, by decide +kernel, rfl, by decide +kernel, by decide +kernel⟩
theorem ok_is_between {g : Glob} {k : Nat} (h : DefAt g "is_between" (topS 1)) (B : Bi g) : Def g "is_between" 3 (k + 1) R_between := by
  refine def_at h sc_is_between (fun _ _ _ _ _ _ us hl => match us, hl with | [_, _, _], _ => rfl) fun T ds o hR hl => ?_
  obtain ⟨d, lo, hi, hk, rfl, rfl⟩ := hR
  refine js_cons (js_ret (d := .bl (isI d && (!isB d && mBetween d lo hi))) (je_and (je_isi B (ja_cons (nm 0 rfl) (ja_cons (je_ty B.int_) ja_nil)) hk (kit_int hk)) fun h1 =>
    je_and (je_not (je_isi B (ja_cons (nm 0 rfl) (ja_cons (je_ty B.bool_) ja_nil)) hk (kit_bool hk))) fun h2 => je_one ?_) ?_)
  · obtain ⟨i, rfl⟩ : ∃ i, d = .int i := by
      cases d <;> first | exact ⟨_, rfl⟩ | (cases h1; done) | (cases h2; done)
    exact je_lele (nm 1 rfl) (nm 0 rfl) (nm 2 rfl)
  · show Out.ret _ = Out.ret _
    cases d <;> rfl

/-! is_gate -/
theorem sc_is_gate : FnScope ["value"] ["value"] (defScope (topS 18)) := ⟨rfl, rfl, rfl, by decide +kernel, rfl, by decide +kernel, by decide +kernel⟩
theorem ok_is_gate {g : Glob} {k : Nat} (h : DefAt g "is_gate" (topS 18)) (B : Bi g) (FB : Def g "is_between" 3 k R_between) : Def g "is_gate" 1 (k + 1) R_gate := by
  refine def_at h sc_is_gate (fun _ _ _ _ _ _ us hl => match us, hl with | [_], _ => rfl) fun T ds o hR hl => ?_
  obtain ⟨n, d, hk, rfl, rfl⟩ := hR
  have kd := dk_known hk
  by_cases ht : isT d = true
  · obtain ⟨l, rfl⟩ := isT_ex ht
    obtain ⟨m, hm⟩ := dk_tup hk
    by_cases h3 : l.length = 3
    · match l, h3 with
      | [a, b, c], _ =>
        have ka := dk_known (hm a (by simp))
        have kb := dk_known (hm b (by simp))
        have kc := dk_known (hm c (by simp))
        refine js_cons (js_if (t := !mBetween a (-20) 20) (jt_w (jw_orF (jt_not (t := true) (jt_val (je_isi B (ja_cons (nm 0 rfl) (ja_cons (je_ty B.tuple_) ja_nil)) kd (kit_tuple kd)))) (jw_orF (JT.cast (jt_neI (je_lenT B (ja_cons (nm 0 rfl) ja_nil)) je_int) rfl)
          (jw_or1 (jt_not (jt_val (je_call FB (Nat.le_refl _) (ja_cons (je_ixT (nm 0 rfl) je_int (d := a) (by rfl)) (ja_cons (je_neg je_int) (ja_cons je_int ja_nil))) ⟨_, _, _, ka, rfl, rfl⟩))))))) (fun h1 => ?_) (fun h1 => ?_))
        · refine js_cons (js_ret je_bl ?_)
          show Out.ret (.bl (mBetween a (-20) 20 && _)) = Out.ret _
          rw [Bool.not_eq_true'] at h1
          rw [h1]
          rfl
        · refine js_nil (js_cons (js_ret (d := .bl (mBetween b (-50) 50 && mBetween c (intOf b) 50)) (je_and (je_call FB (Nat.le_refl _) (ja_cons (je_ixT (nm 0 rfl) je_int (d := b) (by rfl)) (ja_cons (je_neg je_int) (ja_cons je_int ja_nil))) ⟨_, _, _, kb, rfl, rfl⟩) fun h2 => je_one ?_) ?_))
          · obtain ⟨i, rfl, _, _⟩ := mBetween_ex h2
            exact je_call FB (Nat.le_refl _) (ja_cons (je_ixT (nm 0 rfl) je_int (d := c) (by rfl)) (ja_cons (je_ixT (nm 0 rfl) je_int (d := .int i) (by rfl)) (ja_cons je_int ja_nil))) ⟨_, _, _, kc, rfl, rfl⟩
          · show Out.ret (.bl (mBetween a (-20) 20 && _)) = Out.ret _
            rw [Bool.not_eq_false'] at h1
            rw [h1]
            rfl
    · have hg : mGate (.tup l) = false := by
        unfold mGate
        split
        · rename_i e; cases e; exact absurd rfl h3
        · rfl
      rw [hg]
      refine js_cons (js_if (t := true) (jt_w (jw_orF (jt_not (t := true) (jt_val (je_isi B (ja_cons (nm 0 rfl) (ja_cons (je_ty B.tuple_) ja_nil)) kd (kit_tuple kd)))) (JW.cast (jw_or (u := false) (jt_neI (je_lenT B (ja_cons (nm 0 rfl) ja_nil)) je_int) fun h => ?_) ?_))) (fun h1 => js_cons (js_ret je_bl rfl)) (fun h1 => by cases h1))
      · exact absurd (by simpa using h : (l.length : Int) = 3) (by omega)
      · have : ¬ (l.length : Int) = 3 := by omega
        rw [decide_eq_false this]
        rfl
  · rw [Bool.not_eq_true] at ht
    have hg : mGate d = false := by
      unfold mGate
      split
      · cases ht
      · rfl
    rw [hg]
    refine js_cons (js_if (t := true) (jt_w (JW.cast (jw_or (u := false) (jt_not (jt_val (je_isi B (ja_cons (nm 0 rfl) (ja_cons (je_ty B.tuple_) ja_nil)) kd (kit_tuple kd)))) fun h => ?_) ?_)) (fun h1 => js_cons (js_ret je_bl rfl)) (fun h1 => by cases h1))
    · rw [ht] at h; cases h
    · rw [ht]; rfl

/-! is_gates -/
theorem sc_is_gates : FnScope ["value", "one", "k"] ["value"] (defScope (topS 19)) := ⟨rfl, rfl, rfl, by decide +kernel, rfl, by decide +kernel, by decide +kernel⟩
theorem ok_is_gates {g : Glob} {k : Nat} (h : DefAt g "is_gates" (topS 19)) (B : Bi g) (FG : Def g "is_gate" 1 k R_gate) : Def g "is_gates" 1 (k + 1) R_isGates := by
  refine def_at h sc_is_gates (fun _ _ _ _ _ _ us hl => match us, hl with | [_], _ => rfl) fun T ds o hR hl => ?_
  obtain ⟨n, d, hk, rfl, rfl⟩ := hR
  have kd := dk_known hk
  by_cases ht : isT d = true
  · obtain ⟨l, rfl⟩ := isT_ex ht
    obtain ⟨m, hm⟩ := dk_tup hk
    by_cases h3 : (decide (1 ≤ l.length) && decide (l.length ≤ 8)) = true
    · have h3' := h3
      simp only [Bool.and_eq_true, decide_eq_true_eq] at h3'
      refine js_cons (js_if (t := !(l.map mGate).all id) (jt_w (jw_orF (jt_not (t := true) (jt_val (je_isi B (ja_cons (nm 0 rfl) (ja_cons (je_ty B.tuple_) ja_nil)) kd (kit_tuple kd)))) (jw_orF (JT.cast (jt_not (jt_lele je_int (je_lenT B (ja_cons (nm 0 rfl) ja_nil)) je_int)) (show (!(decide ((1 : Int) ≤ (l.length : Int)) && decide ((l.length : Int) ≤ 8))) = false by
          rw [decide_eq_true (by omega), decide_eq_true (by omega)]; rfl))
          (jw_or1 (jt_not (jt_val (je_all B (ja_cons (JE.cast (JLc.je (lc0 (xs := l) (enc := fun d => d) (own := [("one", 1)]) (tv := [1]) (fun d => .bl (mGate d)) (JI.cast (ji_tup (nm 0 rfl)) (List.map_id' l).symm) (by omega) (fun T x hx => ⟨_, jgw_name 1, rfl, je_call FG (Nat.le_refl _) (ja_cons (nm 1 rfl) ja_nil) ⟨m, x, hm x hx, rfl, rfl⟩⟩))) (by rw [List.map_map]; rfl)) ja_nil)))))))) (fun h1 => ?_) (fun h1 => ?_))
      · refine js_cons (js_ret je_bl ?_)
        show Out.ret (.bl (_ && (l.all mGate && _))) = Out.ret _
        rw [Bool.not_eq_true', List.all_map] at h1
        have h1 : l.all mGate = false := h1
        rw [h1]
        simp
      · rw [Bool.not_eq_false', List.all_map] at h1
        have h1 : l.all mGate = true := h1
        have h1' := h1
        rw [List.all_eq_true] at h1
        have el : l = (l.map decG).map encG := by
          rw [List.map_map]
          exact (List.map_id' l).symm.trans (List.map_congr_left fun x hx => (mGate_ex (h1 x hx)).1)
        have em : mGates (.tup l) = upL (l.map decG) := by
          show (_ && (l.all mGate && _)) = _
          rw [h3, h1']
          rfl
        rw [em]
        generalize l.map decG = gs at *
        subst el
        rw [List.length_map] at *
        refine js_nil (js_cons (js_ret (d := .bl (((List.range (gs.length - 1)).map fun k => decide ((gs.getD k (0, 0, 0)).1 < (gs.getD (k + 1) (0, 0, 0)).1)).all id)) (je_all B (ja_cons (JE.cast (JLc.je (lc0 (xs := List.range (gs.length - 1)) (enc := fun (i : Nat) => D.int (0 + (i : Int))) (own := [("k", 2)]) (tv := [2]) (fun k => .bl (decide ((gs.getD k (0, 0, 0)).1 < (gs.getD (k + 1) (0, 0, 0)).1)))
          (JI.cast (ji_r1 B (ja_cons (je_sub (je_lenT B (ja_cons (nm 0 rfl) ja_nil)) je_int) ja_nil) (by rw [List.length_map]; omega)) ?_) (by simp; omega) (fun T x hx => ⟨_, jgw_name 2, rfl, je_lt (i := (gs.getD x (0, 0, 0)).1) (j := (gs.getD (x + 1) (0, 0, 0)).1) (je_ixT (ds := [.int (gs.getD x (0, 0, 0)).1, .int (gs.getD x (0, 0, 0)).2.1, .int (gs.getD x (0, 0, 0)).2.2]) (je_ixT (nm 0 rfl) (nm 2 rfl) ?_) je_int rfl) (je_ixT (ds := [.int (gs.getD (x + 1) (0, 0, 0)).1, .int (gs.getD (x + 1) (0, 0, 0)).2.1, .int (gs.getD (x + 1) (0, 0, 0)).2.2]) (je_ixT (nm 0 rfl) (je_add (nm 2 rfl) je_int) ?_) je_int rfl)⟩))) (by rw [List.map_map]; rfl)) ja_nil)) ?_))
        · show (List.range _).map _ = _
          rw [List.length_map]
          congr 2
          omega
        · rw [List.mem_range] at hx
          rw [show (0 + (x : Int)) = ((x : Nat) : Int) by omega]
          refine atI_nat ?_
          rw [List.getElem?_map, List.getD_eq_getElem?_getD, List.getElem?_eq_getElem (by omega)]
          rfl
        · rw [List.mem_range] at hx
          rw [show (0 + (x : Int) + 1) = ((x + 1 : Nat) : Int) by omega]
          refine atI_nat ?_
          rw [List.getElem?_map, List.getD_eq_getElem?_getD, List.getElem?_eq_getElem (by omega)]
          rfl
        · show Out.ret _ = Out.ret _
          rw [List.all_map]
          rfl
    · have hg : mGates (.tup l) = false := by
        show (_ && (l.all mGate && _)) = _
        rw [Bool.not_eq_true] at h3
        rw [h3]
        rfl
      rw [hg]
      refine js_cons (js_if (t := true) (jt_w (jw_orF (jt_not (t := true) (jt_val (je_isi B (ja_cons (nm 0 rfl) (ja_cons (je_ty B.tuple_) ja_nil)) kd (kit_tuple kd)))) (JW.cast (jw_or (u := false) (jt_not (jt_lele je_int (je_lenT B (ja_cons (nm 0 rfl) ja_nil)) je_int)) fun h => ?_) ?_))) (fun h1 => js_cons (js_ret je_bl rfl)) (fun h1 => by cases h1))
      · exfalso
        refine h3 ?_
        simp only [Bool.not_eq_false', Bool.and_eq_true, decide_eq_true_eq] at h ⊢
        omega
      · simp only [Bool.and_eq_true, decide_eq_true_eq, Bool.or_false, Bool.not_eq_true', Bool.and_eq_false_iff, decide_eq_false_iff_not] at h3 ⊢
        omega
  · rw [Bool.not_eq_true] at ht
    have hg : mGates d = false := by
      unfold mGates
      split
      · cases ht
      · rfl
    rw [hg]
    refine js_cons (js_if (t := true) (jt_w (JW.cast (jw_or (u := false) (jt_not (jt_val (je_isi B (ja_cons (nm 0 rfl) (ja_cons (je_ty B.tuple_) ja_nil)) kd (kit_tuple kd)))) fun h => ?_) ?_)) (fun h1 => js_cons (js_ret je_bl rfl)) (fun h1 => by cases h1))
    · rw [ht] at h; cases h
    · rw [ht]; rfl

/-! checks that are passed -/
theorem sc_check_gates : FnScope ["value"] ["value"] (defScope (topS 20)) := ⟨rfl, rfl, rfl, by decide +kernel, rfl, by decide +kernel, by decide +kernel⟩
theorem ok0_check_gates {g : Glob} {k : Nat} (h : DefAt g "check_gates" (topS 20)) (FG : Def g "is_gates" 1 k R_isGates) : Def g "check_gates" 1 (k + 1) R_check0 := by
  refine def_at h sc_check_gates (fun _ _ _ _ _ _ us hl => match us, hl with | [_], _ => rfl) fun T ds o hR hl => ?_
  obtain ⟨gs, hg, rfl, rfl⟩ := hR
  exact js_cons (js_if (t := false) (JT.cast (jt_not (jt_val (je_call FG (Nat.le_refl _) (ja_cons (nm 0 rfl) ja_nil) ⟨2, encGs gs, dk_gates gs, rfl, rfl⟩))) (by rw [mGates_enc hg]; rfl)) (fun z => by cases z) (fun _ => js_nil (js_nil rfl)))
theorem sc_check_degree : FnScope ["value"] ["value"] (defScope (topS 21)) := ⟨rfl, rfl, rfl, by decide +kernel, rfl, by decide +kernel, by decide +kernel⟩
theorem ok0_check_degree {g : Glob} {k : Nat} (h : DefAt g "check_degree" (topS 21)) (FB : Def g "is_between" 3 k R_between) : Def g "check_degree" 1 (k + 1) R_degree0 := by
  refine def_at h sc_check_degree (fun _ _ _ _ _ _ us hl => match us, hl with | [_], _ => rfl) fun T ds o hR hl => ?_
  obtain ⟨d, hd, rfl, rfl⟩ := hR
  exact js_cons (js_if (t := false) (JT.cast (jt_not (jt_val (je_call FB (Nat.le_refl _) (ja_cons (nm 0 rfl) (ja_cons je_int (ja_cons je_int ja_nil))) ⟨.int (d : Int), _, _, rfl, rfl, rfl⟩))) (by rw [bet_in (by omega) (by omega)]; rfl)) (fun z => by cases z) (fun _ => js_nil (js_nil rfl)))
theorem sc_check_both : FnScope ["gates", "degree"] ["gates", "degree"] (defScope (topS 22)) := ⟨rfl, rfl, rfl, by decide +kernel, rfl, by decide +kernel, by decide +kernel⟩
theorem ok0_check_both {g : Glob} {k : Nat} (h : DefAt g "check_both" (topS 22)) (FG : Def g "check_gates" 1 k R_check0) (FD : Def g "check_degree" 1 k R_degree0) : Def g "check_both" 2 (k + 1) R_both0 := by
  refine def_at h sc_check_both (fun _ _ _ _ _ _ us hl => match us, hl with | [_, _], _ => rfl) fun T ds o hR hl => ?_
  obtain ⟨gs, d, hg, hd, rfl, rfl⟩ := hR
  exact js_cons (js_expr (je_call FG (Nat.le_refl _) (ja_cons (nm 0 rfl) ja_nil) ⟨gs, hg, rfl, rfl⟩) (js_cons (js_expr (je_call FD (Nat.le_refl _) (ja_cons (nm 1 rfl) ja_nil) ⟨d, hd, rfl, rfl⟩) (js_nil rfl))))

/-! is_fraction -/
theorem sc_is_fraction : FnScope ["value", "one"] ["value"] (defScope (topS 8)) := ⟨rfl, rfl, rfl, by decide +kernel, rfl, by decide +kernel, by decide +kernel⟩
def isIB (d : D) : Bool := isI d && !isB d
theorem isIB_ex {d : D} (h : isIB d = true) : ∃ i, d = .int i := by
  cases d <;> first | exact ⟨_, rfl⟩ | cases h
theorem ok_is_fraction {g : Glob} {k : Nat} (h : DefAt g "is_fraction" (topS 8)) (B : Bi g) (FD : Def g "divisor_of" 2 k R_divisor) : Def g "is_fraction" 1 (k + 1) R_isFrac := by
  refine def_at h sc_is_fraction (fun _ _ _ _ _ _ us hl => match us, hl with | [_], _ => rfl) fun T ds o hR hl => ?_
  obtain ⟨n, d, hk, rfl, rfl⟩ := hR
  have kd := dk_known hk
  by_cases ht : isT d = true
  · obtain ⟨l, rfl⟩ := isT_ex ht
    obtain ⟨m, hm⟩ := dk_tup hk
    by_cases h2 : l.length = 2
    · match l, h2 with
      | [a, b], _ =>
        have ka := dk_known (hm a (by simp))
        have kb := dk_known (hm b (by simp))
        have kx : ∀ x ∈ [a, b], known x = true := fun x hx => dk_known (hm x hx)
        refine js_cons (js_if (t := false) (jt_w (jw_orF (jt_not (t := true) (jt_val (je_isi B (ja_cons (nm 0 rfl) (ja_cons (je_ty B.tuple_) ja_nil)) kd (kit_tuple kd)))) (jw_or1 (JT.cast (jt_neI (je_lenT B (ja_cons (nm 0 rfl) ja_nil)) je_int) rfl)))) (fun z => by cases z) (fun _ => js_nil ?_))
        refine js_cons (js_if (t := !(([a, b] : List D).map isIB).all id) (jt_not (jt_val (je_all B (ja_cons (JE.cast (JLc.je (lc0 (xs := [a, b]) (enc := fun d => d) (own := [("one", 1)]) (tv := [1]) (fun d => .bl (isIB d)) (JI.cast (ji_tup (nm 0 rfl)) (List.map_id' _).symm) (Nat.le_of_ble_eq_true rfl) (fun T x hx => ⟨_, jgw_name 1, rfl, je_and (je_isi B (ja_cons (nm 1 rfl) (ja_cons (je_ty B.int_) ja_nil)) (kx x hx) (kit_int (kx x hx))) fun _ => je_one (je_not (je_isi B (ja_cons (nm 1 rfl) (ja_cons (je_ty B.bool_) ja_nil)) (kx x hx) (kit_bool (kx x hx))))⟩))) (by rw [List.map_map]; rfl)) ja_nil)))) (fun h1 => ?_) (fun h1 => ?_))
        · refine js_cons (js_ret je_bl ?_)
          show Out.ret (.bl (mFrac (.tup [a, b]))) = Out.ret _
          have : mFrac (.tup [a, b]) = false := by
            unfold mFrac
            split
            · rename_i e; cases e; cases h1
            · rfl
          rw [this]
        · rw [Bool.not_eq_false'] at h1
          have h1 : (isIB a && (isIB b && true)) = true := h1
          simp only [Bool.and_true, Bool.and_eq_true] at h1
          obtain ⟨i, rfl⟩ := isIB_ex h1.1
          obtain ⟨j, rfl⟩ := isIB_ex h1.2
          refine js_nil (js_cons (js_ret (d := .bl (decide (0 < j) && decide (((Int.gcd i j : Nat) : Int) = 1))) (je_and (je_gt (je_ixT (nm 0 rfl) je_int (d := .int j) rfl) je_int) fun _ => je_one (je_eqI (je_call FD (Nat.le_refl _) (ja_cons (je_ixT (nm 0 rfl) je_int (d := .int i) rfl) (ja_cons (je_ixT (nm 0 rfl) je_int (d := .int j) rfl) ja_nil)) ⟨i, j, rfl, rfl⟩) je_int)) ?_))
          show Out.ret (.bl (decide (0 < j) && decide (Int.gcd i j = 1))) = Out.ret _
          congr 4
          exact propext ⟨fun h => by omega, fun h => by omega⟩
    · have hg : mFrac (.tup l) = false := by
        unfold mFrac
        split
        · rename_i e; cases e; exact absurd rfl h2
        · rfl
      rw [hg]
      refine js_cons (js_if (t := true) (jt_w (jw_orF (jt_not (t := true) (jt_val (je_isi B (ja_cons (nm 0 rfl) (ja_cons (je_ty B.tuple_) ja_nil)) kd (kit_tuple kd)))) (jw_or1 (JT.cast (jt_neI (je_lenT B (ja_cons (nm 0 rfl) ja_nil)) je_int) ?_)))) (fun h1 => js_cons (js_ret je_bl rfl)) (fun h1 => by cases h1))
      have : ¬ (l.length : Int) = 2 := by omega
      rw [decide_eq_false this]
      rfl
  · rw [Bool.not_eq_true] at ht
    have hg : mFrac d = false := by
      unfold mFrac
      split
      · cases ht
      · rfl
    rw [hg]
    refine js_cons (js_if (t := true) (jt_w (JW.cast (jw_or (u := false) (jt_not (jt_val (je_isi B (ja_cons (nm 0 rfl) (ja_cons (je_ty B.tuple_) ja_nil)) kd (kit_tuple kd)))) fun h => ?_) ?_)) (fun h1 => js_cons (js_ret je_bl rfl)) (fun h1 => by cases h1))
    · rw [ht] at h; cases h
    · rw [ht]; rfl

/-! are_entries -/
theorem sc_are_entries : FnScope ["gates", "most", "value", "one", "k"] ["gates", "most", "value"] (defScope (topS 42)) := ⟨rfl, rfl, rfl, by decide +kernel, rfl, by decide +kernel, by decide +kernel⟩
theorem tri_ex {m : Nat} {x : D} (h : mTri m x = true) : ∃ a b c, x = .tup [a, b, c] ∧ mBetween a 0 ((m : Int) - 1) = true := by
  unfold mTri at h
  split at h
  · exact ⟨_, _, _, rfl, h⟩
  · cases h
theorem ok_are_entries {g : Glob} {k : Nat} (h : DefAt g "are_entries" (topS 42)) (B : Bi g) (FB : Def g "is_between" 3 k R_between) : Def g "are_entries" 3 (k + 1) R_areEnt := by
  refine def_at h sc_are_entries (fun _ _ _ _ _ _ us hl => match us, hl with | [_, _, _], _ => rfl) fun T ds o hR hl => ?_
  obtain ⟨gs, most, n, v, h8, hmo, hk, rfl, rfl⟩ := hR
  have kd := dk_known hk
  by_cases ht : isT v = true
  · obtain ⟨l, rfl⟩ := isT_ex ht
    obtain ⟨m, hm⟩ := dk_tup hk
    by_cases hlen : (l.length : Int) ≤ most
    · have em : mEntries gs.length most (.tup l) = (l.all (mTri gs.length) && (l.all mSide && upK l)) := by
        show (decide ((l.length : Int) ≤ most) && _) = _
        rw [decide_eq_true hlen]
        rfl
      rw [em]
      refine js_cons (js_if (t := false) (jt_w (jw_orF (jt_not (t := true) (jt_val (je_isi B (ja_cons (nm 2 rfl) (ja_cons (je_ty B.tuple_) ja_nil)) kd (kit_tuple kd)))) (jw_or1 (JT.cast (jt_not (jt_le (je_lenT B (ja_cons (nm 2 rfl) ja_nil)) (nm 1 rfl))) (by rw [decide_eq_true hlen]; rfl))))) (fun z => by cases z) (fun _ => js_nil ?_))
      refine js_cons (js_if (t := !(l.map (mTri gs.length)).all id) (jt_not (jt_val (je_all B (ja_cons (JE.cast (JLc.je (lc0 (xs := l) (enc := fun d => d) (own := [("one", 3)]) (tv := [3]) (fun d => .bl (mTri gs.length d)) (JI.cast (ji_tup (nm 2 rfl)) (List.map_id' l).symm) (by omega) (fun T x hx => ⟨_, jgw_name 3, rfl, ?_⟩))) (by rw [List.map_map]; rfl)) ja_nil)))) (fun h1 => ?_) (fun h1 => js_nil ?_))
      · have kx := dk_known (hm x hx)
        by_cases hx1 : isT x = true
        · obtain ⟨lx, rfl⟩ := isT_ex hx1
          obtain ⟨m', hm'⟩ := dk_tup (hm _ hx)
          by_cases h3 : lx.length = 3
          · match lx, h3 with
            | [a, b, c], _ =>
              have ka := dk_known (hm' a (by simp))
              refine JE.cast (je_and (t := true) (je_isi B (ja_cons (nm 3 rfl) (ja_cons (je_ty B.tuple_) ja_nil)) kx (kit_tuple kx)) fun _ => je_and (t := true) (JE.cast (je_eqI (je_lenT B (ja_cons (nm 3 rfl) ja_nil)) je_int) rfl) fun _ => je_one (je_call FB (Nat.le_refl _) (ja_cons (je_ixT (nm 3 rfl) je_int (d := a) rfl) (ja_cons je_int (ja_cons (je_sub (je_lenT B (ja_cons (nm 0 rfl) ja_nil)) je_int) ja_nil))) ⟨a, _, _, ka, rfl, rfl⟩)) ?_
              show D.bl (mBetween a 0 (((gs.map encG).length : Int) - 1)) = D.bl (mBetween a 0 ((gs.length : Int) - 1))
              rw [List.length_map]
          · have hf : mTri gs.length (.tup lx) = false := by
              unfold mTri
              split
              · rename_i e; cases e; exact absurd rfl h3
              · rfl
            rw [hf]
            exact JE.cast (je_and (t := true) (u := false) (je_isi B (ja_cons (nm 3 rfl) (ja_cons (je_ty B.tuple_) ja_nil)) kx (kit_tuple kx)) fun _ => JE.cast (je_and (t := false) (u := false) (JE.cast (je_eqI (je_lenT B (ja_cons (nm 3 rfl) ja_nil)) je_int) (by rw [decide_eq_false (by omega)])) fun z => by cases z) rfl) rfl
        · rw [Bool.not_eq_true] at hx1
          have hf : mTri gs.length x = false := by
            unfold mTri
            split
            · cases hx1
            · rfl
          rw [hf]
          exact JE.cast (je_and (t := isT x) (u := false) (je_isi B (ja_cons (nm 3 rfl) (ja_cons (je_ty B.tuple_) ja_nil)) kx (kit_tuple kx)) fun z => by rw [hx1] at z; cases z) (by rw [hx1]; rfl)
      · rw [Bool.not_eq_true', List.all_map] at h1
        have h1 : l.all (mTri gs.length) = false := h1
        rw [h1]
        exact js_cons (js_ret je_bl rfl)
      · rw [Bool.not_eq_false', List.all_map] at h1
        have h1 : l.all (mTri gs.length) = true := h1
        rw [h1]
        rw [List.all_eq_true] at h1
        refine js_cons (js_if (t := !(l.map mSide).all id) (jt_not (jt_val (je_all B (ja_cons (JE.cast (JLc.je (lc0 (xs := l) (enc := fun d => d) (own := [("one", 3)]) (tv := [3]) (fun d => .bl (mSide d)) (JI.cast (ji_tup (nm 2 rfl)) (List.map_id' l).symm) (by omega) (fun T x hx => ⟨_, jgw_name 3, rfl, ?_⟩))) (by rw [List.map_map]; rfl)) ja_nil)))) (fun h2 => ?_) (fun h2 => js_nil ?_))
        · obtain ⟨a, b, c, rfl, _⟩ := tri_ex (h1 x hx)
          obtain ⟨m', hm'⟩ := dk_tup (hm _ hx)
          have kb := dk_known (hm' b (by simp))
          refine je_and (je_call FB (Nat.le_refl _) (ja_cons (je_ixT (nm 3 rfl) je_int (d := b) rfl) (ja_cons (je_neg je_int) (ja_cons je_int ja_nil))) ⟨b, _, _, kb, rfl, rfl⟩) fun h2 => je_one ?_
          obtain ⟨i, rfl, _, _⟩ := mBetween_ex h2
          exact je_neI (je_ixT (nm 3 rfl) je_int (d := .int i) rfl) je_int
        · rw [Bool.not_eq_true', List.all_map] at h2
          have h2 : l.all mSide = false := h2
          rw [h2]
          exact js_cons (js_ret je_bl rfl)
        · rw [Bool.not_eq_false', List.all_map] at h2
          have h2 : l.all mSide = true := h2
          rw [h2]
          rw [List.all_eq_true] at h2
          have kk : ∀ i, i < l.length → ∃ a b c, l[i]? = some (.tup [.int a, .int b, c]) ∧ keyOf (l.getD i .non) = [a, b] := fun i hi => by
            obtain ⟨a, b, c, e, ha⟩ := tri_ex (h1 _ (List.getElem_mem hi))
            have hs := h2 _ (List.getElem_mem hi)
            rw [e] at hs
            have hs : (mBetween b (-1) 1 && _) = true := hs
            obtain ⟨i1, rfl, _, _⟩ := mBetween_ex ha
            obtain ⟨i2, rfl, _, _⟩ := mBetween_ex (Bool.and_eq_true_iff.mp hs).1
            refine ⟨i1, i2, c, by rw [List.getElem?_eq_getElem hi, e], ?_⟩
            rw [List.getD_eq_getElem?_getD, List.getElem?_eq_getElem hi, e]
            rfl
          have key2 : ∀ (T : List Addr) (i : Nat) (hi : i < l.length), True := fun _ _ _ => trivial
          refine js_cons (js_ret (d := .bl (((List.range (l.length - 1)).map fun k => HT.lexLt (keyOf (l.getD k .non)) (keyOf (l.getD (k + 1) .non))).all id)) (je_all B (ja_cons (JE.cast (JLc.je (lc0 (xs := List.range (l.length - 1)) (enc := fun (i : Nat) => .int (i : Int)) (own := [("k", 4)]) (tv := [4]) (fun k => .bl (HT.lexLt (keyOf (l.getD k .non)) (keyOf (l.getD (k + 1) .non)))) (JI.cast (ji_r1 B (ja_cons (je_sub (je_lenT B (ja_cons (nm 2 rfl) ja_nil)) je_int) ja_nil) (by omega)) ?_) (by rw [List.length_range]; omega) (fun T x hx => ⟨_, jgw_name 4, rfl, ?_⟩))) (by rw [List.map_map]; rfl)) ja_nil)) ?_)
          · by_cases h0 : l.length = 0
            · rw [h0]; rfl
            · rw [show (l.length : Int) - 1 = ((l.length - 1 : Nat) : Int) by omega, rng_natmap]
          · have hx := List.mem_range.mp hx
            obtain ⟨a, b, c, e1, e2⟩ := kk x (by omega)
            obtain ⟨a', b', c', e3, e4⟩ := kk (x + 1) (by omega)
            rw [e2, e4]
            refine je_ltT (JE.cast (je_slT (je_ixT (nm 2 rfl) (nm 4 rfl) (atI_nat e1)) jo_none (jo_some je_int)) rfl) (JE.cast (je_slT (ds := [.int a', .int b', c']) (je_ixT (nm 2 rfl) (je_add (nm 4 rfl) je_int) ?_) jo_none (jo_some je_int)) rfl)
            rw [show (x : Int) + 1 = ((x + 1 : Nat) : Int) by omega]
            exact atI_nat e3
          · show Out.ret _ = Out.ret _
            rw [List.all_map]
            rfl
    · have em : mEntries gs.length most (.tup l) = false := by
        show (decide ((l.length : Int) ≤ most) && _) = _
        rw [decide_eq_false hlen]
        rfl
      rw [em]
      refine js_cons (js_if (t := true) (jt_w (jw_orF (jt_not (t := true) (jt_val (je_isi B (ja_cons (nm 2 rfl) (ja_cons (je_ty B.tuple_) ja_nil)) kd (kit_tuple kd)))) (jw_or1 (JT.cast (jt_not (jt_le (je_lenT B (ja_cons (nm 2 rfl) ja_nil)) (nm 1 rfl))) (by rw [decide_eq_false hlen]; rfl))))) (fun _ => js_cons (js_ret je_bl rfl)) (fun z => by cases z))
  · rw [Bool.not_eq_true] at ht
    have em : mEntries gs.length most v = false := by
      unfold mEntries
      split
      · cases ht
      · rfl
    rw [em]
    refine js_cons (js_if (t := true) (jt_w (JW.cast (jw_or (u := false) (jt_not (jt_val (je_isi B (ja_cons (nm 2 rfl) (ja_cons (je_ty B.tuple_) ja_nil)) kd (kit_tuple kd)))) fun h => ?_) ?_)) (fun h1 => js_cons (js_ret je_bl rfl)) (fun h1 => by cases h1))
    · rw [ht] at h; cases h
    · rw [ht]; rfl

/-! sums_by -/
theorem sc_sums_by : FnScope ["gates", "degree", "value", "some", "found", "power", "gate", "number", "side", "weight"] ["gates", "degree", "value"] (defScope (topS 43)) := ⟨rfl, rfl, rfl, by decide +kernel, rfl, by decide +kernel, by decide +kernel⟩
theorem ok_sums_by {g : Glob} {k : Nat} (h : DefAt g "sums_by" (topS 43)) (B : Bi g) (FP : Def g "powers_of" 2 k R_powers) : Def g "sums_by" 3 (k + 1) R_sumsBy := by
  refine def_at h sc_sums_by (fun _ _ _ _ _ _ us hl => match us, hl with | [_, _, _], _ => rfl) fun T ds o hR hl => ?_
  obtain ⟨gs, d, ts, hg, h3, hts, ht1, rfl, rfl⟩ := hR
  have h8 := hg.most
  have row_ : ∀ i, i < gs.length → Lp.row (gs.map fun y => pows y.1 d) i = pows (gAt gs i).1 d := fun i hi => by
    rw [Lp.row_get (by simpa using hi), List.getElem_map, gAt_get hi]
  refine js_cons (js_tupO 3 4 (d := encR (gs.map fun y => pows y.1 d)) (JE.cast (JLc.je (lc0 (xs := gs) (enc := encG) (own := [("gate", 6)]) (tv := [6]) (fun y => encI (pows y.1 d)) (ji_tup (nm 0 rfl)) (by omega) (fun T y hy => ⟨_, jgw_name 6, rfl, je_call FP (Nat.le_refl _) (ja_cons (je_ixT (nm 6 rfl) je_int (d := .int y.1) rfl) (ja_cons (nm 1 rfl) ja_nil)) ⟨y.1, d, (hg.ok y hy).p1, (hg.ok y hy).p2, h3, rfl, rfl⟩⟩))) (by show D.lst _ = D.lst (List.map _ (List.map _ _)); rw [List.map_map]; rfl)) ja_nil (fun q nq => ?_) (fun env he => by obtain ⟨_, _, _, _, _, _, _, _, _⟩ := env; cases he; kernel_rfl))
  refine js_cons (js_for (JI.cast (ji_r1 B (ja_cons (je_add (nm 1 rfl) je_int) ja_nil) (by omega)) (by rw [show (d : Int) + 1 = ((d + 1 : Nat) : Int) by omega])) (fun i Z => ∃ x : Option D, Z = ⟨q :: T, [some (.dat (encGs gs)), some (.dat (.int (d : Int))), some (.dat (.tup (ts.map encTD))), some (.dat (encR (gs.map fun y => pows y.1 d))), some (.own q ((List.range i).map fun pw => sumRow gs ts pw)), x.map EV.dat, none, none, none, none]⟩) ⟨none, rfl⟩ (fun i e Z hd hI => ?_) fun Z hI => ?_)
  · obtain ⟨x, rfl⟩ := hI
    obtain ⟨hi, rfl⟩ := rng_nat hd
    refine ⟨_, jg_name 5, js_cons (js_app 4 (d := sumRow gs ts i) (JE.cast (JLc.je (lc0 (xs := ts) (enc := encTD) (own := [("number", 7), ("side", 8), ("weight", 9)]) (tv := [7, 8, 9]) (fun t => .tup [.int (t.2.1 * (gAt gs t.1).1 ^ i), t.2.2]) (ji_tup (nm 2 rfl)) (by omega) (fun T t ht => ⟨_, jgw_tup (jgsw_cons (jgw_name 7) (jgsw_cons (jgw_name 8) (jgsw_cons (jgw_name 9) jgsw_nil))), rfl, je_tup (ja_cons (je_mul (nm 8 rfl) (je_ixL (je_ixL (nm 3 rfl) (nm 7 rfl) (d := encI (pows (gAt gs t.1).1 d)) ?_) (nm 5 rfl) (d := .int ((gAt gs t.1).1 ^ i)) ?_) ?_) (ja_cons (nm 9 rfl) ja_nil))⟩))) rfl) rfl (js_nil ⟨some (.int (i : Int)), ?_⟩) (hz := by rw [List.length_map, List.length_range]; omega))⟩
    · have := atI_row (rows := gs.map fun y => pows y.1 d) (i := t.1) (by rw [List.length_map]; exact (hts t ht).1)
      rw [row_ _ (hts t ht).1] at this
      exact this
    · rw [atI_vec (by rw [pows_len]; omega), pows_at (by omega)]
    · have ok := hg.ok _ (gAt_mem (hts t ht).1)
      have e1 : t.2.1.natAbs ≤ 1 := by rcases (hts t ht).2 with z | z <;> rw [z] <;> decide
      exact mulB e1 (pow8000 ok.p1 ok.p2 (by omega)) (by decide) (by decide)
    · rw [List.range_succ, List.map_append]
      rfl
  · obtain ⟨x, rfl⟩ := hI
    rw [rng_natlen]
    refine js_melt 4 rfl nq (js_cons (js_ret (je_catL (nm 4 rfl) (je_lst (ja_cons (JLc.je (lc0 (xs := ts) (enc := encTD) (own := [("number", 7), ("side", 8), ("weight", 9)]) (tv := [7, 8, 9]) (fun t => .tup [.int (endOfE gs (t.1, t.2.1)), t.2.2]) (ji_tup (nm 2 rfl)) (by omega) (fun T t ht => ⟨_, jgw_tup (jgsw_cons (jgw_name 7) (jgsw_cons (jgw_name 8) (jgsw_cons (jgw_name 9) jgsw_nil))), rfl, je_tup (ja_cons (je_ifP (jt_eqI (nm 8 rfl) je_int) (fun h1 => ?_) (fun h1 => ?_)) (ja_cons (nm 9 rfl) ja_nil))⟩))) ja_nil)) ?_) rfl))
    · have := of_decide_eq_true h1
      refine JE.cast (je_ixT (je_ixT (nm 0 rfl) (nm 7 rfl) (atI_gate (hts t ht).1)) je_int (d := .int (gAt gs t.1).2.2) rfl) ?_
      unfold endOfE
      rw [if_pos this]
    · have := of_decide_eq_false h1
      refine JE.cast (je_neg (je_ixT (je_ixT (nm 0 rfl) (nm 7 rfl) (atI_gate (hts t ht).1)) je_int (d := .int (gAt gs t.1).2.1) rfl)) ?_
      unfold endOfE
      rw [if_neg this]
    · rw [List.length_map, List.length_range]
      simp only [List.length_cons, List.length_nil]
      omega

/-! is_found_bar, is_bar -/
theorem sc_is_found_bar : FnScope ["gates", "degree", "value", "sums", "one", "row", "two"] ["gates", "degree", "value"] (defScope (topS 44)) := ⟨rfl, rfl, rfl, by decide +kernel, rfl, by decide +kernel, by decide +kernel⟩
def rowsT (gs : List Gt) (d : Nat) (ts : List (Nat × Int × Int)) : List (List (Int × Int)) := ((List.range (d + 1)).map fun pw => ts.map fun t => (t.2.1 * (gAt gs t.1).1 ^ pw, t.2.2)) ++ [ts.map fun t => (endOfE gs (t.1, t.2.1), t.2.2)]
def encP (r : List (Int × Int)) : D := .lst (r.map fun q => .tup [.int q.1, .int q.2])
def tdOf (ts : List (Nat × Int × Int)) : List TD := ts.map fun t => (t.1, t.2.1, .int t.2.2)
theorem rowsT_enc (gs : List Gt) (d : Nat) (ts : List (Nat × Int × Int)) : ((List.range (d + 1)).map fun pw => sumRow gs (tdOf ts) pw) ++ [sumEnd gs (tdOf ts)] = (rowsT gs d ts).map encP := by
  unfold rowsT
  rw [List.map_append, List.map_map]
  congr 1
  · refine List.map_congr_left fun pw _ => ?_
    show D.lst _ = D.lst _
    rw [tdOf, List.map_map, List.map_map]
    rfl
  · show [D.lst _] = [D.lst _]
    rw [tdOf, List.map_map, List.map_map]
    rfl
theorem rowsT_sum (gs : List Gt) (d : Nat) (ts : List (Nat × Int × Int)) : ((rowsT gs d ts).map fun r => D.int (r.map fun q => q.1 * q.2).sum) = (((List.range (d + 1)).map fun pw => barSum gs ts pw) ++ [barEnd gs ts]).map D.int := by
  unfold rowsT
  rw [List.map_append, List.map_append, List.map_map, List.map_map]
  congr 1
  · refine List.map_congr_left fun pw _ => ?_
    show D.int _ = D.int _
    rw [List.map_map]
    rfl
  · show [D.int _] = [D.int _]
    rw [List.map_map]
    rfl
theorem ok_is_found_bar {g : Glob} {k : Nat} (h : DefAt g "is_found_bar" (topS 44)) (B : Bi g) (FE : Def g "are_entries" 3 k R_areEnt) (FS : Def g "sums_by" 3 k R_sumsBy) : Def g "is_found_bar" 3 (k + 1) R_isBar := by
  refine def_at h sc_is_found_bar (fun _ _ _ _ _ _ us hl => match us, hl with | [_, _, _], _ => rfl) fun T ds o hR hl => ?_
  obtain ⟨gs, d, n, v, hg, h3, hk, hsm, rfl, rfl⟩ := hR
  have h8 := hg.most
  cases he : mEntries gs.length ((d : Int) + 2) v with
  | false =>
    have em : mBar gs d v = false := by unfold mBar; rw [he]; rfl
    rw [em]
    exact js_cons (js_if (t := true) (JT.cast (jt_not (jt_val (je_call FE (Nat.le_refl _) (ja_cons (nm 0 rfl) (ja_cons (je_add (nm 1 rfl) je_int) (ja_cons (nm 2 rfl) ja_nil))) ⟨gs, (d : Int) + 2, n, v, h8, by omega, hk, rfl, rfl⟩))) (by rw [he]; rfl)) (fun _ => js_cons (js_ret je_bl rfl)) (fun z => by cases z))
  | true =>
    have em : mBar gs d v = ((itemsOf v).all mWt && barT gs d ((itemsOf v).map decT)) := by unfold mBar; rw [he]; rfl
    rw [em]
    refine js_cons (js_if (t := false) (JT.cast (jt_not (jt_val (je_call FE (Nat.le_refl _) (ja_cons (nm 0 rfl) (ja_cons (je_add (nm 1 rfl) je_int) (ja_cons (nm 2 rfl) ja_nil))) ⟨gs, (d : Int) + 2, n, v, h8, by omega, hk, rfl, rfl⟩))) (by rw [he]; rfl)) (fun z => by cases z) (fun _ => js_nil ?_))
    obtain ⟨l, rfl, hll, _, hx⟩ := entries_ex he
    show JSs _ _ _ (Post (.ret (.bl (l.all mWt && barT gs d (l.map decT)))))
    obtain ⟨m, hm⟩ := dk_tup hk
    refine js_cons (js_if (t := !(l.map mWt).all id) (jt_not (jt_val (je_all B (ja_cons (JE.cast (JLc.je (lc0 (xs := l) (enc := fun d => d) (own := [("one", 4)]) (tv := [4]) (fun d => .bl (mWt d)) (JI.cast (ji_tup (nm 2 rfl)) (List.map_id' l).symm) (by omega) (fun T x hxl => ⟨_, jgw_name 4, rfl, ?_⟩))) (by rw [List.map_map]; rfl)) ja_nil)))) (fun h1 => ?_) (fun h1 => js_nil ?_))
    · obtain ⟨a, b, c, rfl, _, _⟩ := hx x hxl
      obtain ⟨m', hm'⟩ := dk_tup (hm _ hxl)
      have kc := dk_known (hm' c (by simp))
      cases hc : isIB c with
      | true =>
        obtain ⟨w, rfl⟩ := isIB_ex hc
        exact je_and (t := true) (JE.cast (je_isi B (ja_cons (je_ixT (nm 4 rfl) je_int (d := .int w) rfl) (ja_cons (je_ty B.int_) ja_nil)) kc (kit_int kc)) rfl) fun _ => je_and (t := true) (JE.cast (je_not (je_isi B (ja_cons (je_ixT (nm 4 rfl) je_int (d := .int w) rfl) (ja_cons (je_ty B.bool_) ja_nil)) kc (kit_bool kc))) rfl) fun _ => je_one (je_gt (je_ixT (nm 4 rfl) je_int (d := .int w) rfl) je_int)
      | false =>
        have hf : mWt (.tup [.int (a : Int), .int b, c]) = false := by
          cases c <;> first | rfl | (cases hc)
        rw [hf]
        have h2 : (isI c && (!isB c && false)) = false := by cases isI c <;> cases isB c <;> rfl
        refine JE.cast (je_and (je_isi B (ja_cons (je_ixT (nm 4 rfl) je_int (d := c) rfl) (ja_cons (je_ty B.int_) ja_nil)) kc (kit_int kc)) fun h3 => je_and (u := false) (je_not (je_isi B (ja_cons (je_ixT (nm 4 rfl) je_int (d := c) rfl) (ja_cons (je_ty B.bool_) ja_nil)) kc (kit_bool kc))) fun h4 => ?_) (by rw [h2])
        exfalso
        have : isIB c = true := by unfold isIB; rw [h3, h4]; rfl
        rw [hc] at this
        cases this
    · rw [Bool.not_eq_true', List.all_map] at h1
      have h1 : l.all mWt = false := h1
      rw [h1]
      exact js_cons (js_ret je_bl rfl)
    · rw [Bool.not_eq_false', List.all_map] at h1
      have h1 : l.all mWt = true := h1
      rw [h1]
      rw [List.all_eq_true] at h1
      have el : l = (tdOf (l.map decT)).map encTD := by
        rw [tdOf, List.map_map, List.map_map]
        refine (List.map_id' l).symm.trans (List.map_congr_left fun x hxl => ?_)
        obtain ⟨a, b, c, rfl, _, _⟩ := hx x hxl
        have hw := h1 _ hxl
        cases c with
        | int w =>
          show D.tup _ = D.tup [.int (((a : Int).toNat : Nat) : Int), _, _]
          rw [show (((a : Int).toNat : Nat) : Int) = (a : Int) by omega]
          rfl
        | _ => cases hw
      have hts : ∀ t ∈ l.map decT, t.1 < gs.length ∧ (t.2.1 = -1 ∨ t.2.1 = 1) ∧ t.2.2.natAbs < 2 ^ 500000 := fun t ht => by
        obtain ⟨x, hxl, rfl⟩ := List.mem_map.mp ht
        obtain ⟨a, b, c, rfl, ha, hb⟩ := hx x hxl
        have hw := h1 _ hxl
        cases c with
        | int w => exact ⟨by show ((a : Int).toNat) < _; omega, hb, hsm _ hxl _ _ w rfl⟩
        | _ => cases hw
      have hlen : (l.map decT).length ≤ 1000 := by rw [List.length_map]; omega
      generalize l.map decT = ts at *
      refine js_cons (js_setLc 3 (d := encI (((List.range (d + 1)).map fun pw => barSum gs ts pw) ++ [barEnd gs ts])) (JLc.cast (lc0 (xs := rowsT gs d ts) (enc := encP) (own := [("row", 5)]) (tv := [5]) (fun r => .int (r.map fun q => q.1 * q.2).sum) (JI.cast (ji_list (je_call FS (Nat.le_refl _) (ja_cons (nm 0 rfl) (ja_cons (nm 1 rfl) (ja_cons (nm 2 rfl) ja_nil))) ⟨gs, d, tdOf ts, hg, h3, fun t ht => ?_, by rw [tdOf, List.length_map]; exact hlen, by rw [← el], rfl⟩)) (rowsT_enc gs d ts)) (by simp only [rowsT, List.length_append, List.length_map, List.length_range, List.length_cons, List.length_nil]; omega) (fun T r hr => ⟨_, jgw_name 5, rfl, je_sum B (ja_cons (JE.cast (JLc.je (lc0 (xs := r) (enc := fun q => .tup [.int q.1, .int q.2]) (own := [("one", 4), ("two", 6)]) (tv := [4, 6]) (fun q => .int (q.1 * q.2)) (ji_list (nm 5 rfl)) ?_ (fun T q hq => ⟨_, jgw_tup (jgsw_cons (jgw_name 4) (jgsw_cons (jgw_name 6) jgsw_nil)), rfl, je_mul (nm 4 rfl) (nm 6 rfl) ?_⟩))) ?_) ja_nil)⟩)) ?_) ?_)
      · obtain ⟨u, hu, rfl⟩ := List.mem_map.mp ht
        exact ⟨(hts u hu).1, (hts u hu).2.1⟩
      · rcases List.mem_append.mp hr with z | z
        · obtain ⟨pw, _, rfl⟩ := List.mem_map.mp z
          rw [List.length_map]; omega
        · rw [List.mem_singleton.mp z, List.length_map]; omega
      · rcases List.mem_append.mp hr with z | z
        · obtain ⟨pw, hpw, rfl⟩ := List.mem_map.mp z
          obtain ⟨t, ht, rfl⟩ := List.mem_map.mp hq
          have hp := List.mem_range.mp hpw
          have ok := hg.ok _ (gAt_mem (hts t ht).1)
          have e0 := pow8000 ok.p1 ok.p2 (show pw ≤ 3 by omega)
          have e1 : (t.2.1 * (gAt gs t.1).1 ^ pw).natAbs < 2 ^ 64 := by rcases (hts t ht).2.1 with z | z <;> rw [z] <;> omega
          exact mulw e1 (hts t ht).2.2 (by decide) (by decide) (by decide)
        · rw [List.mem_singleton.mp z] at hq
          obtain ⟨t, ht, rfl⟩ := List.mem_map.mp hq
          have e0 := end_le hg (e := (t.1, t.2.1)) (hts t ht).1
          have e1 : (endOfE gs (t.1, t.2.1)).natAbs < 2 ^ 64 := by omega
          exact mulw e1 (hts t ht).2.2 (by decide) (by decide) (by decide)
      · show D.lst _ = D.lst (List.map D.int (List.map _ _))
        rw [List.map_map]
        rfl
      · rw [rowsT_sum]
      · have al : atI ((((List.range (d + 1)).map fun pw => barSum gs ts pw) ++ [barEnd gs ts]).map D.int) (-1) = some (.int (barEnd gs ts)) := by
          refine atI_last (k := 1) (by omega) (by simp) ?_
          rw [List.map_append, List.length_append]
          simp
        have cl : cutD ((((List.range (d + 1)).map fun pw => barSum gs ts pw) ++ [barEnd gs ts]).map D.int) none (some (-1)) = ((List.range (d + 1)).map fun pw => barSum gs ts pw).map D.int := by
          rw [cutD_last, List.map_append]
          simp
        refine js_cons (js_ret (JE.cast (je_and (je_not (je_anyI B (ja_cons (JE.cast (je_slL (nm 3 rfl) jo_none (jo_some (je_neg je_int))) (congrArg D.lst cl)) ja_nil))) fun _ => je_one (je_lt (je_ixL (nm 3 rfl) (je_neg je_int) al) je_int)) (d1 := .bl (barT gs d ts)) ?_) rfl)
        unfold barT
        congr 2
        rw [List.any_map]
        have key : ∀ L : List Nat, (!L.any ((fun x : Int => x != 0) ∘ fun pw => barSum gs ts pw)) = L.all fun pw => decide (barSum gs ts pw = 0) := fun L => by
          induction L with
          | nil => rfl
          | cons pw L ih =>
            rw [List.any_cons, List.all_cons, Bool.not_or, ih]
            congr 1
            show (!(barSum gs ts pw != 0)) = _
            by_cases z : barSum gs ts pw = 0
            · simp [z]
            · simp [z]
        exact key _
theorem sc_is_bar : FnScope ["gates", "degree", "value"] ["gates", "degree", "value"] (defScope (topS 45)) := ⟨rfl, rfl, rfl, by decide +kernel, rfl, by decide +kernel, by decide +kernel⟩
theorem ok_is_bar {g : Glob} {k : Nat} (h : DefAt g "is_bar" (topS 45)) (FB : Def g "check_both" 2 k R_both0) (FF : Def g "is_found_bar" 3 k R_isBar) : Def g "is_bar" 3 (k + 1) R_isBar := by
  refine def_at h sc_is_bar (fun _ _ _ _ _ _ us hl => match us, hl with | [_, _, _], _ => rfl) fun T ds o hR hl => ?_
  have hR' := hR
  obtain ⟨gs, d, n, v, hg, h3, hk, hsm, rfl, rfl⟩ := hR
  exact js_cons (js_expr (je_call FB (Nat.le_refl _) (ja_cons (nm 0 rfl) (ja_cons (nm 1 rfl) ja_nil)) ⟨gs, d, hg, h3, rfl, rfl⟩) (js_cons (js_ret (je_call FF (Nat.le_refl _) (ja_cons (nm 0 rfl) (ja_cons (nm 1 rfl) (ja_cons (nm 2 rfl) ja_nil))) hR') rfl)))

/-! common_bottom, whole, found_bar, bar, some_road -/
theorem sc_common_bottom : FnScope ["some", "found", "one"] ["some"] (defScope (topS 9)) := ⟨rfl, rfl, rfl, by decide +kernel, rfl, by decide +kernel, by decide +kernel⟩
theorem fold_snoc {x : List (Int × Int)} {i : Nat} {f : Int × Int} (h : x[i]? = some f) : (x.take (i + 1)).foldl lcmS 1 = lcmS ((x.take i).foldl lcmS 1) f := by
  have e : x.take (i + 1) = x.take i ++ [f] := by rw [List.take_add_one, h]; rfl
  rw [e, List.foldl_append]
  rfl
theorem ok_common_bottom {g : Glob} {k : Nat} (h : DefAt g "common_bottom" (topS 9)) (B : Bi g) (FD : Def g "divisor_of" 2 k R_divisor) : Def g "common_bottom" 1 (k + 1) R_common := by
  refine def_at h sc_common_bottom (fun _ _ _ _ _ _ us hl => match us, hl with | [_], _ => rfl) fun T ds o hR hl => ?_
  obtain ⟨x, hx, h100, rfl, rfl⟩ := hR
  refine js_cons (js_set 1 je_int ?_)
  refine js_cons (js_for (ji_list (nm 0 rfl)) (fun i Z => ∃ y : Option D, Z = ⟨T, [some (.dat (encX x)), some (.dat (.int ((x.take i).foldl lcmS 1))), y.map EV.dat]⟩) ⟨none, rfl⟩ (fun i e Z hd hI => ?_) fun Z hI => ?_)
  · obtain ⟨y, rfl⟩ := hI
    rw [List.getElem?_map] at hd
    cases hf : x[i]? with
    | none => rw [hf] at hd; cases hd
    | some f =>
      rw [hf] at hd
      cases hd
      have hi := (List.getElem?_eq_some_iff.mp hf).1
      have fo := hx f (List.mem_of_getElem? hf)
      have tk : ∀ z ∈ x.take i, FrOk 4400 z := fun z hz => hx z (List.mem_of_mem_take hz)
      have p1 := (lcm_fold (x.take i) 1 (by decide) fun z hz => (tk z hz).pos).1
      have s1 := lcm_size (x.take i) 1 1 (by decide) (by decide) tk
      have s2 : ((x.take i).foldl lcmS 1).natAbs < 2 ^ 450000 := Nat.lt_of_lt_of_le s1 (Nat.pow_le_pow_right (by decide) (by rw [List.length_take]; omega))
      refine ⟨_, jg_name 2, js_cons (js_set 1 (d := .int ((x.take (i + 1)).foldl lcmS 1)) (JE.cast (je_fdiv (je_mul (nm 1 rfl) (je_ixT (nm 2 rfl) je_int (d := .int f.2) rfl) (mulw s2 fo.sz2 (by decide) (by decide) (by decide))) (je_call FD (Nat.le_refl _) (ja_cons (nm 1 rfl) (ja_cons (je_ixT (nm 2 rfl) je_int (d := .int f.2) rfl) ja_nil)) ⟨_, _, rfl, rfl⟩) ⟨gcd_pos' fo.pos, ?_⟩) (by rw [fold_snoc hf]; rfl)) (js_nil ⟨some (frD f), rfl⟩))⟩
      have gl : Int.gcd ((x.take i).foldl lcmS 1) f.2 ≤ f.2.natAbs := Nat.le_of_dvd (by have := fo.pos; omega) (Nat.gcd_dvd_right _ _)
      refine log_of (x := ((Int.gcd ((x.take i).foldl lcmS 1) f.2 : Nat) : Int)) ?_ (by decide)
      rw [Int.natAbs_natCast]
      exact Nat.lt_of_le_of_lt gl (Nat.lt_of_lt_of_le fo.sz2 (Nat.pow_le_pow_right (by decide) (by decide)))
  · obtain ⟨y, rfl⟩ := hI
    rw [List.length_map, List.take_length]
    exact js_cons (js_ret (nm 1 rfl) rfl)
theorem sc_whole : FnScope ["one", "bottom"] ["one", "bottom"] (defScope (topS 10)) := ⟨rfl, rfl, rfl, by decide +kernel, rfl, by decide +kernel, by decide +kernel⟩
theorem ok_whole {g : Glob} {k : Nat} (h : DefAt g "whole" (topS 10)) : Def g "whole" 2 (k + 1) R_whole := by
  refine def_at h sc_whole (fun _ _ _ _ _ _ us hl => match us, hl with | [_, _], _ => rfl) fun T ds o hR hl => ?_
  obtain ⟨f, L, fo, hL, hz, rfl, rfl⟩ := hR
  refine js_cons (js_ret (je_mul (je_ixT (nm 0 rfl) je_int (d := .int f.1) rfl) (je_fdiv (nm 1 rfl) (je_ixT (nm 0 rfl) je_int (d := .int f.2) rfl) ⟨fo.pos, ?_⟩) ?_) rfl)
  · exact log_of (Nat.lt_of_lt_of_le fo.sz2 (Nat.pow_le_pow_right (by decide) (by decide))) (by decide)
  · refine mulw fo.sz1 (l := 500000) ?_ (by decide) (by decide) (by decide)
    have h1 : 0 ≤ L / f.2 := Int.ediv_nonneg (Int.le_of_lt hL) (Int.le_of_lt fo.pos)
    have h2 : L / f.2 ≤ L := Int.ediv_le_self _ (Int.le_of_lt hL)
    exact Nat.lt_of_le_of_lt (by omega) hz
theorem sc_found_bar : FnScope ["gates", "degree", "weights", "bottom", "sizes", "one", "number", "side", "size"] ["gates", "degree"] (defScope (topS 39)) := ⟨rfl, rfl, rfl, by decide +kernel, rfl, by decide +kernel, by decide +kernel⟩
theorem zipd_ent (es : List (Nat × Int)) (ns : List Int) : zipd (es.map encE) (ns.map D.int) = (es.zip ns).map fun q => D.tup [encE q.1, .int q.2] := by
  induction es generalizing ns with
  | nil => rfl
  | cons x a ih =>
    cases ns with
    | nil => rfl
    | cons y b =>
      show D.tup [encE x, .int y] :: zipd (a.map encE) (b.map D.int) = _
      rw [ih]
      rfl
theorem ok_found_bar {g : Glob} {k : Nat} (h : DefAt g "found_bar" (topS 39)) (B : Bi g) (FS : Def g "solved" 2 k R_solved) (FC : Def g "common_bottom" 1 k R_common) (FW : Def g "whole" 2 k R_whole) (FE : Def g "entries_of" 1 k R_entries) : Def g "found_bar" 2 (k + 1) R_foundBar := by
  refine def_at h sc_found_bar (fun _ _ _ _ _ _ us hl => match us, hl with | [_, _], _ => rfl) fun T ds o hR hl => ?_
  obtain ⟨gs, d, hg, h3, rfl, rfl⟩ := hR
  have h8 := hg.most
  by_cases hn : noBar gs d
  · have e1 : solvedD gs d = .tup [.non, .tup ((roadOf gs d).map frD)] := by unfold solvedD; rw [if_pos hn]
    have e2 : barD gs d = .non := by unfold barD; rw [if_pos hn]
    rw [e2]
    refine js_cons (js_set 2 (je_ixT (JE.cast (je_call FS (Nat.le_refl _) (ja_cons (nm 0 rfl) (ja_cons (nm 1 rfl) ja_nil)) ⟨gs, d, hg, h3, rfl, rfl⟩) e1) je_int (d := .non) rfl) ?_)
    exact js_cons (js_if (jt_isN (nm 2 rfl)) (fun _ => js_cons (js_ret je_non rfl)) (fun z => by cases z))
  · have e1 : solvedD gs d = .tup [encX (xOf gs d), .non] := by unfold solvedD; rw [if_neg hn]
    have e2 : barD gs d = .tup ((barOf gs d).map encT) := by unfold barD; rw [if_neg hn]
    rw [e2]
    have xo := xOf_ok hg h3
    have xl := xOf_len gs d
    have lc1 := (lcmL_ok fun f hf => (xo f hf).pos).1
    have ls : (lcmL (xOf gs d)).natAbs < 2 ^ 500000 := Nat.lt_of_lt_of_le (lcm_size (xOf gs d) 1 1 (by decide) (by decide) xo) (Nat.pow_le_pow_right (by decide) (by rw [xl]; omega))
    refine js_cons (js_set 2 (je_ixT (JE.cast (je_call FS (Nat.le_refl _) (ja_cons (nm 0 rfl) (ja_cons (nm 1 rfl) ja_nil)) ⟨gs, d, hg, h3, rfl, rfl⟩) e1) je_int (d := encX (xOf gs d)) rfl) ?_)
    refine js_cons (js_if (jt_isN (nm 2 rfl)) (fun z => by cases z) (fun _ => js_nil ?_))
    refine js_cons (js_set 3 (je_call FC (Nat.le_refl _) (ja_cons (nm 2 rfl) ja_nil) ⟨xOf gs d, xo, by rw [xl]; omega, rfl, rfl⟩) ?_)
    refine js_cons (js_setLc 4 (d := encI (sizesOf (xOf gs d))) (JLc.cast (lc0 (xs := xOf gs d) (enc := frD) (own := [("one", 5)]) (tv := [5]) (fun f => .int (sizeOf' (lcmL (xOf gs d)) f)) (ji_list (nm 2 rfl)) (by rw [xl]; omega) (fun T f hf => ⟨_, jgw_name 5, rfl, je_call FW (Nat.le_refl _) (ja_cons (nm 5 rfl) (ja_cons (nm 3 rfl) ja_nil)) ⟨f, _, xo f hf, lc1, ls, rfl, rfl⟩⟩)) (by unfold sizesOf; show D.lst _ = D.lst (List.map _ (List.map _ _)); rw [List.map_map]; rfl)) ?_)
    refine js_cons (js_ret (JE.cast (je_tupleL B (ja_cons (JLc.je (lc (xs := (entL gs.length).zip (sizesOf (xOf gs d))) (enc := fun q => D.tup [encE q.1, .int q.2]) (own := [("number", 6), ("side", 7), ("size", 8)]) (tv := [6, 7, 8]) (fun q => decide (0 < q.2)) (fun q => .tup [.int (q.1.1 : Int), .int q.1.2, .int q.2]) (JI.cast (ji_zp B (ja_cons (je_call FE (Nat.le_refl _) (ja_cons (nm 0 rfl) ja_nil) ⟨gs, h8, rfl, rfl⟩) (ja_cons (nm 4 rfl) ja_nil))) (zipd_ent _ _)) (by rw [List.length_zip, entL_len]; omega) (fun T q hq => ⟨_, jgw_tup (jgsw_cons (jgw_tup (jgsw_cons (jgw_name 6) (jgsw_cons (jgw_name 7) jgsw_nil))) (jgsw_cons (jgw_name 8) jgsw_nil)), jts_one (jt_gt (nm 8 rfl) je_int), rfl, fun _ => je_tup (ja_cons (nm 6 rfl) (ja_cons (nm 7 rfl) (ja_cons (nm 8 rfl) ja_nil)))⟩))) ja_nil)) ?_) rfl)
    unfold barOf
    rw [List.map_map]
    rfl
theorem sc_bar : FnScope ["gates", "degree"] ["gates", "degree"] (defScope (topS 41)) := ⟨rfl, rfl, rfl, by decide +kernel, rfl, by decide +kernel, by decide +kernel⟩
theorem ok_bar {g : Glob} {k : Nat} (h : DefAt g "bar" (topS 41)) (FB : Def g "check_both" 2 k R_both0) (FF : Def g "found_bar" 2 k R_foundBar) : Def g "bar" 2 (k + 1) R_foundBar := by
  refine def_at h sc_bar (fun _ _ _ _ _ _ us hl => match us, hl with | [_, _], _ => rfl) fun T ds o hR hl => ?_
  have hR' := hR
  obtain ⟨gs, d, hg, h3, rfl, rfl⟩ := hR
  exact js_cons (js_expr (je_call FB (Nat.le_refl _) (ja_cons (nm 0 rfl) (ja_cons (nm 1 rfl) ja_nil)) ⟨gs, d, hg, h3, rfl, rfl⟩) (js_cons (js_ret (je_call FF (Nat.le_refl _) (ja_cons (nm 0 rfl) (ja_cons (nm 1 rfl) ja_nil)) hR') rfl)))
theorem sc_some_road : FnScope ["gates", "degree"] ["gates", "degree"] (defScope (topS 40)) := ⟨rfl, rfl, rfl, by decide +kernel, rfl, by decide +kernel, by decide +kernel⟩
theorem solved_1 (gs : List Gt) (d : Nat) : ∃ x, solvedD gs d = .tup [x, roadD gs d] := by
  unfold solvedD roadD
  by_cases hn : noBar gs d
  · rw [if_pos hn, if_pos hn]; exact ⟨_, rfl⟩
  · rw [if_neg hn, if_neg hn]; exact ⟨_, rfl⟩
theorem ok_some_road {g : Glob} {k : Nat} (h : DefAt g "some_road" (topS 40)) (FB : Def g "check_both" 2 k R_both0) (FS : Def g "solved" 2 k R_solved) : Def g "some_road" 2 (k + 1) R_someRoad := by
  refine def_at h sc_some_road (fun _ _ _ _ _ _ us hl => match us, hl with | [_, _], _ => rfl) fun T ds o hR hl => ?_
  obtain ⟨gs, d, hg, h3, rfl, rfl⟩ := hR
  obtain ⟨x, hx⟩ := solved_1 gs d
  exact js_cons (js_expr (je_call FB (Nat.le_refl _) (ja_cons (nm 0 rfl) (ja_cons (nm 1 rfl) ja_nil)) ⟨gs, d, hg, h3, rfl, rfl⟩) (js_cons (js_ret (je_ixT (JE.cast (je_call FS (Nat.le_refl _) (ja_cons (nm 0 rfl) (ja_cons (nm 1 rfl) ja_nil)) ⟨gs, d, hg, h3, rfl, rfl⟩) hx) je_int (d := roadD gs d) rfl) rfl)))

/-! plus, by_factor, is_below -/
theorem mulF {x y : Int} {k l : Nat} (hx : x.natAbs < 2 ^ k) (hy : y.natAbs < 2 ^ l) (hk : 0 < k) (hl : 0 < l) (h : k + l ≤ 1000000) : CMulW x y := mulw hx hy hk hl h
theorem FS.bots {K : Nat} {f g : Int × Int} (hf : FS K f) (hg : FS K g) (hK : K + K ≤ 9000) : 0 < f.2 * g.2 ∧ (f.2 * g.2).natAbs < 2 ^ 9000 := by
  refine ⟨Int.mul_pos hf.pos hg.pos, ?_⟩
  rw [Int.natAbs_mul]
  have := Nat.mul_lt_mul'' hf.bot hg.bot
  rw [← Nat.pow_add] at this
  exact Nat.lt_of_lt_of_le this (Nat.pow_le_pow_right (by decide) hK)
theorem je_fr0 {G : Ctx} {Z : State} {e : Expr} {f : Int × Int} {j : Nat} {p pos : Pos} (h : JE G e Z (frD f) Z) : JE G (.Subscript e (.Constant (.int 0) j p) pos) Z (.int f.1) Z := je_ixT h je_int rfl
theorem je_fr1 {G : Ctx} {Z : State} {e : Expr} {f : Int × Int} {j : Nat} {p pos : Pos} (h : JE G e Z (frD f) Z) : JE G (.Subscript e (.Constant (.int 1) j p) pos) Z (.int f.2) Z := je_ixT h je_int rfl
theorem sc_plus : FnScope ["one", "other"] ["one", "other"] (defScope (topS 5)) := ⟨rfl, rfl, rfl, by decide +kernel, rfl, by decide +kernel, by decide +kernel⟩
theorem ok_plus {g : Glob} {k : Nat} (h : DefAt g "plus" (topS 5)) (FF : Def g "fraction" 2 k R_fraction) : Def g "plus" 2 (k + 1) R_plus := by
  refine def_at h sc_plus (fun _ _ _ _ _ _ us hl => match us, hl with | [_, _], _ => rfl) fun T ds o hR hl => ?_
  obtain ⟨f, g, hf, hg, rfl, rfl⟩ := hR
  obtain ⟨b1, b2⟩ := hf.bots hg (by decide)
  exact js_cons (js_ret (je_call FF (Nat.le_refl _) (ja_cons (je_add (je_mul (je_fr0 (nm 0 rfl)) (je_fr1 (nm 1 rfl)) (mulF hf.top hg.bot (by decide) (by decide) (by decide))) (je_mul (je_fr0 (nm 1 rfl)) (je_fr1 (nm 0 rfl)) (mulF hg.top hf.bot (by decide) (by decide) (by decide)))) (ja_cons (je_mul (je_fr1 (nm 0 rfl)) (je_fr1 (nm 1 rfl)) (mulF hf.bot hg.bot (by decide) (by decide) (by decide))) ja_nil)) ⟨_, _, b1, b2, rfl, rfl⟩) rfl)
theorem sc_by_factor : FnScope ["one", "other"] ["one", "other"] (defScope (topS 6)) := ⟨rfl, rfl, rfl, by decide +kernel, rfl, by decide +kernel, by decide +kernel⟩
theorem ok_by_factor {g : Glob} {k : Nat} (h : DefAt g "by_factor" (topS 6)) (FF : Def g "fraction" 2 k R_fraction) : Def g "by_factor" 2 (k + 1) R_times := by
  refine def_at h sc_by_factor (fun _ _ _ _ _ _ us hl => match us, hl with | [_, _], _ => rfl) fun T ds o hR hl => ?_
  obtain ⟨f, g, hf, hg, rfl, rfl⟩ := hR
  obtain ⟨b1, b2⟩ := hf.bots hg (by decide)
  exact js_cons (js_ret (je_call FF (Nat.le_refl _) (ja_cons (je_mul (je_fr0 (nm 0 rfl)) (je_fr0 (nm 1 rfl)) (mulF hf.top hg.top (by decide) (by decide) (by decide))) (ja_cons (je_mul (je_fr1 (nm 0 rfl)) (je_fr1 (nm 1 rfl)) (mulF hf.bot hg.bot (by decide) (by decide) (by decide))) ja_nil)) ⟨_, _, b1, b2, rfl, rfl⟩) rfl)
theorem sc_is_below : FnScope ["one", "other"] ["one", "other"] (defScope (topS 7)) := ⟨rfl, rfl, rfl, by decide +kernel, rfl, by decide +kernel, by decide +kernel⟩
theorem ok_is_below {g : Glob} {k : Nat} (h : DefAt g "is_below" (topS 7)) : Def g "is_below" 2 (k + 1) R_below := by
  refine def_at h sc_is_below (fun _ _ _ _ _ _ us hl => match us, hl with | [_, _], _ => rfl) fun T ds o hR hl => ?_
  obtain ⟨f, g, hf, hg, rfl, rfl⟩ := hR
  exact js_cons (js_ret (je_lt (je_mul (je_fr0 (nm 0 rfl)) (je_fr1 (nm 1 rfl)) (mulF hf.top hg.bot (by decide) (by decide) (by decide))) (je_mul (je_fr0 (nm 1 rfl)) (je_fr1 (nm 0 rfl)) (mulF hg.top hf.bot (by decide) (by decide) (by decide)))) rfl)

/-! the law's fractions: _law_ratio, _law_plus, _law_times, _law_below -/
theorem sc__law_ratio : FnScope ["top", "bottom", "one", "two"] ["top", "bottom"] (defScope (topS 50)) := ⟨rfl, rfl, rfl, by decide +kernel, rfl, by decide +kernel, by decide +kernel⟩
theorem ok__law_ratio {g : Glob} {k : Nat} (h : DefAt g "_law_ratio" (topS 50)) (B : Bi g) : Def g "_law_ratio" 2 (k + 1) R_fraction := by
  refine def_at h sc__law_ratio (fun _ _ _ _ _ _ us hl => match us, hl with | [_, _], _ => rfl) fun T ds o hR hl => ?_
  obtain ⟨a, b, hb, hz, rfl, rfl⟩ := hR
  refine js_cons (js_par 2 3 (ja_cons (je_abs B (ja_cons (nm 0 rfl) ja_nil)) (ja_cons (je_abs B (ja_cons (nm 1 rfl) ja_nil)) ja_nil)) ?_ (fun env he => by obtain ⟨_, _, _, _, _, _, _, _, _⟩ := env; cases he; kernel_rfl))
  rw [abs_nat, abs_nat]
  refine js_mid (fun Z => Z = ⟨T, [some (.dat (.int a)), some (.dat (.int b)), some (.dat (.int (Int.gcd a b : Nat))), some (.dat (.int 0))]⟩) (js_while (fun m Z => ∃ x y : Nat, m = y ∧ Int.gcd (x : Int) (y : Int) = Int.gcd a b ∧ Z = ⟨T, [some (.dat (.int a)), some (.dat (.int b)), some (.dat (.int x)), some (.dat (.int y))]⟩) b.natAbs ⟨a.natAbs, b.natAbs, rfl, by rw [Int.gcd_natCast_natCast]; rfl, rfl⟩ (fun m Z hI => ?_)) ?_
  · obtain ⟨x, y, rfl, hg, rfl⟩ := hI
    refine ⟨!decide ((m : Int) = 0), _, jt_neI (nm 3 rfl) je_int, fun ht => ?_, fun ht => ?_⟩
    · have hy : 0 < m := by
        simp only [Bool.not_eq_true', decide_eq_false_iff_not] at ht
        omega
      refine js_cons (js_par 2 3 (ja_cons (nm 3 rfl) (ja_cons (je_mod (nm 2 rfl) (nm 3 rfl) (by omega)) ja_nil)) ?_ (fun env he => by obtain ⟨_, _, _, _, _, _, _, _, _⟩ := env; cases he; kernel_rfl))
      refine js_nil ⟨x % m, Nat.mod_lt _ hy, m, x % m, rfl, ?_, ?_⟩
      · rw [Int.natCast_emod, gcd_mod hy, hg]
      · show State.mk _ _ = State.mk _ _
        rw [Int.natCast_emod]
        rfl
    · have hy : m = 0 := by
        simp only [Bool.not_eq_false', decide_eq_true_eq] at ht
        omega
      subst hy
      show State.mk _ _ = State.mk _ _
      rw [← hg]
      simp
  · rintro _ rfl
    have hg : (0 : Int) < Int.gcd a b := (Lp.frac_ok hb).2.2.2.2.2
    have hgl : Int.gcd a b ≤ b.natAbs := Nat.le_of_dvd (by omega) (Nat.gcd_dvd_right _ _)
    have hd : ∀ t : Int, CDivW t (Int.gcd a b : Nat) := fun t => ⟨hg, log_of (x := ((Int.gcd a b : Nat) : Int)) (by rw [Int.natAbs_natCast]; exact Nat.lt_of_le_of_lt hgl hz) (by omega)⟩
    refine js_cons (js_set 2 (d := .int (Int.gcd a b : Nat)) (je_ifP (jt_gt (nm 1 rfl) je_int) (fun _ => nm 2 rfl) fun h1 => absurd hb (of_decide_eq_false h1)) ?_)
    exact js_cons (js_ret (je_tup (ja_cons (je_fdiv (nm 0 rfl) (nm 2 rfl) (hd _)) (ja_cons (je_fdiv (nm 1 rfl) (nm 2 rfl) (hd _)) ja_nil))) rfl)
theorem sc__law_plus : FnScope ["one", "two"] ["one", "two"] (defScope (topS 51)) := ⟨rfl, rfl, rfl, by decide +kernel, rfl, by decide +kernel, by decide +kernel⟩
theorem ok__law_plus {g : Glob} {k : Nat} (h : DefAt g "_law_plus" (topS 51)) (FF : Def g "_law_ratio" 2 k R_fraction) : Def g "_law_plus" 2 (k + 1) R_plus := by
  refine def_at h sc__law_plus (fun _ _ _ _ _ _ us hl => match us, hl with | [_, _], _ => rfl) fun T ds o hR hl => ?_
  obtain ⟨f, g, hf, hg, rfl, rfl⟩ := hR
  obtain ⟨b1, b2⟩ := hf.bots hg (by decide)
  exact js_cons (js_ret (je_call FF (Nat.le_refl _) (ja_cons (je_add (je_mul (je_fr0 (nm 0 rfl)) (je_fr1 (nm 1 rfl)) (mulF hf.top hg.bot (by decide) (by decide) (by decide))) (je_mul (je_fr0 (nm 1 rfl)) (je_fr1 (nm 0 rfl)) (mulF hg.top hf.bot (by decide) (by decide) (by decide)))) (ja_cons (je_mul (je_fr1 (nm 0 rfl)) (je_fr1 (nm 1 rfl)) (mulF hf.bot hg.bot (by decide) (by decide) (by decide))) ja_nil)) ⟨_, _, b1, b2, rfl, rfl⟩) rfl)
theorem sc__law_times : FnScope ["one", "two"] ["one", "two"] (defScope (topS 52)) := ⟨rfl, rfl, rfl, by decide +kernel, rfl, by decide +kernel, by decide +kernel⟩
theorem ok__law_times {g : Glob} {k : Nat} (h : DefAt g "_law_times" (topS 52)) (FF : Def g "_law_ratio" 2 k R_fraction) : Def g "_law_times" 2 (k + 1) R_times := by
  refine def_at h sc__law_times (fun _ _ _ _ _ _ us hl => match us, hl with | [_, _], _ => rfl) fun T ds o hR hl => ?_
  obtain ⟨f, g, hf, hg, rfl, rfl⟩ := hR
  obtain ⟨b1, b2⟩ := hf.bots hg (by decide)
  exact js_cons (js_ret (je_call FF (Nat.le_refl _) (ja_cons (je_mul (je_fr0 (nm 0 rfl)) (je_fr0 (nm 1 rfl)) (mulF hf.top hg.top (by decide) (by decide) (by decide))) (ja_cons (je_mul (je_fr1 (nm 0 rfl)) (je_fr1 (nm 1 rfl)) (mulF hf.bot hg.bot (by decide) (by decide) (by decide))) ja_nil)) ⟨_, _, b1, b2, rfl, rfl⟩) rfl)
theorem sc__law_below : FnScope ["one", "two"] ["one", "two"] (defScope (topS 53)) := ⟨rfl, rfl, rfl, by decide +kernel, rfl, by decide +kernel, by decide +kernel⟩
theorem ok__law_below {g : Glob} {k : Nat} (h : DefAt g "_law_below" (topS 53)) : Def g "_law_below" 2 (k + 1) R_below := by
  refine def_at h sc__law_below (fun _ _ _ _ _ _ us hl => match us, hl with | [_, _], _ => rfl) fun T ds o hR hl => ?_
  obtain ⟨f, g, hf, hg, rfl, rfl⟩ := hR
  exact js_cons (js_ret (je_lt (je_mul (je_fr0 (nm 0 rfl)) (je_fr1 (nm 1 rfl)) (mulF hf.top hg.bot (by decide) (by decide) (by decide))) (je_mul (je_fr0 (nm 1 rfl)) (je_fr1 (nm 0 rfl)) (mulF hg.top hf.bot (by decide) (by decide) (by decide)))) rfl)

/-! found_height -/
theorem sc_found_height : FnScope ["road", "place", "found", "one"] ["road", "place"] (defScope (topS 26)) := ⟨rfl, rfl, rfl, by decide +kernel, rfl, by decide +kernel, by decide +kernel⟩
theorem ok_found_height {g : Glob} {k : Nat} (h : DefAt g "found_height" (topS 26)) (B : Bi g) (FP : Def g "plus" 2 k R_plus) (FT : Def g "by_factor" 2 k R_times) : Def g "found_height" 2 (k + 1) R_fheight := by
  refine def_at h sc_found_height (fun _ _ _ _ _ _ us hl => match us, hl with | [_, _], _ => rfl) fun T ds o hR hl => ?_
  obtain ⟨road, pl, hs, rfl, rfl⟩ := hR
  have h4 := hs.len
  refine js_cons (js_set 2 (d := frD (0, 1)) (je_tup (ja_cons je_int (ja_cons je_int ja_nil))) ?_)
  refine js_cons (js_for (ds := (road.reverse).map frD) (ji_tup (JE.cast (je_revT (nm 0 rfl) (je_neg je_int)) (by rw [List.map_reverse]))) (fun i Z => ∃ e3, Z = ⟨T, [some (.dat (.tup (road.map frD))), some (.dat (frD pl)), some (.dat (frD (hF pl ((road.reverse.take i).reverse)))), e3]⟩) ⟨none, rfl⟩ (fun i d Z hd hI => ?_) fun Z hI => ?_)
  · obtain ⟨e3, rfl⟩ := hI
    rw [List.getElem?_map] at hd
    obtain ⟨c, hc, rfl⟩ := Option.map_eq_some_iff.mp hd
    have hm : c ∈ road := List.mem_reverse.mp (List.mem_of_getElem? hc)
    have e0 : (road.reverse.take i).reverse = road.drop (road.length - i) := by rw [List.reverse_take, List.reverse_reverse, List.length_reverse]
    obtain ⟨s1, s2⟩ := hs.at_ (road.length - i)
    rw [← e0] at s1 s2
    refine ⟨_, jg_name 3, js_cons (js_set 2 (je_call FP (Nat.le_refl _) (ja_cons (je_call FT (Nat.le_refl _) (ja_cons (nm 2 rfl) (ja_cons (nm 1 rfl) ja_nil)) ⟨_, _, s1, hs.spot, rfl, rfl⟩) (ja_cons (nm 3 rfl) ja_nil)) ⟨_, c, s2, hs.ok c hm, rfl, rfl⟩) (js_nil ⟨some (.dat (frD c)), ?_⟩))⟩
    rw [List.take_add_one, hc]
    show _ = State.mk _ _
    rw [List.reverse_append]
    rfl
  · obtain ⟨e3, rfl⟩ := hI
    refine js_cons (js_ret (JE.cast (nm 2 rfl) ?_) rfl)
    rw [List.length_map, List.take_of_length_le (Nat.le_refl _), List.reverse_reverse]

/-! _law_height -/
theorem sc__law_height : FnScope ["curve", "spot", "found", "power", "one"] ["curve", "spot"] (defScope (topS 54)) := ⟨rfl, rfl, rfl, by decide +kernel, rfl, by decide +kernel, by decide +kernel⟩
theorem ok__law_height {g : Glob} {k : Nat} (h : DefAt g "_law_height" (topS 54)) (B : Bi g) (FP : Def g "_law_plus" 2 k R_plus) (FT : Def g "_law_times" 2 k R_times) : Def g "_law_height" 2 (k + 1) R_lheight := by
  refine def_at h sc__law_height (fun _ _ _ _ _ _ us hl => match us, hl with | [_, _], _ => rfl) fun T ds o hR hl => ?_
  obtain ⟨road, pl, hs, rfl, rfl⟩ := hR
  have h4 := hs.len
  refine js_cons (js_asgE (je_tup (ja_cons (je_tup (ja_cons je_int (ja_cons je_int ja_nil))) (ja_cons (je_tup (ja_cons je_int (ja_cons je_int ja_nil))) ja_nil))) (jg_tup (jgs_cons (jg_name 2) (jgs_cons (jg_name 3) jgs_nil))) ?_ (fun env he => by obtain ⟨_, _, _, _, _, _, _, _, _⟩ := env; cases he; kernel_rfl))
  refine js_cons (js_for (ds := road.map frD) (ji_tup (nm 0 rfl)) (fun i Z => ∃ e4, Z = ⟨T, [some (.dat (.tup (road.map frD))), some (.dat (frD pl)), some (.dat (frD (stL pl (road.take i)).1)), some (.dat (frD (stL pl (road.take i)).2)), e4]⟩) ⟨none, rfl⟩ (fun i d Z hd hI => ?_) fun Z hI => ?_)
  · obtain ⟨e4, rfl⟩ := hI
    rw [List.getElem?_map] at hd
    obtain ⟨c, hc, rfl⟩ := Option.map_eq_some_iff.mp hd
    have hm : c ∈ road := List.mem_of_getElem? hc
    obtain ⟨s1, s2⟩ := hs.at_ i
    have s3 := hs.up i c hc
    have e0 : stL pl (road.take (i + 1)) = stepL pl (stL pl (road.take i)) c := by
      unfold stL
      rw [List.take_add_one, hc]
      show List.foldl _ _ (_ ++ [c]) = _
      rw [List.foldl_append]
      rfl
    refine ⟨_, jg_name 4, js_cons (js_set 2 (je_call FP (Nat.le_refl _) (ja_cons (nm 2 rfl) (ja_cons (je_call FT (Nat.le_refl _) (ja_cons (nm 4 rfl) (ja_cons (nm 3 rfl) ja_nil)) ⟨c, _, hs.ok c hm, s2, rfl, rfl⟩) ja_nil)) ⟨_, _, s1, s3, rfl, rfl⟩) ?_)⟩
    refine js_cons (js_set 3 (je_call FT (Nat.le_refl _) (ja_cons (nm 3 rfl) (ja_cons (nm 1 rfl) ja_nil)) ⟨_, _, s2, hs.spot, rfl, rfl⟩) (js_nil ⟨some (.dat (frD c)), ?_⟩))
    rw [e0]
    rfl
  · obtain ⟨e4, rfl⟩ := hI
    refine js_cons (js_ret (JE.cast (nm 2 rfl) ?_) rfl)
    rw [List.length_map, List.take_of_length_le (Nat.le_refl _)]

/-! does_pass -/
def passB (g : Gt) (h : Int × Int) : Bool := !decide (h.1 * 1 < g.2.1 * h.2) && !decide (g.2.2 * h.2 < h.1 * 1)
def R_does : List D → Out → Prop := fun ds o => ∃ (g : Gt) (road : List (Int × Int)), GateOk g ∧ HS (g.1, 1) road ∧ ds = [encG g, .tup (road.map frD)] ∧ o = .ret (.bl (passB g (hF (g.1, 1) road)))
theorem fs_int {i : Int} (h : i.natAbs < 1000) : FS 4450 (i, 1) := ⟨show (0 : Int) < 1 by decide, Nat.lt_of_lt_of_le (show i.natAbs < 2 ^ 10 by show _ < 1024; omega) (Nat.pow_le_pow_right (by decide) (by decide)), Nat.lt_of_lt_of_le (show (1 : Int).natAbs < 2 ^ 10 by decide) (Nat.pow_le_pow_right (by decide) (by decide))⟩
theorem sc_does_pass : FnScope ["gate", "road", "place", "low", "high", "one"] ["gate", "road"] (defScope (topS 28)) := ⟨rfl, rfl, rfl, by decide +kernel, rfl, by decide +kernel, by decide +kernel⟩
theorem ok_does_pass {g : Glob} {k : Nat} (h : DefAt g "does_pass" (topS 28)) (FH : Def g "found_height" 2 k R_fheight) (FB : Def g "is_below" 2 k R_below) : Def g "does_pass" 2 (k + 1) R_does := by
  refine def_at h sc_does_pass (fun _ _ _ _ _ _ us hl => match us, hl with | [_, _], _ => rfl) fun T ds o hR hl => ?_
  obtain ⟨gt, road, ok, hs, rfl, rfl⟩ := hR
  have a1 := ok.l1
  have a2 := ok.l2
  have a3 := ok.h2
  have s0 := (hs.at_ 0).1
  rw [List.drop_zero] at s0
  refine js_cons (js_asg (nm 0 rfl) (jg_tup (jgs_cons (jg_name 2) (jgs_cons (jg_name 3) (jgs_cons (jg_name 4) jgs_nil)))) ?_)
  refine js_cons (js_set 5 (je_call FH (Nat.le_refl _) (ja_cons (nm 1 rfl) (ja_cons (je_tup (ja_cons (nm 2 rfl) (ja_cons je_int ja_nil))) ja_nil)) ⟨road, (gt.1, 1), hs, rfl, rfl⟩) ?_)
  exact js_cons (js_ret (je_and (je_not (je_call FB (Nat.le_refl _) (ja_cons (nm 5 rfl) (ja_cons (je_tup (ja_cons (nm 3 rfl) (ja_cons je_int ja_nil))) ja_nil)) ⟨_, (gt.2.1, 1), s0, fs_int (by omega), rfl, rfl⟩)) fun _ => je_one (je_not (je_call FB (Nat.le_refl _) (ja_cons (je_tup (ja_cons (nm 4 rfl) (ja_cons je_int ja_nil))) (ja_cons (nm 5 rfl) ja_nil)) ⟨(gt.2.2, 1), _, fs_int (by omega), s0, rfl, rfl⟩))) rfl)

/-! are_road, is_road -/
theorem sc_are_road : FnScope ["value", "one"] ["value"] (defScope (topS 23)) := ⟨rfl, rfl, rfl, by decide +kernel, rfl, by decide +kernel, by decide +kernel⟩
theorem ok_are_road {g : Glob} {k : Nat} (h : DefAt g "are_road" (topS 23)) (B : Bi g) (FF : Def g "is_fraction" 1 k R_isFrac) : Def g "are_road" 1 (k + 1) R_areRoad := by
  refine def_at h sc_are_road (fun _ _ _ _ _ _ us hl => match us, hl with | [_], _ => rfl) fun T ds o hR hl => ?_
  obtain ⟨n, d, hk, hz, rfl, rfl⟩ := hR
  have kd := dk_known hk
  refine js_cons (js_ret (d := .bl (isT d && mRoad d)) (je_and (je_isi B (ja_cons (nm 0 rfl) (ja_cons (je_ty B.tuple_) ja_nil)) kd (kit_tuple kd)) fun h1 => je_one ?_) ?_)
  · obtain ⟨l, rfl⟩ := isT_ex h1
    obtain ⟨m, hm⟩ := dk_tup hk
    have hz : l.length ≤ 1000 := hz
    exact JE.cast (je_all (bs := l.map mFrac) B (ja_cons (JE.cast (JLc.je (lc0 (xs := l) (enc := fun d => d) (own := [("one", 1)]) (tv := [1]) (fun d => .bl (mFrac d)) (JI.cast (ji_tup (nm 0 rfl)) (List.map_id' _).symm) (by omega) (fun T x hx => ⟨_, jgw_name 1, rfl, je_call FF (Nat.le_refl _) (ja_cons (nm 1 rfl) ja_nil) ⟨m, x, hm x hx, rfl, rfl⟩⟩))) (by rw [List.map_map]; rfl)) ja_nil)) (by rw [List.all_map]; rfl)
  · show Out.ret _ = Out.ret _
    cases d <;> rfl

/-! check_road, is_road, height: roads that are ones -/
def RoadOk (road : List (Int × Int)) : Prop := (∀ c ∈ road, Low c) ∧ 1 ≤ road.length ∧ road.length ≤ 4
theorem road_dk (road : List (Int × Int)) : dk 2 (.tup (road.map frD)) = true := by
  show (road.map frD).all (dk 1) = true
  rw [List.all_eq_true]
  intro x hx
  obtain ⟨c, _, rfl⟩ := List.mem_map.mp hx
  rfl
theorem road_m {road : List (Int × Int)} (h : ∀ c ∈ road, Low c) : mRoad (.tup (road.map frD)) = true := by
  show (road.map frD).all mFrac = true
  rw [List.all_eq_true]
  intro x hx
  obtain ⟨c, hc, rfl⟩ := List.mem_map.mp hx
  show (decide (0 < c.2) && decide (Int.gcd c.1 c.2 = 1)) = true
  rw [decide_eq_true (h c hc).pos, decide_eq_true (h c hc).one]
  rfl
def R_checkRoad0 : List D → Out → Prop := fun ds o => ∃ road, RoadOk road ∧ ds = [.tup (road.map frD)] ∧ o = .ret .non
theorem sc_check_road : FnScope ["value"] ["value"] (defScope (topS 25)) := ⟨rfl, rfl, rfl, by decide +kernel, rfl, by decide +kernel, by decide +kernel⟩
theorem ok0_check_road {g : Glob} {k : Nat} (h : DefAt g "check_road" (topS 25)) (B : Bi g) (FA : Def g "are_road" 1 k R_areRoad) : Def g "check_road" 1 (k + 1) R_checkRoad0 := by
  refine def_at h sc_check_road (fun _ _ _ _ _ _ us hl => match us, hl with | [_], _ => rfl) fun T ds o hR hl => ?_
  obtain ⟨road, ⟨r1, r2, r3⟩, rfl, rfl⟩ := hR
  have rl : ((road.map frD).length : Int) = (road.length : Int) := by rw [List.length_map]
  exact js_cons (js_if (t := false) (jt_w (jw_orF (JT.cast (jt_not (jt_val (je_call FA (Nat.le_refl _) (ja_cons (nm 0 rfl) ja_nil) ⟨2, _, road_dk road, (by show (road.map frD).length ≤ 1000; rw [List.length_map]; omega), rfl, rfl⟩))) (by rw [road_m r1]; rfl)) (jw_or1 (JT.cast (jt_not (jt_lele je_int (je_lenT B (ja_cons (nm 0 rfl) ja_nil)) je_int)) (by rw [rl, decide_eq_true (show (1 : Int) ≤ (road.length : Int) by omega), decide_eq_true (show (road.length : Int) ≤ 4 by omega)]; rfl))))) (fun z => by cases z) (fun _ => js_nil (js_nil rfl)))
def R_isRoad0 : List D → Out → Prop := fun ds o => ∃ (d : Nat) (road : List (Int × Int)), d ≤ 3 ∧ (∀ c ∈ road, Low c) ∧ road.length ≤ 100 ∧ ds = [.int (d : Int), .tup (road.map frD)] ∧ o = .ret (.bl (decide ((road.length : Int) = (d : Int) + 1)))
theorem sc_is_road : FnScope ["degree", "value"] ["degree", "value"] (defScope (topS 24)) := ⟨rfl, rfl, rfl, by decide +kernel, rfl, by decide +kernel, by decide +kernel⟩
theorem ok0_is_road {g : Glob} {k : Nat} (h : DefAt g "is_road" (topS 24)) (B : Bi g) (FD : Def g "check_degree" 1 k R_degree0) (FA : Def g "are_road" 1 k R_areRoad) : Def g "is_road" 2 (k + 1) R_isRoad0 := by
  refine def_at h sc_is_road (fun _ _ _ _ _ _ us hl => match us, hl with | [_, _], _ => rfl) fun T ds o hR hl => ?_
  obtain ⟨d, road, hd, r1, r2, rfl, rfl⟩ := hR
  refine js_cons (js_expr (je_call FD (Nat.le_refl _) (ja_cons (nm 0 rfl) ja_nil) ⟨d, hd, rfl, rfl⟩) ?_)
  refine js_cons (js_ret (JE.cast (je_and (je_call FA (Nat.le_refl _) (ja_cons (nm 1 rfl) ja_nil) ⟨2, _, road_dk road, (by show (road.map frD).length ≤ 1000; rw [List.length_map]; omega), rfl, rfl⟩) fun _ => je_one (je_eqI (je_lenT B (ja_cons (nm 1 rfl) ja_nil)) (je_add (nm 0 rfl) je_int))) ?_) rfl)
  rw [road_m r1, List.length_map]
  rfl
def R_height0 : List D → Out → Prop := fun ds o => ∃ (road : List (Int × Int)) (pl : Int × Int), RoadOk road ∧ Low pl ∧ HS pl road ∧ ds = [.tup (road.map frD), frD pl] ∧ o = .ret (frD (hF pl road))
theorem sc_height : FnScope ["road", "place"] ["road", "place"] (defScope (topS 27)) := ⟨rfl, rfl, rfl, by decide +kernel, rfl, by decide +kernel, by decide +kernel⟩
theorem ok0_height {g : Glob} {k : Nat} (h : DefAt g "height" (topS 27)) (FC : Def g "check_road" 1 k R_checkRoad0) (FF : Def g "is_fraction" 1 k R_isFrac) (FH : Def g "found_height" 2 k R_fheight) : Def g "height" 2 (k + 1) R_height0 := by
  refine def_at h sc_height (fun _ _ _ _ _ _ us hl => match us, hl with | [_, _], _ => rfl) fun T ds o hR hl => ?_
  obtain ⟨road, pl, ro, lo, hs, rfl, rfl⟩ := hR
  refine js_cons (js_expr (je_call FC (Nat.le_refl _) (ja_cons (nm 0 rfl) ja_nil) ⟨road, ro, rfl, rfl⟩) ?_)
  refine js_cons (js_if (t := false) (JT.cast (jt_not (jt_val (je_call FF (Nat.le_refl _) (ja_cons (nm 1 rfl) ja_nil) ⟨1, frD pl, rfl, rfl, rfl⟩))) (by
    show (!(decide (0 < pl.2) && decide (Int.gcd pl.1 pl.2 = 1))) = false
    rw [decide_eq_true lo.pos, decide_eq_true lo.one]
    rfl)) (fun z => by cases z) (fun _ => js_nil ?_))
  exact js_cons (js_ret (je_call FH (Nat.le_refl _) (ja_cons (nm 0 rfl) (ja_cons (nm 1 rfl) ja_nil)) ⟨road, pl, hs, rfl, rfl⟩) rfl)

/-! passed -/
theorem numd_map {α : Type} (f : α → D) (l : List α) : numd (l.map f) = l.zipIdx.map fun p => D.tup [.int (p.2 : Int), f p.1] := by
  apply List.ext_getElem?
  intro i
  unfold numd
  rw [List.getElem?_zipWith, List.getElem?_map, List.getElem?_map, List.getElem?_zipIdx]
  by_cases h : i < l.length
  · rw [List.getElem?_range (by simpa using h), List.getElem?_eq_getElem h]
    simp
  · rw [List.getElem?_eq_none (by simpa using h : l.length ≤ i)]
    cases (List.range (l.map f).length)[i]? <;> rfl
theorem zipIdx_gs (gs : List Gt) : gs.zipIdx = (List.range gs.length).map fun k => (gAt gs k, k) := by
  apply List.ext_getElem?
  intro i
  rw [List.getElem?_zipIdx, List.getElem?_map]
  by_cases h : i < gs.length
  · rw [List.getElem?_range h, List.getElem?_eq_getElem h]
    show some (gs[i], 0 + i) = some (gAt gs i, i)
    rw [gAt_get h, Nat.zero_add]
  · rw [List.getElem?_eq_none (by simpa using h), List.getElem?_eq_none (by simpa using h)]
    rfl
/-- the numbers of the gates of which f holds -/
def numsOf (gs : List Gt) (f : Gt → Bool) : List Nat := (List.range gs.length).filter fun k => f (gAt gs k)
abbrev natD (l : List Nat) : List D := l.map fun (k : Nat) => D.int (k : Int)
theorem nums_idx (gs : List Gt) (f : Gt → Bool) : (gs.zipIdx.filter fun p => f p.1).map (fun p => D.int (p.2 : Int)) = natD (numsOf gs f) := by
  rw [zipIdx_gs, List.filter_map, List.map_map]
  rfl
def R_passed0 : List D → Out → Prop := fun ds o => ∃ (gs : List Gt) (road : List (Int × Int)), GatesOk gs ∧ RoadOk road ∧ (∀ g ∈ gs, HS (g.1, 1) road) ∧ ds = [encGs gs, .tup (road.map frD)] ∧ o = .ret (.tup (natD (numsOf gs fun g => passB g (hF (g.1, 1) road))))
theorem sc_passed : FnScope ["gates", "road", "number", "gate"] ["gates", "road"] (defScope (topS 29)) := ⟨rfl, rfl, rfl, by decide +kernel, rfl, by decide +kernel, by decide +kernel⟩
theorem ok_passed {g : Glob} {k : Nat} (h : DefAt g "passed" (topS 29)) (B : Bi g) (F_check_gates : Def g "check_gates" 1 k R_check0) (F_check_road : Def g "check_road" 1 k R_checkRoad0) (F_does_pass : Def g "does_pass" 2 k R_does) : Def g "passed" 2 (k + 1) R_passed0 := by
  refine def_at h sc_passed (fun _ _ _ _ _ _ us hl => match us, hl with | [_, _], _ => rfl) fun T ds o hR hl => ?_
  obtain ⟨gs, road, hg, hr, hs, rfl, rfl⟩ := hR
  have gm := hg.most
  refine js_cons (js_expr (je_call F_check_gates (Nat.le_refl _) (ja_cons (nm 0 rfl) ja_nil) ⟨gs, hg, rfl, rfl⟩) ?_)
  refine js_cons (js_expr (je_call F_check_road (Nat.le_refl _) (ja_cons (nm 1 rfl) ja_nil) ⟨road, hr, rfl, rfl⟩) ?_)
  refine js_cons (js_ret (je_tupleL B (ja_cons (JE.cast (JLc.je (lc (xs := gs.zipIdx) (enc := fun p => D.tup [.int (p.2 : Int), encG p.1]) (own := [("number", 2), ("gate", 3)]) (tv := [2, 3]) (fun p => passB p.1 (hF (p.1.1, 1) road)) (fun p => .int (p.2 : Int)) (JI.cast (ji_enT B (ja_cons (nm 0 rfl) ja_nil)) (numd_map encG gs)) (by rw [List.length_zipIdx]; omega) (fun T p hp => ⟨_, jgw_tup (jgsw_cons (jgw_name 2) (jgsw_cons (jgw_name 3) jgsw_nil)), jts_one (jt_val (je_call F_does_pass (Nat.le_refl _) (ja_cons (nm 3 rfl) (ja_cons (nm 1 rfl) ja_nil)) ?_)), rfl, fun _ => (nm 2 rfl)⟩))) ?_) ja_nil)) rfl)
  · have hm := List.fst_mem_of_mem_zipIdx hp
    exact ⟨p.1, road, hg.ok _ hm, hs _ hm, rfl, rfl⟩
  · rw [nums_idx gs fun g => passB g (hF (g.1, 1) road)]

/-! _law_passes -/
def lpassB (g : Gt) (h m : Int × Int) : Bool := !decide (h.1 * (plusF (g.2.1, 1) (0 - m.1, m.2)).2 < (plusF (g.2.1, 1) (0 - m.1, m.2)).1 * h.2) && !decide ((plusF (g.2.2, 1) m).1 * h.2 < h.1 * (plusF (g.2.2, 1) m).2)
structure PS (g : Gt) (road : List (Int × Int)) (m : Int × Int) : Prop where
  gate : GateOk g
  ls : LS (g.1, 1) road
  m1 : FS 4450 m
  lo : FS 4450 (plusF (g.2.1, 1) (0 - m.1, m.2))
  hi : FS 4450 (plusF (g.2.2, 1) m)
def R_lpasses : List D → Out → Prop := fun ds o => ∃ (g : Gt) (road : List (Int × Int)) (m : Int × Int), PS g road m ∧ ds = [encG g, .tup (road.map frD), frD m] ∧ o = .ret (.bl (lpassB g (stL (g.1, 1) road).1 m))
theorem sc__law_passes : FnScope ["gate", "curve", "more", "here", "low", "high"] ["gate", "curve", "more"] (defScope (topS 55)) := ⟨rfl, rfl, rfl, by decide +kernel, rfl, by decide +kernel, by decide +kernel⟩
theorem ok__law_passes {g : Glob} {k : Nat} (h : DefAt g "_law_passes" (topS 55)) (B : Bi g) (F__law_height : Def g "_law_height" 2 k R_lheight) (F__law_plus : Def g "_law_plus" 2 k R_plus) (F__law_below : Def g "_law_below" 2 k R_below) : Def g "_law_passes" 3 (k + 1) R_lpasses := by
  refine def_at h sc__law_passes (fun _ _ _ _ _ _ us hl => match us, hl with | [_, _, _], _ => rfl) fun T ds o hR hl => ?_
  obtain ⟨gt, road, m, ps, rfl, rfl⟩ := hR
  have go := ps.gate
  have a1 := go.l1
  have a2 := go.l2
  have a3 := go.h2
  have s0 := (ps.ls.at_ road.length).1
  rw [List.take_length] at s0
  have mn : FS 4450 (0 - m.1, m.2) := ⟨ps.m1.pos, by have := ps.m1.top; show (0 - m.1).natAbs < _; omega, ps.m1.bot⟩
  refine js_cons (js_set 3 (je_call F__law_height (Nat.le_refl _) (ja_cons (nm 1 rfl) (ja_cons (je_tup (ja_cons (je_ixT (nm 0 rfl) je_int rfl) (ja_cons je_int ja_nil))) ja_nil)) ⟨road, (gt.1, 1), ps.ls, rfl, rfl⟩) ?_)
  refine js_cons (js_par 4 5 (ja_cons (je_call F__law_plus (Nat.le_refl _) (ja_cons (je_tup (ja_cons (je_ixT (nm 0 rfl) je_int rfl) (ja_cons je_int ja_nil))) (ja_cons (je_tup (ja_cons (je_sub je_int (je_ixT (nm 2 rfl) je_int rfl)) (ja_cons (je_ixT (nm 2 rfl) je_int rfl) ja_nil))) ja_nil)) ⟨(gt.2.1, 1), (0 - m.1, m.2), fs_lt (by omega), mn, rfl, rfl⟩) (ja_cons (je_call F__law_plus (Nat.le_refl _) (ja_cons (je_tup (ja_cons (je_ixT (nm 0 rfl) je_int rfl) (ja_cons je_int ja_nil))) (ja_cons (nm 2 rfl) ja_nil)) ⟨(gt.2.2, 1), m, fs_lt (by omega), ps.m1, rfl, rfl⟩) ja_nil)) ?_ (fun env he => by obtain ⟨_, _, _, _, _, _, _, _, _⟩ := env; cases he; kernel_rfl))
  exact js_cons (js_ret (je_and (je_not (je_call F__law_below (Nat.le_refl _) (ja_cons (nm 3 rfl) (ja_cons (nm 4 rfl) ja_nil)) ⟨_, _, s0, ps.lo, rfl, rfl⟩)) fun _ => je_one (je_not (je_call F__law_below (Nat.le_refl _) (ja_cons (nm 5 rfl) (ja_cons (nm 3 rfl) ja_nil)) ⟨_, _, ps.hi, s0, rfl, rfl⟩))) rfl)

/-! _law_curve -/
/-- a drawn road: tops and bottoms, and the town behind -/
def curveD (ns : List Int) : Nat → List Int → List (Int × Int) × List Int
  | 0, ts => ([], ts)
  | n + 1, ts => ((curveD ns n ts).1 ++ [((drawR ns (curveD ns n ts).2 9).1 - 4, 1 + (drawR ns (drawR ns (curveD ns n ts).2 9).2 3).1)], (drawR ns (drawR ns (curveD ns n ts).2 9).2 3).2)
theorem curveD_ok {ns ts : List Int} {m : Nat} (t : TownOk ns ts m) : ∀ n, (curveD ns n ts).1.length = n ∧ (∀ c ∈ (curveD ns n ts).1, -4 ≤ c.1 ∧ c.1 ≤ 4 ∧ 1 ≤ c.2 ∧ c.2 ≤ 3) ∧ TownOk ns (curveD ns n ts).2 (m + 2 * n)
  | 0 => ⟨rfl, fun c hc => (by cases hc), t⟩
  | n + 1 => by
    obtain ⟨h1, h2, h3⟩ := curveD_ok t n
    have l1 := draw_lo (ns := ns) (ts := (curveD ns n ts).2) (lim := 9) (by decide)
    have l2 := draw_lo (ns := ns) (ts := (drawR ns (curveD ns n ts).2 9).2) (lim := 3) (by decide)
    refine ⟨?_, fun c hc => ?_, h3.next.next⟩
    · show (_ ++ [_]).length = _
      rw [List.length_append, h1]
      rfl
    · rcases List.mem_append.mp hc with hc | hc
      · exact h2 c hc
      · rw [List.mem_singleton] at hc
        subst hc
        show -4 ≤ _ - 4 ∧ _ - 4 ≤ 4 ∧ 1 ≤ 1 + _ ∧ 1 + _ ≤ 3
        omega
abbrev frF (c : Int × Int) : Int × Int := Lp.frac c.1 c.2
theorem curve_ex {ns ts : List Int} {m : Nat} (t : TownOk ns ts m) (n : Nat) : ∃ cs ts', curveD ns n ts = (cs, ts') ∧ cs.length = n ∧ (∀ c ∈ cs, -4 ≤ c.1 ∧ c.1 ≤ 4 ∧ 1 ≤ c.2 ∧ c.2 ≤ 3) ∧ TownOk ns ts' (m + 2 * n) := by
  obtain ⟨h1, h2, h3⟩ := curveD_ok t n
  exact ⟨_, _, rfl, h1, h2, h3⟩
def R_curve : RT := fun ns ts ds d ts' => ∃ (m n : Nat), TownOk ns ts m ∧ m ≤ 900000 ∧ n ≤ 3 ∧ ds = [.int (n : Int)] ∧ d = .tup ((curveD ns (n + 1) ts).1.map fun c => frD (frF c)) ∧ ts' = (curveD ns (n + 1) ts).2
abbrev n_curve : List Str := ["script", "town", "degree", "found", "power"]
theorem sc__law_curve : FnScope n_curve ["script", "town", "degree"] (defScope (topS 57)) := ⟨rfl, rfl, rfl, by decide +kernel, rfl, by decide +kernel, by decide +kernel⟩
theorem ok__law_curve {g : Glob} {k : Nat} (h : DefAt g "_law_curve" (topS 57)) (B : Bi g) (F__law_draw : DefS g "_law_draw" k (spDraw g.K)) (F__law_ratio : Def g "_law_ratio" 2 k R_fraction) : DefS g "_law_curve" (k + 1) (spT g.K 1 R_curve) := by
  refine town_at h sc__law_curve rfl (fun _ _ _ _ _ _ us hl => match us, hl with | [_, _, _], _ => rfl) fun T a q ns ts ds d ts' hR hl hq => ?_
  obtain ⟨m, n, t0, hm, hn, rfl, rfl, rfl⟩ := hR
  refine js_cons (js_own 3 ja_nil fun p hp => ?_)
  refine js_cons (js_for (JI.cast (ji_r1 B (ja_cons (je_add (nm 2 rfl) je_int) ja_nil) (by omega)) (show rng 0 ((n : Int) + 1) = rng 0 ((n + 1 : Nat) : Int) from rfl)) (fun i Z => ∃ e4, Z = ⟨p :: T, [some (scr a g.K ns), some (twn q (curveD ns i ts).2), some (.dat (.int (n : Int))), some (.own p ((curveD ns i ts).1.map fun c => frD (frF c))), e4]⟩) ⟨none, rfl⟩ (fun i d Z hd hI => ?_) fun Z hI => ?_)
  · obtain ⟨e4, rfl⟩ := hI
    obtain ⟨hi, rfl⟩ := rng_nat hd
    obtain ⟨c1, c2, t1⟩ := curveD_ok t0 i
    obtain ⟨r1, ts1, e1, l1, u1, t2⟩ := draw_ex (lim := 9) t1 (by decide)
    obtain ⟨r2, ts2, e2, l2, u2, t3⟩ := draw_ex (lim := 3) t2 (by decide)
    refine ⟨_, jg_name 4, js_cons (js_app 3 (d := frD (frF (r1 - 4, 1 + r2))) (je_call F__law_ratio (Nat.le_refl _) (ja_cons (je_sub (je_draw F__law_draw (Nat.le_refl _) 0 1 (ja_cons (nmR 0 rfl) (ja_cons (nmR 1 rfl) (ja_cons je_int ja_nil))) rfl rfl t1 e1) je_int) (ja_cons (je_add je_int (je_draw F__law_draw (Nat.le_refl _) 0 1 (ja_cons (nmR 0 rfl) (ja_cons (nmR 1 rfl) (ja_cons je_int ja_nil))) rfl rfl t2 e2)) ja_nil)) ⟨r1 - 4, 1 + r2, by omega, Nat.lt_of_lt_of_le (by omega : (1 + r2).natAbs < 2 ^ 2) (p2_le (by decide)), rfl, rfl⟩) rfl (js_nil ⟨some (.dat (.int (i : Int))), ?_⟩) (hz := by rw [List.length_map, c1]; omega))⟩
    show _ = State.mk _ [_, some (twn q (drawR ns (drawR ns (curveD ns i ts).2 9).2 3).2), _, some (.own p (((curveD ns i ts).1 ++ [((drawR ns (curveD ns i ts).2 9).1 - 4, 1 + (drawR ns (drawR ns (curveD ns i ts).2 9).2 3).1)]).map fun c => frD (frF c))), _]
    rw [e1, e2, List.map_append]
    rfl
  · obtain ⟨e4, rfl⟩ := hI
    rw [rng_natlen]
    refine js_melt 3 rfl hp ?_
    exact js_cons (js_ret (je_tupleL B (ja_cons (nm 3 rfl) ja_nil)) ⟨rfl, rfl⟩)

/-! _law_sums -/
theorem atI_gate2 {gs : List Gt} {k : Nat} (h : k < gs.length) : atI (gs.map encG) (k : Int) = some (.tup [.int (gAt gs k).1, .int (gAt gs k).2.1, .int (gAt gs k).2.2]) := atI_gate h
theorem sc__law_sums : FnScope ["gates", "degree", "value", "found", "power", "total", "number", "side", "weight", "spot", "end"] ["gates", "degree", "value"] (defScope (topS 58)) := ⟨rfl, rfl, rfl, by decide +kernel, rfl, by decide +kernel, by decide +kernel⟩
theorem ok__law_sums {g : Glob} {k : Nat} (h : DefAt g "_law_sums" (topS 58)) (B : Bi g) (F__law_plus : Def g "_law_plus" 2 k R_plus) (F__law_times : Def g "_law_times" 2 k R_times) : Def g "_law_sums" 3 (k + 1) R_lsums := by
  refine def_at h sc__law_sums (fun _ _ _ _ _ _ us hl => match us, hl with | [_, _, _], _ => rfl) fun T ds o hR hl => ?_
  obtain ⟨gs, d, ts, v, hg, hd, tw, hv, rfl, rfl⟩ := hR
  refine js_cons (js_own 3 ja_nil fun q hq => ?_)
  refine js_cons (js_for (JI.cast (ji_r1 B (ja_cons (je_add (nm 1 rfl) je_int) ja_nil) (by omega)) (show rng 0 ((d : Int) + 1) = rng 0 ((d + 1 : Nat) : Int) from rfl)) (fun i Z => ∃ e4 e5 e6 e7 e8 e9, Z = ⟨q :: T, [some (.dat (encGs gs)), some (.dat (.int (d : Int))), some (.dat v), some (.own q ((List.range i).map fun pw => frD (lsum gs ts pw))), e4, e5, e6, e7, e8, e9, none]⟩) ⟨none, none, none, none, none, none, rfl⟩ (fun i x Z hx hI => ?_) fun Z hI => ?_)
  · obtain ⟨e4, e5, e6, e7, e8, e9, rfl⟩ := hI
    obtain ⟨hi, rfl⟩ := rng_nat hx
    have ss := tw.ss i (by omega)
    refine ⟨_, jg_name 4, ?_⟩
    refine js_cons (js_set 5 (je_tup (ja_cons je_int (ja_cons je_int ja_nil))) ?_)
    refine js_cons (js_for (ji_sq hv (nm 2 rfl)) (fun j Z => ∃ e6 e7 e8 e9, Z = ⟨q :: T, [some (.dat (encGs gs)), some (.dat (.int (d : Int))), some (.dat v), some (.own q ((List.range i).map fun pw => frD (lsum gs ts pw))), some (.dat (.int (i : Int))), some (.dat (frD (sumF ((ts.take j).map (cwP gs i))))), e6, e7, e8, e9, none]⟩) ⟨e6, e7, e8, e9, rfl⟩ (fun j y Z hy hI => ?_) fun Z hI => ?_)
    · obtain ⟨e6, e7, e8, e9, rfl⟩ := hI
      rw [List.getElem?_map] at hy
      obtain ⟨t, ht, rfl⟩ := Option.map_eq_some_iff.mp hy
      have hm := List.mem_of_getElem? ht
      obtain ⟨k1, k2⟩ := tw.ok t hm
      obtain ⟨s1, s2, s3⟩ := ss.up _ (List.mem_map.mpr ⟨t, hm, rfl⟩)
      have go := hg.ok _ (gAt_mem k1)
      have b1 := go.p1
      have b2 := go.p2
      have sp : (gAt gs t.1).1.natAbs ≤ 20 := by omega
      have m2 : ((gAt gs t.1).1 * (gAt gs t.1).1).natAbs ≤ 400 := by rw [Int.natAbs_mul]; exact Nat.mul_le_mul sp sp
      have pp := pow8000 b1 b2 (by omega : i ≤ 3)
      have s0 := ss.at_ j
      rw [← List.map_take] at s0
      refine ⟨_, jg_tup (jgs_cons (jg_name 6) (jgs_cons (jg_name 7) (jgs_cons (jg_name 8) jgs_nil))), ?_⟩
      refine js_cons (js_set 9 (je_ixT (je_ixT (nm 0 rfl) (nm 6 rfl) (atI_gate2 k1)) je_int rfl) ?_)
      refine js_cons (js_set 5 (je_call F__law_plus (Nat.le_refl _) (ja_cons (nm 5 rfl) (ja_cons (je_call F__law_times (Nat.le_refl _) (ja_cons (je_tup (ja_cons (je_mul (nm 7 rfl) (je_ixT (je_tup (ja_cons je_int (ja_cons (nm 9 rfl) (ja_cons (je_mul (nm 9 rfl) (nm 9 rfl) (mulB sp sp (by decide) (by decide))) (ja_cons (je_mul (je_mul (nm 9 rfl) (nm 9 rfl) (mulB sp sp (by decide) (by decide))) (nm 9 rfl) (mulB m2 sp (by decide) (by decide))) ja_nil))))) (nm 4 rfl) (pow_pick (by omega))) (mulB (by omega : t.2.1.natAbs ≤ 1) pp (by decide) (by decide))) (ja_cons je_int ja_nil))) (ja_cons (nm 8 rfl) ja_nil)) ⟨((cwP gs i t).1, 1), t.2.2, s1, s2, rfl, rfl⟩) ja_nil)) ⟨_, _, s0, s3, rfl, rfl⟩) (js_nil ⟨some (.dat (.int (t.1 : Int))), some (.dat (.int t.2.1)), some (.dat (frD t.2.2)), some (.dat (.int (gAt gs t.1).1)), ?_⟩))
      rw [lsum_take (gs := gs) ht]
      rfl
    · obtain ⟨e6, e7, e8, e9, rfl⟩ := hI
      rw [List.length_map, List.take_length]
      refine js_cons (js_app 3 (nm 5 rfl) rfl (js_nil ⟨some (.dat (.int (i : Int))), some (.dat (frD (lsum gs ts i))), e6, e7, e8, e9, ?_⟩) (hz := by rw [List.length_map, List.length_range]; omega))
      show _ = State.mk _ [_, _, _, some (.own q ((List.range (i + 1)).map fun pw => frD (lsum gs ts pw))), _, _, _, _, _, _, _]
      rw [List.range_succ, List.map_append]
      rfl
  · obtain ⟨e4, e5, e6, e7, e8, e9, rfl⟩ := hI
    rw [rng_natlen]
    refine js_melt 3 rfl hq ?_
    refine js_cons (js_set 5 (je_tup (ja_cons je_int (ja_cons je_int ja_nil))) ?_)
    refine js_cons (js_for (ji_sq hv (nm 2 rfl)) (fun j Z => ∃ e6 e7 e8 e10, Z = ⟨T, [some (.dat (encGs gs)), some (.dat (.int (d : Int))), some (.dat v), some (.dat (.lst ((List.range (d + 1)).map fun pw => frD (lsum gs ts pw)))), e4, some (.dat (frD (sumF ((ts.take j).map (cwE gs))))), e6, e7, e8, e9, e10]⟩) ⟨e6, e7, e8, none, rfl⟩ (fun j y Z hy hI => ?_) fun Z hI => ?_)
    · obtain ⟨e6, e7, e8, e10, rfl⟩ := hI
      rw [List.getElem?_map] at hy
      obtain ⟨t, ht, rfl⟩ := Option.map_eq_some_iff.mp hy
      have hm := List.mem_of_getElem? ht
      obtain ⟨k1, k2⟩ := tw.ok t hm
      obtain ⟨s1, s2, s3⟩ := tw.se.up _ (List.mem_map.mpr ⟨t, hm, rfl⟩)
      have s0 := tw.se.at_ j
      rw [← List.map_take] at s0
      refine ⟨_, jg_tup (jgs_cons (jg_name 6) (jgs_cons (jg_name 7) (jgs_cons (jg_name 8) jgs_nil))), ?_⟩
      refine js_cons (js_set 10 (d := .int (endOfE gs (t.1, t.2.1))) (je_ifP (jt_eqI (nm 7 rfl) je_int) (fun z => ?_) fun z => ?_) ?_)
      · have z := of_decide_eq_true z
        refine JE.cast (je_ixT (je_ixT (nm 0 rfl) (nm 6 rfl) (atI_gate2 k1)) je_int rfl) ?_
        unfold endOfE
        rw [if_pos z]
      · have z := of_decide_eq_false z
        refine JE.cast (je_sub je_int (je_ixT (je_ixT (nm 0 rfl) (nm 6 rfl) (atI_gate2 k1)) je_int rfl)) ?_
        unfold endOfE
        rw [if_neg z, Int.zero_sub]
      refine js_cons (js_set 5 (je_call F__law_plus (Nat.le_refl _) (ja_cons (nm 5 rfl) (ja_cons (je_call F__law_times (Nat.le_refl _) (ja_cons (je_tup (ja_cons (nm 10 rfl) (ja_cons je_int ja_nil))) (ja_cons (nm 8 rfl) ja_nil)) ⟨((cwE gs t).1, 1), t.2.2, s1, s2, rfl, rfl⟩) ja_nil)) ⟨_, _, s0, s3, rfl, rfl⟩) (js_nil ⟨some (.dat (.int (t.1 : Int))), some (.dat (.int t.2.1)), some (.dat (frD t.2.2)), some (.dat (.int (endOfE gs (t.1, t.2.1)))), ?_⟩))
      rw [lsum_take (gs := gs) ht]
      rfl
    · obtain ⟨e6, e7, e8, e10, rfl⟩ := hI
      rw [List.length_map, List.take_length]
      exact js_cons (js_ret (je_catL (nm 3 rfl) (je_lst (ja_cons (nm 5 rfl) ja_nil)) (by rw [List.length_map, List.length_range]; show d + 1 + 1 ≤ _; omega)) rfl)

/-! _law_entries -/
abbrev keyW (t : Tw) : List Int := [(t.1 : Int), t.2.1]
theorem okD_keys (ks : List (List Int)) : okD 3 (.lst (ks.map tI)) = true := by
  show (ks.map tI).all (okD 2) = true
  rw [List.all_eq_true]
  intro x hx
  obtain ⟨k, _, rfl⟩ := List.mem_map.mp hx
  show (k.map D.int).all (okD 1) = true
  rw [List.all_eq_true]
  intro y hy
  obtain ⟨i, _, rfl⟩ := List.mem_map.mp hy
  rfl
theorem filter_none {α : Type} {f : α → Bool} {g : α → D} {l : List α} (h : ∀ x ∈ l, f x = false) : (l.filter f).map g = [] := by
  rw [List.filter_eq_nil_iff.mpr (fun x hx z => by rw [h x hx] at z; cases z)]
  rfl
theorem sc__law_entries : FnScope ["gates", "most", "value", "names", "one"] ["gates", "most", "value"] (defScope (topS 59)) := ⟨rfl, rfl, rfl, by decide +kernel, rfl, by decide +kernel, by decide +kernel⟩
theorem ok__law_entries {g : Glob} {k : Nat} (h : DefAt g "_law_entries" (topS 59)) (B : Bi g) : Def g "_law_entries" 3 (k + 1) R_lentries := by
  refine def_at h sc__law_entries (fun _ _ _ _ _ _ us hl => match us, hl with | [_, _, _], _ => rfl) fun T ds o hR hl => ?_
  obtain ⟨gs, most, ts, v, g8, en, hv, rfl, rfl⟩ := hR
  have hl := en.len
  refine js_cons (js_setLc 3 (d := .lst ((ts.map keyW).map tI)) (JLc.cast (lc0 (xs := ts) (enc := encTw) (own := [("one", 4)]) (tv := [4]) (fun t => tI (keyW t)) (ji_sq hv (nm 2 rfl)) (by omega) (fun T t ht => ⟨_, jgw_name 4, rfl, JE.cast (je_slT (nm 4 rfl) jo_none (jo_some je_int)) rfl⟩)) (by rw [List.map_map]; rfl)) ?_)
  refine js_cons (js_if (t := false) (jt_w (jw_orF (JT.cast (jt_ne 3 (nm 3 rfl) (je_sortSet B (ja_cons (nm 3 rfl) ja_nil) (fun x hx => ?_) (by rw [List.length_map]; exact hl) (List.pairwise_map.mpr en.up)) (okD_keys _) (okD_keys _)) (by rw [eqD_refl (okD_keys _)]; rfl)) (jw_orF (JT.cast (jt_gt (je_lenSq hv B (ja_cons (nm 2 rfl) ja_nil)) (nm 1 rfl)) (by rw [List.length_map]; exact decide_eq_false (by have := en.few; omega))) (jw_or1 (JT.cast (jt_ne 2 (d1 := .lst []) (JE.cast (JLc.je (lc (xs := ts) (enc := encTw) (own := [("one", 4)]) (tv := [4]) (fun t => decide (t.2.2.1 ≤ 0)) encTw (ji_sq hv (nm 2 rfl)) (by omega) (fun T t ht => ⟨_, jgw_name 4, jts_one (jt_le (je_ixT (je_ixT (nm 4 rfl) je_int rfl) je_int rfl) je_int), rfl, fun _ => (nm 4 rfl)⟩))) (by rw [filter_none fun t ht => decide_eq_false (by have := (en.ok t ht).2.2; omega)])) (je_lst ja_nil) rfl rfl) rfl))))) (fun z => by cases z) (fun _ => js_nil ?_))
  · obtain ⟨t, _, rfl⟩ := List.mem_map.mp hx
    exact fun z => by cases z
  refine js_cons (js_ret (JE.cast (je_eq 2 (d1 := .lst []) (JE.cast (JLc.je (lc (xs := ts) (enc := encTw) (own := [("one", 4)]) (tv := [4]) (fun t => false) encTw (ji_sq hv (nm 2 rfl)) (by omega) (fun T t ht => ⟨_, jgw_name 4, jts_one (jt_w (jw_orF (JT.cast (jt_ninRng B (je_ixT (nm 4 rfl) je_int rfl) (ja_cons (je_lenT B (ja_cons (nm 0 rfl) ja_nil)) ja_nil)) ?_) (jw_or1 (JT.cast (jt_ninT (ns := [-1, 1]) (je_ixT (nm 4 rfl) je_int rfl) (je_tup (ja_cons (je_neg je_int) (ja_cons je_int ja_nil)))) ?_)))), rfl, fun z => by cases z⟩))) (by rw [filter_none fun _ _ => rfl])) (je_lst ja_nil) rfl rfl) rfl) rfl)
  · have := (en.ok t ht).1
    rw [List.length_map, decide_eq_true (by omega : (0 : Int) ≤ (t.1 : Int) ∧ (t.1 : Int) < (gs.length : Int))]
    rfl
  · rcases (en.ok t ht).2.1 with e | e <;> rw [e] <;> rfl

/-! _law_draw -/
theorem drawAt_lt {ns : List Int} {c : Int} (h : ns ≠ []) : drawAt ns c < ns.length := by
  have hl : 0 < ns.length := List.length_pos_iff.mpr h
  unfold drawAt
  have := Int.emod_lt_of_pos c (show (0 : Int) < ns.length by omega)
  have := Int.emod_nonneg c (show (ns.length : Int) ≠ 0 by omega)
  omega
theorem drawAt_cast {ns : List Int} {c : Int} (h : ns ≠ []) : ((drawAt ns c : Nat) : Int) = c % ns.length := by
  have hl : 0 < ns.length := List.length_pos_iff.mpr h
  unfold drawAt
  have := Int.emod_nonneg c (show (ns.length : Int) ≠ 0 by omega)
  omega
theorem atI_getD {α : Type} {xs : List α} {j : Nat} {d : α} (h : j < xs.length) : atI xs (j : Int) = some (xs.getD j d) := by
  refine atI_nat ?_
  rw [List.getElem?_eq_getElem h, List.getD_eq_getElem?_getD, List.getElem?_eq_getElem h]
  rfl
theorem bits_of {i : Int} {n : Nat} (h : i.natAbs < 2 ^ n) (h0 : 0 < n) : i.natAbs.log2 < n := PySem.Flt.log2_lt_of h0 h
theorem mulOk {i j : Int} {n : Nat} (hn : 0 < n ∧ n ≤ 400000) (h1 : i.natAbs < 2 ^ n) (h2 : j.natAbs < 2 ^ n) : CMulW i j := wide_mul h1 h2 hn.1 hn.1 (by omega)
theorem mulS {i j : Int} (h1 : i.natAbs < 1000000000000000000) (h2 : j.natAbs < 1000000000000000000) : CMulW i j := mulOk (n := 60) (by decide) (Nat.lt_trans h1 (by decide)) (Nat.lt_trans h2 (by decide))
theorem divS {i j : Int} (h : 0 < j) (h2 : j < 1000000000000000000) : CDivW i j := wide_div (b := 60) h (by
  have : 1000000000000000000 ≤ 2 ^ 60 := by decide
  omega) (by decide) (by decide)
theorem sc__law_draw : FnScope ["script", "town", "limit", "at", "left", "number"] ["script", "town", "limit"] (defScope (topS 48)) := ⟨rfl, rfl, rfl, by decide +kernel, rfl, by decide +kernel, by decide +kernel⟩
theorem ok__law_draw {g : Glob} {k : Nat} (h : DefAt g "_law_draw" (topS 48)) (B : Bi g) : DefS g "_law_draw" (k + 1) (spDraw g.K) := by
  refine defs_at h sc__law_draw (fun _ _ _ _ _ _ us hl => match us, hl with | [_, _, _], _ => rfl) (fun vs H Q E h => by obtain ⟨_, _, _, _, _, _, rfl, _⟩ := h; rfl) fun vs H Q E hsp => ?_
  obtain ⟨a, q, ns, ts, lim, m, rfl, hA, hQ, tk, hm, hl0, hl1, hQQ⟩ := hsp
  refine ⟨⟨H, [q], [q], fun _ _ => False, fun _ _ => False⟩, ⟨[q], [some (scr a g.K ns), some (twn q ts), some (.dat (.int lim)), none, none, none]⟩, postRt fun Z d => d = .int (drawR ns ts lim).1 ∧ Z.ρ[1]? = some (some (twn q (drawR ns ts lim).2)), ?_, ends_rt fun Z d v σ H' hp ok rv => ?_, ?_⟩
  · refine ok_start (N := ["script", "town", "limit", "at", "left", "number"]) (vs := [.ref a, .ref q, .int lim]) (evs := [scr a g.K ns, twn q ts, .dat (.int lim)]) rfl (by show 3 ≤ 6; decide) (fun i v ev h1 h2 => ?_) (fun i j e f h1 h2 b m1 m2 => ?_) (fun e he b hb => ?_) (fun e he q' ds z => ?_) (fun b hb => ?_) (fun b hb => hb)
    · match i with
      | 0 => cases h1; cases h2; exact ⟨rfl, (fun _ m => by cases m), hA, scr_sound⟩
      | 1 => cases h1; cases h2; exact ⟨rfl, fun _ m => m, hQ, twn_sound⟩
      | 2 => cases h1; cases h2; exact ⟨_, rfl, .int lim⟩
      | n + 3 => simp at h1
    · have w : ∀ (n : Nat) e, ([scr a g.K ns, twn q ts, .dat (.int lim)] : List EV)[n]? = some e → b ∈ e.foot → n = 1 := fun n e hn hb => by
        match n with
        | 0 => cases hn; cases hb
        | 1 => rfl
        | 2 => cases hn; cases hb
        | n + 3 => simp at hn
      rw [w i e h1 m1, w j f h2 m2]
    · simp only [List.mem_cons, List.not_mem_nil, or_false] at he
      rcases he with rfl | rfl | rfl
      · cases hb
      · exact hb
      · cases hb
    · simp only [List.mem_cons, List.not_mem_nil, or_false] at he
      rcases he with rfl | rfl | rfl <;> cases z
    · rw [List.mem_singleton.mp hb]
      exact ⟨_, hQ, fun z => z⟩
  · obtain ⟨rfl, hr⟩ := hp
    cases rv.inv_int
    obtain ⟨_, _, _, _, h2, _⟩ := ok.env 1 _ hr
    exact hQQ H' (fun b ob e n => ok.out b ob e fun m => n (List.mem_singleton.mp m)) h2
  · have hl := tk.len
    have hlo := tk.lo
    have hhi := tk.hi
    have hpos : 0 < ts.length := by omega
    generalize hc : ts.headD 0 + 1 = c
    have e0 : atI ts 0 = some (ts.headD 0) := by
      cases ts with
      | nil => simp at hpos
      | cons t ts => exact atI_nat (j := 0) rfl
    have i0 : ixN ts.length 0 = some 0 := by
      unfold ixN
      rw [if_pos (by decide), if_pos (by omega)]
      rfl
    have e1 : atI (ts.set 0 c) 0 = some c := by
      cases ts with
      | nil => simp at hpos
      | cons t ts => exact atI_nat (j := 0) rfl
    refine js_cons (js_twSet 1 (je_add (je_twIx 1 je_int rfl e0) je_int) je_int rfl i0 ?_)
    rw [hc]
    have eD : drawR ns ts lim = if ns = [] then (c * c * 7 / 3 % lim, ts.set 0 c) else if 10 ^ 18 ≤ ns.getD (drawAt ns c) 0 ∧ 0 < (ts.set 0 c).getD (1 + drawAt ns c) 0 then ((ts.set 0 c).getD (1 + drawAt ns c) 0 % lim, (ts.set 0 c).set (1 + drawAt ns c) ((ts.set 0 c).getD (1 + drawAt ns c) 0 / lim))
        else ((((ns.getD (drawAt ns c) 0 + 104729 * c) % 4294967291) ^ 5 % 4294967279 / 64 * 69621 + ((ns.getD (drawAt ns c) 0 + 104729 * c) % 4294967291) ^ 5 % 4294967279) % 4294967231 / 8 % lim, ts.set 0 c) := by
      unfold drawR
      rw [hc]
    have cS : c.natAbs < 1000000000000000000 := by omega
    have ccS : (c * c).natAbs < 1000000000000000000 := by
      rw [Int.natAbs_mul]
      have : c.natAbs ≤ 1000001 := by omega
      exact Nat.lt_of_le_of_lt (Nat.mul_le_mul this this) (by decide)
    refine js_cons (js_if (jt_scrNil 0 rfl) (fun hn => ?_) (fun hn => ?_))
    · have hn : ns = [] := of_decide_eq_true hn
      refine js_cons (js_ret (je_mod (je_fdiv (je_mul (je_mul (je_twIx 1 je_int rfl e1) (je_twIx 1 je_int rfl e1) (mulS cS cS)) je_int (mulS ccS (by decide))) je_int (divS (by decide) (by decide))) (nm 2 rfl) hl0) ⟨?_, ?_⟩)
      · rw [eD, if_pos hn]
      · rw [eD, if_pos hn]; rfl
    · have hn : ns ≠ [] := of_decide_eq_false hn
      have lt := drawAt_lt (c := c) hn
      have hlen : 0 < ns.length := List.length_pos_iff.mpr hn
      have ca := drawAt_cast (c := c) hn
      refine js_nil ?_
      show JSs _ _ _ _
      refine js_cons (js_set 3 (je_mod (je_twIx 1 je_int rfl e1) (je_scrLen B 0 rfl) (by omega)) ?_)
      rw [← ca]
      have l1 : 1 + drawAt ns c < (ts.set 0 c).length := by rw [List.length_set]; omega
      have ix : ixN (ts.set 0 c).length (1 + (drawAt ns c : Int)) = some (1 + drawAt ns c) := by
        unfold ixN
        rw [if_pos (by omega), if_pos (by omega)]
        congr 1
      have et : atI (ts.set 0 c) (1 + (drawAt ns c : Int)) = some ((ts.set 0 c).getD (1 + drawAt ns c) 0) := by
        have := atI_getD (d := (0 : Int)) l1
        rw [← this]
        congr 1
      have es : atI ns (drawAt ns c : Int) = some (ns.getD (drawAt ns c) 0) := atI_getD lt
      refine js_cons (js_set 4 (je_twIx 1 (je_add je_int (nm 3 rfl)) rfl et) ?_)
      generalize hL : (ts.set 0 c).getD (1 + drawAt ns c) 0 = left at *
      generalize hS : ns.getD (drawAt ns c) 0 = s at *
      refine js_cons (js_if (jt_w (jw_and (jt_ge (je_scrIx 0 (nm 3 rfl) rfl es) (je_pow je_int je_int ⟨by decide, by decide, by decide⟩)) fun _ => jw_and1 (jt_gt (nm 4 rfl) je_int))) (fun ht => ?_) (fun ht => ?_))
      · rw [Bool.and_eq_true, decide_eq_true_eq, decide_eq_true_eq] at ht
        have hc2 : 10 ^ 18 ≤ s ∧ 0 < left := ⟨ht.1, ht.2⟩
        refine js_cons (js_twSet 1 (je_fdiv (nm 4 rfl) (nm 2 rfl) (divS hl0 (by omega))) (je_add je_int (nm 3 rfl)) rfl ix ?_)
        refine js_cons (js_ret (je_mod (nm 4 rfl) (nm 2 rfl) hl0) ⟨?_, ?_⟩)
        · rw [eD, if_neg hn, if_pos hc2]
        · rw [eD, if_neg hn, if_pos hc2]; rfl
      · have hc2 : ¬ (10 ^ 18 ≤ s ∧ 0 < left) := fun z => by
          have w1 : decide ((10 : Int) ^ (Int.toNat 18) ≤ s) = true := decide_eq_true z.1
          have w2 : decide (0 < left) = true := decide_eq_true z.2
          rw [w1, w2] at ht
          cases ht
        refine js_nil ?_
        show JSs _ _ _ _
        refine js_cons (js_set 5 (je_mod (je_add (je_scrIx 0 (nm 3 rfl) rfl es) (je_mul je_int (je_twIx 1 je_int rfl e1) (mulS (by decide) cS))) je_int (by decide)) ?_)
        generalize hN1 : (s + 104729 * c) % 4294967291 = n1 at *
        have n1a : 0 ≤ n1 := by rw [← hN1]; exact Int.emod_nonneg _ (by decide)
        have n1b : n1 < 4294967291 := by rw [← hN1]; exact Int.emod_lt_of_pos _ (by decide)
        refine js_cons (js_set 5 (je_mod (je_pow (nm 5 rfl) je_int ⟨by decide, by decide, by omega⟩) je_int (by decide)) ?_)
        generalize hN2 : n1 ^ (Int.toNat 5) % 4294967279 = n2 at *
        have n2a : 0 ≤ n2 := by rw [← hN2]; exact Int.emod_nonneg _ (by decide)
        have n2b : n2 < 4294967279 := by rw [← hN2]; exact Int.emod_lt_of_pos _ (by decide)
        have hN2' : n1 ^ 5 % 4294967279 = n2 := hN2
        refine js_cons (js_ret (je_mod (je_fdiv (je_mod (je_add (je_mul (je_fdiv (nm 5 rfl) je_int (divS (by decide) (by decide))) je_int (mulS (by omega) (by decide))) (nm 5 rfl)) je_int (by decide)) je_int (divS (by decide) (by decide))) (nm 2 rfl) hl0) ⟨?_, ?_⟩)
        · rw [eD, if_neg hn, if_neg hc2, hN2']
        · rw [eD, if_neg hn, if_neg hc2]; rfl

/-! _law_town -/
theorem sc__law_town : FnScope ["script"] ["script"] (defScope (topS 47)) := ⟨rfl, rfl, rfl, by decide +kernel, rfl, by decide +kernel, by decide +kernel⟩
theorem ok__law_town {g : Glob} {k : Nat} (h : DefAt g "_law_town" (topS 47)) (B : Bi g) : DefS g "_law_town" (k + 1) (spTown g.K) := by
  refine defs_raw h sc__law_town (fun _ _ _ _ _ _ us hl => match us, hl with | [_], _ => rfl) (fun vs H Q E h => by obtain ⟨_, _, rfl, _⟩ := h; rfl) fun X vs H Q E f tk _ _ _ hsp => ?_
  obtain ⟨a, ns, rfl, hA, hl, q⟩ := hsp
  obtain ⟨h1, h2, h3⟩ := gl_of (x := "list") f (by kernel_rfl)
  refine ⟨_, pss_one (ps_ret (pe_op op_cat (pe_lst (pa_cons pe_int pa_nil)) (pe_callTy call_list_of h1 (by rw [f.mg]; exact B.list_) (by decide +kernel) (pa_cons (pe_slot f (i := 0) (by kernel_rfl)) pa_nil) h3 h2))), ?_⟩
  refine ⟨sz5 (by decide), fun p np => ⟨.ref a, rfl, a, ns.map V.int, rfl, .inl (by rw [f.K]; exact (hA.keep fun b o e _ => same_upd np b o e).sq), fun l nl => ?_⟩⟩
  have s1 := same_upd (o := .lst [V.int 0]) np
  have s2 := same_upd (o := .lst (ns.map V.int)) nl
  refine ⟨p, l, [.int 0], ns.map V.int, rfl, rfl, s2 _ _ upd_same, upd_same, sz5 (by rw [List.length_map]; simp; omega), fun r nr => ?_⟩
  have s3 := same_upd (o := .lst ([V.int 0] ++ ns.map V.int)) nr
  refine q r _ ?_ ((s1.trans s2).trans s3) upd_same
  exact s1.free (s2.free nr)

/-! _law_pick -/
theorem sc__law_pick : FnScope ["script", "town", "choices"] ["script", "town", "choices"] (defScope (topS 49)) := ⟨rfl, rfl, rfl, by decide +kernel, rfl, by decide +kernel, by decide +kernel⟩
theorem ok__law_pick {g : Glob} {k : Nat} (h : DefAt g "_law_pick" (topS 49)) (B : Bi g) (FD : DefS g "_law_draw" k (spDraw g.K)) : DefS g "_law_pick" (k + 1) (spPick g.K) := by
  refine defs_at h sc__law_pick (fun _ _ _ _ _ _ us hl => match us, hl with | [_, _, _], _ => rfl) (fun vs H Q E h => by obtain ⟨_, _, _, _, _, _, _, _, rfl, _⟩ := h; rfl) fun vs H Q E hsp => ?_
  obtain ⟨S, a, q, ns, ts, m, v, ds, rfl, rv, dm, hS, hA, hQ, tk, hm, hl0, hl1, hQQ⟩ := hsp
  refine ⟨⟨H, [q], S, fun _ _ => False, fun _ _ => False⟩, ⟨S, [some (scr a g.K ns), some (twn q ts), some (.dat (.lst ds))]⟩, postRt fun Z d => d = ds.getD (drawR ns ts ds.length).1.toNat .non ∧ Z.ρ[1]? = some (some (twn q (drawR ns ts ds.length).2)), ?_, ends_rt fun Z d v σ H' hp ok rv => ?_, ?_⟩
  · refine ok_start (N := ["script", "town", "choices"]) (vs := [.ref a, .ref q, v]) (evs := [scr a g.K ns, twn q ts, .dat (.lst ds)]) rfl (by show 3 ≤ 3; decide) (fun i w ev h1 h2 => ?_) (fun i j e f h1 h2 b m1 m2 => ?_) (fun e he b hb => ?_) (fun e he q' ds z => ?_) dm (fun b hb => by rw [List.mem_singleton.mp hb]; exact hS)
    · match i with
      | 0 => cases h1; cases h2; exact ⟨rfl, (fun _ m => by cases m), hA, scr_sound⟩
      | 1 => cases h1; cases h2; exact ⟨rfl, (fun _ m => by rw [List.mem_singleton.mp m]; exact hS), hQ, twn_sound⟩
      | 2 => cases h1; cases h2; exact ⟨_, rfl, rv⟩
      | n + 3 => simp at h1
    · have w : ∀ (n : Nat) e, ([scr a g.K ns, twn q ts, .dat (.lst ds)] : List EV)[n]? = some e → b ∈ e.foot → n = 1 := fun n e hn hb => by
        match n with
        | 0 => cases hn; cases hb
        | 1 => rfl
        | 2 => cases hn; cases hb
        | n + 3 => simp at hn
      rw [w i e h1 m1, w j f h2 m2]
    · simp only [List.mem_cons, List.not_mem_nil, or_false] at he
      rcases he with rfl | rfl | rfl
      · cases hb
      · exact hb
      · cases hb
    · simp only [List.mem_cons, List.not_mem_nil, or_false] at he
      rcases he with rfl | rfl | rfl <;> cases z
  · obtain ⟨rfl, hr⟩ := hp
    obtain ⟨_, _, _, _, h2, _⟩ := ok.env 1 _ hr
    exact hQQ v H' (fun b ob e n => ok.out b ob e fun m => n (List.mem_singleton.mp m)) h2 rv
  · obtain ⟨r, ts', hr, r0, r1, _⟩ := draw_ex (lim := (ds.length : Int)) tk (by omega)
    rw [hr]
    have hlt : r.toNat < ds.length := by omega
    refine js_cons (js_ret (je_ixL (nm 2 rfl) (je_draw FD (Nat.le_refl _) 0 1 (ja_cons (nmR 0 rfl) (ja_cons (nmR 1 rfl) (ja_cons (je_lenL B (ja_cons (nm 2 rfl) ja_nil)) ja_nil))) rfl rfl tk hr) (d := ds.getD r.toNat .non) ?_) ⟨rfl, rfl⟩)
    have := atI_getD (d := D.non) hlt
    rw [← this]
    congr 1
    omega

/-! _law_gates -/
abbrev n_gates : List Str := ["script", "town", "most", "places", "curve", "wide", "turn", "spot", "kind", "found", "middle", "low", "k", "one"]
theorem sc__law_gates : FnScope n_gates ["script", "town", "most"] (defScope (topS 56)) := ⟨rfl, rfl, rfl, by decide +kernel, rfl, by decide +kernel, by decide +kernel⟩
theorem rng_map (lo hi : Int) : rng lo hi = (List.range (hi - lo).toNat).map fun (i : Nat) => D.int (lo + (i : Int)) := rfl
theorem rng_get {lo hi : Int} {i : Nat} {d : D} (h : (rng lo hi)[i]? = some d) : d = .int (lo + i) ∧ (i : Int) < hi - lo := by
  rw [rng_map, List.getElem?_map] at h
  by_cases hi' : i < (hi - lo).toNat
  · rw [List.getElem?_range hi'] at h
    exact ⟨(Option.some.inj h).symm, by omega⟩
  · rw [List.getElem?_eq_none (by simpa using hi')] at h
    cases h
theorem ok__law_gates {g : Glob} {k : Nat} (h : DefAt g "_law_gates" (topS 56)) (B : Bi g) (FD : DefS g "_law_draw" k (spDraw g.K)) (FP : DefS g "_law_pick" k (spPick g.K)) : DefS g "_law_gates" (k + 1) (spGates g.K) := by
  refine defs_at h sc__law_gates (fun _ _ _ _ _ _ us hl => match us, hl with | [_, _, _], _ => rfl) (fun vs H Q E h => by obtain ⟨_, _, _, _, _, _, _, rfl, _⟩ := h; rfl) fun vs H Q E hsp => ?_
  obtain ⟨S, a, q, ns, ts, m, most, rfl, dm, hS, hA, hQ, tk, hm, hl0, hl1, hQQ⟩ := hsp
  refine ⟨⟨H, [q], S, fun _ _ => False, fun _ _ => False⟩, ⟨S, [some (scr a g.K ns), some (twn q ts), some (.dat (.int most)), none, none, none, none, none, none, none, none, none, none, none]⟩, postRt fun Z d => d = encGs (gatesR ns ts most).1 ∧ Z.ρ[1]? = some (some (twn q (gatesR ns ts most).2)), ?_, ends_rt fun Z d v σ H' hp ok rv => ?_, ?_⟩
  · refine ok_start (N := n_gates) (vs := [.ref a, .ref q, .int most]) (evs := [scr a g.K ns, twn q ts, .dat (.int most)]) rfl (by show 3 ≤ 14; decide) (fun i w ev h1 h2 => ?_) (fun i j e f h1 h2 b m1 m2 => ?_) (fun e he b hb => ?_) (fun e he q' ds z => ?_) dm (fun b hb => by rw [List.mem_singleton.mp hb]; exact hS)
    · match i with
      | 0 => cases h1; cases h2; exact ⟨rfl, (fun _ m => by cases m), hA, scr_sound⟩
      | 1 => cases h1; cases h2; exact ⟨rfl, (fun _ m => by rw [List.mem_singleton.mp m]; exact hS), hQ, twn_sound⟩
      | 2 => cases h1; cases h2; exact ⟨_, rfl, .int most⟩
      | n + 3 => simp at h1
    · have w : ∀ (n : Nat) e, ([scr a g.K ns, twn q ts, .dat (.int most)] : List EV)[n]? = some e → b ∈ e.foot → n = 1 := fun n e hn hb => by
        match n with
        | 0 => cases hn; cases hb
        | 1 => rfl
        | 2 => cases hn; cases hb
        | n + 3 => simp at hn
      rw [w i e h1 m1, w j f h2 m2]
    · simp only [List.mem_cons, List.not_mem_nil, or_false] at he
      rcases he with rfl | rfl | rfl
      · cases hb
      · exact hb
      · cases hb
    · simp only [List.mem_cons, List.not_mem_nil, or_false] at he
      rcases he with rfl | rfl | rfl <;> cases z
  · obtain ⟨rfl, hr⟩ := hp
    obtain ⟨_, _, _, _, h2, _⟩ := ok.env 1 _ hr
    exact hQQ v H' (fun b ob e n => ok.out b ob e fun m => n (List.mem_singleton.mp m)) h2 rv
  ·
    have tD := fun n => itD_ok (lim := 7) tk n
    refine js_cons (js_par 3 4 (ja_cons (je_lst ja_nil) (ja_cons (JLc.je (JLcF.lc <| jlcIF (tv := [12]) (own := [("k", 12)]) (S := S) (fun i => [some (scr a g.K ns), some (twn q (itD ns 7 ts i)), some (.dat (.int most)), none, none, none, none, none, none, none, none, none, none, none]) (fun _ => true) (fun i => .int ((drawR ns (itD ns 7 ts i) 7).1 - 3))
        (ji_r1 B (ja_cons je_int ja_nil) (by decide)) (by decide) (by kernel_rfl) ?d1 (fun _ => rfl) ?d2 ?d3 (by decide))) ja_nil)) ?_ (fun env he => by obtain ⟨_, _, _, _, _, _, _, _, _⟩ := env; cases he; kernel_rfl))
    case d1 =>
      intro i j d h
      match j with
      | 0 => cases h
      | 1 => cases h
      | 2 => exact h
      | j + 3 => exact h
    case d2 =>
      intro i j hj e he
      have : j = 12 := by simpa using hj
      subst this
      cases he
    case d3 =>
      intro T i d hd
      have hi := (rng_get hd).2
      refine ⟨_, jgw_name 12, jts_nil, (fun z => by cases z), fun _ => ⟨_, je_sub (je_draw FD (Nat.le_refl _) 0 1 (ja_cons (nmR 0 rfl) (ja_cons (nmR 1 rfl) (ja_cons je_int ja_nil))) rfl rfl (tD i) rfl (by decide) (by omega)) je_int, rfl⟩⟩
    have ecv : ((List.range (rng 0 3).length).filter fun _ => true).map (fun i => D.int ((drawR ns (itD ns 7 ts i) 7).1 - 3)) = (curveR ns ts).map D.int := rfl
    rw [ecv]
    generalize hcr : curveR ns ts = curve
    have hcl : curve.length = 3 := by rw [← hcr]; rfl
    have hcb : ∀ x ∈ curve, -3 ≤ x ∧ x ≤ 3 := fun x hx => by
      rw [← hcr] at hx
      obtain ⟨i, _, rfl⟩ := List.mem_map.mp hx
      have := draw_lo (ns := ns) (ts := itD ns 7 ts i) (lim := 7) (by decide)
      omega
    have t1 : TownOk ns (itD ns 7 ts 3) (m + 3) := tD 3
    have eG := gatesR.eq_1 ns ts most
    rw [hcr] at eG
    show JSs _ _ ⟨S, [some (scr a g.K ns), some (twn q (itD ns 7 ts 3)), some (.dat (.int most)), some (.dat (.lst [])), some (.dat (.lst (curve.map D.int))), none, none, none, none, none, none, none, none, none]⟩ _
    generalize itD ns 7 ts 3 = tA at *
    obtain ⟨w, tB, hw, w0, w1, t2⟩ := draw_ex (lim := 3) t1 (by decide)
    rw [hw] at eG
    dsimp only at eG
    have hwd : ([4, 4, 20] : List Int).getD w.toNat 0 = 4 ∨ ([4, 4, 20] : List Int).getD w.toNat 0 = 20 := by
      have : w = 0 ∨ w = 1 ∨ w = 2 := by omega
      rcases this with e | e | e <;> rw [e] <;> decide
    have hwD : ([D.int 4, D.int 4, D.int 20]).getD w.toNat .non = .int (([4, 4, 20] : List Int).getD w.toNat 0) := by
      have : w = 0 ∨ w = 1 ∨ w = 2 := by omega
      rcases this with e | e | e <;> rw [e] <;> rfl
    generalize hwide : ([4, 4, 20] : List Int).getD w.toNat 0 = wide at *
    refine js_cons (js_set 5 (je_pick FP (Nat.le_refl _) 0 1 (ja_cons (nmR 0 rfl) (ja_cons (nmR 1 rfl) (ja_cons (je_lst (ja_cons je_int (ja_cons je_int (ja_cons je_int ja_nil)))) ja_nil))) rfl rfl t1 hw hwD) ?_)
    show JSs _ _ ⟨S, [some (scr a g.K ns), some (twn q tB), some (.dat (.int most)), some (.dat (.lst [])), some (.dat (.lst (curve.map D.int))), some (.dat (.int wide)), none, none, none, none, none, none, none, none]⟩ _
    obtain ⟨c, tC, hc, c0, c1, t3⟩ := draw_ex (lim := most) t2 hl0
    rw [hc] at eG
    dsimp only at eG
    have hw4 : 4 ≤ wide ∧ wide ≤ 20 := by omega
    have r1 := fun n => run1_ok (wide := wide) (by omega) t3 n
    refine js_cons (js_for (ji_r1 B (ja_cons (je_add je_int (je_draw FD (Nat.le_refl _) 0 1 (ja_cons (nmR 0 rfl) (ja_cons (nmR 1 rfl) (ja_cons (nm 2 rfl) ja_nil))) rfl rfl t2 hc)) ja_nil))
      (fun i Z => ∃ e6 e7, Z = ⟨S, [some (scr a g.K ns), some (twn q (run1 ns wide ([], tC) i).2), some (.dat (.int most)), some (.dat (.lst ((run1 ns wide ([], tC) i).1.map D.int))), some (.dat (.lst (curve.map D.int))), some (.dat (.int wide)), e6, e7, none, none, none, none, none, none]⟩)
      ⟨none, none, rfl⟩ (fun i d Z hd hI => ?_) (fun Z hI => ?_))
    · obtain ⟨e6, e7, rfl⟩ := hI
      obtain ⟨rfl, hi⟩ := rng_get hd
      obtain ⟨q1, q2, q3, q4, q5⟩ := r1 i
      generalize hs : run1 ns wide ([], tC) i = s at *
      obtain ⟨d, tE, hdr, d0, d1, t5⟩ := draw_ex (lim := 2 * wide + 1) q4 (by omega)
      refine ⟨_, jg_name 6, ?_⟩
      refine js_cons (js_set 7 (je_sub (je_draw FD (Nat.le_refl _) 0 1 (ja_cons (nmR 0 rfl) (ja_cons (nmR 1 rfl) (ja_cons (je_add (je_mul je_int (nm 5 rfl) (mulS (by decide) (by omega))) je_int) ja_nil))) rfl rfl q4 hdr) (nm 5 rfl)) ?_)
      refine js_cons (js_set 3 (d := .lst ((step1 ns wide s).1.map D.int)) (JE.cast (je_catL (nm 3 rfl) (je_ifP (d := .lst (if d - wide ∈ s.1 then [] else [.int (d - wide)])) (jt_ninL (nm 7 rfl) (nm 3 rfl)) (fun ht => ?_) (fun ht => ?_)) ?_) ?_) ?_)
      · rw [if_neg (by simpa using ht)]
        exact je_lst (ja_cons (nm 7 rfl) ja_nil)
      · rw [if_pos (by simpa using ht)]
        exact je_lst ja_nil
      · rw [List.length_map]
        split <;> simp <;> omega
      · unfold step1
        rw [hdr]
        dsimp only
        split <;> simp
      · refine js_nil ⟨some (.dat (.int (0 + (i : Int)))), some (.dat (.int (d - wide))), ?_⟩
        show State.mk _ _ = State.mk _ _
        have er : run1 ns wide ([], tC) (i + 1) = step1 ns wide s := by rw [← hs]; rfl
        rw [er]
        have e2 : (step1 ns wide s).2 = tE := by unfold step1; rw [hdr]
        rw [e2]
        rfl
    · obtain ⟨e6, e7, rfl⟩ := hI
      rw [rng_len] at *
      have hn : (1 + c - 0).toNat = (1 + c).toNat := by rw [Int.sub_zero]
      rw [hn]
      obtain ⟨q1, q2, q3, q4, q5⟩ := r1 (1 + c).toNat
      generalize run1 ns wide ([], tC) (1 + c).toNat = pl at *
      show JSs _ _ _ _
      obtain ⟨kd, tK, hk, k0, k1, t6⟩ := draw_ex (lim := 4) q4 (by decide)
      rw [hk] at eG
      dsimp only at eG
      have hkk : 1 ≤ ([1, 2, 2, 3] : List Int).getD kd.toNat 0 ∧ ([1, 2, 2, 3] : List Int).getD kd.toNat 0 ≤ 3 := by
        have : kd = 0 ∨ kd = 1 ∨ kd = 2 ∨ kd = 3 := by omega
        rcases this with e | e | e | e <;> rw [e] <;> decide
      have hkD : ([D.int 1, D.int 2, D.int 2, D.int 3]).getD kd.toNat .non = .int (([1, 2, 2, 3] : List Int).getD kd.toNat 0) := by
        have : kd = 0 ∨ kd = 1 ∨ kd = 2 ∨ kd = 3 := by omega
        rcases this with e | e | e | e <;> rw [e] <;> rfl
      generalize ([1, 2, 2, 3] : List Int).getD kd.toNat 0 = kind at *
      refine js_cons (js_parO 8 9 (je_pick FP (Nat.le_refl _) 0 1 (ja_cons (nmR 0 rfl) (ja_cons (nmR 1 rfl) (ja_cons (je_lst (ja_cons je_int (ja_cons je_int (ja_cons je_int (ja_cons je_int ja_nil))))) ja_nil))) rfl rfl q4 hk hkD) ja_nil (fun f nf => ?_) (fun env he => by obtain ⟨_, _, _, _, _, _, _, _, _⟩ := env; cases he; kernel_rfl))
      have nf : f ∉ S := nf
      show JSs _ _ ⟨f :: S, [some (scr a g.K ns), some (twn q tK), some (.dat (.int most)), some (.dat (.lst (pl.1.map D.int))), some (.dat (.lst (curve.map D.int))), some (.dat (.int wide)), e6, e7, some (.dat (.int kind)), some (.own f []), none, none, none, none]⟩ _
      have pm := isort_perm pl.1
      have hlen := pm.length_eq
      have bd : ∀ x ∈ isort pl.1, -20 ≤ x ∧ x ≤ 20 := fun x hx => by
        have := q3 x (pm.mem_iff.mp hx)
        omega
      generalize hso : isort pl.1 = so at *
      have fo := fun i => fold2_ok (curve := curve) (kind := kind) (so.take i) ([], tK) _ t6 fun x hx => bd x (List.mem_of_mem_take hx)
      refine js_cons (js_for (ji_list (je_sortedI B (ja_cons (nm 3 rfl) ja_nil) (by omega)))
        (fun i Z => ∃ e7 e10 e11, Z = ⟨f :: S, [some (scr a g.K ns), some (twn q ((so.take i).foldl (step2 ns curve kind) ([], tK)).2), some (.dat (.int most)), some (.dat (.lst (pl.1.map D.int))), some (.dat (.lst (curve.map D.int))), some (.dat (.int wide)), e6, e7, some (.dat (.int kind)), some (.own f (((so.take i).foldl (step2 ns curve kind) ([], tK)).1.map encG)), e10, e11, none, none]⟩)
        ⟨_, _, _, rfl⟩ (fun i d Z hd hI => ?_) (fun Z hI => ?_))
      · obtain ⟨e7, e10, e11, rfl⟩ := hI
        rw [hso, List.getElem?_map] at hd
        cases hsx : so[i]? with
        | none => rw [hsx] at hd; cases hd
        | some spot =>
          rw [hsx] at hd
          cases hd
          have hb := bd spot (List.mem_of_getElem? hsx)
          obtain ⟨q1', q2', q3'⟩ := fo i
          have hil : i < so.length := (List.getElem?_eq_some_iff.mp hsx).1
          have htk : (so.take i).length = i := by rw [List.length_take]; omega
          rw [htk] at q1'
          have hst : ((so.take (i + 1)).foldl (step2 ns curve kind) ([], tK)) = step2 ns curve kind ((so.take i).foldl (step2 ns curve kind) ([], tK)) spot := by
            rw [List.take_add_one, hsx, List.foldl_append]
            rfl
          generalize hs : (so.take i).foldl (step2 ns curve kind) ([], tK) = s at *
          refine ⟨_, jg_name 7, ?_⟩
          have hsp : (spot * spot).natAbs < 1000000000000000000 := by
            rw [Int.natAbs_mul]
            have : spot.natAbs ≤ 20 := by omega
            exact Nat.lt_of_le_of_lt (Nat.mul_le_mul this this) (by decide)
          refine js_cons (js_set 10 (d := .int (midR curve kind spot)) (je_sum (ns := (curve.take kind.toNat).zipIdx.map fun p => p.1 * [1, spot, spot * spot].getD p.2 0) B (ja_cons (JE.cast (JLc.je (lc0 (xs := (curve.take kind.toNat).zipIdx) (enc := fun p => D.tup [.int (p.2 : Int), .int p.1]) (own := [("k", 12), ("one", 13)]) (tv := [12, 13]) (fun p => .int (p.1 * [1, spot, spot * spot].getD p.2 0))
            (JI.cast (ji_en B (ja_cons (je_slL (nm 4 rfl) jo_none (jo_some (nm 8 rfl))) ja_nil)) (by rw [cutD_take _ (by omega), numd_ints])) (by simp; omega) (fun T p hp => ?_))) (by rw [List.map_map]; rfl)) ja_nil)) ?_)
          · obtain ⟨one, kx⟩ := p
            have h1 := List.mem_zipIdx hp
            have hone : one ∈ curve := List.mem_of_mem_take (List.fst_mem_of_mem_zipIdx hp)
            have hbo := hcb one hone
            have hk3 : kx < 3 := by
              have := h1.2.1
              rw [List.length_take] at this
              omega
            refine ⟨_, jgw_tup (jgsw_cons (jgw_name 12) (jgsw_cons (jgw_name 13) jgsw_nil)), rfl, je_mul (nm 13 rfl) (je_ixT (je_tup (ja_cons je_int (ja_cons (nm 7 rfl) (ja_cons (je_mul (nm 7 rfl) (nm 7 rfl) (mulS (by omega) (by omega))) ja_nil)))) (nm 12 rfl) (d := .int ([1, spot, spot * spot].getD kx 0)) ?_) (mulS (by omega) ?_)⟩
            · have : kx = 0 ∨ kx = 1 ∨ kx = 2 := by omega
              rcases this with rfl | rfl | rfl
              · exact atI_nat (j := 0) rfl
              · exact atI_nat (j := 1) rfl
              · exact atI_nat (j := 2) rfl
            · have : kx = 0 ∨ kx = 1 ∨ kx = 2 := by omega
              rcases this with rfl | rfl | rfl
              · show (1 : Int).natAbs < _; decide
              · show spot.natAbs < _; omega
              · exact hsp
          obtain ⟨dA, tA', hdA, _, _, tkA⟩ := draw_ex (lim := 4) q1' (by decide)
          refine js_mid (fun Z => Z = ⟨f :: S, [some (scr a g.K ns), some (twn q (mid2 ns curve kind spot s.2).2), some (.dat (.int most)), some (.dat (.lst (pl.1.map D.int))), some (.dat (.lst (curve.map D.int))), some (.dat (.int wide)), e6, some (.dat (.int spot)), some (.dat (.int kind)), some (.own f (s.1.map encG)), some (.dat (.int (mid2 ns curve kind spot s.2).1)), e11, none, none]⟩)
            (js_if (jt_eqI (je_draw FD (Nat.le_refl _) 0 1 (ja_cons (nmR 0 rfl) (ja_cons (nmR 1 rfl) (ja_cons je_int ja_nil))) rfl rfl q1' hdA) je_int) (fun ht => ?_) (fun ht => ?_)) ?_
          · have ht : dA = 0 := of_decide_eq_true ht
            obtain ⟨dB, tB', hdB, _, _, tkB⟩ := draw_ex (lim := 19) tkA (by decide)
            refine js_cons (js_set 10 (je_sub (je_draw FD (Nat.le_refl _) 0 1 (ja_cons (nmR 0 rfl) (ja_cons (nmR 1 rfl) (ja_cons je_int ja_nil))) rfl rfl tkA hdB) je_int) (js_nil ?_))
            have em : mid2 ns curve kind spot s.2 = (dB - 9, tB') := by
              unfold mid2
              rw [hdA, if_pos ht, hdB]
            show State.mk _ _ = State.mk _ _
            rw [em]
            rfl
          · have ht : dA ≠ 0 := of_decide_eq_false ht
            refine js_nil ?_
            have em : mid2 ns curve kind spot s.2 = (midR curve kind spot, tA') := by
              unfold mid2
              rw [hdA, if_neg ht]
            show State.mk _ _ = State.mk _ _
            rw [em]
            rfl
          · rintro _ rfl
            have tM := mid2_ok (curve := curve) (kind := kind) (spot := spot) q1'
            generalize hmm : mid2 ns curve kind spot s.2 = mm at *
            refine js_cons (js_set 10 (d := .int (mx (-50) (mn 50 mm.1))) (je_max2 B (ja_cons (je_neg je_int) (ja_cons (je_min2 B (ja_cons je_int (ja_cons (nm 10 rfl) ja_nil))) ja_nil))) ?_)
            obtain ⟨d3, t3', hd3, _, _, tk3⟩ := draw_ex (lim := 4) tM (by decide)
            refine js_cons (js_set 11 (d := .int (mx (-50) (mx (-50) (mn 50 mm.1) - d3))) (je_max2 B (ja_cons (je_neg je_int) (ja_cons (je_sub (nm 10 rfl) (je_draw FD (Nat.le_refl _) 0 1 (ja_cons (nmR 0 rfl) (ja_cons (nmR 1 rfl) (ja_cons je_int ja_nil))) rfl rfl tM hd3)) ja_nil))) ?_)
            obtain ⟨d4, t4', hd4, _, _, tk4⟩ := draw_ex (lim := 4) tk3 (by decide)
            have eg : gate2 ns spot mm = ((spot, mx (-50) (mx (-50) (mn 50 mm.1) - d3), mn 50 (mx (mx (-50) (mx (-50) (mn 50 mm.1) - d3)) (mx (-50) (mn 50 mm.1) + d4 - 1))), t4') := by
              unfold gate2
              dsimp only
              rw [hd3]
              dsimp only
              rw [hd4]
            refine js_cons (js_app 9 (d := encG (gate2 ns spot mm).1) (JE.cast (je_tup (ja_cons (nm 7 rfl) (ja_cons (nm 11 rfl) (ja_cons (je_min2 B (ja_cons je_int (ja_cons (je_max2 B (ja_cons (nm 11 rfl) (ja_cons (je_sub (je_add (nm 10 rfl) (je_draw FD (Nat.le_refl _) 0 1 (ja_cons (nmR 0 rfl) (ja_cons (nmR 1 rfl) (ja_cons je_int ja_nil))) rfl rfl tk3 hd4)) je_int) ja_nil))) ja_nil))) ja_nil)))) (by rw [eg]; rfl)) rfl ?_ ⟨_, rfl⟩ ?_)
            · refine js_nil ⟨some (.dat (.int spot)), some (.dat (.int (mx (-50) (mn 50 mm.1)))), some (.dat (.int (mx (-50) (mx (-50) (mn 50 mm.1) - d3)))), ?_⟩
              show State.mk _ _ = State.mk _ _
              rw [hst]
              unfold step2
              rw [hmm, eg]
              dsimp only
              rw [List.map_append]
              rfl
            · rw [List.length_map]
              have := congrArg List.length q2'
              simp only [List.length_map, List.length_append, List.length_nil] at this
              omega
      · obtain ⟨e7', e10, e11, rfl⟩ := hI
        rw [List.length_map, hso, List.take_length]
        show JSs _ _ _ _
        refine js_melt 9 rfl nf ?_
        refine js_cons (js_ret (je_tupleL B (ja_cons (nm 9 rfl) ja_nil)) ⟨?_, ?_⟩)
        · rw [eG]; rfl
        · rw [eG]; rfl

/-! law of k10 -/
theorem lpass0 (g : Gt) (h : Int × Int) : lpassB g h (0, 1) = passB g h := by
  unfold lpassB passB
  rw [show (0 - ((0 : Int), (1 : Int)).1, ((0 : Int), (1 : Int)).2) = ((0 : Int), (1 : Int)) from rfl, plus0, plus0]
theorem ps0 {g : Gt} {road : List (Int × Int)} (hg : GateOk g) (hl : LS (g.1, 1) road) : PS g road (0, 1) := by
  have a1 := hg.l1
  have a2 := hg.l2
  have a3 := hg.h2
  refine ⟨hg, hl, fs_lt (by decide), ?_, ?_⟩
  · show FS 4450 (plusF (g.2.1, 1) (0, 1))
    rw [plus0]; exact fs_lt (by omega)
  · rw [plus0]; exact fs_lt (by omega)
theorem okD_nums (l : List Nat) : okD 2 (.tup (natD l)) = true := by
  show (natD l).all (okD 1) = true
  rw [List.all_eq_true]
  intro x hx
  obtain ⟨k, _, rfl⟩ := List.mem_map.mp hx
  rfl
theorem okD_fr (f : Int × Int) : okD 2 (frD f) = true := rfl
theorem okD_frs (l : List (Int × Int)) : okD 3 (.lst (l.map frD)) = true := by
  show (l.map frD).all (okD 2) = true
  rw [List.all_eq_true]
  intro x hx
  obtain ⟨k, _, rfl⟩ := List.mem_map.mp hx
  rfl
theorem gate_p {gs : List Gt} (hg : GatesOk gs) {g : Gt} (hm : g ∈ gs) : g.1.natAbs ≤ 20 := by
  have := (hg.ok g hm).p1
  have := (hg.ok g hm).p2
  omega
theorem stL_hF6 {Y : Int} {ys : List Int} (o : OneB Y ys) (p : Int) : (stL (p, 1) (ys.map fun y => Lp.frac y Y)).1 = hF (p, 1) (ys.map fun y => Lp.frac y Y) := by
  rw [stL_poly o.pos, hF_poly o.pos]
theorem roadD_some {gs : List Gt} {d : Nat} (h : noBar gs d) : roadD gs d = .tup ((roadOf gs d).map frD) := by unfold roadD; rw [if_pos h]
theorem roadD_none {gs : List Gt} {d : Nat} (h : ¬ noBar gs d) : roadD gs d = .non := by unfold roadD; rw [if_neg h]
theorem barD_none {gs : List Gt} {d : Nat} (h : noBar gs d) : barD gs d = .non := by unfold barD; rw [if_pos h]
theorem barD_some {gs : List Gt} {d : Nat} (h : ¬ noBar gs d) : barD gs d = .tup ((barOf gs d).map encT) := by unfold barD; rw [if_neg h]
abbrev n_law : List Str := ["script", "town", "gates", "degree", "found", "paper", "sums", "curve", "spot", "due", "some", "few", "gate", "number", "side", "weight", "k"]
theorem sc_law : FnScope n_law ["script"] (defScope (topS 60)) := ⟨rfl, rfl, rfl, by decide +kernel, rfl, by decide +kernel, by decide +kernel⟩
theorem ok_law {g : Glob} {k : Nat} {f : Addr} {fd : FuncData} (h : LawD g (topS 60) f fd) (B : Bi g) (F__law_town : DefS g "_law_town" k (spTown g.K)) (F__law_draw : DefS g "_law_draw" k (spDraw g.K)) (F__law_gates : DefS g "_law_gates" k (spGates g.K)) (F_some_road : Def g "some_road" 2 k (R_someRoad)) (F_bar : Def g "bar" 2 k (R_foundBar)) (F_is_gates : Def g "is_gates" 1 k (R_isGates)) (F_is_road : Def g "is_road" 2 k (R_isRoad0)) (F_passed : Def g "passed" 2 k (R_passed0)) (F__law_passes : Def g "_law_passes" 3 k (R_lpasses)) (F__law_sums : Def g "_law_sums" 3 k (R_lsums)) (F_is_bar : Def g "is_bar" 3 k (R_isBar)) (F__law_entries : Def g "_law_entries" 3 k (R_lentries)) (F__law_curve : DefS g "_law_curve" k (spT g.K 1 R_curve)) (F__law_ratio : Def g "_law_ratio" 2 k (R_fraction)) (F_height : Def g "height" 2 k (R_height0)) (F__law_height : Def g "_law_height" 2 k (R_lheight)) : LawOk g (k + 1) f fd := by
  refine law_at h sc_law (by decide) fun a ns hl => ?_
  refine js_cons (js_town 1 0 F__law_town (Nat.le_refl _) rfl hl fun q hq => ?_)
  have t0 := town0 ns
  obtain ⟨gs, tA, hgs, hg, hgl, t1⟩ := gates_ex (most := 8) t0 (by decide)
  obtain ⟨di, tB, hdi, d0, d1, t2⟩ := draw_ex (lim := 4) t1 (by decide)
  obtain ⟨d, rfl⟩ : ∃ d : Nat, di = (d : Int) := ⟨di.toNat, by omega⟩
  have h3 : d ≤ 3 := by omega
  have gm := hg.most
  refine js_cons (js_asgE (je_tup (ja_cons (je_gates F__law_gates (Nat.le_refl _) 0 1 (ja_cons (nmR 0 rfl) (ja_cons (nmR 1 rfl) (ja_cons je_int ja_nil))) rfl rfl t0 hgs) (ja_cons (je_draw F__law_draw (Nat.le_refl _) 0 1 (ja_cons (nmR 0 rfl) (ja_cons (nmR 1 rfl) (ja_cons je_int ja_nil))) rfl rfl t1 hdi) ja_nil))) (jg_tup (jgs_cons (jg_name 2) (jgs_cons (jg_name 3) jgs_nil))) ?_ (fun env he => by obtain ⟨_, _, _, _, _, _, _, _, _⟩ := env; cases he; kernel_rfl))
  refine js_cons (js_asgE (je_tup (ja_cons (je_call F_some_road (Nat.le_refl _) (ja_cons (nm 2 rfl) (ja_cons (nm 3 rfl) ja_nil)) ⟨gs, d, hg, h3, rfl, rfl⟩) (ja_cons (je_call F_bar (Nat.le_refl _) (ja_cons (nm 2 rfl) (ja_cons (nm 3 rfl) ja_nil)) ⟨gs, d, hg, h3, rfl, rfl⟩) ja_nil))) (jg_tup (jgs_cons (jg_name 4) (jgs_cons (jg_name 5) jgs_nil))) ?_ (fun env he => by obtain ⟨_, _, _, _, _, _, _, _, _⟩ := env; cases he; kernel_rfl))
  show JSs _ _ ⟨_, [_, _, _, _, _, _, _, _, _, _, _, _, _, _, _, _, _]⟩ _
  refine js_cons (js_if (t := false) (jt_w (jw_orF (JT.cast (jt_eq 1 (je_isN (nm 4 rfl)) (je_isN (nm 5 rfl)) rfl rfl) ?_) (jw_or1 (JT.cast (jt_notB (je_call F_is_gates (Nat.le_refl _) (ja_cons (nm 2 rfl) ja_nil) ⟨2, _, dk_gates gs, rfl, rfl⟩) je_bl) (by rw [mGates_enc hg]; rfl))))) (fun z => by cases z) (fun _ => js_nil ?_))
  · by_cases hn : noBar gs d
    · rw [roadD_some hn, barD_none hn]; rfl
    · rw [roadD_none hn, barD_some hn]; rfl
  refine js_mid (fun Z => ∃ e4 e5 e6, Z = ⟨[q], [some (scr a g.K ns), some (twn q tB), some (.dat (encGs gs)), some (.dat (.int (d : Int))), e4, e5, e6, none, none, none, none, none, none, none, none, none, none]⟩) ?_ fun Z hI => ?_
  · by_cases hn : noBar gs d
    · rw [roadD_some hn]
      refine js_if (t := true) (JT.cast (jt_notN (nm 4 rfl)) rfl) (fun _ => ?_) (fun z => by cases z)
      have ob := road_one hg h3 hn
      have rl := road_len gs d
      have rlow := road_low hn
      have re := roadOf_eq gs d
      have ps := road_passes hn
      have hs : ∀ g ∈ gs, HS (g.1, 1) (roadOf gs d) := fun g hm => by rw [re]; exact ob.hs (gate_p hg hm)
      have ls : ∀ g ∈ gs, LS (g.1, 1) (roadOf gs d) := fun g hm => by rw [re]; exact ob.ls (gate_p hg hm)
      have pb : ∀ g ∈ gs, passB g (hF (g.1, 1) (roadOf gs d)) = true := fun g hm => by
        rw [re]
        exact (pass_poly ob.pos _ g).trans (ps g hm)
      have sh : ∀ g : Gt, (stL (g.1, 1) (roadOf gs d)).1 = hF (g.1, 1) (roadOf gs d) := fun g => by rw [re]; exact stL_hF6 ob _
      generalize roadOf gs d = road at *
      refine js_cons (js_if (t := false) (jt_w (jw_orF (JT.cast (jt_notB (je_call F_is_road (Nat.le_refl _) (ja_cons (nm 3 rfl) (ja_cons (nm 4 rfl) ja_nil)) ⟨d, road, h3, rlow, by omega, rfl, rfl⟩) je_bl) (by rw [rl, decide_eq_true (by omega : ((d + 1 : Nat) : Int) = (d : Int) + 1)]; rfl)) (jw_or1 (JT.cast (jt_ne 2 (je_call F_passed (Nat.le_refl _) (ja_cons (nm 2 rfl) (ja_cons (nm 4 rfl) ja_nil)) ⟨gs, road, hg, ⟨rlow, by omega, by omega⟩, hs, rfl, rfl⟩) (je_tupR1 B (je_lenT B (ja_cons (nm 2 rfl) ja_nil)) (by rw [List.length_map]; omega)) (okD_nums _) ?_) ?_)))) (fun z => by cases z) (fun _ => js_nil ?_))
      · rw [List.length_map, rng_natmap]
        exact okD_nums _
      · rw [List.length_map, rng_natmap]
        show (!eqD 2 (.tup (natD (numsOf gs _))) (.tup (natD (List.range gs.length)))) = false
        unfold numsOf
        rw [numsAll pb, eqD_refl (okD_nums _)]
        rfl
      refine js_cons (js_if (t := false) (JT.cast (jt_ne 2 (d1 := .lst []) (JE.cast (JLc.je (lc (xs := gs) (enc := encG) (own := [("gate", 12)]) (tv := [12]) (fun _ => false) encG (ji_tup (nm 2 rfl)) (by omega) (fun T g hm => ⟨_, jgw_name 12, jts_one (JT.cast (jt_not (jt_val (je_call F__law_passes (Nat.le_refl _) (ja_cons (nm 12 rfl) (ja_cons (nm 4 rfl) (ja_cons (je_tup (ja_cons je_int (ja_cons je_int ja_nil))) ja_nil))) ⟨g, road, (0, 1), ps0 (hg.ok g hm) (ls g hm), rfl, rfl⟩))) (by rw [lpass0, sh, pb g hm]; rfl)), rfl, fun z => by cases z⟩))) (by rw [filter_none fun _ _ => rfl])) (je_lst ja_nil) rfl rfl) rfl) (fun z => by cases z) (fun _ => js_nil ?_))
      refine js_cons (js_if (t := false) (JT.cast (jt_w (jw_and (jt_lt (nm 3 rfl) je_int) fun z => jw_and1 ((JT.cast (jt_isN (je_call F_some_road (Nat.le_refl _) (ja_cons (nm 2 rfl) (ja_cons (je_add (nm 3 rfl) je_int) ja_nil)) ⟨gs, d + 1, hg, by have := of_decide_eq_true z; omega, rfl, rfl⟩)) (show isNon _ = false by rw [roadD_some (noBar_next hn)]; rfl))))) (by rw [Bool.and_false])) (fun z => by cases z) (fun _ => js_nil (js_nil ⟨_, _, none, rfl⟩)))
    · rw [roadD_none hn, barD_some hn]
      have gb := barOf_good hg h3 hn
      generalize barOf gs d = ts at *
      have few := gb.few
      refine js_if (t := false) (JT.cast (jt_notN (nm 4 rfl)) rfl) (fun z => by cases z) (fun _ => ?_)
      have tw := bar_tw hg h3 gb
      refine js_cons (js_set 6 (je_call F__law_sums (Nat.le_refl _) (ja_cons (nm 2 rfl) (ja_cons (nm 3 rfl) (ja_cons (JE.cast (d1 := .lst ((ts.map wt1).map encTw)) (JLc.je (lc0 (xs := ts) (enc := encT) (own := [("number", 13), ("side", 14), ("weight", 15)]) (tv := [13, 14, 15]) (fun t => encTw (wt1 t)) (ji_tup (nm 5 rfl)) (by omega) (fun T t ht => ⟨_, jgw_tup (jgsw_cons (jgw_name 13) (jgsw_cons (jgw_name 14) (jgsw_cons (jgw_name 15) jgsw_nil))), rfl, (je_tup (ja_cons (nm 13 rfl) (ja_cons (nm 14 rfl) (ja_cons (je_tup (ja_cons (nm 15 rfl) (ja_cons je_int ja_nil))) ja_nil))))⟩))) (by rw [List.map_map]; rfl)) ja_nil))) ⟨gs, d, ts.map wt1, _, hg, h3, tw, .inl rfl, rfl, rfl⟩) ?_)
      have zs : ((List.range (d + 1)).map fun pw => frD (lsum gs (ts.map wt1) pw)) = (List.replicate (d + 1) ((0 : Int), (1 : Int))).map frD := by
        rw [List.map_replicate]
        refine List.eq_replicate_iff.mpr ⟨by rw [List.length_map, List.length_range], fun x hx => ?_⟩
        obtain ⟨pw, hp, rfl⟩ := List.mem_map.mp hx
        rw [lsum_bar, gb.zero pw (by have := List.mem_range.mp hp; omega)]
      rw [zs, lend_bar]
      have nl : ((List.replicate (d + 1) ((0 : Int), (1 : Int))).map frD ++ [frD (barEnd gs ts, 1)]).length = d + 2 := by simp
      refine js_cons (js_if (t := false) (jt_w (jw_orF (JT.cast (jt_ne 3 (JE.cast (je_slL (nm 6 rfl) jo_none (jo_some (je_neg je_int))) (congrArg D.lst (cutD_last.trans List.dropLast_concat))) (JE.cast (d1 := .lst ((List.replicate (d + 1) ((0 : Int), (1 : Int))).map frD)) (je_repL (je_lst (ja_cons (je_tup (ja_cons je_int (ja_cons je_int ja_nil))) ja_nil)) (je_add (nm 3 rfl) je_int) (by omega) (by decide)) ?_) (okD_frs _) (okD_frs _)) (by rw [eqD_refl (okD_frs _)]; rfl)) (jw_orF (JT.cast (jt_ge (je_ixT (je_ixL (nm 6 rfl) (je_neg je_int) (d := frD (barEnd gs ts, 1)) ?_) je_int rfl) je_int) (decide_eq_false (by have := gb.neg; omega))) (jw_or1 (JT.cast (jt_notB (je_call F_is_bar (Nat.le_refl _) (ja_cons (nm 2 rfl) (ja_cons (nm 3 rfl) (ja_cons (nm 5 rfl) ja_nil))) ⟨gs, d, 2, _, hg, h3, dk_bar _, gb.small, rfl, rfl⟩) je_bl) (by rw [gb.is]; rfl)))))) (fun z => by cases z) (fun _ => js_nil ?_))
      · rw [List.map_replicate, show ((d : Int) + 1).toNat = d + 1 by omega]
        rw [List.flatten_replicate_singleton]
      · have := atI_last (ns := (List.replicate (d + 1) ((0 : Int), (1 : Int))).map frD ++ [frD (barEnd gs ts, 1)]) (k := 1) (x := frD (barEnd gs ts, 1)) (by decide) (by omega) (by rw [nl, List.getElem?_append_right (by simp)]; simp)
        exact this
      refine js_cons (js_if (t := false) (jt_not (t := true) (jt_val (je_call F__law_entries (Nat.le_refl _) (ja_cons (nm 2 rfl) (ja_cons (je_add (nm 3 rfl) je_int) (ja_cons (JE.cast (d1 := .lst ((ts.map wt1).map encTw)) (JLc.je (lc0 (xs := ts) (enc := encT) (own := [("number", 13), ("side", 14), ("weight", 15)]) (tv := [13, 14, 15]) (fun t => encTw (wt1 t)) (ji_tup (nm 5 rfl)) (by omega) (fun T t ht => ⟨_, jgw_tup (jgsw_cons (jgw_name 13) (jgsw_cons (jgw_name 14) (jgsw_cons (jgw_name 15) jgsw_nil))), rfl, (je_tup (ja_cons (nm 13 rfl) (ja_cons (nm 14 rfl) (ja_cons (je_tup (ja_cons (nm 15 rfl) (ja_cons je_int ja_nil))) ja_nil))))⟩))) (by rw [List.map_map]; rfl)) ja_nil))) ⟨gs, (d : Int) + 2, ts.map wt1, _, gm, bar_ent h3 gb, .inl rfl, rfl, rfl⟩))) (fun z => by cases z) (fun _ => js_nil ?_))
      refine js_cons (js_if (t := false) (JT.cast (jt_le (je_lenT B (ja_cons (nm 2 rfl) ja_nil)) (je_add (nm 3 rfl) je_int)) (by rw [List.length_map]; exact decide_eq_false (fun z => hn (few_noBar hg (by omega))))) (fun z => by cases z) (fun _ => js_nil (js_nil ⟨_, _, _, rfl⟩)))
  · obtain ⟨e4, e5, e6, rfl⟩ := hI
    obtain ⟨cs, tC, hcs, cl, ch, t3⟩ := curve_ex t2 (d + 1)
    obtain ⟨r1, tD, hr1, l1, u1, t4⟩ := draw_ex (lim := 41) t3 (by decide)
    obtain ⟨r2, tE, hr2, l2, u2, t5⟩ := draw_ex (lim := 4) t4 (by decide)
    have c4 : cs.length ≤ 4 := by omega
    refine js_cons (js_set 7 (d := .tup ((cs.map fun c => Lp.frac c.1 c.2).map frD)) (je_town F__law_curve (Nat.le_refl _) 0 1 (ja_cons (nmR 0 rfl) (ja_cons (nmR 1 rfl) (ja_cons (nm 3 rfl) ja_nil))) rfl rfl ⟨_, d, t2, by omega, h3, rfl, by rw [hcs, List.map_map]; rfl, by rw [hcs]⟩) ?_)
    refine js_cons (js_set 8 (d := frD (Lp.frac (r1 - 20) (1 + r2))) (je_call F__law_ratio (Nat.le_refl _) (ja_cons (je_sub (je_draw F__law_draw (Nat.le_refl _) 0 1 (ja_cons (nmR 0 rfl) (ja_cons (nmR 1 rfl) (ja_cons je_int ja_nil))) rfl rfl t3 hr1) je_int) (ja_cons (je_add je_int (je_draw F__law_draw (Nat.le_refl _) 0 1 (ja_cons (nmR 0 rfl) (ja_cons (nmR 1 rfl) (ja_cons je_int ja_nil))) rfl rfl t4 hr2)) ja_nil)) ⟨r1 - 20, 1 + r2, by omega, Nat.lt_of_lt_of_le (by omega : (1 + r2).natAbs < 2 ^ 3) (p2_le (by decide)), rfl, rfl⟩) ?_)
    show JSs _ _ ⟨_, [_, _, _, _, _, _, _, _, _, _, _, _, _, _, _, _, _]⟩ _
    have ob := curve_one c4 ch
    have e6' := curve6 ch
    have low := curve_low ch
    have bd : ∀ c ∈ cs.map (fun c => Lp.frac c.1 c.2), Bd 10 c := fun c hc => by
      obtain ⟨x, hx, rfl⟩ := List.mem_map.mp hc
      exact curve_bd (ch x hx)
    have rl : (cs.map fun c => Lp.frac c.1 c.2).length = d + 1 := by rw [List.length_map, cl]
    have sl : Low (Lp.frac (r1 - 20) (1 + r2)) := low_frac (by omega)
    have sb : Bd 10 (Lp.frac (r1 - 20) (1 + r2)) := bd_frac (by omega) (by show _ < 1024; omega) (by show _ < 1024; omega)
    have hs : ∀ g ∈ gs, HS (g.1, 1) (cs.map fun c => Lp.frac c.1 c.2) := fun g hm => by rw [e6']; exact ob.hs (gate_p hg hm)
    have ls : ∀ g ∈ gs, LS (g.1, 1) (cs.map fun c => Lp.frac c.1 c.2) := fun g hm => by rw [e6']; exact ob.ls (gate_p hg hm)
    have sh : ∀ g : Gt, (stL (g.1, 1) (cs.map fun c => Lp.frac c.1 c.2)).1 = hF (g.1, 1) (cs.map fun c => Lp.frac c.1 c.2) := fun g => by rw [e6']; exact stL_hF6 ob _
    have pI : ∀ g : Gt, passB g (hF (g.1, 1) (cs.map fun c => Lp.frac c.1 c.2)) = passI 6 (fr6 cs) g := fun g => by rw [e6']; exact pass_poly ob.pos _ g
    have y6 : (fr6 cs).length = d + 1 := by rw [List.length_map, cl]
    generalize fr6 cs = ys at *
    generalize (cs.map fun c => Lp.frac c.1 c.2) = road at *
    generalize Lp.frac (r1 - 20) (1 + r2) = sp at *
    refine js_cons (js_if (t := false) (jt_w (jw_orF (JT.cast (jt_ne 2 (je_call F_height (Nat.le_refl _) (ja_cons (nm 7 rfl) (ja_cons (nm 8 rfl) ja_nil)) ⟨road, sp, ⟨low, by omega, by omega⟩, sl, hs_small (by omega) sb bd, rfl, rfl⟩) (je_call F__law_height (Nat.le_refl _) (ja_cons (nm 7 rfl) (ja_cons (nm 8 rfl) ja_nil)) ⟨road, sp, ls_small (by omega) sb bd, rfl, rfl⟩) (okD_fr _) (okD_fr _)) ?_) (jw_or1 (JT.cast (jt_notB (je_call F_is_road (Nat.le_refl _) (ja_cons (nm 3 rfl) (ja_cons (nm 7 rfl) ja_nil)) ⟨d, road, h3, low, by omega, rfl, rfl⟩) je_bl) (by rw [rl, decide_eq_true (by omega : ((d + 1 : Nat) : Int) = (d : Int) + 1)]; rfl))))) (fun z => by cases z) (fun _ => js_nil ?_))
    · rw [stL_hF sl low, eqD_refl (okD_fr _)]
      rfl
    refine js_cons (js_setLc 9 (d := .lst (natD (numsOf gs (passI 6 ys)))) (JLc.cast (lc (xs := List.range gs.length) (enc := fun (j : Nat) => .int (j : Int)) (own := [("k", 16)]) (tv := [16]) (fun k => passI 6 ys (gAt gs k)) (fun (j : Nat) => .int (j : Int)) (JI.cast (ji_r1 B (ja_cons (je_lenT B (ja_cons (nm 2 rfl) ja_nil)) ja_nil) (by rw [List.length_map]; omega)) (by rw [List.length_map, rng_natmap])) (by rw [List.length_range]; omega) (fun T k hk => ?_)) rfl) ?_)
    · have hk := List.mem_range.mp hk
      have hm := gAt_mem hk
      refine ⟨_, jgw_name 16, jts_one (JT.cast (jt_val (je_call F__law_passes (Nat.le_refl _) (ja_cons (je_ixT (nm 2 rfl) (nm 16 rfl) (atI_gate hk)) (ja_cons (nm 7 rfl) (ja_cons (je_tup (ja_cons je_int (ja_cons je_int ja_nil))) ja_nil))) ⟨gAt gs k, road, (0, 1), ps0 (hg.ok _ hm) (ls _ hm), rfl, rfl⟩)) (by rw [lpass0, sh, pI])), rfl, fun _ => (nm 16 rfl)⟩
    refine js_cons (js_if (t := false) (JT.cast (jt_ne 2 (je_call F_passed (Nat.le_refl _) (ja_cons (nm 2 rfl) (ja_cons (nm 7 rfl) ja_nil)) ⟨gs, road, hg, ⟨low, by omega, by omega⟩, hs, rfl, rfl⟩) (je_tupleL B (ja_cons (nm 9 rfl) ja_nil)) (okD_nums _) (okD_nums _)) ?_) (fun z => by cases z) (fun _ => js_nil ?_))
    · rw [show (fun g : Gt => passB g (hF (g.1, 1) road)) = passI 6 ys from funext pI, eqD_refl (okD_nums _)]
      rfl
    let hs' : List Gt := (numsOf gs (passI 6 ys)).map (gAt gs)
    have hsub : hs'.Sublist gs := by
      have e : gs = (List.range gs.length).map (gAt gs) := by
        apply List.ext_getElem?
        intro i
        rw [List.getElem?_map]
        by_cases hi : i < gs.length
        · rw [List.getElem?_range hi, List.getElem?_eq_getElem hi]
          show some gs[i] = some (gAt gs i)
          rw [gAt_get hi]
        · rw [List.getElem?_eq_none (by simpa using hi), List.getElem?_eq_none (by simpa using hi)]
          rfl
      have := (List.filter_sublist (l := List.range gs.length) (p := fun k => passI 6 ys (gAt gs k))).map (gAt gs)
      rw [← e] at this
      exact this
    have hall : ∀ g ∈ hs', passI 6 ys g = true := fun g hm => by
      obtain ⟨k, hk, rfl⟩ := List.mem_map.mp hm
      exact (List.mem_filter.mp hk).2
    have nl : (numsOf gs (passI 6 ys)).length ≤ 8 := Nat.le_trans (List.length_filter_le _ _) (by rw [List.length_range]; exact gm)
    refine js_cons (js_set 10 (d := encGs hs') (je_tupleL B (ja_cons (JE.cast (JLc.je (lc0 (xs := numsOf gs (passI 6 ys)) (enc := fun (j : Nat) => .int (j : Int)) (own := [("k", 16)]) (tv := [16]) (fun k => encG (gAt gs k)) (ji_list (nm 9 rfl)) (by omega) (fun T k hk => ⟨_, jgw_name 16, rfl, (je_ixT (nm 2 rfl) (nm 16 rfl) (atI_gate (List.mem_range.mp (List.mem_filter.mp hk).1)))⟩))) (by rw [List.map_map]; rfl)) ja_nil)) ?_)
    generalize hs' = hs2 at *
    refine js_cons (js_if (t := false) (JT.cast (jt_w (jw_and (jt_ne 2 (nm 10 rfl) (je_tup ja_nil) (okD_gates hs2) rfl) fun z => jw_and1 (t := false) ?_)) (by rw [Bool.and_false])) (fun z => by cases z) (fun _ => js_nil ?_))
    · have ne : hs2 ≠ [] := fun e => by subst e; cases z
      have hg2 := hg.sub hsub ne
      have nb2 : noBar hs2 d := pass_noBar (by decide) y6 hall
      exact (jt_w (jw_orF (JT.cast (jt_isN (je_call F_some_road (Nat.le_refl _) (ja_cons (nm 10 rfl) (ja_cons (nm 3 rfl) ja_nil)) ⟨hs2, d, hg2, h3, rfl, rfl⟩)) (by rw [roadD_some nb2]; rfl)) (jw_or1 (JT.cast (jt_notN (je_call F_bar (Nat.le_refl _) (ja_cons (nm 10 rfl) (ja_cons (nm 3 rfl) ja_nil)) ⟨hs2, d, hg2, h3, rfl, rfl⟩)) (by rw [barD_none nb2]; rfl)))))
    have hfew : GatesOk (gs.take (d + 1)) := hg.sub (List.take_sublist _ _) (fun e => by have := congrArg List.length e; rw [List.length_take, List.length_nil] at this; have := hg.one; omega)
    have nbf : noBar (gs.take (d + 1)) d := few_noBar hfew (by rw [List.length_take]; omega)
    refine js_cons (js_set 11 (d := encGs (gs.take (d + 1))) (JE.cast (je_slT (nm 2 rfl) jo_none (jo_some (je_add (nm 3 rfl) je_int))) (by rw [cutD_take encG (by omega)]; rfl)) ?_)
    refine js_cons (js_ret (JE.cast (je_and (je_notN (je_call F_some_road (Nat.le_refl _) (ja_cons (nm 11 rfl) (ja_cons (nm 3 rfl) ja_nil)) ⟨gs.take (d + 1), d, hfew, h3, rfl, rfl⟩)) fun _ => je_one (je_isB (je_call F_is_road (Nat.le_refl _) (ja_cons (nm 3 rfl) (ja_cons (JE.cast (je_catT (nm 7 rfl) (je_tup (ja_cons (je_tup (ja_cons je_int (ja_cons je_int ja_nil))) ja_nil)) ?_) ?_) ja_nil)) ⟨d, road ++ [(1, 1)], h3, ?_, ?_, rfl, rfl⟩) je_bl)) ?_) rfl)
    · rw [List.length_map]
      show road.length + 1 ≤ _
      omega
    · rw [List.map_append]
      rfl
    · intro c hc
      rcases List.mem_append.mp hc with hc | hc
      · exact low c hc
      · rw [List.mem_singleton.mp hc]
        exact ⟨by decide, by decide⟩
    · rw [List.length_append]
      show road.length + 1 ≤ 100
      omega
    · rw [roadD_some nbf, List.length_append, decide_eq_false (p := (((road.length + [((1, 1) : Int × Int)].length : Nat) : Int) = (d : Int) + 1)) (by show ¬ ((road.length + 1 : Nat) : Int) = (d : Int) + 1; omega)]
      rfl

/-! the head -/
def fn0 : List He.DefD := [dOf "is_between" (topS 1), dOf "divisor_of" (topS 2), dOf "shortened" (topS 3), dOf "fraction" (topS 4), dOf "plus" (topS 5), dOf "by_factor" (topS 6), dOf "is_below" (topS 7), dOf "is_fraction" (topS 8), dOf "common_bottom" (topS 9), dOf "whole" (topS 10), dOf "is_gate" (topS 18), dOf "is_gates" (topS 19), dOf "check_gates" (topS 20), dOf "check_degree" (topS 21), dOf "check_both" (topS 22), dOf "are_road" (topS 23), dOf "is_road" (topS 24), dOf "check_road" (topS 25), dOf "found_height" (topS 26), dOf "height" (topS 27)]
def gl0 : List He.Fa := [.glo "is_between", .glo "divisor_of", .glo "shortened", .glo "fraction", .glo "plus", .glo "by_factor", .glo "is_below", .glo "is_fraction", .glo "common_bottom", .glo "whole", .glo "is_gate", .glo "is_gates", .glo "check_gates", .glo "check_degree", .glo "check_both", .glo "are_road", .glo "is_road", .glo "check_road", .glo "found_height", .glo "height"]
def fn1 : List He.DefD := [dOf "does_pass" (topS 28), dOf "passed" (topS 29), dOf "cleared" (topS 32), dOf "entries_of" (topS 34), dOf "powers_of" (topS 35), dOf "rows_of" (topS 36), dOf "ends_of" (topS 37), dOf "solved" (topS 38), dOf "found_bar" (topS 39), dOf "some_road" (topS 40), dOf "bar" (topS 41), dOf "are_entries" (topS 42), dOf "sums_by" (topS 43), dOf "is_found_bar" (topS 44), dOf "is_bar" (topS 45), dOf "_law_town" (topS 47), dOf "_law_draw" (topS 48), dOf "_law_pick" (topS 49), dOf "_law_ratio" (topS 50), dOf "_law_plus" (topS 51)]
def gl1 : List He.Fa := [.glo "does_pass", .glo "passed", .glo "cleared", .glo "entries_of", .glo "powers_of", .glo "rows_of", .glo "ends_of", .glo "solved", .glo "found_bar", .glo "some_road", .glo "bar", .glo "are_entries", .glo "sums_by", .glo "is_found_bar", .glo "is_bar", .glo "_law_town", .glo "_law_draw", .glo "_law_pick", .glo "_law_ratio", .glo "_law_plus"]
def fn2 : List He.DefD := [dOf "_law_times" (topS 52), dOf "_law_below" (topS 53), dOf "_law_height" (topS 54), dOf "_law_passes" (topS 55), dOf "_law_gates" (topS 56), dOf "_law_curve" (topS 57), dOf "_law_sums" (topS 58), dOf "_law_entries" (topS 59), dOf "law" (topS 60)]
def gl2 : List He.Fa := [.glo "_law_times", .glo "_law_below", .glo "_law_height", .glo "_law_passes", .glo "_law_gates", .glo "_law_curve", .glo "_law_sums", .glo "_law_entries", .glo "law"]
def fnM : List He.DefD := [dM "Equations" "__init__" "Equations.__init__" (inClass (topS 31) 0), dM "Equations" "turn" "Equations.turn" (inClass (topS 31) 1), dM "Equations" "leaving" "Equations.leaving" (inClass (topS 31) 2), dM "Equations" "unknowns" "Equations.unknowns" (inClass (topS 31) 4), dM "Equations" "solved" "Equations.solved" (inClass (topS 31) 3)]
def glM : List He.Fa := [.glo "Equations", .cls "Equations", .noat "Equations" "many", .noat "Equations" "signs", .noat "Equations" "rows", .noat "Equations" "basis", .mkr "Equations", .meth "Equations" "turn", .meth "Equations" "leaving", .meth "Equations" "unknowns", .meth "Equations" "solved"]
def fnA : List He.DefD := fn0 ++ fn1 ++ fn2 ++ fnM
def faA : List He.Fa := faF ++ gl0 ++ gl1 ++ gl2 ++ glM
def lo0 : List Str := ["is_between", "divisor_of", "shortened", "fraction", "plus", "by_factor", "is_below", "is_fraction", "common_bottom", "whole", "RoadError", "InvalidGates", "InvalidDegree", "InvalidRoad", "InvalidPlace", "is_gate", "is_gates", "check_gates", "check_degree", "check_both", "are_road", "is_road", "check_road", "found_height", "height", "does_pass", "passed", "Equations", "cleared", "entries_of"]
def lo1 : List Str := ["powers_of", "rows_of", "ends_of", "solved", "found_bar", "some_road", "bar", "are_entries", "sums_by", "is_found_bar", "is_bar", "_law_town", "_law_draw", "_law_pick", "_law_ratio", "_law_plus", "_law_times", "_law_below", "_law_height", "_law_passes", "_law_gates", "_law_curve", "_law_sums", "_law_entries"]
def looseA : List Str := lo0 ++ lo1
abbrev RA : PySem.W.OpenRow := PySem.W.OpenLaw.row PySem.Challenge.rw_gateroads_k10_whole_passing
abbrev hkA : PySem.W.Hook := He.hookX 4 faA fnA [] [] (fun _ => true)
def obA (s : PySem.W.SharedT) : He.AlX := He.obsX 4 faA fnA [] [] (fun _ => true) (HandSHeadRun.getT s)
theorem obA_eq (s : PySem.W.SharedT) : obA s = hkA.obs s.abs := He.obsX_eq (HandSHeadRun.getT_eq s)
theorem runA (w : World) : HandSHeadRun.RunEq RA (PySem.W.view RA.prog [60]) hkA obA 15000 looseA w := by
  intro os
  kernel_rfl
/-! the end -/
theorem in_faL : ∀ f ∈ faF, f ∈ faA := fun f h => by unfold faA; simp [h]
theorem facts {P : Program} {w : World} {K : PySem.W.Frag} {h : Heap} {mg : Str → Option Value} {f : Addr} (X : K.In h) (G : h.Ns mainGlobals mg) (hfa : mg ("law" : Str) = some (.ref f)) (c : He.SaysD faA fnA K) :
    ∃ fd : FuncData, (∀ (s : Shared) (v : Value), BindsTo s fd ⟨[v], []⟩ [("script", v)]) ∧ ∀ base : Heap, K.In base → base.Ns mainGlobals mg → FnOk P w K mg base (L2.CX P w) 9 f fd ["script"] (spLaw K) := by
  obtain ⟨fd, F⟩ := c.defs (d := dOf "law" (topS 60)) (by simp [fnA, fn0, fn1, fn2, fnM])
  have e := hfa.symm.trans (He.glo_ok X G (c.facts (f := .glo "law") (by simp [faA, gl0, gl1, gl2, glM])))
  cases e
  have b := FunD.bindsA (ps := ["script"]) F fun _ _ _ _ _ _ us hl => match us, hl with | [_], _ => rfl
  refine ⟨fd, fun s v => b s [v] rfl, fun base _ _ => ?_⟩
  have B : Bi (⟨P, w, K, mg, base⟩ : Glob) := bi_ofF (g := ⟨P, w, K, mg, base⟩) X G c in_faL
  have K_Equations : CK (⟨P, w, K, mg, base⟩ : Glob) (He.ga K "Equations") ["many", "signs", "rows", "basis"] := ck_of (g := ⟨P, w, K, mg, base⟩) c (by simp [faA, gl0, gl1, gl2, glM]) (fun f hf => by simp only [List.map_cons, List.map_nil, List.mem_cons, List.not_mem_nil, or_false] at hf; rcases hf with rfl | rfl | rfl | rfl <;> simp [faA, gl0, gl1, gl2, glM])
  have D_ok__law_town : DefAt (⟨P, w, K, mg, base⟩ : Glob) "_law_town" (topS 47) := defAt_of (g := ⟨P, w, K, mg, base⟩) X G c (by simp [faA, gl0, gl1, gl2, glM]) (by simp [fnA, fn0, fn1, fn2, fnM])
  have F_ok__law_town := fun (k : Nat) => ok__law_town (k := k + 0) D_ok__law_town B
  have D_ok__law_draw : DefAt (⟨P, w, K, mg, base⟩ : Glob) "_law_draw" (topS 48) := defAt_of (g := ⟨P, w, K, mg, base⟩) X G c (by simp [faA, gl0, gl1, gl2, glM]) (by simp [fnA, fn0, fn1, fn2, fnM])
  have F_ok__law_draw := fun (k : Nat) => ok__law_draw (k := k + 0) D_ok__law_draw B
  have D_ok__law_pick : DefAt (⟨P, w, K, mg, base⟩ : Glob) "_law_pick" (topS 49) := defAt_of (g := ⟨P, w, K, mg, base⟩) X G c (by simp [faA, gl0, gl1, gl2, glM]) (by simp [fnA, fn0, fn1, fn2, fnM])
  have F_ok__law_pick := fun (k : Nat) => ok__law_pick (k := k + 1) D_ok__law_pick B (F_ok__law_draw (k + 0))
  have D_ok__law_gates : DefAt (⟨P, w, K, mg, base⟩ : Glob) "_law_gates" (topS 56) := defAt_of (g := ⟨P, w, K, mg, base⟩) X G c (by simp [faA, gl0, gl1, gl2, glM]) (by simp [fnA, fn0, fn1, fn2, fnM])
  have F_ok__law_gates := fun (k : Nat) => ok__law_gates (k := k + 2) D_ok__law_gates B (F_ok__law_draw (k + 1)) (F_ok__law_pick (k + 0))
  have D_ok_is_between : DefAt (⟨P, w, K, mg, base⟩ : Glob) "is_between" (topS 1) := defAt_of (g := ⟨P, w, K, mg, base⟩) X G c (by simp [faA, gl0, gl1, gl2, glM]) (by simp [fnA, fn0, fn1, fn2, fnM])
  have F_ok_is_between := fun (k : Nat) => ok_is_between (k := k + 0) D_ok_is_between B
  have D_ok_is_gate : DefAt (⟨P, w, K, mg, base⟩ : Glob) "is_gate" (topS 18) := defAt_of (g := ⟨P, w, K, mg, base⟩) X G c (by simp [faA, gl0, gl1, gl2, glM]) (by simp [fnA, fn0, fn1, fn2, fnM])
  have F_ok_is_gate := fun (k : Nat) => ok_is_gate (k := k + 1) D_ok_is_gate B (F_ok_is_between (k + 0))
  have D_ok_is_gates : DefAt (⟨P, w, K, mg, base⟩ : Glob) "is_gates" (topS 19) := defAt_of (g := ⟨P, w, K, mg, base⟩) X G c (by simp [faA, gl0, gl1, gl2, glM]) (by simp [fnA, fn0, fn1, fn2, fnM])
  have F_ok_is_gates := fun (k : Nat) => ok_is_gates (k := k + 2) D_ok_is_gates B (F_ok_is_gate (k + 0))
  have D_ok0_check_gates : DefAt (⟨P, w, K, mg, base⟩ : Glob) "check_gates" (topS 20) := defAt_of (g := ⟨P, w, K, mg, base⟩) X G c (by simp [faA, gl0, gl1, gl2, glM]) (by simp [fnA, fn0, fn1, fn2, fnM])
  have F_ok0_check_gates := fun (k : Nat) => ok0_check_gates (k := k + 3) D_ok0_check_gates (F_ok_is_gates (k + 0))
  have D_ok0_check_degree : DefAt (⟨P, w, K, mg, base⟩ : Glob) "check_degree" (topS 21) := defAt_of (g := ⟨P, w, K, mg, base⟩) X G c (by simp [faA, gl0, gl1, gl2, glM]) (by simp [fnA, fn0, fn1, fn2, fnM])
  have F_ok0_check_degree := fun (k : Nat) => ok0_check_degree (k := k + 1) D_ok0_check_degree (F_ok_is_between (k + 0))
  have D_ok0_check_both : DefAt (⟨P, w, K, mg, base⟩ : Glob) "check_both" (topS 22) := defAt_of (g := ⟨P, w, K, mg, base⟩) X G c (by simp [faA, gl0, gl1, gl2, glM]) (by simp [fnA, fn0, fn1, fn2, fnM])
  have F_ok0_check_both := fun (k : Nat) => ok0_check_both (k := k + 4) D_ok0_check_both (F_ok0_check_gates (k + 0)) (F_ok0_check_degree (k + 2))
  have D_ok_entries_of : DefAt (⟨P, w, K, mg, base⟩ : Glob) "entries_of" (topS 34) := defAt_of (g := ⟨P, w, K, mg, base⟩) X G c (by simp [faA, gl0, gl1, gl2, glM]) (by simp [fnA, fn0, fn1, fn2, fnM])
  have F_ok_entries_of := fun (k : Nat) => ok_entries_of (k := k + 0) D_ok_entries_of B
  have D_ok_powers_of : DefAt (⟨P, w, K, mg, base⟩ : Glob) "powers_of" (topS 35) := defAt_of (g := ⟨P, w, K, mg, base⟩) X G c (by simp [faA, gl0, gl1, gl2, glM]) (by simp [fnA, fn0, fn1, fn2, fnM])
  have F_ok_powers_of := fun (k : Nat) => ok_powers_of (k := k + 0) D_ok_powers_of B
  have D_ok_rows_of : DefAt (⟨P, w, K, mg, base⟩ : Glob) "rows_of" (topS 36) := defAt_of (g := ⟨P, w, K, mg, base⟩) X G c (by simp [faA, gl0, gl1, gl2, glM]) (by simp [fnA, fn0, fn1, fn2, fnM])
  have F_ok_rows_of := fun (k : Nat) => ok_rows_of (k := k + 1) D_ok_rows_of B (F_ok_entries_of (k + 0)) (F_ok_powers_of (k + 0))
  have D_ok_ends_of : DefAt (⟨P, w, K, mg, base⟩ : Glob) "ends_of" (topS 37) := defAt_of (g := ⟨P, w, K, mg, base⟩) X G c (by simp [faA, gl0, gl1, gl2, glM]) (by simp [fnA, fn0, fn1, fn2, fnM])
  have F_ok_ends_of := fun (k : Nat) => ok_ends_of (k := k + 1) D_ok_ends_of B (F_ok_entries_of (k + 0))
  have D_ok_init : MakAt (⟨P, w, K, mg, base⟩ : Glob) "Equations" (He.ga K "Equations") "Equations.__init__" (inClass (topS 31) 0) := makAt_of (g := ⟨P, w, K, mg, base⟩) X G c (by simp [faA, gl0, gl1, gl2, glM]) (by simp [faA, gl0, gl1, gl2, glM]) (by simp [fnA, fn0, fn1, fn2, fnM])
  have F_ok_init := fun (k : Nat) => ok_init (k := k + 0) D_ok_init B K_Equations
  have D_ok_divisor_of : DefAt (⟨P, w, K, mg, base⟩ : Glob) "divisor_of" (topS 2) := defAt_of (g := ⟨P, w, K, mg, base⟩) X G c (by simp [faA, gl0, gl1, gl2, glM]) (by simp [fnA, fn0, fn1, fn2, fnM])
  have F_ok_divisor_of := fun (k : Nat) => ok_divisor_of (k := k + 0) D_ok_divisor_of B
  have D_ok_shortened : DefAt (⟨P, w, K, mg, base⟩ : Glob) "shortened" (topS 3) := defAt_of (g := ⟨P, w, K, mg, base⟩) X G c (by simp [faA, gl0, gl1, gl2, glM]) (by simp [fnA, fn0, fn1, fn2, fnM])
  have F_ok_shortened := fun (k : Nat) => ok_shortened (k := k + 1) D_ok_shortened B (F_ok_divisor_of (k + 0))
  have D_ok_cleared : DefAt (⟨P, w, K, mg, base⟩ : Glob) "cleared" (topS 32) := defAt_of (g := ⟨P, w, K, mg, base⟩) X G c (by simp [faA, gl0, gl1, gl2, glM]) (by simp [fnA, fn0, fn1, fn2, fnM])
  have F_ok_cleared := fun (k : Nat) => ok_cleared (k := k + 2) D_ok_cleared B (F_ok_shortened (k + 0))
  have D_ok_turn : MethAt (⟨P, w, K, mg, base⟩ : Glob) (He.ga K "Equations") "turn" "Equations.turn" (inClass (topS 31) 1) := methAt_of (g := ⟨P, w, K, mg, base⟩) c (by simp [faA, gl0, gl1, gl2, glM]) (by simp [fnA, fn0, fn1, fn2, fnM])
  have F_ok_turn := fun (k : Nat) => ok_turn (k := k + 3) D_ok_turn B K_Equations (F_ok_cleared (k + 0))
  have D_ok_leaving : MethAt (⟨P, w, K, mg, base⟩ : Glob) (He.ga K "Equations") "leaving" "Equations.leaving" (inClass (topS 31) 2) := methAt_of (g := ⟨P, w, K, mg, base⟩) c (by simp [faA, gl0, gl1, gl2, glM]) (by simp [fnA, fn0, fn1, fn2, fnM])
  have F_ok_leaving := fun (k : Nat) => ok_leaving (k := k + 0) D_ok_leaving B K_Equations
  have D_ok_fraction : DefAt (⟨P, w, K, mg, base⟩ : Glob) "fraction" (topS 4) := defAt_of (g := ⟨P, w, K, mg, base⟩) X G c (by simp [faA, gl0, gl1, gl2, glM]) (by simp [fnA, fn0, fn1, fn2, fnM])
  have F_ok_fraction := fun (k : Nat) => ok_fraction (k := k + 1) D_ok_fraction B (F_ok_divisor_of (k + 0))
  have D_ok_unknowns : MethAt (⟨P, w, K, mg, base⟩ : Glob) (He.ga K "Equations") "unknowns" "Equations.unknowns" (inClass (topS 31) 4) := methAt_of (g := ⟨P, w, K, mg, base⟩) c (by simp [faA, gl0, gl1, gl2, glM]) (by simp [fnA, fn0, fn1, fn2, fnM])
  have F_ok_unknowns := fun (k : Nat) => ok_unknowns (k := k + 2) D_ok_unknowns B K_Equations (F_ok_fraction (k + 0))
  have D_ok_eqsolved : MethAt (⟨P, w, K, mg, base⟩ : Glob) (He.ga K "Equations") "solved" "Equations.solved" (inClass (topS 31) 3) := methAt_of (g := ⟨P, w, K, mg, base⟩) c (by simp [faA, gl0, gl1, gl2, glM]) (by simp [fnA, fn0, fn1, fn2, fnM])
  have F_ok_eqsolved := fun (k : Nat) => ok_eqsolved (k := k + 4) D_ok_eqsolved B K_Equations (F_ok_turn (k + 0)) (F_ok_leaving (k + 3)) (F_ok_unknowns (k + 1))
  have D_ok_solved : DefAt (⟨P, w, K, mg, base⟩ : Glob) "solved" (topS 38) := defAt_of (g := ⟨P, w, K, mg, base⟩) X G c (by simp [faA, gl0, gl1, gl2, glM]) (by simp [fnA, fn0, fn1, fn2, fnM])
  have F_ok_solved := fun (k : Nat) => ok_solved (k := k + 4) D_ok_solved B K_Equations (F_ok_rows_of (k + 3)) (F_ok_ends_of (k + 3)) (F_ok_init (k + 3)) (F_ok_eqsolved (k + 0)) (F_ok_fraction (k + 3))
  have D_ok_some_road : DefAt (⟨P, w, K, mg, base⟩ : Glob) "some_road" (topS 40) := defAt_of (g := ⟨P, w, K, mg, base⟩) X G c (by simp [faA, gl0, gl1, gl2, glM]) (by simp [fnA, fn0, fn1, fn2, fnM])
  have F_ok_some_road := fun (k : Nat) => ok_some_road (k := k + 6) D_ok_some_road (F_ok0_check_both (k + 1)) (F_ok_solved (k + 0))
  have D_ok_common_bottom : DefAt (⟨P, w, K, mg, base⟩ : Glob) "common_bottom" (topS 9) := defAt_of (g := ⟨P, w, K, mg, base⟩) X G c (by simp [faA, gl0, gl1, gl2, glM]) (by simp [fnA, fn0, fn1, fn2, fnM])
  have F_ok_common_bottom := fun (k : Nat) => ok_common_bottom (k := k + 1) D_ok_common_bottom B (F_ok_divisor_of (k + 0))
  have D_ok_whole : DefAt (⟨P, w, K, mg, base⟩ : Glob) "whole" (topS 10) := defAt_of (g := ⟨P, w, K, mg, base⟩) X G c (by simp [faA, gl0, gl1, gl2, glM]) (by simp [fnA, fn0, fn1, fn2, fnM])
  have F_ok_whole := fun (k : Nat) => ok_whole (k := k + 0) D_ok_whole 
  have D_ok_found_bar : DefAt (⟨P, w, K, mg, base⟩ : Glob) "found_bar" (topS 39) := defAt_of (g := ⟨P, w, K, mg, base⟩) X G c (by simp [faA, gl0, gl1, gl2, glM]) (by simp [fnA, fn0, fn1, fn2, fnM])
  have F_ok_found_bar := fun (k : Nat) => ok_found_bar (k := k + 6) D_ok_found_bar B (F_ok_solved (k + 0)) (F_ok_common_bottom (k + 4)) (F_ok_whole (k + 5)) (F_ok_entries_of (k + 5))
  have D_ok_bar : DefAt (⟨P, w, K, mg, base⟩ : Glob) "bar" (topS 41) := defAt_of (g := ⟨P, w, K, mg, base⟩) X G c (by simp [faA, gl0, gl1, gl2, glM]) (by simp [fnA, fn0, fn1, fn2, fnM])
  have F_ok_bar := fun (k : Nat) => ok_bar (k := k + 7) D_ok_bar (F_ok0_check_both (k + 2)) (F_ok_found_bar (k + 0))
  have D_ok_is_fraction : DefAt (⟨P, w, K, mg, base⟩ : Glob) "is_fraction" (topS 8) := defAt_of (g := ⟨P, w, K, mg, base⟩) X G c (by simp [faA, gl0, gl1, gl2, glM]) (by simp [fnA, fn0, fn1, fn2, fnM])
  have F_ok_is_fraction := fun (k : Nat) => ok_is_fraction (k := k + 1) D_ok_is_fraction B (F_ok_divisor_of (k + 0))
  have D_ok_are_road : DefAt (⟨P, w, K, mg, base⟩ : Glob) "are_road" (topS 23) := defAt_of (g := ⟨P, w, K, mg, base⟩) X G c (by simp [faA, gl0, gl1, gl2, glM]) (by simp [fnA, fn0, fn1, fn2, fnM])
  have F_ok_are_road := fun (k : Nat) => ok_are_road (k := k + 2) D_ok_are_road B (F_ok_is_fraction (k + 0))
  have D_ok0_is_road : DefAt (⟨P, w, K, mg, base⟩ : Glob) "is_road" (topS 24) := defAt_of (g := ⟨P, w, K, mg, base⟩) X G c (by simp [faA, gl0, gl1, gl2, glM]) (by simp [fnA, fn0, fn1, fn2, fnM])
  have F_ok0_is_road := fun (k : Nat) => ok0_is_road (k := k + 3) D_ok0_is_road B (F_ok0_check_degree (k + 1)) (F_ok_are_road (k + 0))
  have D_ok0_check_road : DefAt (⟨P, w, K, mg, base⟩ : Glob) "check_road" (topS 25) := defAt_of (g := ⟨P, w, K, mg, base⟩) X G c (by simp [faA, gl0, gl1, gl2, glM]) (by simp [fnA, fn0, fn1, fn2, fnM])
  have F_ok0_check_road := fun (k : Nat) => ok0_check_road (k := k + 3) D_ok0_check_road B (F_ok_are_road (k + 0))
  have D_ok_plus : DefAt (⟨P, w, K, mg, base⟩ : Glob) "plus" (topS 5) := defAt_of (g := ⟨P, w, K, mg, base⟩) X G c (by simp [faA, gl0, gl1, gl2, glM]) (by simp [fnA, fn0, fn1, fn2, fnM])
  have F_ok_plus := fun (k : Nat) => ok_plus (k := k + 2) D_ok_plus (F_ok_fraction (k + 0))
  have D_ok_by_factor : DefAt (⟨P, w, K, mg, base⟩ : Glob) "by_factor" (topS 6) := defAt_of (g := ⟨P, w, K, mg, base⟩) X G c (by simp [faA, gl0, gl1, gl2, glM]) (by simp [fnA, fn0, fn1, fn2, fnM])
  have F_ok_by_factor := fun (k : Nat) => ok_by_factor (k := k + 2) D_ok_by_factor (F_ok_fraction (k + 0))
  have D_ok_found_height : DefAt (⟨P, w, K, mg, base⟩ : Glob) "found_height" (topS 26) := defAt_of (g := ⟨P, w, K, mg, base⟩) X G c (by simp [faA, gl0, gl1, gl2, glM]) (by simp [fnA, fn0, fn1, fn2, fnM])
  have F_ok_found_height := fun (k : Nat) => ok_found_height (k := k + 3) D_ok_found_height B (F_ok_plus (k + 0)) (F_ok_by_factor (k + 0))
  have D_ok_is_below : DefAt (⟨P, w, K, mg, base⟩ : Glob) "is_below" (topS 7) := defAt_of (g := ⟨P, w, K, mg, base⟩) X G c (by simp [faA, gl0, gl1, gl2, glM]) (by simp [fnA, fn0, fn1, fn2, fnM])
  have F_ok_is_below := fun (k : Nat) => ok_is_below (k := k + 0) D_ok_is_below 
  have D_ok_does_pass : DefAt (⟨P, w, K, mg, base⟩ : Glob) "does_pass" (topS 28) := defAt_of (g := ⟨P, w, K, mg, base⟩) X G c (by simp [faA, gl0, gl1, gl2, glM]) (by simp [fnA, fn0, fn1, fn2, fnM])
  have F_ok_does_pass := fun (k : Nat) => ok_does_pass (k := k + 4) D_ok_does_pass (F_ok_found_height (k + 0)) (F_ok_is_below (k + 3))
  have D_ok_passed : DefAt (⟨P, w, K, mg, base⟩ : Glob) "passed" (topS 29) := defAt_of (g := ⟨P, w, K, mg, base⟩) X G c (by simp [faA, gl0, gl1, gl2, glM]) (by simp [fnA, fn0, fn1, fn2, fnM])
  have F_ok_passed := fun (k : Nat) => ok_passed (k := k + 5) D_ok_passed B (F_ok0_check_gates (k + 1)) (F_ok0_check_road (k + 1)) (F_ok_does_pass (k + 0))
  have D_ok__law_ratio : DefAt (⟨P, w, K, mg, base⟩ : Glob) "_law_ratio" (topS 50) := defAt_of (g := ⟨P, w, K, mg, base⟩) X G c (by simp [faA, gl0, gl1, gl2, glM]) (by simp [fnA, fn0, fn1, fn2, fnM])
  have F_ok__law_ratio := fun (k : Nat) => ok__law_ratio (k := k + 0) D_ok__law_ratio B
  have D_ok__law_plus : DefAt (⟨P, w, K, mg, base⟩ : Glob) "_law_plus" (topS 51) := defAt_of (g := ⟨P, w, K, mg, base⟩) X G c (by simp [faA, gl0, gl1, gl2, glM]) (by simp [fnA, fn0, fn1, fn2, fnM])
  have F_ok__law_plus := fun (k : Nat) => ok__law_plus (k := k + 1) D_ok__law_plus (F_ok__law_ratio (k + 0))
  have D_ok__law_times : DefAt (⟨P, w, K, mg, base⟩ : Glob) "_law_times" (topS 52) := defAt_of (g := ⟨P, w, K, mg, base⟩) X G c (by simp [faA, gl0, gl1, gl2, glM]) (by simp [fnA, fn0, fn1, fn2, fnM])
  have F_ok__law_times := fun (k : Nat) => ok__law_times (k := k + 1) D_ok__law_times (F_ok__law_ratio (k + 0))
  have D_ok__law_height : DefAt (⟨P, w, K, mg, base⟩ : Glob) "_law_height" (topS 54) := defAt_of (g := ⟨P, w, K, mg, base⟩) X G c (by simp [faA, gl0, gl1, gl2, glM]) (by simp [fnA, fn0, fn1, fn2, fnM])
  have F_ok__law_height := fun (k : Nat) => ok__law_height (k := k + 2) D_ok__law_height B (F_ok__law_plus (k + 0)) (F_ok__law_times (k + 0))
  have D_ok__law_below : DefAt (⟨P, w, K, mg, base⟩ : Glob) "_law_below" (topS 53) := defAt_of (g := ⟨P, w, K, mg, base⟩) X G c (by simp [faA, gl0, gl1, gl2, glM]) (by simp [fnA, fn0, fn1, fn2, fnM])
  have F_ok__law_below := fun (k : Nat) => ok__law_below (k := k + 0) D_ok__law_below 
  have D_ok__law_passes : DefAt (⟨P, w, K, mg, base⟩ : Glob) "_law_passes" (topS 55) := defAt_of (g := ⟨P, w, K, mg, base⟩) X G c (by simp [faA, gl0, gl1, gl2, glM]) (by simp [fnA, fn0, fn1, fn2, fnM])
  have F_ok__law_passes := fun (k : Nat) => ok__law_passes (k := k + 3) D_ok__law_passes B (F_ok__law_height (k + 0)) (F_ok__law_plus (k + 1)) (F_ok__law_below (k + 2))
  have D_ok__law_sums : DefAt (⟨P, w, K, mg, base⟩ : Glob) "_law_sums" (topS 58) := defAt_of (g := ⟨P, w, K, mg, base⟩) X G c (by simp [faA, gl0, gl1, gl2, glM]) (by simp [fnA, fn0, fn1, fn2, fnM])
  have F_ok__law_sums := fun (k : Nat) => ok__law_sums (k := k + 2) D_ok__law_sums B (F_ok__law_plus (k + 0)) (F_ok__law_times (k + 0))
  have D_ok_are_entries : DefAt (⟨P, w, K, mg, base⟩ : Glob) "are_entries" (topS 42) := defAt_of (g := ⟨P, w, K, mg, base⟩) X G c (by simp [faA, gl0, gl1, gl2, glM]) (by simp [fnA, fn0, fn1, fn2, fnM])
  have F_ok_are_entries := fun (k : Nat) => ok_are_entries (k := k + 1) D_ok_are_entries B (F_ok_is_between (k + 0))
  have D_ok_sums_by : DefAt (⟨P, w, K, mg, base⟩ : Glob) "sums_by" (topS 43) := defAt_of (g := ⟨P, w, K, mg, base⟩) X G c (by simp [faA, gl0, gl1, gl2, glM]) (by simp [fnA, fn0, fn1, fn2, fnM])
  have F_ok_sums_by := fun (k : Nat) => ok_sums_by (k := k + 1) D_ok_sums_by B (F_ok_powers_of (k + 0))
  have D_ok_is_found_bar : DefAt (⟨P, w, K, mg, base⟩ : Glob) "is_found_bar" (topS 44) := defAt_of (g := ⟨P, w, K, mg, base⟩) X G c (by simp [faA, gl0, gl1, gl2, glM]) (by simp [fnA, fn0, fn1, fn2, fnM])
  have F_ok_is_found_bar := fun (k : Nat) => ok_is_found_bar (k := k + 2) D_ok_is_found_bar B (F_ok_are_entries (k + 0)) (F_ok_sums_by (k + 0))
  have D_ok_is_bar : DefAt (⟨P, w, K, mg, base⟩ : Glob) "is_bar" (topS 45) := defAt_of (g := ⟨P, w, K, mg, base⟩) X G c (by simp [faA, gl0, gl1, gl2, glM]) (by simp [fnA, fn0, fn1, fn2, fnM])
  have F_ok_is_bar := fun (k : Nat) => ok_is_bar (k := k + 5) D_ok_is_bar (F_ok0_check_both (k + 0)) (F_ok_is_found_bar (k + 2))
  have D_ok__law_entries : DefAt (⟨P, w, K, mg, base⟩ : Glob) "_law_entries" (topS 59) := defAt_of (g := ⟨P, w, K, mg, base⟩) X G c (by simp [faA, gl0, gl1, gl2, glM]) (by simp [fnA, fn0, fn1, fn2, fnM])
  have F_ok__law_entries := fun (k : Nat) => ok__law_entries (k := k + 0) D_ok__law_entries B
  have D_ok__law_curve : DefAt (⟨P, w, K, mg, base⟩ : Glob) "_law_curve" (topS 57) := defAt_of (g := ⟨P, w, K, mg, base⟩) X G c (by simp [faA, gl0, gl1, gl2, glM]) (by simp [fnA, fn0, fn1, fn2, fnM])
  have F_ok__law_curve := fun (k : Nat) => ok__law_curve (k := k + 1) D_ok__law_curve B (F_ok__law_draw (k + 0)) (F_ok__law_ratio (k + 0))
  have D_ok0_height : DefAt (⟨P, w, K, mg, base⟩ : Glob) "height" (topS 27) := defAt_of (g := ⟨P, w, K, mg, base⟩) X G c (by simp [faA, gl0, gl1, gl2, glM]) (by simp [fnA, fn0, fn1, fn2, fnM])
  have F_ok0_height := fun (k : Nat) => ok0_height (k := k + 4) D_ok0_height (F_ok0_check_road (k + 0)) (F_ok_is_fraction (k + 2)) (F_ok_found_height (k + 0))
  have F_ok_law := fun (k : Nat) => ok_law (g := ⟨P, w, K, mg, base⟩) (k := k + 8) F B (F_ok__law_town (k + 7)) (F_ok__law_draw (k + 7)) (F_ok__law_gates (k + 5)) (F_ok_some_road (k + 1)) (F_ok_bar (k + 0)) (F_ok_is_gates (k + 5)) (F_ok0_is_road (k + 4)) (F_ok_passed (k + 2)) (F_ok__law_passes (k + 4)) (F_ok__law_sums (k + 5)) (F_ok_is_bar (k + 2)) (F_ok__law_entries (k + 7)) (F_ok__law_curve (k + 6)) (F_ok__law_ratio (k + 7)) (F_ok0_height (k + 3)) (F_ok__law_height (k + 5))
  exact F_ok_law 0
end JL
open PySem PySem.W PySem.Calls PyProof.Rows
theorem PySem.Challenge.cw_gateroads_k10_whole_passing_holds : PySem.Challenge.rw_gateroads_k10_whole_passing.Holds := by
  w_on; o_law
  refine HandSHeadRun.head_any (r := OpenLaw.row PySem.Challenge.rw_gateroads_k10_whole_passing) (q := view (OpenLaw.row PySem.Challenge.rw_gateroads_k10_whole_passing).prog [60]) (H := JL.hkA) (ob := JL.obA) (M := 15000) (loose := JL.looseA) (d := HandSHeadRun.topDef (OpenLaw.row PySem.Challenge.rw_gateroads_k10_whole_passing).prog 60) (kwd := []) JL.obA_eq
    (by kernel_rfl) (fun s => by kernel_rfl) JL.runA (by kernel_rfl) (by kernel_rfl) (by kernel_rfl) (by rfl) (by first | assumption | decide +kernel) (by decide +kernel) ⟨rfl, rfl, rfl, rfl, rfl, by decide +kernel⟩ ?hw ?hc
  case hw => w_witness2
  case hc =>
    refine JL.walk_W (l := PySem.Challenge.rw_gateroads_k10_whole_passing) (n := 63) (k := 9) (x := "script") rfl (by decide) (by kernel_rfl) ⟨rfl, by decide, by decide⟩ ?F
    case F =>
      intro w mg fa h Y G hmg0
      obtain ⟨K, KX, c⟩ := Y
      have hmg : mg ("law" : PySem.Str) = some (.ref fa) := by
        have e : (HandSHeadRun.topDef (OpenLaw.row PySem.Challenge.rw_gateroads_k10_whole_passing).prog 60).name = ("law" : PySem.Str) := by kernel_rfl
        rw [← e]
        exact hmg0
      obtain ⟨fd, hb, hF⟩ := JL.facts (P := (PySem.Challenge.rw_gateroads_k10_whole_passing).prog) (w := w) KX G hmg c.t.d
      exact ⟨K, fd, JL.spLaw K, KX, hb, fun H a ns hl hO hS => ⟨a, ns, rfl, JL.scrIn_of hO hS, by omega, fun _ => rfl⟩, hF⟩
