import PyProof.Rows.All
import Wide.All
import OpenK.AllK
import Wide.FinOn
import HandS.ForMost
import HandS.ForExc
import HandS.IsInst
import HandS.TupAny
import HandS.Evl
import HandS.Flow
import HandS.Lambda
import HandS.Zip
import HandS.Wide
import HandS.TupMul
import HandS.SortInts
import HandS.Text
import HandS.Steps
import HandS.Style
import HandS.ExcValue
import HandS.ExcIs
import HandS.Defaults
import KE.KDictZip
import KE.GoesEnum
import HandS.TryOnly
import PyProof.ReprRoads
import HandS.Deep
import HandS.EndTab
import PySem.Challenge.RW_samewriting_k82_whole_how_many_trees_of
set_option Elab.async false
set_option linter.all false
section
set_option maxRecDepth 100000
set_option maxHeartbeats 2000000
namespace DL
open PySem PySem.Spec PyProof.Rows L2
open Evl (Ex ex_rd ex_l ex_t)

inductive D where
  | non
  | bl (b : Bool)
  | int (i : Int)
  | str (s : Str)
  | tup (l : List D)
  | lst (l : List D)
  | scr (l : List Int)
  | ty (n : String)
  | ref (a : Addr)

structure Draw where
  wide : List Int
  cells : List Int
  rest : Int
  turn : Int

inductive Sl where
  | emp
  | sh (d : D)
  | own (l : List D)
  | own2 (l : List (List D))
  | drw (s : Draw)
  | tab (T : List (Addr × Str)) (d : D)

inductive Vl where
  | sh (d : D)
  | own (l : List D)
  | drw (s : Draw)
  | bor (i : Nat)

inductive R (α : Type) where
  | bad
  | ok (a : α)
  | exc (c : String) (p : Option (Str × Int))

def R.bind {α β : Type} (x : R α) (f : α → R β) : R β := match x with
  | .bad => .bad
  | .ok a => f a
  | .exc c p => .exc c p
instance : Monad R where
  pure := .ok
  bind := R.bind

abbrev Env := List Sl

mutual
inductive DV (K : PySem.W.Frag) (B : Hp) : V → D → Prop
  | non : DV K B .non .non
  | bl (b : Bool) : DV K B (.bl b) (.bl b)
  | int (i : Int) : DV K B (.int i) (.int i)
  | str (x : Str) : DV K B (.str x) (.str x)
  | ref (a : Addr) : DV K B (.ref a) (.ref a)
  | ty (n : String) : DV K B (.ty n) (.ty n)
  | scr {a : Addr} {ns : List Int} : SqL K B a (ns.map V.int) → DV K B (.ref a) (.scr ns)
  | tup {a : Addr} {xs : List V} {ds : List D} : SqT K B a xs → DVs K B xs ds → DV K B (.ref a) (.tup ds)
  | lst {a : Addr} {xs : List V} {ds : List D} : B a = some (.lst xs) → DVs K B xs ds → DV K B (.ref a) (.lst ds)
inductive DVs (K : PySem.W.Frag) (B : Hp) : List V → List D → Prop
  | nil : DVs K B [] []
  | cons {v : V} {vs : List V} {d : D} {ds : List D} : DV K B v d → DVs K B vs ds → DVs K B (v :: vs) (d :: ds)
end

section
variable {K : PySem.W.Frag} {B B' H H' : Hp}
mutual
theorem DV.mono (e : Ex B B') : ∀ {v : V} {d : D}, DV K B v d → DV K B' v d
  | _, _, .non => .non
  | _, _, .bl b => .bl b
  | _, _, .int i => .int i
  | _, _, .str x => .str x
  | _, _, .ref a => .ref a
  | _, _, .ty n => .ty n
  | _, _, .scr h => .scr (ex_l e h)
  | _, _, .tup h r => .tup (ex_t e h) (DVs.mono e r)
  | _, _, .lst h r => .lst (e _ _ h) (DVs.mono e r)
theorem DVs.mono (e : Ex B B') : ∀ {vs : List V} {ds : List D}, DVs K B vs ds → DVs K B' vs ds
  | _, _, .nil => .nil
  | _, _, .cons h r => .cons (DV.mono e h) (DVs.mono e r)
end
theorem DVs.len : ∀ {vs : List V} {ds : List D}, DVs K B vs ds → vs.length = ds.length
  | _, _, .nil => rfl
  | _, _, .cons _ r => by rw [List.length_cons, List.length_cons, DVs.len r]
theorem DVs.get : ∀ {vs : List V} {ds : List D} {i : Nat} {d : D}, DVs K B vs ds → ds[i]? = some d → ∃ v, vs[i]? = some v ∧ DV K B v d
  | _, _, i, d, .nil, e => by simp at e
  | _, _, 0, d, .cons (v := v) h _, e => by
    have e' := Option.some.inj e
    subst e'
    exact ⟨v, rfl, h⟩
  | _, _, i + 1, d, .cons _ r, e => by
    obtain ⟨w, h1, h2⟩ := DVs.get (i := i) (d := d) r e
    exact ⟨w, h1, h2⟩
theorem DVs.getV : ∀ {vs : List V} {ds : List D} {i : Nat} {v : V}, DVs K B vs ds → vs[i]? = some v → ∃ d, ds[i]? = some d ∧ DV K B v d
  | _, _, i, v, .nil, e => by simp at e
  | _, _, 0, v, .cons (d := d) h _, e => by
    have e' := Option.some.inj e
    subst e'
    exact ⟨d, rfl, h⟩
  | _, _, i + 1, v, .cons _ r, e => by
    obtain ⟨w, h1, h2⟩ := DVs.getV (i := i) (v := v) r e
    exact ⟨w, h1, h2⟩
theorem DVs.app : ∀ {vs : List V} {ds : List D} {ws : List V} {es : List D}, DVs K B vs ds → DVs K B ws es → DVs K B (vs ++ ws) (ds ++ es)
  | _, _, _, _, .nil, s => s
  | _, _, _, _, .cons h r, s => .cons h (DVs.app r s)
theorem DVs.take : ∀ {vs : List V} {ds : List D} (n : Nat), DVs K B vs ds → DVs K B (vs.take n) (ds.take n)
  | _, _, 0, _ => .nil
  | _, _, _ + 1, .nil => .nil
  | _, _, n + 1, .cons h r => .cons h (DVs.take n r)
theorem DVs.drop : ∀ {vs : List V} {ds : List D} (n : Nat), DVs K B vs ds → DVs K B (vs.drop n) (ds.drop n)
  | _, _, 0, r => r
  | _, _, _ + 1, .nil => .nil
  | _, _, n + 1, .cons _ r => DVs.drop n r
theorem DVs.set {x : V} {d : D} (h : DV K B x d) : ∀ {vs : List V} {ds : List D} (n : Nat), DVs K B vs ds → DVs K B (vs.set n x) (ds.set n d)
  | _, _, _, .nil => .nil
  | _, _, 0, .cons _ r => .cons h r
  | _, _, n + 1, .cons q r => .cons q (DVs.set h n r)
theorem DVs.ints : ∀ (ns : List Int), DVs K B (ns.map V.int) (ns.map D.int)
  | [] => .nil
  | n :: r => .cons (.int n) (DVs.ints r)
theorem DVs.strs : ∀ (ns : List Str), DVs K B (ns.map V.str) (ns.map D.str)
  | [] => .nil
  | n :: r => .cons (.str n) (DVs.strs r)
theorem DVs.bls : ∀ (ns : List Bool), DVs K B (ns.map V.bl) (ns.map D.bl)
  | [] => .nil
  | n :: r => .cons (.bl n) (DVs.bls r)
theorem DVs.ints_of : ∀ {vs : List V} {ns : List Int}, DVs K B vs (ns.map D.int) → vs = ns.map V.int
  | _, [], h => by cases h; rfl
  | _, n :: r, h => by
    cases h with
    | cons h1 h2 =>
      cases h1
      rw [DVs.ints_of h2]
      rfl
theorem DVs.strs_of : ∀ {vs : List V} {ns : List Str}, DVs K B vs (ns.map D.str) → vs = ns.map V.str
  | _, [], h => by cases h; rfl
  | _, n :: r, h => by
    cases h with
    | cons h1 h2 =>
      cases h1
      rw [DVs.strs_of h2]
      rfl
theorem DVs.bls_of : ∀ {vs : List V} {ns : List Bool}, DVs K B vs (ns.map D.bl) → vs = ns.map V.bl
  | _, [], h => by cases h; rfl
  | _, n :: r, h => by
    cases h with
    | cons h1 h2 =>
      cases h1
      rw [DVs.bls_of h2]
      rfl

inductive RowsOk (K : PySem.W.Frag) (B H : Hp) : List Addr → List (List D) → Prop
  | nil : RowsOk K B H [] []
  | cons {p : Addr} {ps : List Addr} {xs : List V} {ds : List D} {l : List (List D)} : H p = some (.lst xs) → DVs K B xs ds → RowsOk K B H ps l → RowsOk K B H (p :: ps) (ds :: l)
theorem RowsOk.to (eB : Ex B B') : ∀ {ps : List Addr} {l : List (List D)}, RowsOk K B H ps l → (∀ p ∈ ps, ∀ o, H p = some o → H' p = some o) → RowsOk K B' H' ps l
  | _, _, .nil, _ => .nil
  | _, _, .cons h d r, k => .cons (k _ (by simp) _ h) (d.mono eB) (RowsOk.to eB r fun p hp => k p (List.mem_cons_of_mem _ hp))
theorem RowsOk.there : ∀ {ps : List Addr} {l : List (List D)}, RowsOk K B H ps l → ∀ p ∈ ps, H p ≠ none
  | _, _, .cons h d r, p, hp => by
    rcases List.mem_cons.mp hp with e | hp
    · rw [e, h]; simp
    · exact RowsOk.there r p hp
def TabF (H : Hp) (P : Addr) (q : Str) (f : List Addr) : Prop := ∃ ps : Array Value, H P = some (.tbl ps) ∧ TriplesOk ps.toList ∧ ∀ (pos : Pos) (cv : Value), codeAmong pos ps.toList = some cv → ∃ c, c ∈ f ∧ cv = .ref c ∧ H c = some (LamX.CodeO c q)
theorem TabF.to {P : Addr} {q : Str} {f : List Addr} (x : TabF H P q f) (hP : P ∈ f) (k : ∀ a ∈ f, ∀ o, H a = some o → H' a = some o) : TabF H' P q f := by
  obtain ⟨ps, h1, h2, h3⟩ := x
  refine ⟨ps, k _ hP _ h1, h2, fun pos cv e => ?_⟩
  obtain ⟨c, hc, e1, e2⟩ := h3 pos cv e
  exact ⟨c, hc, e1, k _ hc _ e2⟩
def TabsF (T : List (Addr × Str)) (H : Hp) (f : List Addr) : Prop := (∀ p ∈ T, p.1 ∈ f ∧ TabF H p.1 p.2 f) ∧ ∀ a ∈ f, H a ≠ none
theorem TabsF.to {T : List (Addr × Str)} {f : List Addr} (x : TabsF T H f) (k : ∀ a ∈ f, ∀ o, H a = some o → H' a = some o) : TabsF T H' f :=
  ⟨fun p hp => ⟨(x.1 p hp).1, (x.1 p hp).2.to (x.1 p hp).1 k⟩, fun a ha => by
    cases e : H a with
    | none => exact absurd e (x.2 a ha)
    | some o => rw [k a ha o e]; simp⟩
def SlOk (K : PySem.W.Frag) (B H : Hp) (v : Option V) (s : Sl) (f : List Addr) : Prop := match s with
  | .emp => f = []
  | .sh d => f = [] ∧ ∃ x, v = some x ∧ DV K B x d
  | .own ds => ∃ p xs, v = some (.ref p) ∧ f = [p] ∧ H p = some (.lst xs) ∧ DVs K B xs ds
  | .own2 l => ∃ p ps, v = some (.ref p) ∧ f = p :: ps ∧ f.Nodup ∧ H p = some (.lst (ps.map V.ref)) ∧ RowsOk K B H ps l
  | .drw st => ∃ a w c, v = some (.ref a) ∧ f = [a, w] ∧ a ≠ w ∧
      H a = some (.dK [(.inr "wide", .ref w), (.inr "cells", .ref c), (.inr "rest", .int st.rest), (.inr "turn", .int st.turn)]) ∧ H w = some (.lst (st.wide.map V.int)) ∧ SqL K B c (st.cells.map V.int)
  | .tab T d => TabsF T H f ∧ ∃ x, v = some x ∧ DV K B x d

abbrev Fps := Nat → List Addr
def Owned (f : Fps) (a : Addr) : Prop := ∃ i, a ∈ f i

def NoE (B : Hp) : Prop := ∀ a φ, B a ≠ some (.ext φ)
theorem NoE.upd {a : Addr} {o : HO} (h : NoE B) (ho : ∀ φ, o ≠ .ext φ) : NoE (upd B a o) := fun b φ e => by
  by_cases z : b = a
  · rw [z, upd_same] at e
    exact ho φ (Option.some.inj e)
  · rw [upd_ne z] at e
    exact h b φ e
structure Rel (K : PySem.W.Frag) (B H : Hp) (σ : L2.St) (ρ : Env) (f : Fps) : Prop where
  len : σ.length = ρ.length
  ex : Ex B H
  pl : NoE B
  ok : ∀ (i : Nat) (s : Sl), ρ[i]? = some s → SlOk K B H (σ[i]?).join s (f i)
  out : ∀ (i : Nat), ρ[i]? = none → f i = []
  dis : ∀ (i j : Nat) (a : Addr), a ∈ f i → a ∈ f j → i = j
  off : ∀ (i : Nat) (a : Addr), a ∈ f i → B a = none ∧ H a ≠ none

structure Frm (B H : Hp) (P : Addr → Prop) (B' H' : Hp) (P' : Addr → Prop) : Prop where
  bb : Ex B B'
  keep : ∀ a o, H a = some o → ¬ P a → H' a = some o
  off : ∀ a, B a = none → H a ≠ none → ¬ P a → B' a = none
  own : ∀ a, P' a → P a ∨ H a = none
  dom : ∀ a, H a ≠ none → H' a ≠ none

theorem Frm.refl {P : Addr → Prop} : Frm B H P B H P := ⟨fun _ _ h => h, fun _ _ h _ => h, fun _ h _ _ => h, fun _ h => .inl h, fun _ h => h⟩
theorem Frm.trans {P P1 P2 : Addr → Prop} {B1 H1 B2 H2 : Hp} (a : Frm B H P B1 H1 P1) (b : Frm B1 H1 P1 B2 H2 P2) : Frm B H P B2 H2 P2 where
  bb := a.bb.trans b.bb
  keep := fun x o h n => by
    refine b.keep x o (a.keep x o h n) fun z => ?_
    rcases a.own x z with q | q
    · exact n q
    · rw [h] at q; cases q
  off := fun x h1 h2 n => by
    refine b.off x (a.off x h1 h2 n) (a.dom x h2) fun z => ?_
    rcases a.own x z with q | q
    · exact n q
    · exact h2 q
  own := fun x z => by
    rcases b.own x z with q | q
    · exact a.own x q
    · refine .inr ?_
      cases e : H x with
      | none => rfl
      | some o => exact absurd q (a.dom x (by rw [e]; simp))
  dom := fun x h => b.dom x (a.dom x h)
theorem Frm.new {P : Addr → Prop} (e1 : Ex B B') (e2 : Ex H H') (h : ∀ a, B a = none → H a ≠ none → B' a = none) : Frm B H P B' H' P :=
  ⟨e1, fun a o q _ => e2 a o q, fun a h1 h2 _ => h a h1 h2, fun _ q => .inl q, fun a q z => by
    cases e : H a with
    | none => exact q e
    | some o => rw [e2 a o e] at z; cases z⟩
theorem Frm.weak {P P1 Q : Addr → Prop} (a : Frm B H P B' H' P1) (h : ∀ x, Q x → P x ∨ H x = none) (hp : ∀ x, P x → Q x ∨ False → True) : Frm B H P B' H' Q :=
  ⟨a.bb, a.keep, a.off, h, a.dom⟩

theorem SlOk.frm {P P' : Addr → Prop} {v : Option V} {s : Sl} {f : List Addr} (x : SlOk K B H v s f) (h : Frm B H P B' H' P') (n : ∀ a ∈ f, ¬ P a) : SlOk K B' H' v s f := by
  cases s with
  | emp => exact x
  | sh d =>
    obtain ⟨e, y, h1, h2⟩ := x
    exact ⟨e, y, h1, h2.mono h.bb⟩
  | own ds =>
    obtain ⟨p, xs, h1, h2, h3, h4⟩ := x
    exact ⟨p, xs, h1, h2, h.keep _ _ h3 (n p (by rw [h2]; simp)), h4.mono h.bb⟩
  | own2 l =>
    obtain ⟨p, ps, h1, h2, h3, h4, h5⟩ := x
    exact ⟨p, ps, h1, h2, h3, h.keep _ _ h4 (n p (by rw [h2]; simp)), h5.to h.bb fun q hq o e => h.keep _ _ e (n q (by rw [h2]; exact List.mem_cons_of_mem _ hq))⟩
  | drw st =>
    obtain ⟨a, w, c, h1, h2, h3, h4, h5, h6⟩ := x
    exact ⟨a, w, c, h1, h2, h3, h.keep _ _ h4 (n a (by rw [h2]; simp)), h.keep _ _ h5 (n w (by rw [h2]; simp)), ex_l h.bb h6⟩
  | tab T d =>
    obtain ⟨h1, y, h2, h3⟩ := x
    exact ⟨h1.to fun a ha o e => h.keep _ _ e (n a ha), y, h2, h3.mono h.bb⟩
theorem SlOk.there {v : Option V} {s : Sl} {f : List Addr} (x : SlOk K B H v s f) {a : Addr} (h : a ∈ f) : H a ≠ none := by
  cases s with
  | emp =>
    have x' : f = [] := x
    rw [x'] at h; cases h
  | sh d =>
    obtain ⟨e, _⟩ := x
    rw [e] at h; cases h
  | own ds =>
    obtain ⟨p, xs, h1, h2, h3, h4⟩ := x
    rw [h2] at h
    have e : a = p := by simpa using h
    rw [e, h3]; simp
  | own2 l =>
    obtain ⟨p, ps, h1, h2, h3, h4, h5⟩ := x
    rw [h2] at h
    rcases List.mem_cons.mp h with e | h
    · rw [e, h4]; simp
    · exact h5.there a h
  | drw st =>
    obtain ⟨p, w, c, h1, h2, h3, h4, h5, h6⟩ := x
    rw [h2] at h
    rcases (by simpa using h : a = p ∨ a = w) with e | e
    · rw [e, h4]; simp
    · rw [e, h5]; simp
  | tab T d => exact x.1.2 a h
end
end DL
end
section
set_option maxRecDepth 100000
set_option maxHeartbeats 2000000
namespace DL
open PySem PySem.Spec PyProof.Rows L2
open Evl (Ex ex_rd ex_l ex_t)

def VlOk (K : PySem.W.Frag) (B H : Hp) (σ : L2.St) (v : V) (r : Vl) (f : List Addr) : Prop := match r with
  | .sh d => SlOk K B H (some v) (.sh d) f
  | .own ds => SlOk K B H (some v) (.own ds) f
  | .drw st => SlOk K B H (some v) (.drw st) f
  | .bor i => f = [] ∧ σ[i]? = some (some v)

structure Res (K : PySem.W.Frag) (B H : Hp) (σ : L2.St) (f0 : Fps) (v : V) (r : Vl) (ρ : Env) (B' H' : Hp) (f' : Fps) (f : List Addr) : Prop where
  rel : Rel K B' H' σ ρ f'
  val : VlOk K B' H' σ v r f
  off : ∀ a ∈ f, B' a = none ∧ ¬ Owned f' a
  frm : Frm B H (Owned f0) B' H' (fun a => Owned f' a ∨ a ∈ f)

def PayOk (d : Option Addr) (H : Hp) : Option (Str × Int) → Prop
  | none => d = none
  | some (n, i) => ∃ a, d = some a ∧ H a = some (.xd [(n, .int i)])
def Kept (H : Hp) (f : Fps) (H' : Hp) : Prop := ∀ a o, H a = some o → ¬ Owned f a → H' a = some o

abbrev Ct := String → Addr
def Post {α : Type} (ct : Ct) (E : XK) (H : Hp) (f0 : Fps) (m : R α) (ok : α → Prop) : Prop := match m with
  | .bad => False
  | .ok a => ok a
  | .exc c p => ∀ d H', Kept H f0 H' → PayOk d H' p → E (.ref (ct c)) d H'

theorem Kept.back {B H B1 H1 H' : Hp} {f0 f1 : Fps} {P : Addr → Prop} (fr : Frm B H (Owned f0) B1 H1 P) (hP : ∀ a, Owned f1 a → P a) (k : Kept H1 f1 H') : Kept H f0 H' := fun a o h n => by
  refine k a o (fr.keep a o h n) fun z => ?_
  rcases fr.own a (hP a z) with q | q
  · exact n q
  · rw [h] at q; cases q

theorem Post.step {α β : Type} {ct : Ct} {E : XK} {B H B1 H1 : Hp} {f0 f1 : Fps} {P : Addr → Prop} {m : R α} {k : α → R β} {ok : β → Prop} {ok1 : α → Prop} (h : Post ct E H f0 (R.bind m k) ok)
    (fr : Frm B H (Owned f0) B1 H1 P) (hP : ∀ a, Owned f1 a → P a) (st : ∀ a, m = .ok a → Post ct E H f0 (k a) ok → ok1 a) : Post ct E H1 f1 m ok1 := by
  cases e : m with
  | bad => rw [e] at h; exact h
  | ok a =>
    rw [e] at h
    exact st a e h
  | exc c p =>
    rw [e] at h
    exact fun d H' kk pk => h d H' (kk.back fr hP) pk

abbrev MX := Env → R (Vl × Env)
abbrev MA := Env → R (List Vl × Env)
def XOk (K : PySem.W.Frag) (B H : Hp) (σ : L2.St) (f0 : Fps) (Q : VK) : Vl × Env → Prop := fun p => ∀ v B' H' f' f, Res K B H σ f0 v p.1 p.2 B' H' f' f → Q v H'

def Imp (K : PySem.W.Frag) (ct : Ct) (E : XK) (t : TE) (m : MX) : Prop := ∀ (B H : Hp) (σ : L2.St) (ρ : Env) (f0 : Fps) (Q : VK), Rel K B H σ ρ f0 → Post ct E H f0 (m ρ) (XOk K B H σ f0 Q) → t σ H Q

section
variable {K : PySem.W.Frag} {ct : Ct} {E : XK} {B H B' H' B1 H1 B2 H2 : Hp} {σ : L2.St} {ρ ρ' : Env} {f0 f1 f2 : Fps} {v : V} {r : Vl} {f g : List Addr}

theorem VlOk.frm {P P' : Addr → Prop} (x : VlOk K B H σ v r f) (h : Frm B H P B' H' P') (n : ∀ a ∈ f, ¬ P a) : VlOk K B' H' σ v r f := by
  cases r with
  | bor i => exact x
  | sh d => exact SlOk.frm (s := .sh d) x h n
  | own ds => exact SlOk.frm (s := .own ds) x h n
  | drw st => exact SlOk.frm (s := .drw st) x h n
theorem VlOk.there (x : VlOk K B H σ v r f) {a : Addr} (h : a ∈ f) : H a ≠ none := by
  cases r with
  | bor i =>
    obtain ⟨e, _⟩ := x
    rw [e] at h; cases h
  | sh d => exact SlOk.there (s := .sh d) x h
  | own ds => exact SlOk.there (s := .own ds) x h
  | drw st => exact SlOk.there (s := .drw st) x h
theorem Frm.apart {P P' : Addr → Prop} (h : Frm B H P B' H' P') {a : Addr} (ha : H a ≠ none) (n : ¬ P a) : ¬ P' a := fun z => by
  rcases h.own a z with q | q
  · exact n q
  · exact ha q
theorem Frm.side {P P' : Addr → Prop} (h : Frm B H P B' H' P') (S : Addr → Prop) : Frm B H (fun a => P a ∨ S a) B' H' (fun a => P' a ∨ S a) where
  bb := h.bb
  keep := fun a o q n => h.keep a o q fun z => n (.inl z)
  off := fun a q1 q2 n => h.off a q1 q2 fun z => n (.inl z)
  own := fun a z => by
    rcases z with z | z
    · rcases h.own a z with q | q
      · exact .inl (.inl q)
      · exact .inr q
    · exact .inl (.inr z)
  dom := h.dom
theorem Frm.to {P P' Q' : Addr → Prop} (h : Frm B H P B' H' P') (q : ∀ a, Q' a → P' a ∨ P a ∨ H a = none) : Frm B H P B' H' Q' :=
  ⟨h.bb, h.keep, h.off, fun a z => by
    rcases q a z with z | z | z
    · exact h.own a z
    · exact .inl z
    · exact .inr z, h.dom⟩

def RdV (K : PySem.W.Frag) (B H : Hp) (v : V) (d : D) : Prop := match d with
  | .lst ds => ∃ p xs, v = .ref p ∧ H p = some (.lst xs) ∧ DVs K B xs ds
  | d => DV K B v d
theorem RdV.of {d : D} (e : Ex B H) (h : DV K B v d) : RdV K B H v d := by
  cases d with
  | lst ds =>
    cases h with
    | lst h1 h2 => exact ⟨_, _, rfl, e _ _ h1, h2⟩
  | _ => exact h
def rdS : Option Sl → Option D
  | some (.own ds) => some (.lst ds)
  | some (.sh d) => some d
  | _ => none
def rdv (ρ : Env) : Vl → Option D
  | .sh d => some d
  | .own ds => some (.lst ds)
  | .drw _ => none
  | .bor i => rdS ρ[i]?
def rdO {α β : Type} (o : Option α) (f : α → R β) : R β := match o with
  | none => .bad
  | some a => f a
theorem VlOk.rd {d : D} (x : VlOk K B H σ v r f) (R : Rel K B H σ ρ f0) (h : rdv ρ r = some d) : RdV K B H v d := by
  cases r with
  | sh d' =>
    obtain ⟨_, y, e, h1⟩ := x
    cases e
    cases h
    exact .of R.ex h1
  | own ds =>
    obtain ⟨p, xs, e, _, h3, h4⟩ := x
    cases e
    cases h
    exact ⟨p, xs, rfl, h3, h4⟩
  | drw st => cases h
  | bor i =>
    obtain ⟨_, e⟩ := x
    have hj : (σ[i]?).join = some v := by rw [e]; rfl
    have h : rdS ρ[i]? = some d := h
    cases q : ρ[i]? with
    | none => rw [q] at h; cases h
    | some s =>
      rw [q] at h
      have ok := R.ok i s q
      rw [hj] at ok
      cases s with
      | emp => cases h
      | own2 l => cases h
      | drw st => cases h
      | tab T d => cases h
      | own ds =>
        obtain ⟨p, xs, e1, _, h3, h4⟩ := ok
        cases e1
        cases h
        exact ⟨p, xs, rfl, h3, h4⟩
      | sh d' =>
        obtain ⟨_, y, e1, h1⟩ := ok
        cases e1
        cases h
        exact .of R.ex h1

structure New (K : PySem.W.Frag) (B H : Hp) (v : V) (z : Vl) (B' H' : Hp) (f : List Addr) : Prop where
  bb : Ex B B'
  hh : Ex H H'
  bh : Ex B' H'
  off : ∀ a, B a = none → H a ≠ none → B' a = none
  val : VlOk K B' H' [] v z f
  fr : ∀ a ∈ f, H a = none ∧ B' a = none
  pl : NoE B → NoE B'
theorem VlOk.any (x : VlOk K B H [] v r f) : VlOk K B H σ v r f := by
  cases r with
  | bor i =>
    obtain ⟨_, e⟩ := x
    simp at e
  | _ => exact x
theorem Rel.frm {P P' : Addr → Prop} (x : Rel K B H σ ρ f0) (h : Frm B H P B' H' P') (e : Ex B' H') (hp : NoE B') (n : ∀ a, Owned f0 a → ¬ P a) : Rel K B' H' σ ρ f0 where
  len := x.len
  ex := e
  pl := hp
  ok := fun i s q => (x.ok i s q).frm h fun a ha => n a ⟨i, ha⟩
  out := x.out
  dis := x.dis
  off := fun i a ha => ⟨h.off a (x.off i a ha).1 (x.off i a ha).2 (n a ⟨i, ha⟩), h.dom a (x.off i a ha).2⟩
theorem New.frm0 {z : Vl} (x : New K B H v z B' H' f) (P : Addr → Prop) : Frm B H P B' H' P := Frm.new x.bb x.hh x.off
theorem New.rel {z : Vl} (x : New K B H v z B' H' f) (R : Rel K B H σ ρ f0) : Rel K B' H' σ ρ f0 := R.frm (x.frm0 fun _ => False) x.bh (x.pl R.pl) fun _ _ q => q
theorem New.sc {d : D} (e : Ex B H) (h : DV K B v d) : New K B H v (.sh d) B H [] := ⟨fun _ _ q => q, fun _ _ q => q, e, fun _ q _ => q, ⟨rfl, v, rfl, h⟩, fun _ q => (nomatch q), id⟩
theorem Rel.fresh {a : Addr} (x : Ex B H) (h : H a = none) : B a = none := by
  cases e : B a with
  | none => rfl
  | some o => rw [x a o e] at h; cases h
theorem New.tup {p : Addr} {xs : List V} {ds : List D} (e : Ex B H) (hp : H p = none) (h : DVs K B xs ds) : New K B H (.ref p) (.sh (.tup ds)) (upd B p (.tup xs)) (upd H p (.tup xs)) [] where
  bb := Ex.new (Rel.fresh e hp)
  hh := Ex.new hp
  bh := fun a o q => by
    by_cases ha : a = p
    · subst ha; rw [upd_same] at q ⊢; exact q
    · rw [upd_ne ha] at q ⊢; exact e a o q
  off := fun a q1 q2 => by rw [upd_ne (fun z => q2 (by rw [z]; exact hp))]; exact q1
  val := ⟨rfl, _, rfl, .tup (SqT.of upd_same) (h.mono (Ex.new (Rel.fresh e hp)))⟩
  fr := fun _ q => (nomatch q)
  pl := fun n => n.upd fun _ z => by cases z
theorem New.lst {p : Addr} {xs : List V} {ds : List D} (e : Ex B H) (hp : H p = none) (h : DVs K B xs ds) : New K B H (.ref p) (.own ds) B (upd H p (.lst xs)) [p] where
  bb := fun _ _ q => q
  hh := Ex.new hp
  bh := fun a o q => by
    rw [upd_ne (fun z => by rw [z] at q; rw [Rel.fresh e hp] at q; cases q)]
    exact e a o q
  off := fun a q1 _ => q1
  val := ⟨p, xs, rfl, rfl, upd_same, h⟩
  fr := fun a q => by
    have ea : a = p := by simpa using q
    rw [ea]
    exact ⟨hp, Rel.fresh e hp⟩
  pl := id

def OpI (K : PySem.W.Frag) (r : R2) (g : D → D → Option Vl) : Prop := ∀ (B H : Hp) (x y : V) (dx dy : D) (z : Vl), Ex B H → RdV K B H x dx → RdV K B H y dy → g dx dy = some z →
  ∀ Q : VK, (∀ v B' H' f, New K B H v z B' H' f → Q v H') → r x y H Q
def xOp (g : D → D → Option Vl) (ma mb : MX) : MX := fun ρ => R.bind (ma ρ) fun a => R.bind (mb a.2) fun b => rdO (rdv b.2 a.1) fun da => rdO (rdv b.2 b.1) fun db => rdO (g da db) fun z => .ok (z, b.2)

theorem Res.new {z : Vl} (x : Res K B H σ f0 v r ρ B1 H1 f1 f) {w : V} {g : List Addr} (n : New K B1 H1 w z B2 H2 g) : Res K B H σ f0 w z ρ B2 H2 f1 g where
  rel := n.rel x.rel
  val := n.val.any
  off := fun a ha => ⟨(n.fr a ha).2, fun ⟨i, hi⟩ => (x.rel.off i a hi).2 (n.fr a ha).1⟩
  frm := x.frm.trans ((n.frm0 _).to fun a z => by
    rcases z with z | z
    · exact .inl (.inl z)
    · exact .inr (.inr (n.fr a z).1))
theorem Res.then {r2 : Vl} {ρ2 : Env} {w : V} {g : List Addr} (x : Res K B H σ f0 v r ρ B1 H1 f1 f) (y : Res K B1 H1 σ f1 w r2 ρ2 B2 H2 f2 g) :
    VlOk K B2 H2 σ v r f ∧ (∀ a ∈ f, B2 a = none ∧ ¬ Owned f2 a ∧ a ∉ g) ∧ Frm B H (Owned f0) B2 H2 (fun a => (Owned f2 a ∨ a ∈ g) ∨ a ∈ f) := by
  have n : ∀ a ∈ f, ¬ Owned f1 a := fun a ha => (x.off a ha).2
  refine ⟨x.val.frm y.frm n, fun a ha => ?_, x.frm.trans (y.frm.side (· ∈ f))⟩
  have hne := x.val.there ha
  have q := y.frm.apart hne (n a ha)
  exact ⟨y.frm.off a (x.off a ha).1 hne (n a ha), fun z => q (.inl z), fun z => q (.inr z)⟩
theorem Res.res2 {r2 : Vl} {ρ2 : Env} {w : V} {g : List Addr} (x : Res K B H σ f0 v r ρ B1 H1 f1 f) (y : Res K B1 H1 σ f1 w r2 ρ2 B2 H2 f2 g) : Res K B H σ f0 w r2 ρ2 B2 H2 f2 g where
  rel := y.rel
  val := y.val
  off := y.off
  frm := (x.then y).2.2.to fun a z => .inl (.inl z)

theorem Post.get {α β : Type} {o : Option α} {k : α → R β} {ok : β → Prop} (h : Post ct E H f0 (rdO o k) ok) : ∃ a, o = some a ∧ Post ct E H f0 (k a) ok := by
  cases o with
  | none => exact h.elim
  | some a => exact ⟨a, rfl, h⟩
theorem Post.first {α β : Type} {m : R α} {k : α → R β} {ok : β → Prop} {ok1 : α → Prop} (h : Post ct E H f0 (R.bind m k) ok) (st : ∀ a, m = .ok a → Post ct E H f0 (k a) ok → ok1 a) : Post ct E H f0 m ok1 :=
  h.step (B := H) (B1 := H) .refl (fun _ z => z) st
theorem im_op {rr : R2} {gg : D → D → Option Vl} {ta tb : TE} {ma mb : MX} (ho : OpI K rr gg) (ha : Imp K ct E ta ma) (hb : Imp K ct E tb mb) : Imp K ct E (tOp rr ta tb) (xOp gg ma mb) := by
  intro B H σ ρ f0 Q R h
  refine ha B H σ ρ f0 _ R (h.first fun a ea h v B1 H1 f1 f x => ?_)
  refine hb B1 H1 σ a.2 f1 _ x.rel (h.step x.frm (fun _ z => .inl z) fun b eb h w B2 H2 f2 g y => ?_)
  have x' := x.then y
  obtain ⟨da, e1, h⟩ := h.get
  obtain ⟨db, e2, h⟩ := h.get
  obtain ⟨z, e3, h⟩ := h.get
  exact ho B2 H2 v w da db z y.rel.ex (x'.1.rd y.rel e1) (y.val.rd y.rel e2) e3 Q fun u B3 H3 k n => h u B3 H3 f2 k ((x.res2 y).new n)

def xVar (i : Nat) : MX := fun ρ => match ρ[i]? with
  | some (.sh d) => .ok (.sh d, ρ)
  | some (.own _) => .ok (.bor i, ρ)
  | some (.own2 _) => .ok (.bor i, ρ)
  | some (.drw _) => .ok (.bor i, ρ)
  | some (.tab _ d) => .ok (.sh d, ρ)
  | _ => .bad
theorem im_var {i : Nat} : Imp K ct E (tVar i) (xVar i) := by
  intro B H σ ρ f0 Q R h
  unfold xVar at h
  cases e : ρ[i]? with
  | none => rw [e] at h; exact h.elim
  | some s =>
    rw [e] at h
    have ok := R.ok i s e
    have fr : ∀ P : Addr → Prop, Frm B H P B H (fun a => P a ∨ a ∈ ([] : List Addr)) := fun P => Frm.refl.to fun a z => by
      rcases z with z | z
      · exact .inl z
      · exact (nomatch z)
    have lk : ∀ v, (σ[i]?).join = some v → σ[i]? = some (some v) := fun v q => by
      cases q1 : σ[i]? with
      | none => rw [q1] at q; cases q
      | some o =>
        rw [q1] at q
        exact congrArg some q
    cases s with
    | emp => exact h.elim
    | sh d =>
      obtain ⟨_, v, e1, h1⟩ := ok
      exact ⟨v, lk v e1, h v B H f0 [] ⟨R, ⟨rfl, v, rfl, h1⟩, fun _ q => (nomatch q), fr _⟩⟩
    | own ds =>
      obtain ⟨p, xs, e1, _⟩ := ok
      exact ⟨_, lk _ e1, h _ B H f0 [] ⟨R, ⟨rfl, lk _ e1⟩, fun _ q => (nomatch q), fr _⟩⟩
    | own2 l =>
      obtain ⟨p, ps, e1, _⟩ := ok
      exact ⟨_, lk _ e1, h _ B H f0 [] ⟨R, ⟨rfl, lk _ e1⟩, fun _ q => (nomatch q), fr _⟩⟩
    | drw st =>
      obtain ⟨a, w, c, e1, _⟩ := ok
      exact ⟨_, lk _ e1, h _ B H f0 [] ⟨R, ⟨rfl, lk _ e1⟩, fun _ q => (nomatch q), fr _⟩⟩
    | tab T d =>
      obtain ⟨_, v, e1, h1⟩ := ok
      exact ⟨v, lk v e1, h v B H f0 [] ⟨R, ⟨rfl, v, rfl, h1⟩, fun _ q => (nomatch q), fr _⟩⟩
theorem Res.refl (R : Rel K B H σ ρ f0) {v : V} {d : D} (h : DV K B v d) : Res K B H σ f0 v (.sh d) ρ B H f0 [] :=
  ⟨R, ⟨rfl, v, rfl, h⟩, fun _ q => (nomatch q), Frm.refl.to fun a z => z.elim Or.inl fun q => (nomatch q)⟩
def xC (d : D) : MX := fun ρ => .ok (.sh d, ρ)
theorem im_c {v : V} {d : D} (h : ∀ B, DV K B v d) : Imp K ct E (tC v) (xC d) := fun B H σ ρ f0 Q R q => q v B H f0 [] (.refl R (h B))
theorem im_int {i : Int} : Imp K ct E (tC (.int i)) (xC (.int i)) := im_c fun _ => .int i
theorem im_str {i : Str} : Imp K ct E (tC (.str i)) (xC (.str i)) := im_c fun _ => .str i
theorem im_bl {i : Bool} : Imp K ct E (tC (.bl i)) (xC (.bl i)) := im_c fun _ => .bl i
theorem im_non : Imp K ct E (tC .non) (xC .non) := im_c fun _ => .non
theorem im_ty {n : String} : Imp K ct E (tC (.ty n)) (xC (.ty n)) := im_c fun _ => .ty n
theorem im_ref {n : Addr} : Imp K ct E (tC (.ref n)) (xC (.ref n)) := im_c fun _ => .ref n

def UnI (K : PySem.W.Frag) (r : V → Hp → VK → Prop) (g : D → Option Vl) : Prop := ∀ (B H : Hp) (x : V) (dx : D) (z : Vl), Ex B H → RdV K B H x dx → g dx = some z →
  ∀ Q : VK, (∀ v B' H' f, New K B H v z B' H' f → Q v H') → r x H Q
def xUn (g : D → Option Vl) (ma : MX) : MX := fun ρ => R.bind (ma ρ) fun a => rdO (rdv a.2 a.1) fun da => rdO (g da) fun z => .ok (z, a.2)
theorem im_un {rr : V → Hp → VK → Prop} {gg : D → Option Vl} {ta : TE} {ma : MX} (ho : UnI K rr gg) (ha : Imp K ct E ta ma) : Imp K ct E (tUn rr ta) (xUn gg ma) := by
  intro B H σ ρ f0 Q R h
  refine ha B H σ ρ f0 _ R (h.first fun a ea h v B1 H1 f1 f x => ?_)
  obtain ⟨da, e1, h⟩ := h.get
  obtain ⟨z, e3, h⟩ := h.get
  exact ho B1 H1 v da z x.rel.ex (x.val.rd x.rel e1) e3 Q fun u B3 H3 k n => h u B3 H3 f1 k (x.new n)

inductive VlsOk (K : PySem.W.Frag) (B H : Hp) (σ : L2.St) : List V → List Vl → List Addr → Prop
  | nil : VlsOk K B H σ [] [] []
  | cons {v : V} {r : Vl} {f : List Addr} {vs : List V} {rs : List Vl} {g : List Addr} : VlOk K B H σ v r f → VlsOk K B H σ vs rs g → (∀ a ∈ f, a ∉ g) → VlsOk K B H σ (v :: vs) (r :: rs) (f ++ g)
structure ResA (K : PySem.W.Frag) (B H : Hp) (σ : L2.St) (f0 : Fps) (vs : List V) (rs : List Vl) (ρ : Env) (B' H' : Hp) (f' : Fps) (g : List Addr) : Prop where
  rel : Rel K B' H' σ ρ f'
  val : VlsOk K B' H' σ vs rs g
  off : ∀ a ∈ g, B' a = none ∧ ¬ Owned f' a
  frm : Frm B H (Owned f0) B' H' (fun a => Owned f' a ∨ a ∈ g)
def ImpA (K : PySem.W.Frag) (ct : Ct) (E : XK) (t : TA) (m : MA) : Prop := ∀ (B H : Hp) (σ : L2.St) (ρ : Env) (f0 : Fps) (Q : List V → Hp → Prop), Rel K B H σ ρ f0 →
  Post ct E H f0 (m ρ) (fun p => ∀ vs B' H' f' g, ResA K B H σ f0 vs p.1 p.2 B' H' f' g → Q vs H') → t σ H Q
def aNil : MA := fun ρ => .ok ([], ρ)
def aCons (m : MX) (n : MA) : MA := fun ρ => R.bind (m ρ) fun a => R.bind (n a.2) fun b => .ok (a.1 :: b.1, b.2)
theorem ia_nil : ImpA K ct E tNil aNil := fun B H σ ρ f0 Q R q => q [] B H f0 [] ⟨R, .nil, fun _ q => (nomatch q), Frm.refl.to fun a z => z.elim Or.inl fun q => (nomatch q)⟩
theorem ia_cons {t : TE} {u : TA} {m : MX} {n : MA} (ha : Imp K ct E t m) (hb : ImpA K ct E u n) : ImpA K ct E (tCons t u) (aCons m n) := by
  intro B H σ ρ f0 Q R h
  refine ha B H σ ρ f0 _ R (h.first fun a ea h v B1 H1 f1 f x => ?_)
  refine hb B1 H1 σ a.2 f1 _ x.rel (h.step x.frm (fun _ z => .inl z) fun b eb h vs B2 H2 f2 g y => ?_)
  have n : ∀ a ∈ f, ¬ Owned f1 a := fun a ha => (x.off a ha).2
  refine h (v :: vs) B2 H2 f2 (f ++ g) ⟨y.rel, .cons (x.val.frm y.frm n) y.val fun z hz => ?_, fun z hz => ?_, (x.frm.trans (y.frm.side (· ∈ f))).to fun z hz => ?_⟩
  · have q := y.frm.apart (x.val.there hz) (n z hz)
    exact fun w => q (.inr w)
  · rcases List.mem_append.mp hz with hz | hz
    · have q := y.frm.apart (x.val.there hz) (n z hz)
      exact ⟨y.frm.off z (x.off z hz).1 (x.val.there hz) (n z hz), fun w => q (.inl w)⟩
    · exact y.off z hz
  · refine .inl ?_
    rcases hz with hz | hz
    · exact .inl (.inl hz)
    · rcases List.mem_append.mp hz with hz | hz
      · exact .inr hz
      · exact .inl (.inr hz)
def rdvs (ρ : Env) : List Vl → Option (List D)
  | [] => some []
  | r :: rs => (rdv ρ r).bind fun d => (rdvs ρ rs).bind fun ds => some (d :: ds)
inductive RdVs (K : PySem.W.Frag) (B H : Hp) : List V → List D → Prop
  | nil : RdVs K B H [] []
  | cons {v : V} {vs : List V} {d : D} {ds : List D} : RdV K B H v d → RdVs K B H vs ds → RdVs K B H (v :: vs) (d :: ds)
theorem VlsOk.rd {vs : List V} {rs : List Vl} (R : Rel K B H σ ρ f0) (x : VlsOk K B H σ vs rs g) : ∀ {ds : List D}, rdvs ρ rs = some ds → RdVs K B H vs ds := by
  induction x with
  | nil => intro ds h; cases h; exact .nil
  | cons h1 _ _ ih =>
    rename_i v r f vs rs g _ _
    intro ds h
    unfold rdvs at h
    cases e : rdv ρ r with
    | none => rw [e] at h; cases h
    | some d =>
      rw [e] at h
      cases e2 : rdvs ρ rs with
      | none => rw [e2] at h; cases h
      | some es =>
        rw [e2] at h
        cases h
        exact .cons (h1.rd R e) (ih e2)
def CallI (K : PySem.W.Frag) (r : List V → Hp → VK → Prop) (g : List D → Option Vl) : Prop := ∀ (B H : Hp) (xs : List V) (ds : List D) (z : Vl), Ex B H → RdVs K B H xs ds → g ds = some z →
  ∀ Q : VK, (∀ v B' H' f, New K B H v z B' H' f → Q v H') → r xs H Q
def xCB (g : List D → Option Vl) (ma : MA) : MX := fun ρ => R.bind (ma ρ) fun a => rdO (rdvs a.2 a.1) fun da => rdO (g da) fun z => .ok (z, a.2)
theorem ResA.new {vs : List V} {rs : List Vl} {z : Vl} (x : ResA K B H σ f0 vs rs ρ B1 H1 f1 f) {w : V} {g : List Addr} (n : New K B1 H1 w z B2 H2 g) : Res K B H σ f0 w z ρ B2 H2 f1 g where
  rel := n.rel x.rel
  val := n.val.any
  off := fun a ha => ⟨(n.fr a ha).2, fun ⟨i, hi⟩ => (x.rel.off i a hi).2 (n.fr a ha).1⟩
  frm := x.frm.trans ((n.frm0 _).to fun a z => by
    rcases z with z | z
    · exact .inl (.inl z)
    · exact .inr (.inr (n.fr a z).1))
theorem im_cb {rr : List V → Hp → VK → Prop} {gg : List D → Option Vl} {ta : TA} {ma : MA} (ho : CallI K rr gg) (ha : ImpA K ct E ta ma) : Imp K ct E (tCB rr ta) (xCB gg ma) := by
  intro B H σ ρ f0 Q R h
  refine ha B H σ ρ f0 _ R (h.first fun a ea h vs B1 H1 f1 f x => ?_)
  obtain ⟨da, e1, h⟩ := h.get
  obtain ⟨z, e3, h⟩ := h.get
  exact ho B1 H1 vs da z x.rel.ex (x.val.rd x.rel e1) e3 Q fun u B3 H3 k n => h u B3 H3 f1 k (x.new n)

def share (ρ : Env) : Vl → Option (D × Env)
  | .sh d => some (d, ρ)
  | .own ds => some (.lst ds, ρ)
  | .drw _ => none
  | .bor i => match ρ[i]? with
    | some (.own ds) => some (.lst ds, ρ.set i (.sh (.lst ds)))
    | some (.sh d) => some (d, ρ)
    | _ => none
def shares (ρ : Env) : List Vl → Option (List D × Env)
  | [] => some ([], ρ)
  | r :: rs => (share ρ r).bind fun a => (shares a.2 rs).bind fun b => some (a.1 :: b.1, b.2)
def fpSet (f : Fps) (i : Nat) (l : List Addr) : Fps := fun j => if j = i then l else f j
theorem fpSet_same {f : Fps} {i : Nat} {l : List Addr} : fpSet f i l i = l := if_pos rfl
theorem fpSet_ne {f : Fps} {i j : Nat} {l : List Addr} (h : j ≠ i) : fpSet f i l j = f j := if_neg h
theorem frm_freeze {p : Addr} {xs : List V} {P : Addr → Prop} (hp : P p) (hb : B p = none) : Frm B H P (upd B p (.lst xs)) H (fun a => P a ∧ a ≠ p) where
  bb := Ex.new hb
  keep := fun a o q _ => q
  off := fun a q1 _ n => by rw [upd_ne (fun z => n (by rw [z]; exact hp))]; exact q1
  own := fun a z => .inl z.1
  dom := fun _ q => q
theorem ex_freeze {p : Addr} {xs : List V} (e : Ex B H) (hp : H p = some (.lst xs)) : Ex (upd B p (.lst xs)) H := fun a o q => by
  by_cases ha : a = p
  · subst ha
    rw [upd_same] at q
    cases q
    exact hp
  · rw [upd_ne ha] at q
    exact e a o q
theorem SlOk.lift {v : Option V} {s : Sl} {f : List Addr} {p : Addr} {o : HO} (x : SlOk K B H v s f) (hb : B p = none) : SlOk K (upd B p o) H v s f := by
  cases s with
  | emp => exact x
  | sh d =>
    obtain ⟨e, y, h1, h2⟩ := x
    exact ⟨e, y, h1, h2.mono (Ex.new hb)⟩
  | own ds =>
    obtain ⟨q, xs, h1, h2, h3, h4⟩ := x
    exact ⟨q, xs, h1, h2, h3, h4.mono (Ex.new hb)⟩
  | own2 l =>
    obtain ⟨q, ps, h1, h2, h3, h4, h5⟩ := x
    exact ⟨q, ps, h1, h2, h3, h4, h5.to (Ex.new hb) fun _ _ _ e => e⟩
  | drw st =>
    obtain ⟨a, w, c, h1, h2, h3, h4, h5, h6⟩ := x
    exact ⟨a, w, c, h1, h2, h3, h4, h5, ex_l (Ex.new hb) h6⟩
  | tab T d =>
    obtain ⟨e, y, h1, h2⟩ := x
    exact ⟨e, y, h1, h2.mono (Ex.new hb)⟩
theorem VlOk.lift {p : Addr} {o : HO} (x : VlOk K B H σ v r f) (hb : B p = none) : VlOk K (upd B p o) H σ v r f := by
  cases r with
  | bor i => exact x
  | sh d => exact SlOk.lift (H := H) (s := .sh d) x hb
  | own ds => exact SlOk.lift (H := H) (s := .own ds) x hb
  | drw st => exact SlOk.lift (H := H) (s := .drw st) x hb
theorem VlsOk.lift {vs : List V} {rs : List Vl} {p : Addr} {o : HO} (x : VlsOk K B H σ vs rs g) (hb : B p = none) : VlsOk K (upd B p o) H σ vs rs g := by
  induction x with
  | nil => exact .nil
  | cons h _ n ih => exact .cons (h.lift hb) ih n
theorem share_ok {d : D} {S : List Addr} (R : Rel K B H σ ρ f0) (x : VlOk K B H σ v r f) (off : ∀ a ∈ f, B a = none ∧ ¬ Owned f0 a) (off2 : ∀ a ∈ S, B a = none ∧ ¬ Owned f0 a ∧ a ∉ f) (h : share ρ r = some (d, ρ')) :
    ∃ B' f', Rel K B' H σ ρ' f' ∧ DV K B' v d ∧ Ex B B' ∧ (∀ a ∈ S, B' a = none ∧ ¬ Owned f' a) ∧ (∀ {vs : List V} {rs : List Vl} {g : List Addr}, VlsOk K B H σ vs rs g → VlsOk K B' H σ vs rs g) ∧
      Frm B H (fun a => Owned f0 a ∨ a ∈ f) B' H (Owned f') := by
  cases r with
  | sh d' =>
    obtain ⟨e, y, e1, h1⟩ := x
    cases e1
    cases h
    refine ⟨B, f0, R, h1, fun _ _ q => q, fun a ha => ⟨(off2 a ha).1, (off2 a ha).2.1⟩, fun q => q, Frm.refl.to fun a z => .inl (.inl z)⟩
  | drw st => cases h
  | own ds =>
    obtain ⟨p, xs, e1, e2, h3, h4⟩ := x
    cases e1
    cases h
    have hp := off p (by rw [e2]; simp)
    refine ⟨upd B p (.lst xs), f0, ⟨R.len, ex_freeze R.ex h3, R.pl.upd (fun _ z => by cases z), fun i s q => (R.ok i s q).lift hp.1, R.out, R.dis, fun i a ha => ⟨?_, (R.off i a ha).2⟩⟩, .lst upd_same (h4.mono (Ex.new hp.1)), Ex.new hp.1, fun a ha => ⟨?_, (off2 a ha).2.1⟩, fun q => q.lift hp.1, (frm_freeze (P := fun a => Owned f0 a ∨ a ∈ f) (.inr (by rw [e2]; simp)) hp.1).to fun a z => .inr (.inl (.inl z))⟩
    · rw [upd_ne (fun z => hp.2 ⟨i, by rw [← z]; exact ha⟩)]
      exact (R.off i a ha).1
    · rw [upd_ne (fun z => (off2 a ha).2.2 (by rw [z, e2]; simp))]
      exact (off2 a ha).1
  | bor i =>
    obtain ⟨e0, e1⟩ := x
    have hj : (σ[i]?).join = some v := by rw [e1]; rfl
    unfold share at h
    cases e : ρ[i]? with
    | none => simp only [e] at h; cases h
    | some s =>
      have ok := R.ok i s e
      rw [hj] at ok
      cases s with
      | emp => simp only [e] at h; cases h
      | own2 l => simp only [e] at h; cases h
      | drw st => simp only [e] at h; cases h
      | tab T d => simp only [e] at h; cases h
      | sh d' =>
        simp only [e] at h
        cases h
        obtain ⟨_, y, e2, h1⟩ := ok
        cases e2
        exact ⟨B, f0, R, h1, fun _ _ q => q, fun a ha => ⟨(off2 a ha).1, (off2 a ha).2.1⟩, fun q => q, Frm.refl.to fun a z => .inl (.inl z)⟩
      | own ds =>
        simp only [e] at h
        cases h
        obtain ⟨p, xs, e2, e3, h3, h4⟩ := ok
        cases e2
        have hi : p ∈ f0 i := by rw [e3]; simp
        have hp : B p = none := (R.off i p hi).1
        have hil : i < ρ.length := (List.getElem?_eq_some_iff.mp e).1
        have ow : ∀ a, Owned (fpSet f0 i []) a → Owned f0 a ∧ a ≠ p := fun a ⟨j, hja⟩ => by
          by_cases hj' : j = i
          · subst hj'
            rw [fpSet_same] at hja
            exact nomatch hja
          · rw [fpSet_ne hj'] at hja
            exact ⟨⟨j, hja⟩, fun z => hj' (R.dis j i a hja (by rw [z]; exact hi))⟩
        refine ⟨upd B p (.lst xs), fpSet f0 i [], ⟨by rw [List.length_set]; exact R.len, ex_freeze R.ex h3, R.pl.upd (fun _ z => by cases z), fun j s q => ?_, fun j q => ?_, fun j k a h1 h2 => ?_, fun j a ha => ?_⟩, .lst upd_same (h4.mono (Ex.new hp)), Ex.new hp, fun a ha => ?_, fun q => q.lift hp, (frm_freeze (P := fun a => Owned f0 a ∨ a ∈ f) (.inl ⟨i, hi⟩) hp).to fun a z => .inr (.inl (.inl (ow a z).1))⟩
        · by_cases hj' : j = i
          · subst hj'
            rw [List.getElem?_set_self hil] at q
            cases q
            rw [fpSet_same, hj]
            exact ⟨rfl, _, rfl, .lst upd_same (h4.mono (Ex.new hp))⟩
          · rw [List.getElem?_set_ne (Ne.symm hj')] at q
            rw [fpSet_ne hj']
            exact (R.ok j s q).lift hp
        · by_cases hj' : j = i
          · subst hj'
            exact fpSet_same
          · rw [List.getElem?_set_ne (Ne.symm hj')] at q
            rw [fpSet_ne hj']
            exact R.out j q
        · by_cases hj' : j = i
          · subst hj'
            rw [fpSet_same] at h1
            exact nomatch h1
          · by_cases hk' : k = i
            · subst hk'
              rw [fpSet_same] at h2
              exact nomatch h2
            · rw [fpSet_ne hj'] at h1
              rw [fpSet_ne hk'] at h2
              exact R.dis j k a h1 h2
        · have q := ow a ⟨j, ha⟩
          obtain ⟨⟨l, hl⟩, ne⟩ := q
          rw [upd_ne ne]
          exact R.off l a hl
        · refine ⟨?_, fun z => (off2 a ha).2.1 (ow a z).1⟩
          rw [upd_ne (fun z => (off2 a ha).2.1 ⟨i, by rw [z]; exact hi⟩)]
          exact (off2 a ha).1
theorem VlsOk.inv {vs : List V} {r : Vl} {rs : List Vl} (x : VlsOk K B H σ vs (r :: rs) g) : ∃ v vs' f g', vs = v :: vs' ∧ g = f ++ g' ∧ VlOk K B H σ v r f ∧ VlsOk K B H σ vs' rs g' ∧ ∀ a ∈ f, a ∉ g' := by
  generalize e : r :: rs = l at x
  cases x with
  | nil => cases e
  | cons h1 h2 n =>
    cases e
    exact ⟨_, _, _, _, rfl, rfl, h1, h2, n⟩
theorem VlsOk.inv0 {vs : List V} (x : VlsOk K B H σ vs [] g) : vs = [] ∧ g = [] := by
  generalize e : ([] : List Vl) = l at x
  cases x with
  | nil => exact ⟨rfl, rfl⟩
  | cons h1 h2 n => cases e
theorem shares_ok : ∀ {rs : List Vl} {vs : List V} {g : List Addr} {B : Hp} {ρ ρ' : Env} {f0 : Fps} {ds : List D}, Rel K B H σ ρ f0 → VlsOk K B H σ vs rs g → (∀ a ∈ g, B a = none ∧ ¬ Owned f0 a) → shares ρ rs = some (ds, ρ') →
    ∃ B' f', Rel K B' H σ ρ' f' ∧ DVs K B' vs ds ∧ Ex B B' ∧ Frm B H (fun a => Owned f0 a ∨ a ∈ g) B' H (Owned f')
  | [], vs, g, B, ρ, ρ', f0, ds, R, x, off, h => by
    obtain ⟨e1, e2⟩ := x.inv0
    subst e1 e2
    cases h
    exact ⟨B, f0, R, .nil, fun _ _ q => q, Frm.refl.to fun a z => .inl (.inl z)⟩
  | r :: rs, vs, g, B, ρ, ρ', f0, ds, R, x, off, h => by
    obtain ⟨v, vs', f, g', e1, e2, h1, h2, n⟩ := x.inv
    subst e1 e2
    unfold shares at h
    cases e1 : share ρ r with
    | none => rw [e1] at h; cases h
    | some a =>
      obtain ⟨d, ρ1⟩ := a
      rw [e1] at h
      have h : (shares ρ1 rs).bind (fun b => some (d :: b.1, b.2)) = some (ds, ρ') := h
      cases e2 : shares ρ1 rs with
      | none => rw [e2] at h; cases h
      | some b =>
        obtain ⟨es, ρ2⟩ := b
        rw [e2] at h
        cases h
        obtain ⟨B1, f1, R1, hd, eB, off1, lift, fr⟩ := share_ok (S := g') R h1 (fun a ha => off a (List.mem_append_left _ ha)) (fun a ha => ⟨(off a (List.mem_append_right _ ha)).1, (off a (List.mem_append_right _ ha)).2, fun z => n a z ha⟩) e1
        obtain ⟨B2, f2, R2, hds, eB2, fr2⟩ := shares_ok R1 (lift h2) off1 e2
        refine ⟨B2, f2, R2, .cons (hd.mono eB2) hds, eB.trans eB2, ?_⟩
        have fr' := (fr.side (· ∈ g')).trans fr2
        exact ⟨fr'.bb, fun a o q m => fr'.keep a o q fun z => m (by
          rcases z with (z | z) | z
          · exact .inl z
          · exact .inr (List.mem_append_left _ z)
          · exact .inr (List.mem_append_right _ z)), fun a q1 q2 m => fr'.off a q1 q2 fun z => m (by
          rcases z with (z | z) | z
          · exact .inl z
          · exact .inr (List.mem_append_left _ z)
          · exact .inr (List.mem_append_right _ z)), fun a z => by
          rcases fr'.own a z with ((z | z) | z) | z
          · exact .inl (.inl z)
          · exact .inl (.inr (List.mem_append_left _ z))
          · exact .inl (.inr (List.mem_append_right _ z))
          · exact .inr z, fr'.dom⟩
def szOk (n : Nat) : Bool := decide (n ≤ 1000000)
theorem szOk_le {n : Nat} (h : szOk n = true) : n ≤ sizeLine := by
  have h : n ≤ 1000000 := of_decide_eq_true h
  rw [sizeLine_eq]
  omega
def xTup (ma : MA) : MX := fun ρ => R.bind (ma ρ) fun a => rdO (shares a.2 a.1) fun p => if szOk p.1.length = true then .ok (.sh (.tup p.1), p.2) else .bad
def xLst (ma : MA) : MX := fun ρ => R.bind (ma ρ) fun a => rdO (shares a.2 a.1) fun p => if szOk p.1.length = true then .ok (.own p.1, p.2) else .bad
theorem ResA.shared {vs : List V} {rs : List Vl} {ds : List D} (x : ResA K B H σ f0 vs rs ρ B1 H1 f1 f) (h : shares ρ rs = some (ds, ρ')) : ∃ B2 f2, Rel K B2 H1 σ ρ' f2 ∧ DVs K B2 vs ds ∧ Frm B H (Owned f0) B2 H1 (Owned f2) := by
  obtain ⟨B2, f2, R2, hd, _, fr⟩ := shares_ok x.rel x.val x.off h
  exact ⟨B2, f2, R2, hd, x.frm.trans fr⟩
theorem Rel.newRes {z : Vl} {w : V} (R : Rel K B1 H1 σ ρ f1) (fr : Frm B H (Owned f0) B1 H1 (Owned f1)) (n : New K B1 H1 w z B2 H2 g) : Res K B H σ f0 w z ρ B2 H2 f1 g where
  rel := n.rel R
  val := n.val.any
  off := fun a ha => ⟨(n.fr a ha).2, fun ⟨i, hi⟩ => (R.off i a hi).2 (n.fr a ha).1⟩
  frm := fr.trans ((n.frm0 _).to fun a z => by
    rcases z with z | z
    · exact .inl z
    · exact .inr (.inr (n.fr a z).1))
theorem im_tup {ta : TA} {ma : MA} (ha : ImpA K ct E ta ma) : Imp K ct E (tTup ta) (xTup ma) := by
  intro B H σ ρ f0 Q R h
  refine ha B H σ ρ f0 _ R (h.first fun a ea h vs B1 H1 f1 f x => ?_)
  obtain ⟨p, e1, h⟩ := h.get
  obtain ⟨B2, f2, R2, hd, fr⟩ := x.shared e1
  by_cases hz : szOk p.1.length = true
  · rw [if_pos hz] at h
    refine ⟨by rw [hd.len]; exact szOk_le hz, fun q hq => ?_⟩
    exact h _ _ _ _ _ (R2.newRes fr (New.tup R2.ex hq hd))
  · rw [if_neg hz] at h
    exact h.elim
theorem im_lst {ta : TA} {ma : MA} (ha : ImpA K ct E ta ma) : Imp K ct E (tLst ta) (xLst ma) := by
  intro B H σ ρ f0 Q R h
  refine ha B H σ ρ f0 _ R (h.first fun a ea h vs B1 H1 f1 f x => ?_)
  obtain ⟨p, e1, h⟩ := h.get
  obtain ⟨B2, f2, R2, hd, fr⟩ := x.shared e1
  by_cases hz : szOk p.1.length = true
  · rw [if_pos hz] at h
    refine ⟨by rw [hd.len]; exact szOk_le hz, fun q hq => ?_⟩
    exact h _ _ _ _ _ (R2.newRes fr (New.lst R2.ex hq hd))
  · rw [if_neg hz] at h
    exact h.elim

abbrev MT := Env → R (Bool × Env)
structure ResT (K : PySem.W.Frag) (B H : Hp) (σ : L2.St) (f0 : Fps) (ρ : Env) (B' H' : Hp) (f' : Fps) : Prop where
  rel : Rel K B' H' σ ρ f'
  frm : Frm B H (Owned f0) B' H' (Owned f')
def ImpT (K : PySem.W.Frag) (ct : Ct) (E : XK) (t : TT) (m : MT) : Prop := ∀ (B H : Hp) (σ : L2.St) (ρ : Env) (f0 : Fps) (Q : Bool → Hp → Prop), Rel K B H σ ρ f0 →
  Post ct E H f0 (m ρ) (fun p => ∀ B' H' f', ResT K B H σ f0 p.2 B' H' f' → Q p.1 H') → t σ H Q
theorem Res.drop (x : Res K B H σ f0 v r ρ B1 H1 f1 f) : ResT K B H σ f0 ρ B1 H1 f1 := ⟨x.rel, x.frm.to fun a z => .inl (.inl z)⟩
theorem ResT.then (x : ResT K B H σ f0 ρ B1 H1 f1) (y : ResT K B1 H1 σ f1 ρ' B2 H2 f2) : ResT K B H σ f0 ρ' B2 H2 f2 := ⟨y.rel, x.frm.trans y.frm⟩
theorem ResT.res {ρ2 : Env} (x : ResT K B H σ f0 ρ B1 H1 f1) (y : Res K B1 H1 σ f1 v r ρ2 B2 H2 f2 f) : Res K B H σ f0 v r ρ2 B2 H2 f2 f := ⟨y.rel, y.val, y.off, x.frm.trans y.frm⟩
def blOf : D → Option Bool
  | .bl b => some b
  | _ => none
def xTest (m : MX) : MT := fun ρ => R.bind (m ρ) fun a => rdO (rdv a.2 a.1) fun d => rdO (blOf d) fun b => .ok (b, a.2)
theorem it_test {t : TE} {m : MX} (ha : Imp K ct E t m) : ImpT K ct E (tTest t) (xTest m) := by
  intro B H σ ρ f0 Q R h
  refine ha B H σ ρ f0 _ R (h.first fun a ea h v B1 H1 f1 f x => ?_)
  obtain ⟨d, e1, h⟩ := h.get
  obtain ⟨b, e2, h⟩ := h.get
  have hv := x.val.rd x.rel e1
  cases d <;> first | (cases e2; done) | skip
  cases e2
  cases hv
  exact ⟨b, rfl, h _ _ _ x.drop⟩
theorem it_B {t : TE} {m : MX} (ha : Imp K ct E t m) : ImpT K ct E (tB t) (xTest m) := fun B H σ ρ f0 Q R h => it_test ha B H σ ρ f0 Q R h
def truO : D → Option Bool
  | .non => some false
  | .bl b => some b
  | .int i => some (i != 0)
  | .str s => if szOk s.length = true then some ((s.length : Int) != 0) else none
  | .tup l => some (!l.isEmpty)
  | .lst l => some (!l.isEmpty)
  | _ => none
def xTru (m : MX) : MT := fun ρ => R.bind (m ρ) fun a => rdO (rdv a.2 a.1) fun d => rdO (truO d) fun b => .ok (b, a.2)
theorem isEmpty_len {α β : Type} {l : List α} {m : List β} (h : l.length = m.length) : l.isEmpty = m.isEmpty := by
  cases l <;> cases m <;> simp_all
theorem it_tru {t : TE} {m : MX} (ha : Imp K ct E t m) : ImpT K ct E (fun σ H Q => t σ H fun x H' => ∃ k, TruV K x H' k ∧ Q k H') (xTru m) := by
  intro B H σ ρ f0 Q R h
  refine ha B H σ ρ f0 _ R (h.first fun a ea h v B1 H1 f1 f x => ?_)
  obtain ⟨d, e1, h⟩ := h.get
  obtain ⟨b, e2, h⟩ := h.get
  have hv := x.val.rd x.rel e1
  refine ⟨b, ?_, h _ _ _ x.drop⟩
  cases d with
  | non => cases e2; cases hv; rfl
  | bl c => cases e2; cases hv; rfl
  | int c => cases e2; cases hv; rfl
  | str s =>
    cases hv
    have e2 : (if szOk s.length = true then some ((s.length : Int) != 0) else none) = some b := e2
    by_cases hz : szOk s.length = true
    · rw [if_pos hz] at e2
      cases e2
      exact ⟨szOk_le hz, rfl⟩
    · rw [if_neg hz] at e2
      cases e2
  | tup l =>
    cases e2
    cases hv with
    | tup h1 h2 => exact .inr (.inl ⟨_, ex_t x.rel.ex h1, by rw [isEmpty_len h2.len]⟩)
  | lst l =>
    cases e2
    obtain ⟨p, xs, ev, h1, h2⟩ := hv
    cases ev
    exact .inl ⟨_, SqL.of h1, by rw [isEmpty_len h2.len]⟩
  | scr l => cases e2
  | ty n => cases e2
  | ref n => cases e2
def xAnd (a b : MT) : MT := fun ρ => R.bind (a ρ) fun p => if p.1 = true then b p.2 else .ok (false, p.2)
def xOr (a b : MT) : MT := fun ρ => R.bind (a ρ) fun p => if p.1 = true then .ok (true, p.2) else b p.2
def xNot (a : MT) : MT := fun ρ => R.bind (a ρ) fun p => .ok (!p.1, p.2)
theorem it_and {t u : TT} {a b : MT} (ha : ImpT K ct E t a) (hb : ImpT K ct E u b) : ImpT K ct E (tAnd t u) (xAnd a b) := by
  intro B H σ ρ f0 Q R h
  refine ha B H σ ρ f0 _ R (h.first fun p ep h B1 H1 f1 x => ?_)
  obtain ⟨c, ρ1⟩ := p
  cases c with
  | true =>
    show u σ H1 Q
    have h : Post ct E H f0 (b ρ1) _ := h
    refine hb B1 H1 σ ρ1 f1 _ x.rel ?_
    refine Post.step (k := fun q => .ok q) (m := b ρ1) (ok := fun p => ∀ B' H' f', ResT K B H σ f0 p.2 B' H' f' → Q p.1 H') ?_ x.frm (fun _ z => z) fun p ep h B2 H2 f2 y => h B2 H2 f2 (x.then y)
    cases e : b ρ1 <;> (rw [e] at h; exact h)
  | false => exact h B1 H1 f1 x
theorem it_or {t u : TT} {a b : MT} (ha : ImpT K ct E t a) (hb : ImpT K ct E u b) : ImpT K ct E (tOr t u) (xOr a b) := by
  intro B H σ ρ f0 Q R h
  refine ha B H σ ρ f0 _ R (h.first fun p ep h B1 H1 f1 x => ?_)
  obtain ⟨c, ρ1⟩ := p
  cases c with
  | false =>
    show u σ H1 Q
    have h : Post ct E H f0 (b ρ1) _ := h
    refine hb B1 H1 σ ρ1 f1 _ x.rel ?_
    refine Post.step (k := fun q => .ok q) (m := b ρ1) (ok := fun p => ∀ B' H' f', ResT K B H σ f0 p.2 B' H' f' → Q p.1 H') ?_ x.frm (fun _ z => z) fun p ep h B2 H2 f2 y => h B2 H2 f2 (x.then y)
    cases e : b ρ1 <;> (rw [e] at h; exact h)
  | true => exact h B1 H1 f1 x
theorem it_not {t : TT} {a : MT} (ha : ImpT K ct E t a) : ImpT K ct E (tNot t) (xNot a) := by
  intro B H σ ρ f0 Q R h
  exact ha B H σ ρ f0 _ R (h.first fun p ep h B1 H1 f1 x => h B1 H1 f1 x)
theorem Post.late {α : Type} {m : R α} {ok ok1 : α → Prop} {P : Addr → Prop} (h : Post ct E H f0 m ok) (fr : Frm B H (Owned f0) B1 H1 P) (hP : ∀ a, Owned f1 a → P a) (st : ∀ a, m = .ok a → ok a → ok1 a) : Post ct E H1 f1 m ok1 := by
  refine Post.step (k := fun q => .ok q) (m := m) (ok := ok) ?_ fr hP fun a e h => st a e h
  cases e : m <;> (rw [e] at h; exact h)
def xIf (c : MT) (a b : MX) : MX := fun ρ => R.bind (c ρ) fun p => if p.1 = true then a p.2 else b p.2
theorem im_if {t : TT} {u w : TE} {c : MT} {a b : MX} (hc : ImpT K ct E t c) (ha : Imp K ct E u a) (hb : Imp K ct E w b) : Imp K ct E (tIf t u w) (xIf c a b) := by
  intro B H σ ρ f0 Q R h
  refine hc B H σ ρ f0 _ R (h.first fun p ep h B1 H1 f1 x => ?_)
  obtain ⟨k, ρ1⟩ := p
  cases k with
  | true =>
    show u σ H1 Q
    exact ha B1 H1 σ ρ1 f1 _ x.rel (Post.late (m := a ρ1) h x.frm (fun _ z => z) fun p ep h v B2 H2 f2 f y => h v B2 H2 f2 f (x.res y))
  | false =>
    show w σ H1 Q
    exact hb B1 H1 σ ρ1 f1 _ x.rel (Post.late (m := b ρ1) h x.frm (fun _ z => z) fun p ep h v B2 H2 f2 f y => h v B2 H2 f2 f (x.res y))
def xVal (c : MT) : MX := fun ρ => R.bind (c ρ) fun p => .ok (.sh (.bl p.1), p.2)
def xAndV (a b : MX) : MX := fun ρ => R.bind (xTest a ρ) fun p => if p.1 = true then b p.2 else .ok (.sh (.bl false), p.2)
def xOrV (a b : MX) : MX := fun ρ => R.bind (xTest a ρ) fun p => if p.1 = true then .ok (.sh (.bl true), p.2) else b p.2
theorem im_andV {t u : TE} {a b : MX} (ha : Imp K ct E t a) (hb : Imp K ct E u b) : Imp K ct E (tAndV t u) (xAndV a b) := by
  intro B H σ ρ f0 Q R h
  refine it_B ha B H σ ρ f0 (fun c H1 => if c = true then u σ H1 Q else Q (.bl false) H1) R (h.first fun p ep h B1 H1 f1 x => ?_)
  obtain ⟨k, ρ1⟩ := p
  cases k with
  | true =>
    show u σ H1 Q
    exact hb B1 H1 σ ρ1 f1 _ x.rel (Post.late (m := b ρ1) h x.frm (fun _ z => z) fun p ep h v B2 H2 f2 f y => h v B2 H2 f2 f (x.res y))
  | false => exact h _ _ _ _ _ (x.res (.refl x.rel (.bl false)))
theorem im_orV {t u : TE} {a b : MX} (ha : Imp K ct E t a) (hb : Imp K ct E u b) : Imp K ct E (tOrV t u) (xOrV a b) := by
  intro B H σ ρ f0 Q R h
  refine it_B ha B H σ ρ f0 (fun c H1 => if c = true then Q (.bl true) H1 else u σ H1 Q) R (h.first fun p ep h B1 H1 f1 x => ?_)
  obtain ⟨k, ρ1⟩ := p
  cases k with
  | false =>
    show u σ H1 Q
    exact hb B1 H1 σ ρ1 f1 _ x.rel (Post.late (m := b ρ1) h x.frm (fun _ z => z) fun p ep h v B2 H2 f2 f y => h v B2 H2 f2 f (x.res y))
  | true => exact h _ _ _ _ _ (x.res (.refl x.rel (.bl true)))
def xNotV (a : MX) : MX := fun ρ => R.bind (xTest a ρ) fun p => .ok (.sh (.bl (!p.1)), p.2)
theorem im_notV {t : TE} {a : MX} (ha : Imp K ct E t a) : Imp K ct E (tNotV t) (xNotV a) := by
  intro B H σ ρ f0 Q R h
  exact it_B ha B H σ ρ f0 (fun c H1 => Q (.bl (!c)) H1) R (h.first fun p ep h B1 H1 f1 x => h _ _ _ _ _ (x.res (.refl x.rel (.bl _))))
end
end DL
end
section
set_option maxRecDepth 100000
set_option maxHeartbeats 2000000
namespace DL
open PySem PySem.Spec PyProof.Rows L2
open Evl (Ex ex_rd ex_l ex_t)
section
variable {K : PySem.W.Frag} {ct : Ct} {E : XK} {B H B' H' B1 H1 B2 H2 : Hp} {σ σ' : L2.St} {ρ ρ' : Env} {f0 f1 f2 : Fps} {v : V} {r : Vl} {f g : List Addr}

def CmpI (K : PySem.W.Frag) (r : R2) (g : D → D → Option Bool) : Prop := ∀ (B H : Hp) (x y : V) (dx dy : D) (b : Bool), Ex B H → RdV K B H x dx → RdV K B H y dy → g dx dy = some b → ∀ Q : VK, Q (.bl b) H → r x y H Q
def blR (g : D → D → Option Bool) : D → D → Option Vl := fun a b => (g a b).bind fun k => some (.sh (.bl k))
theorem CmpI.op {rr : R2} {gg : D → D → Option Bool} (h : CmpI K rr gg) : OpI K rr (blR gg) := by
  intro B H x y dx dy z e hx hy hz Q q
  unfold blR at hz
  cases e1 : gg dx dy with
  | none => rw [e1] at hz; cases hz
  | some b =>
    rw [e1] at hz
    cases hz
    exact h B H x y dx dy b e hx hy e1 Q (q _ _ _ _ (New.sc e (.bl b)))
theorem CmpI.or {r1 r2 : R2} {g1 g2 : D → D → Option Bool} (h1 : CmpI K r1 g1) (h2 : CmpI K r2 g2) : CmpI K (fun x y H Q => r1 x y H Q ∨ r2 x y H Q) (fun a b => (g1 a b).or (g2 a b)) := by
  intro B H x y dx dy b e hx hy hz Q q
  cases e1 : g1 dx dy with
  | none =>
    have hz : (g1 dx dy).or (g2 dx dy) = some b := hz
    rw [e1] at hz
    exact .inr (h2 B H x y dx dy b e hx hy hz Q q)
  | some k =>
    have hz : (g1 dx dy).or (g2 dx dy) = some b := hz
    rw [e1] at hz
    cases hz
    exact .inl (h1 B H x y dx dy _ e hx hy e1 Q q)
theorem OpI.or {r1 r2 : R2} {g1 g2 : D → D → Option Vl} (h1 : OpI K r1 g1) (h2 : OpI K r2 g2) : OpI K (fun x y H Q => r1 x y H Q ∨ r2 x y H Q) (fun a b => (g1 a b).or (g2 a b)) := by
  intro B H x y dx dy b e hx hy hz Q q
  have hz : (g1 dx dy).or (g2 dx dy) = some b := hz
  cases e1 : g1 dx dy with
  | none =>
    rw [e1] at hz
    exact .inr (h2 B H x y dx dy b e hx hy hz Q q)
  | some k =>
    rw [e1] at hz
    cases hz
    exact .inl (h1 B H x y dx dy _ e hx hy e1 Q q)
theorem CallI.or {r1 r2 : List V → Hp → VK → Prop} {g1 g2 : List D → Option Vl} (h1 : CallI K r1 g1) (h2 : CallI K r2 g2) : CallI K (fun x H Q => r1 x H Q ∨ r2 x H Q) (fun a => (g1 a).or (g2 a)) := by
  intro B H x dx b e hx hz Q q
  have hz : (g1 dx).or (g2 dx) = some b := hz
  cases e1 : g1 dx with
  | none =>
    rw [e1] at hz
    exact .inr (h2 B H x dx b e hx hz Q q)
  | some k =>
    rw [e1] at hz
    cases hz
    exact .inl (h1 B H x dx _ e hx e1 Q q)
def xChain (g g' : D → D → Option Bool) (ma mb mc : MX) : MX := fun ρ => R.bind (ma ρ) fun a => R.bind (mb a.2) fun b => rdO (rdv b.2 a.1) fun da => rdO (rdv b.2 b.1) fun db => rdO (g da db) fun k =>
  if k = true then R.bind (mc b.2) fun c => rdO (rdv c.2 b.1) fun db => rdO (rdv c.2 c.1) fun dc => rdO (g' db dc) fun k => .ok (.sh (.bl k), c.2) else .ok (.sh (.bl false), b.2)
theorem im_chain {r1 r2 : R2} {g1 g2 : D → D → Option Bool} {ta tb tc : TE} {ma mb mc : MX} (h1 : CmpI K r1 g1) (h2 : CmpI K r2 g2) (ha : Imp K ct E ta ma) (hb : Imp K ct E tb mb) (hc : Imp K ct E tc mc) : Imp K ct E (tChain r1 r2 ta tb tc) (xChain g1 g2 ma mb mc) := by
  intro B H σ ρ f0 Q R h
  refine ha B H σ ρ f0 _ R (h.first fun a ea h v B1 H1 f1 f x => ?_)
  refine hb B1 H1 σ a.2 f1 _ x.rel (h.step x.frm (fun _ z => .inl z) fun b eb h w B2 H2 f2 g y => ?_)
  have x' := x.then y
  obtain ⟨da, e1, h⟩ := h.get
  obtain ⟨db, e2, h⟩ := h.get
  obtain ⟨k, e3, h⟩ := h.get
  refine h1 B2 H2 v w da db k y.rel.ex (x'.1.rd y.rel e1) (y.val.rd y.rel e2) e3 _ ⟨k, rfl, ?_⟩
  have y' := x.res2 y
  cases k with
  | false => exact h _ _ _ _ _ (y'.drop.res (.refl y.rel (.bl false)))
  | true =>
    show tc σ H2 _
    have h : Post ct E H f0 (DL.R.bind (mc b.2) fun c => rdO (rdv c.2 b.1) fun db => rdO (rdv c.2 c.1) fun dc => rdO (g2 db dc) fun k => .ok (.sh (.bl k), c.2)) (XOk K B H σ f0 Q) := h
    refine hc B2 H2 σ b.2 f2 _ y.rel (h.step y'.frm (fun _ z => .inl z) fun c ec h u B3 H3 f3 l z => ?_)
    have y'' := y.then z
    obtain ⟨db', e4, h⟩ := h.get
    obtain ⟨dc, e5, h⟩ := h.get
    obtain ⟨k, e6, h⟩ := h.get
    exact h2 B3 H3 w u db' dc k z.rel.ex (y''.1.rd z.rel e4) (z.val.rd z.rel e5) e6 _ (h _ _ _ _ _ ((y'.res2 z).drop.res (.refl z.rel (.bl k))))

abbrev MO := Env → R (Option Int × Env)
def ImpO (K : PySem.W.Frag) (ct : Ct) (E : XK) (t : TO) (m : MO) : Prop := ∀ (B H : Hp) (σ : L2.St) (ρ : Env) (f0 : Fps) (Q : Option Int → Hp → Prop), Rel K B H σ ρ f0 →
  Post ct E H f0 (m ρ) (fun p => ∀ B' H' f', ResT K B H σ f0 p.2 B' H' f' → Q p.1 H') → t σ H Q
def oNone : MO := fun ρ => .ok (none, ρ)
def intOf : D → Option Int
  | .int i => some i
  | _ => none
def oPart (m : MX) : MO := fun ρ => R.bind (m ρ) fun a => rdO (rdv a.2 a.1) fun d => rdO (intOf d) fun i => .ok (some i, a.2)
theorem ResT.refl (R : Rel K B H σ ρ f0) : ResT K B H σ f0 ρ B H f0 := ⟨R, .refl⟩
theorem io_none : ImpO K ct E tNoPart oNone := fun B H σ ρ f0 Q R q => q B H f0 (.refl R)
theorem io_part {t : TE} {m : MX} (ha : Imp K ct E t m) : ImpO K ct E (tPart t) (oPart m) := by
  intro B H σ ρ f0 Q R h
  refine ha B H σ ρ f0 _ R (h.first fun a ea h v B1 H1 f1 f x => ?_)
  obtain ⟨d, e1, h⟩ := h.get
  obtain ⟨i, e2, h⟩ := h.get
  have hv := x.val.rd x.rel e1
  cases d <;> first | (cases e2; done) | skip
  cases e2
  cases hv
  exact ⟨i, rfl, h _ _ _ x.drop⟩
def SlI (K : PySem.W.Frag) (r : V → Option Int → Option Int → Hp → VK → Prop) (g : D → Option Int → Option Int → Option Vl) : Prop := ∀ (B H : Hp) (x : V) (dx : D) (lo hi : Option Int) (z : Vl), Ex B H → RdV K B H x dx → g dx lo hi = some z →
  ∀ Q : VK, (∀ v B' H' f, New K B H v z B' H' f → Q v H') → r x lo hi H Q
theorem SlI.or {r1 r2 : V → Option Int → Option Int → Hp → VK → Prop} {g1 g2 : D → Option Int → Option Int → Option Vl} (h1 : SlI K r1 g1) (h2 : SlI K r2 g2) : SlI K (fun x l u H Q => r1 x l u H Q ∨ r2 x l u H Q) (fun a l u => (g1 a l u).or (g2 a l u)) := by
  intro B H x dx l u b e hx hz Q q
  have hz : (g1 dx l u).or (g2 dx l u) = some b := hz
  cases e1 : g1 dx l u with
  | none =>
    rw [e1] at hz
    exact .inr (h2 B H x dx l u b e hx hz Q q)
  | some k =>
    rw [e1] at hz
    cases hz
    exact .inl (h1 B H x dx l u _ e hx e1 Q q)
def xSl (g : D → Option Int → Option Int → Option Vl) (ma : MX) (ml mh : MO) : MX := fun ρ => R.bind (ma ρ) fun a => R.bind (ml a.2) fun l => R.bind (mh l.2) fun h => rdO (rdv h.2 a.1) fun d => rdO (g d l.1 h.1) fun z => .ok (z, h.2)
theorem Res.thenT {ρ2 : Env} (x : Res K B H σ f0 v r ρ B1 H1 f1 f) (y : ResT K B1 H1 σ f1 ρ2 B2 H2 f2) : Res K B H σ f0 v r ρ2 B2 H2 f2 f where
  rel := y.rel
  val := x.val.frm y.frm fun a ha => (x.off a ha).2
  off := fun a ha => by
    have hne := x.val.there ha
    exact ⟨y.frm.off a (x.off a ha).1 hne (x.off a ha).2, y.frm.apart hne (x.off a ha).2⟩
  frm := x.frm.trans (y.frm.side (· ∈ f))
theorem im_sl {rr : V → Option Int → Option Int → Hp → VK → Prop} {gg : D → Option Int → Option Int → Option Vl} {ta : TE} {tl th : TO} {ma : MX} {ml mh : MO} (ho : SlI K rr gg) (ha : Imp K ct E ta ma) (hl : ImpO K ct E tl ml) (hh : ImpO K ct E th mh) : Imp K ct E (tSl rr ta tl th) (xSl gg ma ml mh) := by
  intro B H σ ρ f0 Q R h
  refine ha B H σ ρ f0 _ R (h.first fun a ea h v B1 H1 f1 f x => ?_)
  refine hl B1 H1 σ a.2 f1 _ x.rel (h.step x.frm (fun _ z => .inl z) fun l el h B2 H2 f2 y => ?_)
  have x1 := x.thenT y
  refine hh B2 H2 σ l.2 f2 _ y.rel (h.step x1.frm (fun _ z => .inl z) fun u eu h B3 H3 f3 z => ?_)
  have x2 := x1.thenT z
  obtain ⟨d, e1, h⟩ := h.get
  obtain ⟨w, e3, h⟩ := h.get
  exact ho B3 H3 v d l.1 u.1 w x2.rel.ex (x2.val.rd x2.rel e1) e3 Q fun w B4 H4 k n => h w B4 H4 f3 k (x2.new n)

def ItD (K : PySem.W.Frag) (B : Hp) (J : It) (items : List D) : Prop := ∀ B' H', Ex B B' → Ex B' H' → ∀ i, (i < items.length → J.go i H') ∧ (i = items.length → J.stop i H') ∧
  ∀ x H'' d, items[i]? = some d → J.yld i H' x H'' → ∃ B'', Ex B' B'' ∧ Ex H' H'' ∧ Ex B'' H'' ∧ (∀ a, B' a = none → H' a ≠ none → B'' a = none) ∧ (NoE B' → NoE B'') ∧ DV K B'' x d
abbrev MI := Env → R (List D × Env)
def ImpI (K : PySem.W.Frag) (ct : Ct) (E : XK) (t : TI) (m : MI) : Prop := ∀ (B H : Hp) (σ : L2.St) (ρ : Env) (f0 : Fps) (Q : It → Hp → Prop), Rel K B H σ ρ f0 →
  Post ct E H f0 (m ρ) (fun p => ∀ J B' H' f', ResT K B H σ f0 p.2 B' H' f' → ItD K B' J p.1 → Q J H') → t σ H Q
theorem Res.shared {d : D} (x : Res K B H σ f0 v r ρ B1 H1 f1 f) (h : share ρ r = some (d, ρ')) : ∃ B2 f2, ResT K B H σ f0 ρ' B2 H1 f2 ∧ DV K B2 v d := by
  obtain ⟨B2, f2, R2, hd, _, _, _, fr⟩ := share_ok (S := []) x.rel x.val x.off (fun _ q => (nomatch q)) h
  exact ⟨B2, f2, ⟨R2, x.frm.trans fr⟩, hd⟩
theorem itd_list {a : Addr} {xs : List V} {ds : List D} (h : SqL K B a xs) (hd : DVs K B xs ds) (uniq : ∀ B' H' ys, Ex B B' → Ex B' H' → SqL K H' a ys → ys = xs) : ItD K B (Itl K a) ds := by
  intro B' H' e1 e2 i
  have q : SqL K H' a xs := ex_l (e1.trans e2) h
  refine ⟨fun hi => ⟨xs, xs[i]'(by rw [hd.len]; exact hi), q, by simp⟩, fun hi => ⟨xs, q, by rw [hd.len]; exact Nat.le_of_eq hi.symm⟩, fun x H'' d hx y => ?_⟩
  obtain ⟨e, y⟩ := y
  subst e
  obtain ⟨w, h1, h2⟩ := hd.get hx
  rw [y xs q] at h1
  cases h1
  exact ⟨B', fun _ _ q => q, fun _ _ q => q, e2, fun _ q _ => q, id, h2.mono e1⟩
theorem itd_list' {a : Addr} {xs : List V} {ds : List D} (h : SqL K B a xs) (hd : DVs K B xs ds) : ItD K B (Itl K a) ds := by
  intro B' H' e1 e2 i
  have q : SqL K H' a xs := ex_l (e1.trans e2) h
  refine ⟨fun hi => ⟨xs, xs[i]'(by rw [hd.len]; exact hi), q, by simp⟩, fun hi => ⟨xs, q, by rw [hd.len]; exact Nat.le_of_eq hi.symm⟩, fun x H'' d hx y => ?_⟩
  obtain ⟨e, y⟩ := y
  subst e
  obtain ⟨w, h1, h2⟩ := hd.get hx
  rw [y xs q] at h1
  cases h1
  exact ⟨B', fun _ _ q => q, fun _ _ q => q, e2, fun _ q _ => q, id, h2.mono e1⟩
theorem itd_tup {a : Addr} {xs : List V} {ds : List D} (h : SqT K B a xs) (hd : DVs K B xs ds) : ItD K B (Itt K a) ds := by
  intro B' H' e1 e2 i
  have q : SqT K H' a xs := ex_t (e1.trans e2) h
  refine ⟨fun hi => ⟨xs, xs[i]'(by rw [hd.len]; exact hi), q, by simp⟩, fun hi => ⟨xs, q, by rw [hd.len]; exact Nat.le_of_eq hi.symm⟩, fun x H'' d hx y => ?_⟩
  obtain ⟨e, y⟩ := y
  subst e
  obtain ⟨w, h1, h2⟩ := hd.get hx
  rw [y xs q] at h1
  cases h1
  exact ⟨B', fun _ _ q => q, fun _ _ q => q, e2, fun _ q _ => q, id, h2.mono e1⟩
theorem itd_range {lo : Int} {n : Nat} : ItD K B (Itr lo n) ((List.range n).map fun (i : Nat) => D.int (lo + (i : Int))) := by
  intro B' H' e1 e2 i
  refine ⟨fun hi => by simpa [Itr] using hi, fun hi => by simpa [Itr] using Nat.le_of_eq hi.symm, fun x H'' d hx y => ?_⟩
  obtain ⟨e, y⟩ := y
  subst e y
  refine ⟨B', fun _ _ q => q, fun _ _ q => q, e2, fun _ q _ => q, id, ?_⟩
  rw [List.getElem?_map] at hx
  cases q : (List.range n)[i]? with
  | none => rw [q] at hx; cases hx
  | some k =>
    rw [q] at hx
    obtain ⟨hk, ek⟩ := List.getElem?_eq_some_iff.mp q
    rw [List.getElem_range] at ek
    subst ek
    cases hx
    exact .int _
def sgn (c : Nat) : Str := ⟨#[c]⟩
theorem itd_str {s : Str} : ItD K B (Its s) (s.cps.toList.map fun c => D.str (sgn c)) := by
  intro B' H' e1 e2 i
  refine ⟨fun hi => by simpa [Its] using hi, fun hi => by simpa [Its] using Nat.le_of_eq hi.symm, fun x H'' d hx y => ?_⟩
  obtain ⟨e, c, hc, y⟩ := y
  subst e y
  refine ⟨B', fun _ _ q => q, fun _ _ q => q, e2, fun _ q _ => q, id, ?_⟩
  rw [List.getElem?_map, Array.getElem?_toList, hc] at hx
  cases hx
  exact .str _
def iSeq (K : PySem.W.Frag) (te : TE) : TI := fun σ H R => iList K te σ H R ∨ iTup K te σ H R ∨ iStr te σ H R
theorem pi_seq {X : Cx} {tg e : Expr} {te : TE} (he : PE X e te) : PI X tg e (iSeq X.K te) :=
  ⟨fun pins s σ H R I h => by
    rcases h with h | h | h
    · exact (pi_list he).run pins s σ H R I h
    · exact (pi_tup he).run pins s σ H R I h
    · exact (pi_str he).run pins s σ H R I h⟩
def itemsOf : D → Option (List D)
  | .lst ds => some ds
  | .tup ds => some ds
  | .scr ns => some (ns.map D.int)
  | .str s => some (s.cps.toList.map fun c => D.str (sgn c))
  | _ => none
def xISeq (m : MX) : MI := fun ρ => R.bind (m ρ) fun a => rdO (share a.2 a.1) fun p => rdO (itemsOf p.1) fun l => .ok (l, p.2)
theorem ii_seq {t : TE} {m : MX} (ha : Imp K ct E t m) : ImpI K ct E (iSeq K t) (xISeq m) := by
  intro B H σ ρ f0 Q R h
  unfold xISeq at h
  cases em : m ρ with
  | bad => rw [em] at h; exact h.elim
  | exc c p =>
    refine .inl (ha B H σ ρ f0 _ R ?_)
    rw [em] at h ⊢
    exact h
  | ok a =>
    rw [em] at h
    have h : Post ct E H f0 (rdO (share a.2 a.1) fun p => rdO (itemsOf p.1) fun l => .ok (l, p.2)) _ := h
    obtain ⟨p, e1, h⟩ := h.get
    obtain ⟨l, e2, h⟩ := h.get
    have go : ∀ (Q' : VK), (∀ v B' H' f', ResT K B H σ f0 p.2 B' H' f' → DV K B' v p.1 → Q' v H') → t σ H Q' := fun Q' q => by
      refine ha B H σ ρ f0 _ R ?_
      rw [em]
      intro v B1 H1 f1 f x
      obtain ⟨B2, f2, y, hd⟩ := x.shared (ρ' := p.2) (d := p.1) e1
      exact q v B2 H1 f2 y hd
    obtain ⟨d, ρ1⟩ := p
    cases d with
    | lst ds =>
      cases e2
      refine .inl (go _ fun v B' H' f' x hd => ?_)
      cases hd with
      | lst h1 h2 => exact ⟨_, rfl, ⟨_, SqL.of (x.rel.ex _ _ h1)⟩, h _ _ _ _ x (itd_list' (SqL.of h1) h2)⟩
    | scr ns =>
      cases e2
      refine .inl (go _ fun v B' H' f' x hd => ?_)
      cases hd with
      | scr h1 => exact ⟨_, rfl, ⟨_, ex_l x.rel.ex h1⟩, h _ _ _ _ x (itd_list' h1 (DVs.ints ns))⟩
    | tup ds =>
      cases e2
      refine .inr (.inl (go _ fun v B' H' f' x hd => ?_))
      cases hd with
      | tup h1 h2 => exact ⟨_, rfl, ⟨_, ex_t x.rel.ex h1⟩, h _ _ _ _ x (itd_tup h1 h2)⟩
    | str s =>
      cases e2
      refine .inr (.inr (go _ fun v B' H' f' x hd => ?_))
      cases hd
      exact ⟨_, rfl, h _ _ _ _ x itd_str⟩
    | _ => cases e2
def smallI (i : Int) : Bool := decide (-1000000 ≤ i ∧ i ≤ 1000000)
theorem smallI_iff {i : Int} (h : smallI i = true) : -1000000 ≤ i ∧ i ≤ 1000000 := of_decide_eq_true h
def xIRng1 (ma : MA) : MI := fun ρ => R.bind (ma ρ) fun a => match rdvs a.2 a.1 with
  | some [.int j] => if smallI j = true then .ok ((List.range j.toNat).map fun (i : Nat) => D.int (0 + (i : Int)), a.2) else .bad
  | _ => .bad
def xIRng2 (ma : MA) : MI := fun ρ => R.bind (ma ρ) fun a => match rdvs a.2 a.1 with
  | some [.int i, .int j] => if (smallI i && smallI j) = true then .ok ((List.range (j - i).toNat).map fun (k : Nat) => D.int (i + (k : Int)), a.2) else .bad
  | _ => .bad
theorem ResA.drop {vs : List V} {rs : List Vl} (x : ResA K B H σ f0 vs rs ρ B1 H1 f1 f) : ResT K B H σ f0 ρ B1 H1 f1 := ⟨x.rel, x.frm.to fun a z => .inl (.inl z)⟩
theorem RdVs.one {vs : List V} {d : D} (h : RdVs K B H vs [d]) : ∃ v, vs = [v] ∧ RdV K B H v d := by
  cases h with
  | cons h1 h2 => cases h2; exact ⟨_, rfl, h1⟩
theorem RdVs.two {vs : List V} {d e : D} (h : RdVs K B H vs [d, e]) : ∃ v w, vs = [v, w] ∧ RdV K B H v d ∧ RdV K B H w e := by
  cases h with
  | cons h1 h2 =>
    obtain ⟨w, e, h3⟩ := h2.one
    subst e
    exact ⟨_, _, rfl, h1, h3⟩
theorem ii_rng1 {t : TA} {m : MA} (ha : ImpA K ct E t m) : ImpI K ct E (iRng1 t) (xIRng1 m) := by
  intro B H σ ρ f0 Q R h
  refine ha B H σ ρ f0 _ R (h.first fun a ea h vs B1 H1 f1 f x => ?_)
  split at h
  · rename_i j e
    by_cases hz : smallI j = true
    · rw [if_pos hz] at h
      obtain ⟨v, ev, hv⟩ := (x.val.rd x.rel e).one
      subst ev
      cases hv
      have := smallI_iff hz
      exact ⟨j, rfl, by omega, by omega, h _ _ _ _ x.drop itd_range⟩
    · rw [if_neg hz] at h
      exact h.elim
  · exact h.elim
theorem ii_rng2 {t : TA} {m : MA} (ha : ImpA K ct E t m) : ImpI K ct E (iRng2 t) (xIRng2 m) := by
  intro B H σ ρ f0 Q R h
  refine ha B H σ ρ f0 _ R (h.first fun a ea h vs B1 H1 f1 f x => ?_)
  split at h
  · rename_i i j e
    by_cases hz : (smallI i && smallI j) = true
    · rw [if_pos hz] at h
      obtain ⟨v, w, ev, hv, hw⟩ := (x.val.rd x.rel e).two
      subst ev
      cases hv
      cases hw
      rw [Bool.and_eq_true] at hz
      have h1 := smallI_iff hz.1
      have h2 := smallI_iff hz.2
      exact ⟨i, j, rfl, ⟨by omega, by omega, by omega, by omega⟩, h _ _ _ _ x.drop itd_range⟩
    · rw [if_neg hz] at h
      exact h.elim
  · exact h.elim

abbrev MG := D → Env → Option Env
def ImpG (K : PySem.W.Frag) (js : List Nat) (g : TG) (m : MG) : Prop := ∀ (B H : Hp) (σ : L2.St) (ρ ρ' : Env) (f0 : Fps) (v : V) (d : D), Rel K B H σ ρ f0 → DV K B v d → m d ρ = some ρ' →
  ∀ Q : L2.St → Hp → Prop, (∀ σ' f', Rel K B H σ' ρ' f' → σ'.length = σ.length → (∀ i, i ∉ js → σ'[i]? = σ[i]?) → (∀ a, Owned f' a → Owned f0 a) → Q σ' H) → g v σ H Q
def ImpGs (K : PySem.W.Frag) (js : List Nat) (g : TGs) (m : List D → Env → Option Env) : Prop := ∀ (B H : Hp) (σ : L2.St) (ρ ρ' : Env) (f0 : Fps) (v : List V) (d : List D), Rel K B H σ ρ f0 → DVs K B v d → m d ρ = some ρ' →
  ∀ Q : L2.St → Hp → Prop, (∀ σ' f', Rel K B H σ' ρ' f' → σ'.length = σ.length → (∀ i, i ∉ js → σ'[i]? = σ[i]?) → (∀ a, Owned f' a → Owned f0 a) → Q σ' H) → g v σ H Q
def mName (i : Nat) : MG := fun d ρ => if i < ρ.length then some (ρ.set i (.sh d)) else none
theorem Rel.setSl {i : Nat} {s : Sl} (R : Rel K B H σ ρ f0) (hi : i < ρ.length) (x : SlOk K B H (some v) s f) (off : ∀ a ∈ f, B a = none ∧ ¬ Owned f0 a) : Rel K B H (σ.set i (some v)) (ρ.set i s) (fpSet f0 i f) where
  len := by rw [List.length_set, List.length_set]; exact R.len
  ex := R.ex
  pl := R.pl
  ok := fun j t q => by
    by_cases hj : j = i
    · subst hj
      rw [List.getElem?_set_self hi] at q
      cases q
      rw [List.getElem?_set_self (by rw [R.len]; exact hi), fpSet_same]
      exact x
    · rw [List.getElem?_set_ne (Ne.symm hj)] at q
      rw [List.getElem?_set_ne (Ne.symm hj), fpSet_ne hj]
      exact R.ok j t q
  out := fun j q => by
    by_cases hj : j = i
    · subst hj
      rw [List.getElem?_set_self hi] at q
      cases q
    · rw [List.getElem?_set_ne (Ne.symm hj)] at q
      rw [fpSet_ne hj]
      exact R.out j q
  dis := fun j k a h1 h2 => by
    by_cases hj : j = i
    · by_cases hk : k = i
      · rw [hj, hk]
      · subst hj
        rw [fpSet_same] at h1
        rw [fpSet_ne hk] at h2
        exact absurd ⟨k, h2⟩ (off a h1).2
    · by_cases hk : k = i
      · subst hk
        rw [fpSet_same] at h2
        rw [fpSet_ne hj] at h1
        exact absurd ⟨j, h1⟩ (off a h2).2
      · rw [fpSet_ne hj] at h1
        rw [fpSet_ne hk] at h2
        exact R.dis j k a h1 h2
  off := fun j a h => by
    by_cases hj : j = i
    · subst hj
      rw [fpSet_same] at h
      exact ⟨(off a h).1, x.there h⟩
    · rw [fpSet_ne hj] at h
      exact R.off j a h
theorem Rel.empSl (i : Nat) (w : Option V) (R : Rel K B H σ ρ f0) : Rel K B H (σ.set i w) (ρ.set i .emp) (fpSet f0 i []) where
  len := by rw [List.length_set, List.length_set]; exact R.len
  ex := R.ex
  pl := R.pl
  ok := fun j t q => by
    by_cases hj : j = i
    · subst hj
      have hi : j < ρ.length := by
        have := (List.getElem?_eq_some_iff.mp q).1
        rwa [List.length_set] at this
      rw [List.getElem?_set_self hi] at q
      cases q
      rw [fpSet_same]
      rfl
    · rw [List.getElem?_set_ne (Ne.symm hj)] at q
      rw [List.getElem?_set_ne (Ne.symm hj), fpSet_ne hj]
      exact R.ok j t q
  out := fun j q => by
    by_cases hj : j = i
    · subst hj
      exact fpSet_same
    · rw [List.getElem?_set_ne (Ne.symm hj)] at q
      rw [fpSet_ne hj]
      exact R.out j q
  dis := fun j k a h1 h2 => by
    by_cases hj : j = i
    · subst hj
      rw [fpSet_same] at h1
      exact (nomatch h1)
    · by_cases hk : k = i
      · subst hk
        rw [fpSet_same] at h2
        exact (nomatch h2)
      · rw [fpSet_ne hj] at h1
        rw [fpSet_ne hk] at h2
        exact R.dis j k a h1 h2
  off := fun j a h => by
    by_cases hj : j = i
    · subst hj
      rw [fpSet_same] at h
      exact (nomatch h)
    · rw [fpSet_ne hj] at h
      exact R.off j a h
theorem owned_set {i : Nat} {a : Addr} (h : Owned (fpSet f0 i f) a) : Owned f0 a ∨ a ∈ f := by
  obtain ⟨j, hj⟩ := h
  by_cases e : j = i
  · subst e
    rw [fpSet_same] at hj
    exact .inr hj
  · rw [fpSet_ne e] at hj
    exact .inl ⟨j, hj⟩
theorem ig_name {i : Nat} : ImpG K [i] (gName i) (mName i) := by
  intro B H σ ρ ρ' f0 v d R hd h Q q
  unfold mName at h
  split at h
  · rename_i hi
    cases h
    refine q _ _ (R.setSl hi ⟨rfl, v, rfl, hd⟩ fun _ z => (nomatch z)) (List.length_set ..) (fun j hj => ?_) fun a ha => ?_
    · rw [List.getElem?_set_ne (fun e => hj (by rw [e]; simp))]
    · rcases owned_set ha with z | z
      · exact z
      · exact (nomatch z)
  · cases h
def mgNil : List D → Env → Option Env := fun ds ρ => match ds with
  | [] => some ρ
  | _ => none
def mgCons (m : MG) (n : List D → Env → Option Env) : List D → Env → Option Env := fun ds ρ => match ds with
  | [] => none
  | d :: ds => (m d ρ).bind fun ρ1 => n ds ρ1
theorem igs_nil : ImpGs K [] gNil mgNil := by
  intro B H σ ρ ρ' f0 v d R hd h Q q
  cases hd with
  | nil =>
    cases h
    exact ⟨rfl, q σ f0 R rfl (fun _ _ => rfl) fun _ z => z⟩
  | cons => cases h
theorem igs_cons {js ks : List Nat} {g : TG} {gs : TGs} {m : MG} {n : List D → Env → Option Env} (h1 : ImpG K js g m) (h2 : ImpGs K ks gs n) : ImpGs K (js ++ ks) (gCons g gs) (mgCons m n) := by
  intro B H σ ρ ρ' f0 v d R hd h Q q
  cases hd with
  | nil => cases h
  | @cons v0 vs0 d0 ds0 a b =>
    have h : (m d0 ρ).bind (fun ρ1 => n ds0 ρ1) = some ρ' := h
    cases e : m d0 ρ with
    | none => rw [e] at h; cases h
    | some ρ1 =>
      rw [e] at h
      refine ⟨_, _, rfl, h1 B H σ ρ ρ1 f0 _ _ R a e _ fun σ1 f1 R1 l1 k1 o1 => ?_⟩
      refine h2 B H σ1 ρ1 ρ' f1 _ _ R1 b h _ fun σ2 f2 R2 l2 k2 o2 => q σ2 f2 R2 (l2.trans l1) (fun i hi => ?_) fun a z => o1 a (o2 a z)
      rw [k2 i (fun z => hi (List.mem_append_right _ z)), k1 i (fun z => hi (List.mem_append_left _ z))]
def mTup (n : Nat) (m : List D → Env → Option Env) : MG := fun d ρ => match d with
  | .tup ds => if ds.length = n then m ds ρ else none
  | _ => none
theorem ig_tup {js : List Nat} {n : Nat} {g : TGs} {m : List D → Env → Option Env} (h1 : ImpGs K js g m) : ImpG K js (gTup K n g) (mTup n m) := by
  intro B H σ ρ ρ' f0 v d R hd h Q q
  cases hd with
  | tup a b =>
    rename_i ad xs ds
    have h : (if ds.length = n then m ds ρ else none) = some ρ' := h
    by_cases hz : ds.length = n
    · rw [if_pos hz] at h
      exact ⟨_, _, rfl, ex_t R.ex a, by rw [b.len]; exact hz, h1 B H σ ρ ρ' f0 _ _ R b h Q q⟩
    · rw [if_neg hz] at h
      cases h
  | _ => cases h
end
end DL
end
section
set_option maxRecDepth 100000
set_option maxHeartbeats 2000000
namespace DL
open PySem PySem.Spec PyProof.Rows L2
open Evl (Ex ex_rd ex_l ex_t)
section
variable {K : PySem.W.Frag} {ct : Ct} {E : XK} {B H B' H' B1 H1 B2 H2 : Hp} {σ σ' : L2.St} {ρ ρ' : Env} {f0 f1 f2 : Fps} {v : V} {r : Vl} {f g : List Addr}

theorem ItD.mono {J : It} {l : List D} (e : Ex B B') (h : ItD K B J l) : ItD K B' J l := fun B2 H2 e1 e2 i => h B2 H2 (e.trans e1) e2 i

def R.noX {α : Type} : R α → R α
  | .ok a => .ok a
  | _ => .bad
def emps (ρ : Env) : List Nat → Env
  | [] => ρ
  | v :: vs => (emps ρ vs).set v .emp
def back (ρ0 ρ : Env) : List Nat → Env
  | [] => ρ
  | v :: vs => match ρ0[v]? with
    | some (.sh d) => (back ρ0 ρ vs).set v (.sh d)
    | _ => back ρ0 ρ vs
def fpsW (f : Fps) : List Nat → Fps
  | [] => f
  | v :: vs => fpSet (fpsW f vs) v []
theorem Rel.wipe (R : Rel K B H σ ρ f0) : ∀ vs : List Nat, Rel K B H (L2.wipe σ vs) (emps ρ vs) (fpsW f0 vs)
  | [] => R
  | v :: vs => (R.wipe vs).empSl v none
theorem owned_fpsW {a : Addr} : ∀ {vs : List Nat}, Owned (fpsW f0 vs) a → Owned f0 a
  | [], h => h
  | v :: vs, h => by
    rcases owned_set h with z | z
    · exact owned_fpsW z
    · exact (nomatch z)
theorem emps_in {i : Nat} : ∀ {vs : List Nat}, i ∈ vs → i < ρ.length → (emps ρ vs)[i]? = some .emp
  | [], h, _ => (nomatch h)
  | v :: vs, h, hl => by
    have hl' : i < (emps ρ vs).length := by
      have e : ∀ vs : List Nat, (emps ρ vs).length = ρ.length := by
        intro vs
        induction vs with
        | nil => rfl
        | cons v vs ih => unfold emps; rw [List.length_set, ih]
      rw [e]; exact hl
    unfold emps
    by_cases e : i = v
    · subst e
      rw [List.getElem?_set_self hl']
    · rw [List.getElem?_set_ne (Ne.symm e)]
      rcases List.mem_cons.mp h with z | z
      · exact absurd z e
      · exact emps_in z hl
theorem emps_len : ∀ vs : List Nat, (emps ρ vs).length = ρ.length
  | [] => rfl
  | v :: vs => by unfold emps; rw [List.length_set, emps_len vs]
theorem emps_out {i : Nat} : ∀ {vs : List Nat}, i ∉ vs → (emps ρ vs)[i]? = ρ[i]?
  | [], _ => rfl
  | v :: vs, h => by
    unfold emps
    rw [List.getElem?_set_ne (fun e => h (by rw [e]; simp)), emps_out fun z => h (List.mem_cons_of_mem _ z)]
theorem emps_idem (vs : List Nat) : emps (emps ρ vs) vs = emps ρ vs := by
  apply List.ext_getElem?
  intro k
  by_cases e : k ∈ vs
  · by_cases hl : k < ρ.length
    · rw [emps_in e (by rw [emps_len]; exact hl), emps_in e hl]
    · rw [List.getElem?_eq_none (by rw [emps_len, emps_len]; omega), List.getElem?_eq_none (by rw [emps_len]; omega)]
  · rw [emps_out e]
theorem Rel.back {ρ0 : Env} {B0 H0 : Hp} (R0 : Rel K B0 H0 σ ρ0 f0) (e : Ex B0 B) : ∀ {vs us : List Nat}, (∀ i ∈ us, i ∈ vs) → Rel K B H (L2.wipe σ vs) ρ f1 → (∀ i ∈ vs, ∀ s, ρ[i]? = some s → s = .emp) →
    Rel K B H σ (back ρ0 ρ us) f1 := by
  intro vs us hu R hv
  have out : ∀ i, i ∉ vs → (L2.wipe σ vs)[i]? = σ[i]? := fun i hi => wipe_out hi
  have fe : ∀ i ∈ vs, f1 i = [] := fun i hi => by
    cases q : ρ[i]? with
    | none => exact R.out i q
    | some s =>
      have ok := R.ok i s q
      rw [hv i hi s q] at ok
      exact ok
  have lenb : ∀ us : List Nat, (DL.back ρ0 ρ us).length = ρ.length := by
    intro us
    induction us with
    | nil => rfl
    | cons u us ih =>
      unfold DL.back
      split
      · rw [List.length_set, ih]
      · exact ih
  have key : ∀ us : List Nat, (∀ i ∈ us, i ∈ vs) → ∀ i s, (DL.back ρ0 ρ us)[i]? = some s → SlOk K B H (σ[i]?).join s (f1 i) := by
    intro us
    induction us with
    | nil =>
      intro _ i s q
      by_cases hi : i ∈ vs
      · rw [hv i hi s q, fe i hi]
        rfl
      · have ok := R.ok i s q
        rw [out i hi] at ok
        exact ok
    | cons u us ih =>
      intro hu i s q
      unfold DL.back at q
      have hus : ∀ i ∈ us, i ∈ vs := fun i hi => hu i (List.mem_cons_of_mem _ hi)
      split at q
      · rename_i d hd
        by_cases e1 : i = u
        · subst e1
          have hl : i < (DL.back ρ0 ρ us).length := by
            have := (List.getElem?_eq_some_iff.mp q).1
            rwa [List.length_set] at this
          rw [List.getElem?_set_self hl] at q
          cases q
          obtain ⟨_, y, e2, h1⟩ := R0.ok i _ hd
          exact ⟨fe i (hu i (by simp)), y, e2, h1.mono e⟩
        · rw [List.getElem?_set_ne (Ne.symm e1)] at q
          exact ih hus i s q
      · exact ih hus i s q
  refine ⟨?_, R.ex, R.pl, key us hu, fun i q => R.out i ?_, R.dis, R.off⟩
  · rw [lenb, ← R.len, wipe_length]
  · rw [List.getElem?_eq_none_iff] at q ⊢
    rw [lenb] at q
    exact q
def lcLoop (mg : MG) (mt : MT) (me : MX) (vs : List Nat) : List D → Env → List D → R (List D × Env)
  | [], ρ, acc => .ok (acc, ρ)
  | d :: ds, ρ, acc => rdO (mg d ρ) fun ρ1 => R.bind (R.noX (mt ρ1)) fun b => if b.1 = true then
      R.bind (R.noX (me b.2)) fun v => rdO (share v.2 v.1) fun p => if szOk (acc.length + 1) = true then lcLoop mg mt me vs ds (emps p.2 vs) (acc ++ [p.1]) else .bad
    else lcLoop mg mt me vs ds (emps b.2 vs) acc
def xLc (mi : MI) (mg : MG) (mt : MT) (me : MX) (vs : List Nat) : MX := fun ρ => R.bind (mi ρ) fun a => R.bind (lcLoop mg mt me vs a.1 (emps a.2 vs) []) fun p => .ok (.own p.1, back a.2 p.2 vs)
def E0 : XK := fun _ _ _ => False
theorem R.bind_assoc {α β γ : Type} {m : R α} {f : α → R β} {g : β → R γ} : R.bind (R.bind m f) g = R.bind m fun a => R.bind (f a) g := by cases m <;> rfl
theorem noX_ok {α : Type} {m : R α} {a : α} (h : R.noX m = .ok a) : m = .ok a := by
  cases m with
  | ok b => cases h; rfl
  | _ => cases h
theorem Post.noX {α β : Type} {m : R α} {k : α → R β} {ok : β → Prop} (h : Post ct E H f0 (R.bind (R.noX m) k) ok) : ∃ a, m = .ok a ∧ Post ct E H f0 (k a) ok := by
  cases m with
  | ok a => exact ⟨a, rfl, h⟩
  | bad => exact h.elim
  | exc c p => exact h.elim
theorem mem_wipe_eq {vs js : List Nat} (hj : ∀ j ∈ js, j ∈ vs) (hl : σ'.length = σ.length) (k : ∀ i, i ∉ js → σ'[i]? = (L2.wipe σ vs)[i]?) : L2.wipe σ' vs = L2.wipe σ vs := by
  apply List.ext_getElem?
  intro i
  by_cases hi : i ∈ vs
  · have w : ∀ τ : L2.St, ∀ vs : List Nat, i ∈ vs → i < τ.length → (L2.wipe τ vs)[i]? = some none := by
      intro τ vs
      induction vs with
      | nil => intro h; exact (nomatch h)
      | cons v vs ih =>
        intro h hlt
        unfold L2.wipe
        by_cases e : v = i
        · subst e
          rw [List.getElem?_set_self (by rw [wipe_length]; exact hlt)]
        · rw [List.getElem?_set_ne e]
          rcases List.mem_cons.mp h with z | z
          · exact absurd z.symm e
          · exact ih z hlt
    by_cases hlt : i < σ.length
    · rw [w σ' vs hi (by rw [hl]; exact hlt), w σ vs hi hlt]
    · rw [List.getElem?_eq_none (by rw [wipe_length, hl]; omega), List.getElem?_eq_none (by rw [wipe_length]; omega)]
  · rw [wipe_out hi, wipe_out hi, k i fun z => hi (hj i z), wipe_out hi]
structure Aside (K : PySem.W.Frag) (B H : Hp) (f : Fps) (D0 : Addr) (acc : List D) : Prop where
  at_ : ∃ xs, H D0 = some (.lst xs) ∧ DVs K B xs acc
  off : B D0 = none ∧ ¬ Owned f D0
theorem Aside.frm {D0 : Addr} {acc : List D} (x : Aside K B H f0 D0 acc) {P : Addr → Prop} (h : Frm B H (Owned f0) B' H' P) (hP : ∀ a, Owned f1 a → P a) : Aside K B' H' f1 D0 acc := by
  obtain ⟨xs, h1, h2⟩ := x.at_
  have ne : H D0 ≠ none := by rw [h1]; simp
  exact ⟨⟨xs, h.keep _ _ h1 x.off.2, h2.mono h.bb⟩, h.off _ x.off.1 ne x.off.2, fun z => h.apart ne x.off.2 (hP _ z)⟩
theorem Rel.grow {D0 : Addr} {xs : List V} (R : Rel K B H σ ρ f0) (h1 : B D0 = none) (h2 : ¬ Owned f0 D0) : Rel K B (upd H D0 (.lst xs)) σ ρ f0 where
  len := R.len
  ex := fun a o q => by
    rw [upd_ne (fun e => by rw [e, h1] at q; cases q)]
    exact R.ex a o q
  pl := R.pl
  ok := fun i s q => by
    have ok := R.ok i s q
    have ne : ∀ a ∈ f0 i, a ≠ D0 := fun a ha e => h2 ⟨i, by rw [← e]; exact ha⟩
    cases s with
    | emp => exact ok
    | sh d => exact ok
    | own ds =>
      obtain ⟨p, ys, e1, e2, e3, e4⟩ := ok
      refine ⟨p, ys, e1, e2, ?_, e4⟩
      rw [upd_ne (ne p (by rw [e2]; simp))]
      exact e3
    | own2 l =>
      obtain ⟨p, ps, e1, e2, e3, e4, e5⟩ := ok
      refine ⟨p, ps, e1, e2, e3, ?_, e5.to (fun _ _ q => q) fun q hq o e => ?_⟩
      · rw [upd_ne (ne p (by rw [e2]; simp))]
        exact e4
      · rw [upd_ne (ne q (by rw [e2]; exact List.mem_cons_of_mem _ hq))]
        exact e
    | drw st =>
      obtain ⟨a, w, c, e1, e2, e3, e4, e5, e6⟩ := ok
      refine ⟨a, w, c, e1, e2, e3, ?_, ?_, e6⟩
      · rw [upd_ne (ne a (by rw [e2]; simp))]
        exact e4
      · rw [upd_ne (ne w (by rw [e2]; simp))]
        exact e5
    | tab T d => exact ⟨ok.1.to fun a ha o e => by rw [upd_ne (ne a ha)]; exact e, ok.2⟩
  out := R.out
  dis := R.dis
  off := fun i a ha => ⟨(R.off i a ha).1, by
    rw [upd_ne (fun e => h2 ⟨i, by rw [← e]; exact ha⟩)]
    exact (R.off i a ha).2⟩
theorem frm_upd {D0 : Addr} {o : HO} {P : Addr → Prop} (h : P D0) : Frm B H P B (upd H D0 o) P where
  bb := fun _ _ q => q
  keep := fun a u q n => by rw [upd_ne (fun e => n (by rw [e]; exact h))]; exact q
  off := fun a q _ _ => q
  own := fun a z => .inl z
  dom := fun a q => by
    by_cases e : a = D0
    · rw [e, upd_same]; simp
    · rw [upd_ne e]; exact q
theorem im_lc {wi : TI} {gg : TG} {tt : TT} {te : TE} {vs js : List Nat} {mi : MI} {mg : MG} {mt : MT} {me : MX} (hi : ImpI K ct E wi mi) (hg : ImpG K js gg mg) (ht : ImpT K ct E0 tt mt) (he : Imp K ct E0 te me) (hj : ∀ j ∈ js, j ∈ vs) :
    Imp K ct E (tLc wi gg tt te vs) (xLc mi mg mt me vs) := by
  intro B H σ ρ f0 Q R h
  refine hi B H σ ρ f0 _ R (h.first fun a ea h J B1 H1 f1 x itd => ?_)
  intro D0 hD
  have bD : B1 D0 = none := Rel.fresh x.rel.ex hD
  have oD : ¬ Owned f1 D0 := fun ⟨i, hi⟩ => (x.rel.off i _ hi).2 hD
  -- the invariant
  refine ⟨fun i m H' => m = a.1.length - i ∧ i ≤ a.1.length ∧ ∃ (B' : Hp) (ρ' : Env) (f' : Fps) (acc : List D), Rel K B' H' (L2.wipe σ vs) ρ' f' ∧ emps ρ' vs = ρ' ∧ ρ'.length = a.2.length ∧ Aside K B' H' f' D0 acc ∧ Frm B1 H1 (Owned f1) B' H' (fun a => Owned f' a ∨ a = D0) ∧
      Post ct E H f0 (DL.R.bind (lcLoop mg mt me vs (a.1.drop i) ρ' acc) fun p => .ok (.own p.1, DL.back a.2 p.2 vs)) (XOk K B H σ f0 Q), ⟨a.1.length, by simp, Nat.zero_le _, B1, emps a.2 vs, fpsW f1 vs, [], ?_, ?_, ?_, ?_, ?_, ?_⟩, ?_⟩
  · exact (x.rel.wipe vs).grow bD fun z => oD (owned_fpsW z)
  · exact emps_idem vs
  · exact emps_len vs
  · exact ⟨⟨[], upd_same, .nil⟩, bD, fun z => oD (owned_fpsW z)⟩
  · refine ⟨fun _ _ q => q, fun b o q n => ?_, fun b q _ _ => q, fun b z => ?_, fun b q => ?_⟩
    · rw [upd_ne (ne_of_none q hD)]; exact q
    · rcases z with z | z
      · exact .inl (owned_fpsW z)
      · rw [z]; exact .inr hD
    · by_cases e : b = D0
      · rw [e, upd_same]; simp
      · rw [upd_ne e]; exact q
  · exact h
  · rintro i m H' ⟨rfl, hile, B', ρ', f', acc, R', idem, len', as, fr, h⟩
    have itd' : ItD K B' J a.1 := itd.mono fr.bb
    by_cases hlt : i < a.1.length
    · have dr : a.1.drop i = a.1[i] :: a.1.drop (i + 1) := (List.drop_eq_getElem_cons hlt)
      rw [dr] at h
      have q := itd' B' H' (fun _ _ q => q) R'.ex i
      refine .inr ⟨q.1 hlt, fun H2 => ∃ (B' : Hp) (ρ' : Env) (f' : Fps) (acc : List D), Rel K B' H2 (L2.wipe σ vs) ρ' f' ∧ emps ρ' vs = ρ' ∧ ρ'.length = a.2.length ∧ Aside K B' H2 f' D0 acc ∧ Frm B1 H1 (Owned f1) B' H2 (fun a => Owned f' a ∨ a = D0) ∧
        Post ct E H f0 (DL.R.bind (lcLoop mg mt me vs (a.1.drop (i + 1)) ρ' acc) fun p => .ok (.own p.1, DL.back a.2 p.2 vs)) (XOk K B H σ f0 Q), fun H2 hN => ⟨a.1.length - (i + 1), by omega, rfl, hlt, hN⟩, fun y H2 hy => ?_⟩
      obtain ⟨B2, e1, e2, e3, e4, e5', hd⟩ := q.2.2 y H2 a.1[i] (by simp) hy
      have n2 : ∀ P : Addr → Prop, Frm B' H' P B2 H2 P := fun P => Frm.new e1 e2 e4
      have R2 : Rel K B2 H2 (L2.wipe σ vs) ρ' f' := R'.frm (n2 fun _ => False) e3 (e5' R'.pl) fun _ _ z => z
      have as2 : Aside K B2 H2 f' D0 acc := as.frm (n2 _) fun _ z => z
      have fr2 : Frm B1 H1 (Owned f1) B2 H2 (fun a => Owned f' a ∨ a = D0) := fr.trans (n2 _)
      have h : Post ct E H f0 (DL.R.bind (rdO (mg a.1[i] ρ') fun ρ1 => DL.R.bind (DL.R.noX (mt ρ1)) fun b => if b.1 = true then
          DL.R.bind (DL.R.noX (me b.2)) fun v => rdO (share v.2 v.1) fun p => if szOk (acc.length + 1) = true then lcLoop mg mt me vs (a.1.drop (i + 1)) (emps p.2 vs) (acc ++ [p.1]) else .bad
        else lcLoop mg mt me vs (a.1.drop (i + 1)) (emps b.2 vs) acc) fun p => .ok (.own p.1, DL.back a.2 p.2 vs)) (XOk K B H σ f0 Q) := h
      cases eg : mg a.1[i] ρ' with
      | none => rw [eg] at h; exact h.elim
      | some ρ1 =>
      rw [eg] at h
      refine hg B2 H2 _ ρ' ρ1 f' y a.1[i] R2 hd eg _ fun σ3 f3 R3 l3 k3 o3 => ⟨mem_wipe_eq hj (l3.trans (wipe_length σ vs)) k3, ?_⟩
      have we : L2.wipe σ3 vs = L2.wipe σ vs := mem_wipe_eq hj (l3.trans (wipe_length σ vs)) k3
      have fr3 : Frm B2 H2 (Owned f') B2 H2 (Owned f3) := Frm.refl.to fun a z => .inl (o3 a z)
      have as3 : Aside K B2 H2 f3 D0 acc := as2.frm fr3 fun _ z => z
      have h : Post ct E H f0 (DL.R.bind (DL.R.bind (DL.R.noX (mt ρ1)) fun b => if b.1 = true then
          DL.R.bind (DL.R.noX (me b.2)) fun v => rdO (share v.2 v.1) fun p => if szOk (acc.length + 1) = true then lcLoop mg mt me vs (a.1.drop (i + 1)) (emps p.2 vs) (acc ++ [p.1]) else .bad
        else lcLoop mg mt me vs (a.1.drop (i + 1)) (emps b.2 vs) acc) fun p => .ok (.own p.1, DL.back a.2 p.2 vs)) (XOk K B H σ f0 Q) := h
      rw [DL.R.bind_assoc] at h
      obtain ⟨b, eb, h⟩ := Post.noX (m := mt ρ1) h
      have h : Post ct E H f0 (DL.R.bind (if b.1 = true then
          DL.R.bind (DL.R.noX (me b.2)) fun v => rdO (share v.2 v.1) fun p => if szOk (acc.length + 1) = true then lcLoop mg mt me vs (a.1.drop (i + 1)) (emps p.2 vs) (acc ++ [p.1]) else .bad
        else lcLoop mg mt me vs (a.1.drop (i + 1)) (emps b.2 vs) acc) fun p => .ok (.own p.1, DL.back a.2 p.2 vs)) (XOk K B H σ f0 Q) := h
      have len1 : ρ1.length = a.2.length := by
        rw [← len', ← R2.len, ← R3.len]
        exact l3
      refine ht B2 H2 σ3 ρ1 f3 _ R3 ?_
      rw [eb]
      intro B4 H4 f4 y4
      have as4 : Aside K B4 H4 f4 D0 acc := as3.frm y4.frm fun _ z => z
      have fr4 : Frm B1 H1 (Owned f1) B4 H4 (fun a => Owned f4 a ∨ a = D0) := fr2.trans ((fr3.trans y4.frm).side (· = D0))
      have len4 : b.2.length = a.2.length := by
        rw [← len1, ← y4.rel.len, ← R3.len]
      obtain ⟨k, ρ4⟩ := b
      cases k with
      | false =>
        show ∃ (B' : Hp) (ρ' : Env) (f' : Fps) (acc : List D), _
        refine ⟨B4, emps ρ4 vs, fpsW f4 vs, acc, we ▸ y4.rel.wipe vs, emps_idem vs, (emps_len vs).trans len4, ⟨as4.at_, as4.off.1, fun z => as4.off.2 (owned_fpsW z)⟩, fr4.to fun b z => .inl (z.imp owned_fpsW id), h⟩
      | true =>
        show te σ3 H4 _
        have h : Post ct E H f0 (DL.R.bind (DL.R.bind (DL.R.noX (me ρ4)) fun v => rdO (share v.2 v.1) fun p => if szOk (acc.length + 1) = true then lcLoop mg mt me vs (a.1.drop (i + 1)) (emps p.2 vs) (acc ++ [p.1]) else .bad) fun p => .ok (.own p.1, DL.back a.2 p.2 vs)) (XOk K B H σ f0 Q) := h
        have h : Post ct E H f0 (DL.R.bind (DL.R.noX (me ρ4)) fun v => DL.R.bind (rdO (share v.2 v.1) fun p => if szOk (acc.length + 1) = true then lcLoop mg mt me vs (a.1.drop (i + 1)) (emps p.2 vs) (acc ++ [p.1]) else .bad) fun p => .ok (.own p.1, DL.back a.2 p.2 vs)) (XOk K B H σ f0 Q) := by
          cases em : DL.R.noX (me ρ4) <;> (rw [em] at h; exact h)
        obtain ⟨w, ew, h⟩ := Post.noX h
        refine he B4 H4 σ3 ρ4 f4 _ y4.rel ?_
        rw [ew]
        intro u B5 H5 f5 f z
        have h : Post ct E H f0 (DL.R.bind (rdO (share w.2 w.1) fun p => if szOk (acc.length + 1) = true then lcLoop mg mt me vs (a.1.drop (i + 1)) (emps p.2 vs) (acc ++ [p.1]) else .bad) fun p => .ok (.own p.1, DL.back a.2 p.2 vs)) (XOk K B H σ f0 Q) := h
        cases es : share w.2 w.1 with
        | none => rw [es] at h; exact h.elim
        | some p =>
        rw [es] at h
        have h : Post ct E H f0 (DL.R.bind (if szOk (acc.length + 1) = true then lcLoop mg mt me vs (a.1.drop (i + 1)) (emps p.2 vs) (acc ++ [p.1]) else .bad) fun p => .ok (.own p.1, DL.back a.2 p.2 vs)) (XOk K B H σ f0 Q) := h
        by_cases hz : szOk (acc.length + 1) = true
        · rw [if_pos hz] at h
          have as5 : Aside K B5 H5 f5 D0 acc := as4.frm z.frm fun _ q => .inl q
          have nf : D0 ∉ f := fun q => by
            obtain ⟨xs, q1, _⟩ := as4.at_
            exact z.frm.apart (by rw [q1]; simp) as4.off.2 (.inr q)
          obtain ⟨B6, f6, R6, hd6, e6, off6, _, fr6⟩ := share_ok (S := [D0]) (d := p.1) (ρ' := p.2) z.rel z.val z.off (fun b hb => by
            have eb : b = D0 := by simpa using hb
            rw [eb]
            exact ⟨as5.off.1, as5.off.2, nf⟩) es
          obtain ⟨xs, q1, q2⟩ := as5.at_
          have o6 := off6 D0 (by simp)
          refine ⟨xs, q1, Nat.lt_of_lt_of_le (Nat.lt_succ_self _) (by rw [q2.len]; exact szOk_le hz), ?_⟩
          have fr7 : Frm B1 H1 (Owned f1) B6 H5 (fun a => Owned f6 a ∨ a = D0) := (fr4.trans (z.frm.side (· = D0))).trans (fr6.side (· = D0))
          have len5 : p.2.length = a.2.length := by
            rw [← len4, ← R6.len, ← y4.rel.len]
          refine ⟨B6, emps p.2 vs, fpsW f6 vs, acc ++ [p.1], we ▸ (R6.grow o6.1 o6.2).wipe vs, emps_idem vs, (emps_len vs).trans len5, ⟨⟨xs ++ [u], upd_same, (q2.mono e6).app (.cons hd6 .nil)⟩, o6.1, fun q => o6.2 (owned_fpsW q)⟩,
            (fr7.trans (frm_upd (P := fun a => Owned f6 a ∨ a = D0) (.inr rfl))).to fun b q => .inl (q.imp owned_fpsW id), h⟩
        · rw [if_neg hz] at h
          exact h.elim
    · have e : i = a.1.length := by omega
      subst e
      have q := itd' B' H' (fun _ _ q => q) R'.ex a.1.length
      refine .inl ⟨q.2.1 rfl, ?_⟩
      rw [List.drop_length] at h
      have hv : ∀ i ∈ vs, ∀ s, ρ'[i]? = some s → s = .emp := fun i hi s hs => by
        have hs' : (emps ρ' vs)[i]? = some s := by rw [idem]; exact hs
        rw [emps_in hi (List.getElem?_eq_some_iff.mp hs).1] at hs'
        exact (Option.some.inj hs').symm
      obtain ⟨xs, q1, q2⟩ := as.at_
      exact h (.ref D0) B' H' f' [D0] ⟨Rel.back (vs := vs) x.rel fr.bb (fun _ z => z) R' hv, ⟨D0, xs, rfl, rfl, q1, q2⟩, fun b hb => by
        have eb : b = D0 := by simpa using hb
        rw [eb]
        exact as.off, (x.frm.trans fr).to fun b z => .inl (z.imp id fun q => by simpa using q)⟩
end
end DL
end
section
set_option maxRecDepth 100000
set_option maxHeartbeats 2000000
namespace DL
open PySem PySem.Spec PyProof.Rows L2
open Evl (Ex ex_rd ex_l ex_t)

inductive Out where
  | nx (ρ : Env)
  | rt (r : Vl) (ρ : Env)
  | bk (ρ : Env)
  | ct (ρ : Env)
abbrev MS := Env → R Out

section
variable {K : PySem.W.Frag} {ct : Ct} {E : XK} {B H B' H' B1 H1 B2 H2 : Hp} {σ σ' σ1 σ2 : L2.St} {ρ ρ' ρ1 ρ2 : Env} {f0 f1 f2 f' : Fps} {v : V} {r : Vl} {f g : List Addr} {fix : Nat → Bool} {D : Ends}

structure ResS (K : PySem.W.Frag) (B H : Hp) (σ : L2.St) (f0 : Fps) (fix : Nat → Bool) (σ' : L2.St) (ρ' : Env) (B' H' : Hp) (f' : Fps) : Prop where
  rel : Rel K B' H' σ' ρ' f'
  frm : Frm B H (Owned f0) B' H' (Owned f')
  fxd : ∀ i, fix i = true → σ'[i]? = σ[i]?
structure ResR (K : PySem.W.Frag) (B H : Hp) (σ : L2.St) (f0 : Fps) (fix : Nat → Bool) (v : V) (r : Vl) (σ' : L2.St) (ρ' : Env) (B' H' : Hp) (f' : Fps) (f : List Addr) : Prop where
  rel : Rel K B' H' σ' ρ' f'
  val : VlOk K B' H' [] v r f
  off : ∀ a ∈ f, B' a = none ∧ ¬ Owned f' a
  frm : Frm B H (Owned f0) B' H' (fun a => Owned f' a ∨ a ∈ f)
  fxd : ∀ i, fix i = true → σ'[i]? = σ[i]?
def OutOk (K : PySem.W.Frag) (B H : Hp) (σ : L2.St) (f0 : Fps) (fix : Nat → Bool) (D : Ends) : Out → Prop
  | .nx ρ' => ∀ σ' B' H' f', ResS K B H σ f0 fix σ' ρ' B' H' f' → D.nx σ' H'
  | .bk ρ' => ∀ σ' B' H' f', ResS K B H σ f0 fix σ' ρ' B' H' f' → D.bk σ' H'
  | .ct ρ' => ∀ σ' B' H' f', ResS K B H σ f0 fix σ' ρ' B' H' f' → D.ct σ' H'
  | .rt r ρ' => ∀ v σ' B' H' f' f, ResR K B H σ f0 fix v r σ' ρ' B' H' f' f → D.rt v H'
def ImpS (K : PySem.W.Frag) (ct : Ct) (E : XK) (fix : Nat → Bool) (t : TS) (m : MS) : Prop := ∀ (B H : Hp) (σ : L2.St) (ρ : Env) (f0 : Fps) (D : Ends), Rel K B H σ ρ f0 → Post ct E H f0 (m ρ) (OutOk K B H σ f0 fix D) → t D σ H

theorem ResS.refl (R : Rel K B H σ ρ f0) : ResS K B H σ f0 fix σ ρ B H f0 := ⟨R, .refl, fun _ _ => rfl⟩
theorem ResS.then (x : ResS K B H σ f0 fix σ1 ρ1 B1 H1 f1) (y : ResS K B1 H1 σ1 f1 fix σ2 ρ2 B2 H2 f2) : ResS K B H σ f0 fix σ2 ρ2 B2 H2 f2 := ⟨y.rel, x.frm.trans y.frm, fun i h => (y.fxd i h).trans (x.fxd i h)⟩
theorem ResS.thenR (x : ResS K B H σ f0 fix σ1 ρ1 B1 H1 f1) (y : ResR K B1 H1 σ1 f1 fix v r σ2 ρ2 B2 H2 f2 f) : ResR K B H σ f0 fix v r σ2 ρ2 B2 H2 f2 f := ⟨y.rel, y.val, y.off, x.frm.trans y.frm, fun i h => (y.fxd i h).trans (x.fxd i h)⟩
theorem ResT.s (x : ResT K B H σ f0 ρ1 B1 H1 f1) : ResS K B H σ f0 fix σ ρ1 B1 H1 f1 := ⟨x.rel, x.frm, fun _ _ => rfl⟩
theorem OutOk.late {o : Out} (x : ResS K B H σ f0 fix σ1 ρ1 B1 H1 f1) (h : OutOk K B H σ f0 fix D o) : OutOk K B1 H1 σ1 f1 fix D o := by
  cases o with
  | nx ρ' => exact fun σ' B' H' f' y => h σ' B' H' f' (x.then y)
  | bk ρ' => exact fun σ' B' H' f' y => h σ' B' H' f' (x.then y)
  | ct ρ' => exact fun σ' B' H' f' y => h σ' B' H' f' (x.then y)
  | rt r ρ' => exact fun v σ' B' H' f' f y => h v σ' B' H' f' f (x.thenR y)
theorem Post.lateS {m : R Out} (h : Post ct E H f0 m (OutOk K B H σ f0 fix D)) (x : ResS K B H σ f0 fix σ1 ρ1 B1 H1 f1) : Post ct E H1 f1 m (OutOk K B1 H1 σ1 f1 fix D) :=
  h.late x.frm (fun _ z => z) fun o _ q => q.late x

def sNext : MS := fun ρ => .ok (.nx ρ)
def sBrk : MS := fun ρ => .ok (.bk ρ)
def sCont : MS := fun ρ => .ok (.ct ρ)
theorem is_next : ImpS K ct E fix tNext sNext := fun B H σ ρ f0 D R h => h σ B H f0 (.refl R)
theorem is_brk : ImpS K ct E fix tBreak sBrk := fun B H σ ρ f0 D R h => h σ B H f0 (.refl R)
theorem is_cont : ImpS K ct E fix tCont sCont := fun B H σ ρ f0 D R h => h σ B H f0 (.refl R)
def sSeq (a b : MS) : MS := fun ρ => R.bind (a ρ) fun o => match o with
  | .nx ρ1 => b ρ1
  | o => .ok o
theorem is_seq {t u : TS} {a b : MS} (ha : ImpS K ct E fix t a) (hb : ImpS K ct E fix u b) : ImpS K ct E fix (tSeq t u) (sSeq a b) := by
  intro B H σ ρ f0 D R h
  refine ha B H σ ρ f0 { D with nx := u D } R (h.first fun o eo h => ?_)
  cases o with
  | nx ρ1 => exact fun σ1 B1 H1 f1 x => hb B1 H1 σ1 ρ1 f1 D x.rel (Post.lateS (m := b ρ1) h x)
  | bk ρ1 => exact h
  | ct ρ1 => exact h
  | rt r ρ1 => exact h
def sIf (c : MT) (a b : MS) : MS := fun ρ => R.bind (c ρ) fun p => if p.1 = true then a p.2 else b p.2
theorem is_if {c : TT} {t u : TS} {m : MT} {a b : MS} (hc : ImpT K ct E c m) (ha : ImpS K ct E fix t a) (hb : ImpS K ct E fix u b) : ImpS K ct E fix (tIfS c t u) (sIf m a b) := by
  intro B H σ ρ f0 D R h
  refine hc B H σ ρ f0 _ R (h.first fun p ep h B1 H1 f1 x => ?_)
  obtain ⟨k, ρ1⟩ := p
  cases k with
  | true =>
    show t D σ H1
    exact ha B1 H1 σ ρ1 f1 D x.rel (Post.lateS (m := a ρ1) h x.s)
  | false =>
    show u D σ H1
    exact hb B1 H1 σ ρ1 f1 D x.rel (Post.lateS (m := b ρ1) h x.s)
def put (ρ : Env) (i : Nat) : Vl → Option Env
  | .sh d => if i < ρ.length then some (ρ.set i (.sh d)) else none
  | .own ds => if i < ρ.length then some (ρ.set i (.own ds)) else none
  | .drw st => if i < ρ.length then some (ρ.set i (.drw st)) else none
  | .bor j => (share ρ (.bor j)).bind fun p => if i < p.2.length then some (p.2.set i (.sh p.1)) else none
theorem share_len {ρ ρ' : Env} {r : Vl} {d : DL.D} (h : share ρ r = some (d, ρ')) : ρ'.length = ρ.length := by
  cases r with
  | sh e => cases h; rfl
  | own e => cases h; rfl
  | drw e => cases h
  | bor j =>
    cases e : ρ[j]? with
    | none => simp [share, e] at h
    | some s =>
      cases s with
      | emp => simp [share, e] at h
      | own2 l => simp [share, e] at h
      | drw st => simp [share, e] at h
      | tab T d => simp [share, e] at h
      | sh d => simp [share, e] at h; rw [h.2]
      | own ds => simp [share, e] at h; rw [← h.2, List.length_set]
theorem Res.put {i : Nat} (x : Res K B H σ f0 v r ρ B1 H1 f1 f) (h : DL.put ρ i r = some ρ') (hf : fix i = false) : ∃ B2 f2, ResS K B H σ f0 fix (σ.set i (some v)) ρ' B2 H1 f2 := by
  have fx : ∀ j, fix j = true → (σ.set i (some v))[j]? = σ[j]? := fun j hj => by
    rw [List.getElem?_set_ne (fun e => by rw [e, hj] at hf; cases hf)]
  have go : ∀ (s : Sl), i < ρ.length → SlOk K B1 H1 (some v) s f → ResS K B H σ f0 fix (σ.set i (some v)) (ρ.set i s) B1 H1 (fpSet f1 i f) := fun s hi q =>
    ⟨x.rel.setSl hi q x.off, x.frm.to fun a z => .inl (owned_set z), fx⟩
  cases r with
  | sh d =>
    have h : (if i < ρ.length then some (ρ.set i (.sh d)) else none) = some ρ' := h
    split at h
    · rename_i hi
      cases h
      exact ⟨_, _, go (.sh d) hi x.val⟩
    · cases h
  | own d =>
    have h : (if i < ρ.length then some (ρ.set i (.own d)) else none) = some ρ' := h
    split at h
    · rename_i hi
      cases h
      exact ⟨_, _, go (.own d) hi x.val⟩
    · cases h
  | drw d =>
    have h : (if i < ρ.length then some (ρ.set i (.drw d)) else none) = some ρ' := h
    split at h
    · rename_i hi
      cases h
      exact ⟨_, _, go (.drw d) hi x.val⟩
    · cases h
  | bor j =>
    have h : ((share ρ (.bor j)).bind fun p => if i < p.2.length then some (p.2.set i (.sh p.1)) else none) = some ρ' := h
    cases e : share ρ (.bor j) with
    | none => rw [e] at h; cases h
    | some p =>
      rw [e] at h
      have h : (if i < p.2.length then some (p.2.set i (.sh p.1)) else none) = some ρ' := h
      split at h
      · rename_i hi
        cases h
        obtain ⟨B2, f2, y, hd⟩ := x.shared (ρ' := p.2) (d := p.1) e
        exact ⟨B2, _, ⟨y.rel.setSl hi ⟨rfl, v, rfl, hd⟩ fun _ z => (nomatch z), y.frm.to fun a z => .inl ((owned_set z).elim id fun q => (nomatch q)), fx⟩⟩
      · cases h
def sAsg (i : Nat) (m : MX) : MS := fun ρ => R.bind (m ρ) fun a => rdO (put a.2 i a.1) fun ρ' => .ok (.nx ρ')
theorem is_asg {i : Nat} {t : TE} {m : MX} (ha : Imp K ct E t m) (hf : fix i = false := by rfl) : ImpS K ct E fix (tAsg t (gName i)) (sAsg i m) := by
  intro B H σ ρ f0 D R h
  refine ha B H σ ρ f0 _ R (h.first fun a ea h v B1 H1 f1 f x => ?_)
  obtain ⟨ρ', e, h⟩ := h.get
  obtain ⟨B2, f2, y⟩ := x.put (fix := fix) e hf
  exact h _ _ _ _ y
def sAsgG (mg : MG) (m : MX) : MS := fun ρ => R.bind (m ρ) fun a => rdO (share a.2 a.1) fun p => rdO (mg p.1 p.2) fun ρ' => .ok (.nx ρ')
theorem is_asgG {js : List Nat} {gg : TG} {mg : MG} {t : TE} {m : MX} (hg : ImpG K js gg mg) (ha : Imp K ct E t m) (hf : ∀ j ∈ js, fix j = false) : ImpS K ct E fix (tAsg t gg) (sAsgG mg m) := by
  intro B H σ ρ f0 D R h
  refine ha B H σ ρ f0 _ R (h.first fun a ea h v B1 H1 f1 f x => ?_)
  obtain ⟨p, e, h⟩ := h.get
  obtain ⟨ρ', e2, h⟩ := h.get
  obtain ⟨B2, f2, y, hd⟩ := x.shared (ρ' := p.2) (d := p.1) e
  refine hg B2 H1 σ p.2 ρ' f2 v p.1 y.rel hd e2 _ fun σ' f' R' l k o => h σ' B2 H1 f' ⟨R', y.frm.to fun a z => .inl (o a z), fun i hi => k i fun z => ?_⟩
  rw [hf i z] at hi
  cases hi
def sDrop (m : MX) : MS := fun ρ => R.bind (m ρ) fun a => .ok (.nx a.2)
theorem is_drop {t : TE} {m : MX} (ha : Imp K ct E t m) : ImpS K ct E fix (tDrop t) (sDrop m) := by
  intro B H σ ρ f0 D R h
  exact ha B H σ ρ f0 _ R (h.first fun a ea h v B1 H1 f1 f x => h _ _ _ _ x.drop.s)
def mv (ρ : Env) : Vl → Option (Vl × Env)
  | .bor i => match ρ[i]? with
    | some (.own ds) => some (.own ds, ρ.set i .emp)
    | some (.drw st) => some (.drw st, ρ.set i .emp)
    | some (.sh d) => some (.sh d, ρ)
    | _ => none
  | r => some (r, ρ)
def sRet (m : MX) : MS := fun ρ => R.bind (m ρ) fun a => rdO (mv a.2 a.1) fun p => .ok (.rt p.1 p.2)
theorem SlOk.vl {s : Sl} (x : SlOk K B H (some v) s f) : (∀ d, s = .sh d → VlOk K B H [] v (.sh d) f) ∧ (∀ d, s = .own d → VlOk K B H [] v (.own d) f) ∧ (∀ d, s = .drw d → VlOk K B H [] v (.drw d) f) :=
  ⟨fun d e => by subst e; exact x, fun d e => by subst e; exact x, fun d e => by subst e; exact x⟩
theorem set_same {l : L2.St} {i : Nat} {o : Option V} (h : l[i]? = some o) : l.set i o = l := by
  apply List.ext_getElem?
  intro k
  by_cases e : i = k
  · subst e
    rw [List.getElem?_set_self (List.getElem?_eq_some_iff.mp h).1, h]
  · rw [List.getElem?_set_ne e]
theorem Res.mv {r' : Vl} (x : Res K B H σ f0 v r ρ B1 H1 f1 f) (h : DL.mv ρ r = some (r', ρ')) : ∃ f2 g, ResR K B H σ f0 fix v r' σ ρ' B1 H1 f2 g := by
  have fx : ∀ j, fix j = true → σ[j]? = σ[j]? := fun _ _ => rfl
  cases r with
  | sh d => cases h; exact ⟨_, _, x.rel, x.val, x.off, x.frm, fx⟩
  | own d => cases h; exact ⟨_, _, x.rel, x.val, x.off, x.frm, fx⟩
  | drw d => cases h; exact ⟨_, _, x.rel, x.val, x.off, x.frm, fx⟩
  | bor i =>
    obtain ⟨e0, e1⟩ := x.val
    subst e0
    have hj : (σ[i]?).join = some v := by rw [e1]; rfl
    unfold DL.mv at h
    cases e : ρ[i]? with
    | none => simp only [e] at h; cases h
    | some s =>
      have ok := x.rel.ok i s e
      rw [hj] at ok
      have R2 := x.rel.empSl i (some v)
      rw [set_same e1] at R2
      have off : ∀ a ∈ f1 i, B1 a = none ∧ ¬ Owned (fpSet f1 i []) a := fun a ha => ⟨(x.rel.off i a ha).1, fun ⟨j, hj⟩ => by
        by_cases z : j = i
        · subst z
          rw [fpSet_same] at hj
          exact (nomatch hj)
        · rw [fpSet_ne z] at hj
          exact z (x.rel.dis j i a hj ha)⟩
      have fr : Frm B H (Owned f0) B1 H1 (fun a => Owned (fpSet f1 i []) a ∨ a ∈ f1 i) := x.frm.to fun a z => .inl (.inl (by
        rcases z with z | z
        · rcases owned_set z with q | q
          · exact q
          · exact (nomatch q)
        · exact ⟨i, z⟩))
      cases s with
      | emp => simp only [e] at h; cases h
      | own2 l => simp only [e] at h; cases h
      | tab T d => simp only [e] at h; cases h
      | own ds =>
        simp only [e] at h
        cases h
        exact ⟨_, _, R2, ok, off, fr, fx⟩
      | drw ds =>
        simp only [e] at h
        cases h
        exact ⟨_, _, R2, ok, off, fr, fx⟩
      | sh d =>
        simp only [e] at h
        cases h
        obtain ⟨q1, y, q2, q3⟩ := ok
        exact ⟨f1, [], x.rel, ⟨rfl, y, q2, q3⟩, fun _ z => (nomatch z), x.frm, fx⟩
theorem is_ret {t : TE} {m : MX} (ha : Imp K ct E t m) : ImpS K ct E fix (tRet t) (sRet m) := by
  intro B H σ ρ f0 D R h
  refine ha B H σ ρ f0 _ R (h.first fun a ea h v B1 H1 f1 f x => ?_)
  obtain ⟨p, e, h⟩ := h.get
  obtain ⟨f2, g, y⟩ := x.mv (fix := fix) (r' := p.1) (ρ' := p.2) e
  exact h _ _ _ _ _ _ y
def sRetN : MS := fun ρ => .ok (.rt (.sh .non) ρ)
theorem is_retN : ImpS K ct E fix tRetN sRetN := fun B H σ ρ f0 D R h => h .non σ B H f0 [] ⟨R, ⟨rfl, _, rfl, .non⟩, fun _ z => (nomatch z), Frm.refl.to fun a z => z.elim Or.inl fun q => (nomatch q), fun _ _ => rfl⟩
def shS : Option Sl → Option DL.D
  | some (.sh d) => some d
  | _ => none
def sAug (i : Nat) (gg : DL.D → DL.D → Option Vl) (m : MX) : MS := fun ρ => rdO (shS ρ[i]?) fun dx => R.bind (m ρ) fun a => rdO (rdv a.2 a.1) fun dy => rdO (gg dx dy) fun z => rdO (put a.2 i z) fun ρ' => .ok (.nx ρ')
theorem is_aug {i : Nat} {ti : TIp} {gg : DL.D → DL.D → Option Vl} {t : TE} {m : MX} (ho : OpI K ti gg) (ha : Imp K ct E t m) (hf : fix i = false := by rfl) : ImpS K ct E fix (tAug i t ti) (sAug i gg m) := by
  intro B H σ ρ f0 D R h
  obtain ⟨dx, e0, h⟩ := h.get
  have hs : ∃ x, σ[i]? = some (some x) ∧ DV K B x dx := by
    cases e : ρ[i]? with
    | none => rw [e] at e0; cases e0
    | some s =>
      rw [e] at e0
      have ok := R.ok i s e
      cases s with
      | sh d =>
        cases e0
        obtain ⟨_, y, q1, q2⟩ := ok
        refine ⟨y, ?_, q2⟩
        cases q : σ[i]? with
        | none => rw [q] at q1; cases q1
        | some o => rw [q] at q1; exact congrArg some q1
      | _ => cases e0
  obtain ⟨x, hx, hdx⟩ := hs
  refine ⟨x, hx, ha B H σ ρ f0 _ R (h.first fun a ea h y B1 H1 f1 f xx => ?_)⟩
  obtain ⟨dy, e1, h⟩ := h.get
  obtain ⟨z, e2, h⟩ := h.get
  obtain ⟨ρ', e3, h⟩ := h.get
  refine ho B1 H1 x y dx dy z xx.rel.ex (.of xx.rel.ex (hdx.mono xx.frm.bb)) (xx.val.rd xx.rel e1) e2 _ fun w B3 H3 k n => ?_
  obtain ⟨B2, f2, q⟩ := (xx.new n).put (fix := fix) e3 hf
  exact h _ _ _ _ q
def forLoop (mg : MG) (mb : MS) : List DL.D → Env → R Out
  | [], ρ => .ok (.nx ρ)
  | d :: ds, ρ => rdO (mg d ρ) fun ρ1 => R.bind (mb ρ1) fun o => match o with
    | .nx ρ2 => forLoop mg mb ds ρ2
    | .ct ρ2 => forLoop mg mb ds ρ2
    | .bk ρ2 => .ok (.nx ρ2)
    | .rt r ρ2 => .ok (.rt r ρ2)
def sFor (mi : MI) (mg : MG) (mb : MS) : MS := fun ρ => R.bind (mi ρ) fun a => forLoop mg mb a.1 a.2
theorem is_for {js : List Nat} {wi : TI} {gg : TG} {tb : TS} {mi : MI} {mg : MG} {mb : MS} (hi : ImpI K ct E wi mi) (hg : ImpG K js gg mg) (hb : ImpS K ct E fix tb mb) (hf : ∀ j ∈ js, fix j = false) : ImpS K ct E fix (tFor wi gg tb) (sFor mi mg mb) := by
  intro B H σ ρ f0 D R h
  refine hi B H σ ρ f0 _ R (h.first fun a ea h J B1 H1 f1 x itd => ?_)
  have bk : ∀ j, fix j = true → j ∉ js := fun j hj z => by
    rw [hf j z] at hj
    cases hj
  refine ⟨fun i m σ' H' => m = a.1.length - i ∧ i ≤ a.1.length ∧ ∃ (B' : Hp) (ρ' : Env) (f' : Fps), ResS K B H σ f0 fix σ' ρ' B' H' f' ∧ ItD K B' J a.1 ∧ Post ct E H f0 (forLoop mg mb (a.1.drop i) ρ') (OutOk K B H σ f0 fix D),
    ⟨a.1.length, by simp, Nat.zero_le _, B1, a.2, f1, x.s, itd, h⟩, ?_⟩
  rintro i m σ' H' ⟨rfl, hile, B', ρ', f', y, itd', h⟩
  by_cases hlt : i < a.1.length
  · have dr : a.1.drop i = a.1[i] :: a.1.drop (i + 1) := (List.drop_eq_getElem_cons hlt)
    rw [dr] at h
    have q := itd' B' H' (fun _ _ q => q) y.rel.ex i
    refine .inr ⟨q.1 hlt, fun σ2 H2 => ∃ (B' : Hp) (ρ' : Env) (f' : Fps), ResS K B H σ f0 fix σ2 ρ' B' H2 f' ∧ ItD K B' J a.1 ∧ Post ct E H f0 (forLoop mg mb (a.1.drop (i + 1)) ρ') (OutOk K B H σ f0 fix D), fun σ2 H2 hN => ⟨a.1.length - (i + 1), by omega, rfl, hlt, hN⟩, fun w H2 hy => ?_⟩
    obtain ⟨B2, e1, e2, e3, e4, e5', hd⟩ := q.2.2 w H2 a.1[i] (by simp) hy
    have n2 : ∀ P : Addr → Prop, Frm B' H' P B2 H2 P := fun P => Frm.new e1 e2 e4
    have R2 : Rel K B2 H2 σ' ρ' f' := y.rel.frm (n2 fun _ => False) e3 (e5' y.rel.pl) fun _ _ z => z
    have h : Post ct E H f0 (rdO (mg a.1[i] ρ') fun ρ1 => DL.R.bind (mb ρ1) fun o => match o with
      | .nx ρ2 => forLoop mg mb (a.1.drop (i + 1)) ρ2
      | .ct ρ2 => forLoop mg mb (a.1.drop (i + 1)) ρ2
      | .bk ρ2 => .ok (.nx ρ2)
      | .rt r ρ2 => .ok (.rt r ρ2)) (OutOk K B H σ f0 fix D) := h
    obtain ⟨ρ1, eg, h⟩ := h.get
    refine hg B2 H2 _ ρ' ρ1 f' w a.1[i] R2 hd eg _ fun σ3 f3 R3 l3 k3 o3 => ?_
    have y3 : ResS K B H σ f0 fix σ3 ρ1 B2 H2 f3 := y.then ⟨R3, (n2 _).to fun a z => .inl (o3 a z), fun j hj => k3 j (bk j hj)⟩
    have itd2 : ItD K B2 J a.1 := itd'.mono e1
    refine hb B2 H2 σ3 ρ1 f3 _ R3 (h.step y3.frm (fun _ z => z) fun o eo h => ?_)
    cases o with
    | nx ρ2 => exact fun σ4 B4 H4 f4 z => ⟨B4, ρ2, f4, y3.then z, itd2.mono z.frm.bb, h⟩
    | ct ρ2 => exact fun σ4 B4 H4 f4 z => ⟨B4, ρ2, f4, y3.then z, itd2.mono z.frm.bb, h⟩
    | bk ρ2 => exact fun σ4 B4 H4 f4 z => h σ4 B4 H4 f4 (y3.then z)
    | rt r ρ2 => exact fun v σ4 B4 H4 f4 f z => h v σ4 B4 H4 f4 f (y3.thenR z)
  · have e : i = a.1.length := by omega
    subst e
    have q := itd' B' H' (fun _ _ q => q) y.rel.ex a.1.length
    rw [List.drop_length] at h
    exact .inl ⟨q.2.1 rfl, h σ' B' H' f' y⟩
def whLoop (mc : MT) (mb : MS) : Nat → Env → R Out
  | 0, _ => .bad
  | n + 1, ρ => R.bind (mc ρ) fun p => if p.1 = true then R.bind (mb p.2) fun o => match o with
      | .nx ρ2 => whLoop mc mb n ρ2
      | .ct ρ2 => whLoop mc mb n ρ2
      | .bk ρ2 => .ok (.nx ρ2)
      | .rt r ρ2 => .ok (.rt r ρ2)
    else .ok (.nx p.2)
theorem is_while {n : Nat} {tc : TT} {tb : TS} {mc : MT} {mb : MS} (hc : ImpT K ct E tc mc) (hb : ImpS K ct E fix tb mb) : ImpS K ct E fix (tWhile tc tb) (whLoop mc mb n) := by
  intro B H σ ρ f0 D R h
  refine ⟨fun m σ' H' => ∃ (B' : Hp) (ρ' : Env) (f' : Fps), ResS K B H σ f0 fix σ' ρ' B' H' f' ∧ Post ct E H f0 (whLoop mc mb m ρ') (OutOk K B H σ f0 fix D), ⟨n, B, ρ, f0, .refl R, h⟩, ?_⟩
  rintro m σ' H' ⟨B', ρ', f', y, h⟩
  cases m with
  | zero => exact h.elim
  | succ m =>
    have h : Post ct E H f0 (DL.R.bind (mc ρ') fun p => if p.1 = true then DL.R.bind (mb p.2) fun o => match o with
      | .nx ρ2 => whLoop mc mb m ρ2
      | .ct ρ2 => whLoop mc mb m ρ2
      | .bk ρ2 => .ok (.nx ρ2)
      | .rt r ρ2 => .ok (.rt r ρ2)
      else .ok (.nx p.2)) (OutOk K B H σ f0 fix D) := h
    refine hc B' H' σ' ρ' f' _ y.rel (h.step y.frm (fun _ z => z) fun p ep h B1 H1 f1 z => ?_)
    have y1 := y.then z.s
    obtain ⟨k, ρ1⟩ := p
    cases k with
    | false => exact h σ' B1 H1 f1 y1
    | true =>
      refine ⟨fun σ2 H2 => ∃ (B' : Hp) (ρ' : Env) (f' : Fps), ResS K B H σ f0 fix σ2 ρ' B' H2 f' ∧ Post ct E H f0 (whLoop mc mb m ρ') (OutOk K B H σ f0 fix D), fun σ2 H2 hN => ⟨m, Nat.lt_succ_self _, hN⟩, ?_⟩
      have h : Post ct E H f0 (DL.R.bind (mb ρ1) fun o => match o with
        | .nx ρ2 => whLoop mc mb m ρ2
        | .ct ρ2 => whLoop mc mb m ρ2
        | .bk ρ2 => .ok (.nx ρ2)
        | .rt r ρ2 => .ok (.rt r ρ2)) (OutOk K B H σ f0 fix D) := h
      refine hb B1 H1 σ' ρ1 f1 _ z.rel (h.step y1.frm (fun _ z => z) fun o eo h => ?_)
      cases o with
      | nx ρ2 => exact fun σ4 B4 H4 f4 z => ⟨B4, ρ2, f4, y1.then z, h⟩
      | ct ρ2 => exact fun σ4 B4 H4 f4 z => ⟨B4, ρ2, f4, y1.then z, h⟩
      | bk ρ2 => exact fun σ4 B4 H4 f4 z => h σ4 B4 H4 f4 (y1.then z)
      | rt r ρ2 => exact fun v σ4 B4 H4 f4 f z => h v σ4 B4 H4 f4 f (y1.thenR z)
end
end DL
end
section
set_option maxRecDepth 100000
set_option maxHeartbeats 2000000
namespace DL
open PySem PySem.Spec PyProof.Rows L2
open Evl (Ex ex_rd ex_l ex_t)
section
variable {K : PySem.W.Frag} {ct : Ct} {E : XK} {B H B' H' B1 H1 B2 H2 : Hp} {σ σ' σ1 σ2 : L2.St} {ρ ρ' ρ1 ρ2 : Env} {f0 f1 f2 f' : Fps} {v : V} {r : Vl} {f g : List Addr} {fix : Nat → Bool}

def ownS : Option Sl → Option (List D)
  | some (.own ds) => some ds
  | _ => none
theorem Rel.own {i : Nat} {ds : List D} (R : Rel K B H σ ρ f0) (h : ownS ρ[i]? = some ds) : ∃ p xs, σ[i]? = some (some (.ref p)) ∧ f0 i = [p] ∧ H p = some (.lst xs) ∧ DVs K B xs ds ∧ i < ρ.length := by
  cases e : ρ[i]? with
  | none => rw [e] at h; cases h
  | some s =>
    rw [e] at h
    have ok := R.ok i s e
    cases s with
    | own es =>
      cases h
      obtain ⟨p, xs, q1, q2, q3, q4⟩ := ok
      refine ⟨p, xs, ?_, q2, q3, q4, (List.getElem?_eq_some_iff.mp e).1⟩
      cases q : σ[i]? with
      | none => rw [q] at q1; cases q1
      | some o => rw [q] at q1; exact congrArg some q1
    | _ => cases h
theorem Rel.mut {i : Nat} {p : Addr} {xs : List V} {ds : List D} (R : Rel K B H σ ρ f0) (hi : i < ρ.length) (hs : σ[i]? = some (some (.ref p))) (hf : f0 i = [p]) (hd : DVs K B xs ds) :
    Rel K B (upd H p (.lst xs)) σ (ρ.set i (.own ds)) f0 where
  len := by rw [List.length_set]; exact R.len
  ex := fun a o q => by
    rw [upd_ne (fun e => by rw [e, (R.off i p (by rw [hf]; simp)).1] at q; cases q)]
    exact R.ex a o q
  pl := R.pl
  ok := fun j s q => by
    by_cases e : j = i
    · subst e
      rw [List.getElem?_set_self hi] at q
      cases q
      rw [hs]
      exact ⟨p, xs, rfl, hf, upd_same, hd⟩
    · rw [List.getElem?_set_ne (Ne.symm e)] at q
      have ok := R.ok j s q
      have ne : ∀ a ∈ f0 j, a ≠ p := fun a ha z => e (R.dis j i a ha (by rw [z, hf]; simp))
      cases s with
      | emp => exact ok
      | sh d => exact ok
      | own es =>
        obtain ⟨p', ys, e1, e2, e3, e4⟩ := ok
        refine ⟨p', ys, e1, e2, ?_, e4⟩
        rw [upd_ne (ne p' (by rw [e2]; simp))]
        exact e3
      | own2 l =>
        obtain ⟨p', ps, e1, e2, e3, e4, e5⟩ := ok
        refine ⟨p', ps, e1, e2, e3, ?_, e5.to (fun _ _ q => q) fun q hq o e => ?_⟩
        · rw [upd_ne (ne p' (by rw [e2]; simp))]
          exact e4
        · rw [upd_ne (ne q (by rw [e2]; exact List.mem_cons_of_mem _ hq))]
          exact e
      | drw st =>
        obtain ⟨a, w, c, e1, e2, e3, e4, e5, e6⟩ := ok
        refine ⟨a, w, c, e1, e2, e3, ?_, ?_, e6⟩
        · rw [upd_ne (ne a (by rw [e2]; simp))]
          exact e4
        · rw [upd_ne (ne w (by rw [e2]; simp))]
          exact e5
      | tab T d => exact ⟨ok.1.to fun a ha o e => by rw [upd_ne (ne a ha)]; exact e, ok.2⟩
  out := fun j q => by
    by_cases e : j = i
    · subst e
      rw [List.getElem?_set_self hi] at q
      cases q
    · rw [List.getElem?_set_ne (Ne.symm e)] at q
      exact R.out j q
  dis := R.dis
  off := fun j a ha => ⟨(R.off j a ha).1, by
    by_cases e : a = p
    · rw [e, upd_same]; simp
    · rw [upd_ne e]
      exact (R.off j a ha).2⟩
theorem Res.refl' (R : Rel K B H σ ρ f0) {v : V} {d : D} (h : DV K B v d) {B0 H0 : Hp} {f : Fps} (fr : Frm B0 H0 (Owned f) B H (Owned f0)) : Res K B0 H0 σ f v (.sh d) ρ B H f0 [] :=
  ⟨R, ⟨rfl, v, rfl, h⟩, fun _ q => (nomatch q), fr.to fun a z => z.elim Or.inl fun q => (nomatch q)⟩
def xApp (i : Nat) (m : MX) : MX := fun ρ => rdO (ownS ρ[i]?) fun _ => R.bind (m ρ) fun a => rdO (share a.2 a.1) fun p => rdO (ownS p.2[i]?) fun ds => if szOk (ds.length + 1) = true then .ok (.sh .non, p.2.set i (.own (ds ++ [p.1]))) else .bad
theorem im_app {i : Nat} {t : TE} {m : MX} (ha : Imp K ct E t m) : Imp K ct E (tBM K "list" rAppend (tVar i) (tCons t tNil)) (xApp i m) := by
  intro B H σ ρ f0 Q R h
  obtain ⟨ds0, e0, h⟩ := h.get
  obtain ⟨p, xs, q1, q2, q3, q4, q5⟩ := R.own e0
  refine ⟨_, q1, .inl ⟨rfl, xs, SqL.of q3⟩, ha B H σ ρ f0 _ R (h.first fun a ea h v B1 H1 f1 f x => ?_)⟩
  obtain ⟨s, e1, h⟩ := h.get
  obtain ⟨ds, e2, h⟩ := h.get
  obtain ⟨B2, f2, y, hd⟩ := x.shared (ρ' := s.2) (d := s.1) e1
  obtain ⟨p', xs', r1, r2, r3, r4, r5⟩ := y.rel.own e2
  rw [q1] at r1
  cases r1
  by_cases hz : szOk (ds.length + 1) = true
  · rw [if_pos hz] at h
    have fin := Res.refl' (y.rel.mut r5 q1 r2 (r4.app (.cons hd .nil))) .non (y.frm.trans (frm_upd ⟨i, by rw [r2]; simp⟩))
    exact ⟨p, xs', v, rfl, rfl, r3, Nat.lt_of_lt_of_le (Nat.lt_succ_self _) (by rw [r4.len]; exact szOk_le hz), h _ _ _ _ _ fin⟩
  · rw [if_neg hz] at h
    exact h.elim
def xExt (i : Nat) (m : MX) : MX := fun ρ => rdO (ownS ρ[i]?) fun _ => R.bind (m ρ) fun a => rdO (share a.2 a.1) fun p => match p.1 with
  | .lst es => rdO (ownS p.2[i]?) fun ds => if szOk (ds.length + es.length) = true then .ok (.sh .non, p.2.set i (.own (ds ++ es))) else .bad
  | _ => .bad
theorem im_ext {i : Nat} {t : TE} {m : MX} (ha : Imp K ct E t m) : Imp K ct E (tBM K "list" rExtend (tVar i) (tCons t tNil)) (xExt i m) := by
  intro B H σ ρ f0 Q R h
  obtain ⟨ds0, e0, h⟩ := h.get
  obtain ⟨p, xs, q1, q2, q3, q4, q5⟩ := R.own e0
  refine ⟨_, q1, .inl ⟨rfl, xs, SqL.of q3⟩, ha B H σ ρ f0 _ R (h.first fun a ea h v B1 H1 f1 f x => ?_)⟩
  obtain ⟨s, e1, h⟩ := h.get
  obtain ⟨B2, f2, y, hd⟩ := x.shared (ρ' := s.2) (d := s.1) e1
  obtain ⟨d, ρ2⟩ := s
  cases d with
  | lst es =>
    have h : Post ct E H f0 (rdO (ownS ρ2[i]?) fun ds => if szOk (ds.length + es.length) = true then .ok (.sh .non, ρ2.set i (.own (ds ++ es))) else .bad) (XOk K B H σ f0 Q) := h
    obtain ⟨ds, e2, h⟩ := h.get
    obtain ⟨p', xs', r1, r2, r3, r4, r5⟩ := y.rel.own e2
    rw [q1] at r1
    cases r1
    cases hd with
    | lst h1 h2 =>
    by_cases hz : szOk (ds.length + es.length) = true
    · rw [if_pos hz] at h
      have fin := Res.refl' (y.rel.mut r5 q1 r2 (r4.app h2)) .non (y.frm.trans (frm_upd ⟨i, by rw [r2]; simp⟩))
      exact ⟨p, _, xs', _, rfl, rfl, r3, y.rel.ex _ _ h1, by rw [r4.len, h2.len]; exact szOk_le hz, h _ _ _ _ _ fin⟩
    · rw [if_neg hz] at h
      exact h.elim
  | _ => exact h.elim
def xPopAt (i : Nat) (m : MX) : MX := fun ρ => rdO (ownS ρ[i]?) fun _ => R.bind (m ρ) fun a => rdO (rdv a.2 a.1) fun d => rdO (intOf d) fun k => rdO (ownS a.2[i]?) fun ds => if szOk ds.length = true then rdO (ixN ds.length k) fun j => rdO ds[j]? fun e => .ok (.sh e, a.2.set i (.own (ds.eraseIdx j))) else .bad
theorem intOf_eq {d : D} {k : Int} (h : intOf d = some k) : d = .int k := by
  cases d <;> first | (cases h; rfl) | cases h
theorem DVs.erase : ∀ {vs : List V} {ds : List D} (n : Nat), DVs K B vs ds → DVs K B (vs.eraseIdx n) (ds.eraseIdx n)
  | _, _, 0, .nil => .nil
  | _, _, _ + 1, .nil => .nil
  | _, _, 0, .cons _ r => r
  | _, _, n + 1, .cons h r => .cons h (DVs.erase n r)
theorem im_popAt {i : Nat} {t : TE} {m : MX} (ha : Imp K ct E t m) : Imp K ct E (tBM K "list" rPopAt (tVar i) (tCons t tNil)) (xPopAt i m) := by
  intro B H σ ρ f0 Q R h
  obtain ⟨ds0, e0, h⟩ := h.get
  obtain ⟨p, xs, q1, q2, q3, q4, q5⟩ := R.own e0
  refine ⟨_, q1, .inl ⟨rfl, xs, SqL.of q3⟩, ha B H σ ρ f0 _ R (h.first fun a ea h v B1 H1 f1 f x => ?_)⟩
  obtain ⟨d, e1, h⟩ := h.get
  obtain ⟨k, e2, h⟩ := h.get
  obtain ⟨ds, e3, h⟩ := h.get
  have hv : RdV K B1 H1 v (.int k) := by
    rw [← intOf_eq e2]
    exact x.val.rd x.rel e1
  cases hv
  by_cases hz : szOk ds.length = true
  · rw [if_pos hz] at h
    obtain ⟨j, e4, h⟩ := h.get
    obtain ⟨e, e5, h⟩ := h.get
    obtain ⟨p', xs', r1, r2, r3, r4, r5⟩ := x.rel.own e3
    rw [q1] at r1
    cases r1
    obtain ⟨w, w1, w2⟩ := r4.get e5
    have hx := ixN_seq e4
    have hz' : ds.length ≤ 1000000 := of_decide_eq_true hz
    have fin := Res.refl' (x.rel.mut r5 q1 r2 (r4.erase j)) w2 (x.drop.frm.trans (frm_upd ⟨i, by rw [r2]; simp⟩))
    exact ⟨p, xs', k, j, w, rfl, rfl, r3, by omega, by omega, by rw [r4.len]; exact hx.1, w1, h _ _ _ _ _ fin⟩
  · rw [if_neg hz] at h
    exact h.elim
def take1 (b : Bool) (r : Vl) (ρ : Env) : Option (Sl × Env × Option Nat) := match b, r with
  | false, r => (share ρ r).bind fun p => some (.sh p.1, p.2, none)
  | true, .sh d => some (.sh d, ρ, none)
  | true, .own ds => some (.own ds, ρ, none)
  | true, .drw st => some (.drw st, ρ, none)
  | true, .bor i => match ρ[i]? with
    | some (.own ds) => some (.own ds, ρ.set i .emp, some i)
    | some (.drw st) => some (.drw st, ρ.set i .emp, some i)
    | some (.sh d) => some (.sh d, ρ, none)
    | _ => none
def bkAdd (bo : Option Nat) (n : Nat) (l : List (Nat × Nat)) : List (Nat × Nat) := match bo with
  | none => l
  | some i => (n, i) :: l
theorem Frm.pre {P Q P' : Addr → Prop} (h : Frm B H P B' H' P') (e : ∀ a, P a → Q a) (e2 : ∀ a, Q a → P a) : Frm B H Q B' H' P' :=
  ⟨h.bb, fun a o q n => h.keep a o q fun z => n (e a z), fun a q1 q2 n => h.off a q1 q2 fun z => n (e a z), fun a z => (h.own a z).imp (e a) id, h.dom⟩
def takeArgs : List Bool → List Vl → Env → List Sl → Option (List Sl × Env × List (Nat × Nat))
  | [], [], ρ, acc => some (acc, ρ, [])
  | b :: bs, r :: rs, ρ, acc => (take1 b r ρ).bind fun p => (takeArgs bs rs p.2.1 (acc ++ [p.1])).bind fun q => some (q.1, q.2.1, bkAdd p.2.2 acc.length q.2.2)
  | _, _, _, _ => none
def giveBack : List (Nat × Nat) → List Sl → Env → Env
  | [], _, ρ => ρ
  | (k, i) :: l, as, ρ => giveBack l as (ρ.set i (as[k]?.getD .emp))
theorem Rel.snoc {s : Sl} (R : Rel K B H σ ρ f0) (x : SlOk K B H (some v) s f) (off : ∀ a ∈ f, B a = none ∧ ¬ Owned f0 a) : Rel K B H (σ ++ [some v]) (ρ ++ [s]) (fpSet f0 ρ.length f) where
  len := by rw [List.length_append, List.length_append, R.len]; rfl
  ex := R.ex
  pl := R.pl
  ok := fun j t q => by
    by_cases hj : j = ρ.length
    · subst hj
      rw [List.getElem?_append_right (Nat.le_refl _), Nat.sub_self] at q
      cases q
      rw [← R.len, List.getElem?_append_right (Nat.le_refl _), Nat.sub_self, R.len, fpSet_same]
      exact x
    · have hl : j < ρ.length := by
        have := (List.getElem?_eq_some_iff.mp q).1
        rw [List.length_append] at this
        have h1 : ([s] : List Sl).length = 1 := rfl
        omega
      rw [List.getElem?_append_left hl] at q
      rw [List.getElem?_append_left (by rw [R.len]; exact hl), fpSet_ne hj]
      exact R.ok j t q
  out := fun j q => by
    have hl : ρ.length + 1 ≤ j := by
      rw [List.getElem?_eq_none_iff, List.length_append] at q
      exact q
    rw [fpSet_ne (by omega)]
    exact R.out j (List.getElem?_eq_none (by omega))
  dis := fun j k a h1 h2 => by
    by_cases hj : j = ρ.length
    · by_cases hk : k = ρ.length
      · rw [hj, hk]
      · subst hj
        rw [fpSet_same] at h1
        rw [fpSet_ne hk] at h2
        exact absurd ⟨k, h2⟩ (off a h1).2
    · by_cases hk : k = ρ.length
      · subst hk
        rw [fpSet_same] at h2
        rw [fpSet_ne hj] at h1
        exact absurd ⟨j, h1⟩ (off a h2).2
      · rw [fpSet_ne hj] at h1
        rw [fpSet_ne hk] at h2
        exact R.dis j k a h1 h2
  off := fun j a h => by
    by_cases hj : j = ρ.length
    · subst hj
      rw [fpSet_same] at h
      exact ⟨(off a h).1, x.there h⟩
    · rw [fpSet_ne hj] at h
      exact R.off j a h
structure Way (K : PySem.W.Frag) (B H : Hp) (σ : L2.St) (ρ : Env) (f : Fps) (ws : List V) (acc : List Sl) (fa : Fps) : Prop where
  rel : Rel K B H σ ρ f
  arg : Rel K B H (ws.map some) acc fa
  apart : ∀ a, Owned fa a → ¬ Owned f a
def WayRes (K : PySem.W.Frag) (B H : Hp) (σ : L2.St) (f0 : Fps) (f : List Addr) (v : V) (s : Sl) (ρ' : Env) (bo : Option Nat) (ws : List V) (acc : List Sl) (fa : Fps) (S : List Addr) : Prop :=
    ∃ B' f' fa', Way K B' H σ ρ' f' (ws ++ [v]) (acc ++ [s]) fa' ∧ Ex B B' ∧ (∀ a ∈ S, B' a = none ∧ ¬ Owned f' a ∧ ¬ Owned fa' a) ∧ (∀ {vs : List V} {rs : List Vl} {g : List Addr}, VlsOk K B H σ vs rs g → VlsOk K B' H σ vs rs g) ∧
      Frm B H (fun a => (Owned f0 a ∨ Owned fa a) ∨ a ∈ f) B' H (fun a => Owned f' a ∨ Owned fa' a) ∧ (∀ i, bo = some i → i < ρ'.length ∧ σ[i]? = some (some v))
theorem way1 {b : Bool} {s : Sl} {bo : Option Nat} {ws : List V} {acc : List Sl} {fa : Fps} {S : List Addr} (W : Way K B H σ ρ f0 ws acc fa) (x : VlOk K B H σ v r f) (off : ∀ a ∈ f, B a = none ∧ ¬ Owned f0 a ∧ ¬ Owned fa a)
    (offS : ∀ a ∈ S, B a = none ∧ ¬ Owned f0 a ∧ ¬ Owned fa a ∧ a ∉ f) (h : take1 b r ρ = some (s, ρ', bo)) :
    WayRes K B H σ f0 f v s ρ' bo ws acc fa S := by
  -- a value handed on for good
  have good : ∀ d, share ρ r = some (d, ρ') → s = .sh d → bo = none → WayRes K B H σ f0 f v s ρ' bo ws acc fa S := fun d hs es eb => by
    obtain ⟨B2, f2, R2, hd, eB, oS, lift, fr⟩ := share_ok (S := S) W.rel x (fun a ha => ⟨(off a ha).1, (off a ha).2.1⟩) (fun a ha => ⟨(offS a ha).1, (offS a ha).2.1, (offS a ha).2.2.2⟩) hs
    subst es eb
    have fr2 : Frm B H (fun a => (Owned f0 a ∨ a ∈ f) ∨ Owned fa a) B2 H (fun a => Owned f2 a ∨ Owned fa a) := fr.side _
    have ap : ∀ a, Owned fa a → ¬ (Owned f0 a ∨ a ∈ f) := fun a ha z => z.elim (W.apart a ha) fun q => (off a q).2.2 ha
    have RA := (W.arg.frm fr R2.ex R2.pl ap).snoc (v := v) (s := .sh d) (f := []) ⟨rfl, v, rfl, hd⟩ fun _ q => (nomatch q)
    have ow : ∀ a, Owned (fpSet fa acc.length []) a → Owned fa a := fun a z => (owned_set z).elim id fun q => (nomatch q)
    have ow' : ∀ a, Owned f2 a → ¬ Owned fa a := fun a z q => by
      obtain ⟨k, hk⟩ := q
      exact fr.apart (W.arg.off k a hk).2 (ap a ⟨k, hk⟩) z
    refine ⟨B2, f2, fpSet fa acc.length [], ⟨R2, by rw [List.map_append]; exact RA, fun a z q => ow' a q (ow a z)⟩, eB, fun a ha => ⟨(oS a ha).1, (oS a ha).2, fun z => (offS a ha).2.2.1 (ow a z)⟩, lift, ?_, fun i z => (nomatch z)⟩
    refine ⟨fr2.bb, fun a o q n => fr2.keep a o q fun z => n ?_, fun a q1 q2 n => fr2.off a q1 q2 fun z => n ?_, fun a z => ?_, fr2.dom⟩
    · rcases z with (z | z) | z
      · exact .inl (.inl z)
      · exact .inr z
      · exact .inl (.inr z)
    · rcases z with (z | z) | z
      · exact .inl (.inl z)
      · exact .inr z
      · exact .inl (.inr z)
    · rcases fr2.own a (z.imp id (ow a)) with ((z | z) | z) | z
      · exact .inl (.inl (.inl z))
      · exact .inl (.inr z)
      · exact .inl (.inl (.inr z))
      · exact .inr z
  -- a new thing lent
  have newt : ∀ t : Sl, SlOk K B H (some v) t f → s = t → ρ' = ρ → bo = none → WayRes K B H σ f0 f v s ρ' bo ws acc fa S := fun t ht es er eb => by
    subst es er eb
    have RA := W.arg.snoc (v := v) ht fun a ha => ⟨(off a ha).1, (off a ha).2.2⟩
    exact ⟨B, f0, fpSet fa acc.length f, ⟨W.rel, by rw [List.map_append]; exact RA, fun a z => (owned_set z).elim (W.apart a) fun q => (off a q).2.1⟩, fun _ _ q => q, fun a ha => ⟨(offS a ha).1, (offS a ha).2.1, fun z => (owned_set z).elim (offS a ha).2.2.1 (offS a ha).2.2.2⟩, fun q => q,
      Frm.refl.to fun a z => by
        rcases z with z | z
        · exact .inl (.inl (.inl z))
        · rcases owned_set z with q | q
          · exact .inl (.inl (.inr q))
          · exact .inl (.inr q), fun i z => (nomatch z)⟩
  cases b with
  | false =>
    have h : ((share ρ r).bind fun p => some (Sl.sh p.1, p.2, (none : Option Nat))) = some (s, ρ', bo) := h
    cases e : share ρ r with
    | none => rw [e] at h; cases h
    | some p =>
      rw [e] at h
      cases h
      exact good p.1 e rfl rfl
  | true =>
    cases r with
    | sh d => cases h; exact newt (.sh d) x rfl rfl rfl
    | own d => cases h; exact newt (.own d) x rfl rfl rfl
    | drw d => cases h; exact newt (.drw d) x rfl rfl rfl
    | bor i =>
      obtain ⟨e0, e1⟩ := x
      subst e0
      have hj : (σ[i]?).join = some v := by rw [e1]; rfl
      cases e : ρ[i]? with
      | none => simp [take1, e] at h
      | some t =>
        have ok := W.rel.ok i t e
        rw [hj] at ok
        have hil : i < ρ.length := (List.getElem?_eq_some_iff.mp e).1
        -- what the name owned is lent
        have lend : SlOk K B H (some v) t (f0 i) → s = t → ρ' = ρ.set i .emp → bo = some i → WayRes K B H σ f0 [] v s ρ' bo ws acc fa S := fun ht es er eb => by
          subst es er eb
          have R2 := W.rel.empSl i (some v)
          rw [set_same e1] at R2
          have RA := W.arg.snoc (v := v) ht fun a ha => ⟨(W.rel.off i a ha).1, fun z => W.apart a z ⟨i, ha⟩⟩
          have nf : ∀ a, Owned (fpSet f0 i []) a → Owned f0 a ∧ a ∉ f0 i := fun a z => by
            obtain ⟨j, hj⟩ := z
            by_cases ej : j = i
            · subst ej
              rw [fpSet_same] at hj
              exact (nomatch hj)
            · rw [fpSet_ne ej] at hj
              exact ⟨⟨j, hj⟩, fun q => ej (W.rel.dis j i a hj q)⟩
          refine ⟨B, fpSet f0 i [], fpSet fa acc.length (f0 i), ⟨R2, by rw [List.map_append]; exact RA, fun a z q => ?_⟩, fun _ _ q => q, fun a ha => ⟨(offS a ha).1, fun z => (offS a ha).2.1 (nf a z).1, fun z => ?_⟩, fun q => q, Frm.refl.to fun a z => ?_, fun j z => ?_⟩
          · rcases owned_set z with z | z
            · exact W.apart a z (nf a q).1
            · exact (nf a q).2 z
          · rcases owned_set z with z | z
            · exact (offS a ha).2.2.1 z
            · exact (offS a ha).2.1 ⟨i, z⟩
          · rcases z with z | z
            · exact .inl (.inl (.inl (nf a z).1))
            · rcases owned_set z with z | z
              · exact .inl (.inl (.inr z))
              · exact .inl (.inl (.inl ⟨i, z⟩))
          · cases z
            exact ⟨by rw [List.length_set]; exact hil, e1⟩
        cases t with
        | emp => simp [take1, e] at h
        | own2 l => simp [take1, e] at h
        | tab T d => simp [take1, e] at h
        | own ds =>
          simp only [take1, e, Option.some.injEq, Prod.mk.injEq] at h
          exact lend ok h.1.symm h.2.1.symm h.2.2.symm
        | drw ds =>
          simp only [take1, e, Option.some.injEq, Prod.mk.injEq] at h
          exact lend ok h.1.symm h.2.1.symm h.2.2.symm
        | sh d =>
          simp only [take1, e, Option.some.injEq, Prod.mk.injEq] at h
          obtain ⟨q1, y, q2, q3⟩ := ok
          exact newt (.sh d) ⟨rfl, y, q2, q3⟩ h.1.symm h.2.1.symm h.2.2.symm
def BackOk (σ : L2.St) (ρ : Env) (ws : List V) (l : List (Nat × Nat)) : Prop := ∀ k i, (k, i) ∈ l → i < ρ.length ∧ ∃ v, ws[k]? = some v ∧ σ[i]? = some (some v)
theorem takeArgs_ok : ∀ {bs : List Bool} {rs : List Vl} {vs ws : List V} {g : List Addr} {B : Hp} {ρ ρ' : Env} {f0 fa : Fps} {acc as : List Sl} {l : List (Nat × Nat)}, Way K B H σ ρ f0 ws acc fa → VlsOk K B H σ vs rs g → (∀ a ∈ g, B a = none ∧ ¬ Owned f0 a ∧ ¬ Owned fa a) →
    takeArgs bs rs ρ acc = some (as, ρ', l) →
    ∃ B' f' fa', Way K B' H σ ρ' f' (ws ++ vs) as fa' ∧ Frm B H (fun a => (Owned f0 a ∨ Owned fa a) ∨ a ∈ g) B' H (fun a => Owned f' a ∨ Owned fa' a) ∧ BackOk σ ρ' (ws ++ vs) l ∧ ρ'.length = ρ.length := by
  intro bs
  induction bs with
  | nil =>
    intro rs vs ws g B ρ ρ' f0 fa acc as l W x off h
    cases rs with
    | cons => cases h
    | nil =>
      obtain ⟨e1, e2⟩ := x.inv0
      subst e1 e2
      cases h
      rw [List.append_nil]
      exact ⟨B, f0, fa, W, Frm.refl.to fun a z => .inl (.inl z), fun k i z => (nomatch z), rfl⟩
  | cons b bs ih =>
    intro rs vs ws g B ρ ρ' f0 fa acc as l W x off h
    cases rs with
    | nil => cases h
    | cons r rs =>
      obtain ⟨v, vs', f, g', e1, e2, h1, h2, n⟩ := x.inv
      subst e1 e2
      unfold takeArgs at h
      cases e3 : take1 b r ρ with
      | none => rw [e3] at h; cases h
      | some p =>
        obtain ⟨s, ρ1, bo⟩ := p
        rw [e3] at h
        have h : ((takeArgs bs rs ρ1 (acc ++ [s])).bind fun q => some (q.1, q.2.1, bkAdd bo acc.length q.2.2)) = some (as, ρ', l) := h
        cases e4 : takeArgs bs rs ρ1 (acc ++ [s]) with
        | none => rw [e4] at h; cases h
        | some q =>
          obtain ⟨as', ρ2, l'⟩ := q
          rw [e4] at h
          have h : some (as', ρ2, bkAdd bo acc.length l') = some (as, ρ', l) := h
          simp only [Option.some.injEq, Prod.mk.injEq] at h
          obtain ⟨q1, q2, q3⟩ := h
          subst q1 q2 q3
          obtain ⟨B1, f1, fa1, W1, eB, oS, lift, fr, bk⟩ := way1 (S := g') W h1 (fun a ha => off a (List.mem_append_left _ ha)) (fun a ha => ⟨(off a (List.mem_append_right _ ha)).1, (off a (List.mem_append_right _ ha)).2.1, (off a (List.mem_append_right _ ha)).2.2, fun z => n a z ha⟩) e3
          obtain ⟨B2, f2, fa2, W2, fr2, bk2, len2⟩ := ih W1 (lift h2) oS e4
          have eapp : ws ++ [v] ++ vs' = ws ++ v :: vs' := by simp
          rw [eapp] at W2 bk2
          have fr' := (fr.side (· ∈ g')).trans fr2
          have len1 : ρ1.length = ρ.length := by rw [← W1.rel.len, ← W.rel.len]
          refine ⟨B2, f2, fa2, W2, ?_, fun k i z => ?_, len2.trans len1⟩
          · have mix : ∀ a, (((Owned f0 a ∨ Owned fa a) ∨ a ∈ f) ∨ a ∈ g') → ((Owned f0 a ∨ Owned fa a) ∨ a ∈ f ++ g') := fun a z => by
              rcases z with (z | z) | z
              · exact .inl z
              · exact .inr (List.mem_append_left _ z)
              · exact .inr (List.mem_append_right _ z)
            exact ⟨fr'.bb, fun a o q m => fr'.keep a o q fun z => m (mix a z), fun a q1 q2 m => fr'.off a q1 q2 fun z => m (mix a z), fun a z => (fr'.own a z).imp (mix a) id, fr'.dom⟩
          · cases bo with
            | none => exact bk2 k i z
            | some j =>
              rcases List.mem_cons.mp z with z | z
              · cases z
                obtain ⟨b1, b2⟩ := bk i rfl
                refine ⟨by rw [len2]; exact b1, v, ?_, b2⟩
                have la : acc.length = ws.length := by
                  have := W.arg.len
                  rw [List.length_map] at this
                  exact this.symm
                rw [la, List.getElem?_append_right (Nat.le_refl _), Nat.sub_self]
                rfl
              · exact bk2 k i z
theorem giveBack_ok : ∀ {l : List (Nat × Nat)} {ws : List V} {as : List Sl} {ρ : Env} {f0 fa : Fps}, Rel K B H σ ρ f0 → Rel K B H (ws.map some) as fa → (∀ a k i, (k, i) ∈ l → a ∈ fa k → ¬ Owned f0 a) → BackOk σ ρ ws l → (l.map (·.1)).Nodup →
    ∃ f', Rel K B H σ (giveBack l as ρ) f' ∧ ∀ a, Owned f' a → Owned f0 a ∨ Owned fa a
  | [], ws, as, ρ, f0, fa, R, RA, ap, bk, nd => ⟨f0, R, fun a z => .inl z⟩
  | (k, i) :: l, ws, as, ρ, f0, fa, R, RA, ap, bk, nd => by
    obtain ⟨hi, v, hv, hs⟩ := bk k i (by simp)
    rw [List.map_cons, List.nodup_cons] at nd
    cases e : as[k]? with
    | none =>
      have hk : k < ws.length := (List.getElem?_eq_some_iff.mp hv).1
      have := RA.len
      rw [List.length_map] at this
      rw [List.getElem?_eq_none_iff] at e
      omega
    | some s =>
      have ok := RA.ok k s e
      rw [List.getElem?_map, hv] at ok
      have R2 := R.setSl (v := v) hi ok fun a ha => ⟨(RA.off k a ha).1, ap a k i (by simp) ha⟩
      rw [set_same hs] at R2
      obtain ⟨f', R', o⟩ := giveBack_ok (l := l) R2 RA (fun a k' i' hm ha z => by
        rcases owned_set z with z | z
        · exact ap a k' i' (List.mem_cons_of_mem _ hm) ha z
        · have ek := RA.dis k' k a ha z
          exact nd.1 (by rw [← ek]; exact List.mem_map_of_mem (f := (·.1)) hm)) (fun k' i' hm => by
        obtain ⟨b1, b2⟩ := bk k' i' (List.mem_cons_of_mem _ hm)
        exact ⟨by rw [List.length_set]; exact b1, b2⟩) nd.2
      refine ⟨f', ?_, fun a z => ?_⟩
      · unfold giveBack
        rw [e]
        exact R'
      · rcases o a z with z | z
        · rcases owned_set z with z | z
          · exact .inl z
          · exact .inr ⟨k, z⟩
        · exact .inr z
theorem takeArgs_keys : ∀ {bs : List Bool} {rs : List Vl} {ρ ρ' : Env} {acc as : List Sl} {l : List (Nat × Nat)}, takeArgs bs rs ρ acc = some (as, ρ', l) → (l.map (·.1)).Nodup ∧ ∀ p ∈ l, acc.length ≤ p.1 := by
  intro bs
  induction bs with
  | nil =>
    intro rs ρ ρ' acc as l h
    cases rs with
    | cons => cases h
    | nil => cases h; exact ⟨List.nodup_nil, fun p z => (nomatch z)⟩
  | cons b bs ih =>
    intro rs ρ ρ' acc as l h
    cases rs with
    | nil => cases h
    | cons r rs =>
      unfold takeArgs at h
      cases e3 : take1 b r ρ with
      | none => rw [e3] at h; cases h
      | some p =>
        obtain ⟨s, ρ1, bo⟩ := p
        rw [e3] at h
        have h : ((takeArgs bs rs ρ1 (acc ++ [s])).bind fun q => some (q.1, q.2.1, bkAdd bo acc.length q.2.2)) = some (as, ρ', l) := h
        cases e4 : takeArgs bs rs ρ1 (acc ++ [s]) with
        | none => rw [e4] at h; cases h
        | some q =>
          obtain ⟨as', ρ2, l'⟩ := q
          rw [e4] at h
          have h : some (as', ρ2, bkAdd bo acc.length l') = some (as, ρ', l) := h
          simp only [Option.some.injEq, Prod.mk.injEq] at h
          obtain ⟨q1, q2, q3⟩ := h
          subst q1 q2 q3
          have q := ih e4
          rw [List.length_append] at q
          have h1 : ([s] : List Sl).length = 1 := rfl
          cases bo with
          | none => exact ⟨q.1, fun p hp => by have := q.2 p hp; omega⟩
          | some i =>
            refine ⟨?_, fun p hp => ?_⟩
            · show (acc.length :: l'.map (·.1)).Nodup
              rw [List.nodup_cons]
              refine ⟨fun z => ?_, q.1⟩
              obtain ⟨p, hp, e⟩ := List.mem_map.mp z
              have := q.2 p hp
              omega
            · rcases List.mem_cons.mp hp with z | z
              · rw [z]
                exact Nat.le_refl _
              · have := q.2 p z
                omega

abbrev Fn := List Sl → R (Vl × List Sl)
structure ResF (K : PySem.W.Frag) (B H : Hp) (vs : List V) (f : Fps) (v : V) (r : Vl) (args' : List Sl) (B' H' : Hp) (f' : Fps) (g : List Addr) : Prop where
  rel : Rel K B' H' (vs.map some) args' f'
  val : VlOk K B' H' [] v r g
  off : ∀ a ∈ g, B' a = none ∧ ¬ Owned f' a
  frm : Frm B H (Owned f) B' H' (fun a => Owned f' a ∨ a ∈ g)
def spM (K : PySem.W.Frag) (ct : Ct) (F : Fn) : Sp := fun vs H Q E => ∃ (B : Hp) (args : List Sl) (f : Fps), Rel K B H (vs.map some) args f ∧ Post ct E H f (F args) (fun p => ∀ v B' H' f' g, ResF K B H vs f v p.1 p.2 B' H' f' g → Q v H')
def xCall (bs : List Bool) (F : Fn) (m : MA) : MX := fun ρ => R.bind (m ρ) fun a => rdO (takeArgs bs a.1 a.2 []) fun w => R.bind (F w.1) fun p => .ok (p.1, giveBack w.2.2 p.2 w.2.1)
theorem Rel.nil (e : Ex B H) (hp : NoE B) : Rel K B H (([] : List V).map some) [] (fun _ => []) := ⟨rfl, e, hp, fun i s q => by simp at q, fun _ _ => rfl, fun _ _ _ h => (nomatch h), fun _ _ h => (nomatch h)⟩
theorem im_call {bs : List Bool} {F : Fn} {t : TA} {m : MA} (ha : ImpA K ct E t m) : Imp K ct E (tCall (spM K ct F) [] E t) (xCall bs F m) := by
  intro B H σ ρ f0 Q R h
  refine ha B H σ ρ f0 _ R (h.first fun a ea h vs B1 H1 f1 g x => ?_)
  obtain ⟨w, e1, h⟩ := h.get
  obtain ⟨as, ρ1, l⟩ := w
  have W0 : Way K B1 H1 σ a.2 f1 [] [] (fun _ => []) := ⟨x.rel, Rel.nil x.rel.ex x.rel.pl, fun a ⟨i, z⟩ => (nomatch z)⟩
  obtain ⟨B2, f2, fa, W, fr, bk, len⟩ := takeArgs_ok W0 x.val (fun a ha => ⟨(x.off a ha).1, (x.off a ha).2, fun ⟨i, z⟩ => (nomatch z)⟩) e1
  rw [List.nil_append] at W bk
  have frA : Frm B H (Owned f0) B2 H1 (fun a => Owned f2 a ∨ Owned fa a) := x.frm.trans ⟨fr.bb, fun a o q m => fr.keep a o q fun z => m (by
      rcases z with (z | ⟨i, z⟩) | z
      · exact .inl z
      · exact (nomatch z)
      · exact .inr z), fun a q1 q2 m => fr.off a q1 q2 fun z => m (by
      rcases z with (z | ⟨i, z⟩) | z
      · exact .inl z
      · exact (nomatch z)
      · exact .inr z), fun a z => by
      rcases fr.own a z with ((z | ⟨i, z⟩) | z) | z
      · exact .inl (.inl z)
      · exact (nomatch z)
      · exact .inl (.inr z)
      · exact .inr z, fr.dom⟩
  show spM K ct F (vs ++ []) H1 Q E
  rw [List.append_nil]
  refine ⟨B2, as, fa, W.arg, h.step frA (fun _ z => .inr z) fun p ep h v B3 H3 f3 k y => ?_⟩
  have R3 : Rel K B3 H3 σ ρ1 f2 := W.rel.frm y.frm y.rel.ex y.rel.pl fun a z q => W.apart a q z
  obtain ⟨f4, R4, o4⟩ := giveBack_ok (l := l) R3 y.rel (fun a j i _ ha z => by
    obtain ⟨q, hq⟩ := z
    exact y.frm.apart (W.rel.off q a hq).2 (fun z => W.apart a z ⟨q, hq⟩) (.inl ⟨j, ha⟩)) bk (takeArgs_keys e1).1
  have fin : Frm B H (Owned f0) B3 H3 (fun a => Owned f4 a ∨ a ∈ k) := frA.trans (((y.frm.side (Owned f2)).pre (fun a z => z.symm) fun a z => z.symm).to fun a z => by
    rcases z with z | z
    · rcases o4 a z with z | z
      · exact .inl (.inr z)
      · exact .inl (.inl (.inl z))
    · exact .inl (.inl (.inr z)))
  refine h v B3 H3 f4 k ⟨R4, y.val.any, fun a ha => ⟨(y.off a ha).1, fun z => ?_⟩, fin⟩
  rcases o4 a z with ⟨q, hq⟩ | z
  · exact y.frm.apart (W.rel.off q a hq).2 (fun z => W.apart a z ⟨q, hq⟩) (.inr ha)
  · exact (y.off a ha).2 z
def maskA (fix : Nat → Bool) (n : Nat) (ρ : Env) : List Sl := (List.range n).map fun i => if fix i = true then ρ[i]?.getD .emp else .emp
def runB (fix : Nat → Bool) (nl : Nat) (m : MS) : Fn := fun args => R.bind (m (args ++ List.replicate nl .emp)) fun o => match o with
  | .nx ρ => .ok (.sh .non, maskA fix args.length ρ)
  | .rt r ρ => .ok (r, maskA fix args.length ρ)
  | _ => .bad
theorem Rel.body {vs : List V} {args : List Sl} {N : List Str} (R : Rel K B H (vs.map some) args f0) {nl : Nat} (hN : N.length = args.length + nl) : Rel K B H (L2.start N vs) (args ++ List.replicate nl .emp) f0 where
  len := by
    have := R.len
    rw [List.length_map] at this
    unfold L2.start
    rw [List.length_append, List.length_append, List.length_map, List.length_replicate, List.length_replicate, this]
    omega
  ex := R.ex
  pl := R.pl
  ok := fun i s q => by
    have la : (vs.map some).length = args.length := R.len
    by_cases hi : i < args.length
    · rw [List.getElem?_append_left hi] at q
      unfold L2.start
      rw [List.getElem?_append_left (by rw [la]; exact hi)]
      exact R.ok i s q
    · rw [List.getElem?_append_right (by omega), List.getElem?_replicate] at q
      split at q
      · cases q
        exact R.out i (List.getElem?_eq_none (by omega))
      · cases q
  out := fun i q => R.out i (by
    rw [List.getElem?_eq_none_iff, List.length_append] at q
    exact List.getElem?_eq_none (by omega))
  dis := R.dis
  off := R.off
theorem Rel.mask {vs : List V} {args : List Sl} {N : List Str} {σ' : L2.St} {ρ' : Env} (la : vs.length = args.length) (R : Rel K B H σ' ρ' f0) (fx : ∀ i, fix i = true → σ'[i]? = (L2.start N vs)[i]?) :
    Rel K B H (vs.map some) (maskA fix args.length ρ') (fun i => if i < args.length ∧ fix i = true then f0 i else []) where
  len := by unfold maskA; rw [List.length_map, List.length_map, List.length_range, la]
  ex := R.ex
  pl := R.pl
  ok := fun i s q => by
    unfold maskA at q
    rw [List.getElem?_map] at q
    by_cases hi : i < args.length
    · rw [List.getElem?_range hi] at q
      by_cases hf : fix i = true
      · have q : some (if fix i = true then ρ'[i]?.getD .emp else .emp) = some s := q
        rw [if_pos hf] at q
        rw [if_pos ⟨hi, hf⟩]
        have e2 : (vs.map some)[i]? = σ'[i]? := by
          rw [fx i hf]
          unfold L2.start
          rw [List.getElem?_append_left (by rw [List.length_map, la]; exact hi)]
        rw [e2]
        cases e : ρ'[i]? with
        | none =>
          rw [e] at q
          cases q
          exact R.out i e
        | some t =>
          rw [e] at q
          have q : t = s := Option.some.inj q
          subst q
          exact R.ok i t e
      · have q : some (if fix i = true then ρ'[i]?.getD .emp else .emp) = some s := q
        rw [if_neg hf] at q
        cases q
        exact if_neg (fun z => hf z.2)
    · rw [List.getElem?_eq_none (by rw [List.length_range]; omega)] at q
      cases q
  out := fun i q => by
    unfold maskA at q
    rw [List.getElem?_eq_none_iff, List.length_map, List.length_range] at q
    exact if_neg (fun z => by omega)
  dis := fun i j a h1 h2 => by
    by_cases z1 : i < args.length ∧ fix i = true
    · by_cases z2 : j < args.length ∧ fix j = true
      · rw [if_pos z1] at h1
        rw [if_pos z2] at h2
        exact R.dis i j a h1 h2
      · rw [if_neg z2] at h2
        exact (nomatch h2)
    · rw [if_neg z1] at h1
      exact (nomatch h1)
  off := fun i a h => by
    by_cases z1 : i < args.length ∧ fix i = true
    · rw [if_pos z1] at h
      exact R.off i a h
    · rw [if_neg z1] at h
      exact (nomatch h)
theorem owned_mask {n : Nat} {a : Addr} (h : Owned (fun i => if i < n ∧ fix i = true then f0 i else []) a) : Owned f0 a := by
  obtain ⟨i, hi⟩ := h
  have hi : a ∈ (if i < n ∧ fix i = true then f0 i else []) := hi
  split at hi
  · exact ⟨i, hi⟩
  · exact (nomatch hi)
def runF (fix : Nat → Bool) (np nl : Nat) (m : MS) : Fn := fun as => if as.length = np then runB fix nl m as else .bad
theorem fn_body {N : List Str} {nl np : Nat} {t : TS} {m : MS} {vs : List V} {Q : VK} (hm : ImpS K ct E fix t m) (hN : N.length = np + nl) (h : spM K ct (runF fix np nl m) vs H Q E) :
    t { nx := fun _ H' => Q .non H', rt := Q } (L2.start N vs) H := by
  obtain ⟨B, args, f, R, h⟩ := h
  have h : Post ct E H f (if args.length = np then runB fix nl m args else .bad) _ := h
  by_cases hl : args.length = np
  · rw [if_pos hl] at h
    have la : vs.length = args.length := by
      have := R.len
      rw [List.length_map] at this
      exact this
    refine hm B H _ _ f _ (R.body (nl := nl) (by rw [hN, hl])) (h.first fun o eo h => ?_)
    cases o with
    | nx ρ' => exact fun σ' B' H' f' x => h .non B' H' _ [] ⟨x.rel.mask la x.fxd, ⟨rfl, _, rfl, .non⟩, fun _ z => (nomatch z), x.frm.to fun a z => by
        rcases z with z | z
        · exact .inl (owned_mask z)
        · exact (nomatch z)⟩
    | rt r ρ' => exact fun v σ' B' H' f' g x => h v B' H' _ g ⟨x.rel.mask la x.fxd, x.val, fun a ha => ⟨(x.off a ha).1, fun z => (x.off a ha).2 (owned_mask z)⟩, x.frm.to fun a z => by
        rcases z with z | z
        · exact .inl (.inl (owned_mask z))
        · exact .inl (.inr z)⟩
    | bk ρ' => exact h.elim
    | ct ρ' => exact h.elim
  · rw [if_neg hl] at h
    exact h.elim
theorem runF_len {np nl : Nat} {m : MS} (as : List Sl) (h : as.length ≠ np) : runF fix np nl m as = .bad := if_neg h
theorem sp_len {np : Nat} {F : Fn} {vs : List V} {Q : VK} (hF : ∀ as, as.length ≠ np → F as = .bad) (h : spM K ct F vs H Q E) : vs.length = np := by
  obtain ⟨B, args, f, R, h⟩ := h
  have := R.len
  rw [List.length_map] at this
  rw [this]
  apply Classical.byContradiction
  intro z
  rw [hF args z] at h
  exact h.elim
end
end DL
end
section
set_option maxRecDepth 100000
set_option maxHeartbeats 2000000
namespace DL
open PySem PySem.Spec PyProof.Rows L2
open Evl (Ex ex_rd ex_l ex_t)
section
variable {K : PySem.W.Frag} {B H : Hp} {X : Cx}

def gInt (C : Int → Int → Bool) (g : Int → Int → Int) : D → D → Option Vl
  | .int i, .int j => if C i j = true then some (.sh (.int (g i j))) else none
  | _, _ => none
theorem gi_int {C : Int → Int → Prop} {C' : Int → Int → Bool} {g : Int → Int → Int} (hC : ∀ i j, C' i j = true → C i j) : OpI K (rI C fun i j => .int (g i j)) (gInt C' g) := by
  intro B H x y dx dy z e hx hy h Q q
  cases dx <;> first | (cases h; done) | skip
  cases dy <;> first | (cases h; done) | skip
  rename_i i j
  have h : (if C' i j = true then some (Vl.sh (D.int (g i j))) else none) = some z := h
  by_cases hc : C' i j = true
  · rw [if_pos hc] at h
    cases h
    cases hx
    cases hy
    exact ⟨i, j, rfl, rfl, hC i j hc, q _ _ _ _ (New.sc e (.int _))⟩
  · rw [if_neg hc] at h
    cases h
def yes2 (_ _ : Int) : Bool := true
theorem gi_int0 {g : Int → Int → Int} : OpI K (rI0 fun i j => .int (g i j)) (gInt yes2 g) := by
  intro B H x y dx dy z e hx hy h Q q
  cases dx <;> first | (cases h; done) | skip
  cases dy <;> first | (cases h; done) | skip
  rename_i i j
  cases h
  cases hx
  cases hy
  exact ⟨i, j, rfl, rfl, q _ _ _ _ (New.sc e (.int _))⟩
def gAddS : D → D → Option Vl
  | .str a, .str b => if szOk (a.length + b.length) = true then some (.sh (.str (a ++ b))) else none
  | _, _ => none
theorem gi_addS : OpI K (fun x y H Q => ∃ i j, x = .str i ∧ y = .str j ∧ i.length + j.length ≤ sizeLine ∧ Q (.str (i ++ j)) H) gAddS := by
  intro B H x y dx dy z e hx hy h Q q
  cases dx <;> first | (cases h; done) | skip
  cases dy <;> first | (cases h; done) | skip
  rename_i i j
  have h : (if szOk (i.length + j.length) = true then some (Vl.sh (D.str (i ++ j))) else none) = some z := h
  by_cases hc : szOk (i.length + j.length) = true
  · rw [if_pos hc] at h
    cases h
    cases hx
    cases hy
    exact ⟨i, j, rfl, rfl, szOk_le hc, q _ _ _ _ (New.sc e (.str _))⟩
  · rw [if_neg hc] at h
    cases h
def gAddT : D → D → Option Vl
  | .tup a, .tup b => if szOk (a.length + b.length) = true then some (.sh (.tup (a ++ b))) else none
  | _, _ => none
theorem DVs.nil_iff {vs : List V} {ds : List D} (h : DVs K B vs ds) : vs = [] ↔ ds = [] := by
  cases h <;> simp
theorem gi_addT : OpI K (rCatA K) gAddT := by
  intro B H x y dx dy z e hx hy h Q q
  cases dx <;> first | (cases h; done) | skip
  cases dy <;> first | (cases h; done) | skip
  rename_i i j
  have h : (if szOk (i.length + j.length) = true then some (Vl.sh (D.tup (i ++ j))) else none) = some z := h
  by_cases hc : szOk (i.length + j.length) = true
  · rw [if_pos hc] at h
    cases h
    cases hx with
    | tup a1 a2 =>
    cases hy with
    | tup b1 b2 =>
    refine ⟨_, _, _, _, rfl, rfl, ex_t e a1, ex_t e b1, by rw [a2.len, b2.len]; exact szOk_le hc, fun z => ?_, fun _ z => ?_, fun _ _ p hp => ?_⟩
    · have k := (a2.nil_iff).mp z
      subst k
      exact q _ _ _ _ (New.sc e (.tup b1 b2))
    · have k := (b2.nil_iff).mp z
      subst k
      exact q _ _ _ _ (New.sc e (by rw [List.append_nil]; exact .tup a1 a2))
    · exact q _ _ _ _ (New.tup e hp (a2.app b2))
  · rw [if_neg hc] at h
    cases h
def gAddL : D → D → Option Vl
  | .lst a, .lst b => if szOk (a.length + b.length) = true then some (.own (a ++ b)) else none
  | _, _ => none
theorem gi_addL : OpI K rCat gAddL := by
  intro B H x y dx dy z e hx hy h Q q
  cases dx <;> first | (cases h; done) | skip
  cases dy <;> first | (cases h; done) | skip
  rename_i i j
  have h : (if szOk (i.length + j.length) = true then some (Vl.own (i ++ j)) else none) = some z := h
  by_cases hc : szOk (i.length + j.length) = true
  · rw [if_pos hc] at h
    cases h
    obtain ⟨p, xs, e1, a1, a2⟩ := hx
    obtain ⟨p', ys, e2, b1, b2⟩ := hy
    subst e1 e2
    exact ⟨p, p', xs, ys, rfl, rfl, a1, b1, by rw [a2.len, b2.len]; exact szOk_le hc, fun l hl => q _ _ _ _ (New.lst e hl (a2.app b2))⟩
  · rw [if_neg hc] at h
    cases h
def rAdds (K : PySem.W.Frag) : R2 := fun x y H Q => rI0 (fun i j => .int (i + j)) x y H Q ∨ (fun x y H Q => (fun x y H Q => ∃ i j, x = .str i ∧ y = .str j ∧ i.length + j.length ≤ sizeLine ∧ Q (.str (i ++ j)) H : R2) x y H Q ∨ (fun x y H Q => rCatA K x y H Q ∨ rCat x y H Q : R2) x y H Q : R2) x y H Q
theorem op_adds : OpR X (binaryOp .Add) (rAdds X.K) := OpR.or op_add (OpR.or op_add_str (OpR.or op_catA op_cat))
def gAdd : D → D → Option Vl := fun a b => (gInt yes2 (fun i j => i + j) a b).or ((gAddS a b).or ((gAddT a b).or (gAddL a b)))
theorem gi_add : OpI K (rAdds K) gAdd := OpI.or gi_int0 (OpI.or gi_addS (OpI.or gi_addT gi_addL))
theorem op_subs : OpR X (binaryOp .Sub) (rI0 fun i j => .int (i - j)) := op_sub
def gSub : D → D → Option Vl := gInt yes2 fun i j => i - j
theorem gi_sub : OpI K (rI0 fun i j => .int (i - j)) gSub := gi_int0
def cMul (i j : Int) : Bool := decide (i.natAbs.log2 + j.natAbs.log2 < 1000000)
def gRepL : D → D → Option Vl
  | .lst a, .int k => if (smallI k && szOk (a.length * k.toNat)) = true then some (.own (List.replicate k.toNat a).flatten) else none
  | _, _ => none
theorem DVs.reps {vs : List V} {ds : List D} (h : DVs K B vs ds) : ∀ n : Nat, DVs K B (List.replicate n vs).flatten (List.replicate n ds).flatten
  | 0 => .nil
  | n + 1 => by
    rw [List.replicate_succ, List.replicate_succ, List.flatten_cons, List.flatten_cons]
    exact h.app (DVs.reps h n)
theorem gi_repL : OpI K rRep gRepL := by
  intro B H x y dx dy z e hx hy h Q q
  cases dx <;> first | (cases h; done) | skip
  cases dy <;> first | (cases h; done) | skip
  rename_i i j
  have h : (if (smallI j && szOk (i.length * j.toNat)) = true then some (Vl.own (List.replicate j.toNat i).flatten) else none) = some z := h
  by_cases hc : (smallI j && szOk (i.length * j.toNat)) = true
  · rw [if_pos hc] at h
    cases h
    obtain ⟨p, xs, e1, a1, a2⟩ := hx
    subst e1
    cases hy
    rw [Bool.and_eq_true] at hc
    have := smallI_iff hc.1
    exact ⟨p, j, xs, rfl, rfl, a1, by omega, by omega, by rw [a2.len]; exact szOk_le hc.2, fun l hl => q _ _ _ _ (New.lst e hl (a2.reps _))⟩
  · rw [if_neg hc] at h
    cases h
def gRepT : D → D → Option Vl
  | .tup a, .int k => if (!a.isEmpty && decide (2 ≤ k) && decide (k ≤ 1000) && decide (a.length ≤ 1000)) = true then some (.sh (.tup (List.replicate k.toNat a).flatten)) else none
  | _, _ => none
theorem gi_repT : OpI K (rRepT K) gRepT := by
  intro B H x y dx dy z e hx hy h Q q
  cases dx <;> first | (cases h; done) | skip
  cases dy <;> first | (cases h; done) | skip
  rename_i i j
  have h : (if (!i.isEmpty && decide (2 ≤ j) && decide (j ≤ 1000) && decide (i.length ≤ 1000)) = true then some (Vl.sh (D.tup (List.replicate j.toNat i).flatten)) else none) = some z := h
  by_cases hc : (!i.isEmpty && decide (2 ≤ j) && decide (j ≤ 1000) && decide (i.length ≤ 1000)) = true
  · rw [if_pos hc] at h
    cases h
    cases hx with
    | tup a1 a2 =>
    cases hy
    simp only [Bool.and_eq_true, decide_eq_true_eq, Bool.not_eq_true'] at hc
    obtain ⟨⟨⟨h1, h2⟩, h3⟩, h4⟩ := hc
    refine ⟨_, j, _, rfl, rfl, ex_t e a1, fun z => ?_, h2, h3, by rw [a2.len]; exact h4, fun l hl => q _ _ _ _ (New.tup e hl (a2.reps _))⟩
    rw [(a2.nil_iff).mp z] at h1
    cases h1
  · rw [if_neg hc] at h
    cases h
def rMuls (K : PySem.W.Frag) : R2 := fun x y H Q => rI CMulW (fun i j => .int (i * j)) x y H Q ∨ (fun x y H Q => rRep x y H Q ∨ rRepT K x y H Q : R2) x y H Q
theorem op_muls : OpR X (binaryOp .Mult) (rMuls X.K) := OpR.or op_mulW (OpR.or op_rep op_repT)
def gMul : D → D → Option Vl := fun a b => (gInt cMul (fun i j => i * j) a b).or ((gRepL a b).or (gRepT a b))
theorem gi_mul : OpI K (rMuls K) gMul := OpI.or (gi_int fun i j (h : cMul i j = true) => show i.natAbs.log2 + j.natAbs.log2 < 1000000 from of_decide_eq_true h) (OpI.or gi_repL gi_repT)
def cDiv (_ j : Int) : Bool := decide (0 < j ∧ j < 1073741824)
def gFdiv : D → D → Option Vl := gInt cDiv fun i j => i / j
theorem gi_fdiv : OpI K (rI CDiv fun i j => .int (i / j)) gFdiv := gi_int fun i j (h : cDiv i j = true) => show 0 < j ∧ j < 1073741824 from of_decide_eq_true h
def cMod (_ j : Int) : Bool := decide (0 < j)
def gMod : D → D → Option Vl := gInt cMod fun i j => i % j
theorem gi_mod : OpI K (rI (fun _ j => 0 < j) fun i j => .int (i % j)) gMod := gi_int fun i j (h : cMod i j = true) => show 0 < j from of_decide_eq_true h
def cPow (i j : Int) : Bool := decide (0 ≤ j ∧ j ≤ 1000 ∧ i.natAbs < 2 ^ 64)
def gPow : D → D → Option Vl := gInt cPow fun i j => i ^ j.toNat
theorem gi_pow : OpI K (rI CPow fun i j => .int (i ^ j.toNat)) gPow := gi_int fun i j (h : cPow i j = true) => by
  have h : 0 ≤ j ∧ j ≤ 1000 ∧ i.natAbs < 2 ^ 64 := of_decide_eq_true h
  exact ⟨h.1, by omega, h.2.2⟩
def gNeg : D → Option Vl
  | .int i => some (.sh (.int (-i)))
  | _ => none
theorem gi_neg : UnI K (rU fun i => .int (-i)) gNeg := by
  intro B H x dx z e hx h Q q
  cases dx <;> first | (cases h; done) | skip
  cases h
  cases hx
  exact ⟨_, rfl, q _ _ _ _ (New.sc e (.int _))⟩
def gAugAdd : D → D → Option Vl := gInt yes2 fun i j => i + j
theorem gi_augAdd : OpI K (ipI fun i j => i + j) gAugAdd := gi_int0
def gAugSub : D → D → Option Vl := gInt yes2 fun i j => i - j
theorem gi_augSub : OpI K (ipI fun i j => i - j) gAugSub := gi_int0

def cmpI (g : Int → Int → Bool) : D → D → Option Bool
  | .int i, .int j => some (g i j)
  | _, _ => none
theorem ci_int {g : Int → Int → Bool} : CmpI K (rI0 fun i j => .bl (g i j)) (cmpI g) := by
  intro B H x y dx dy b e hx hy h Q q
  cases dx <;> first | (cases h; done) | skip
  cases dy <;> first | (cases h; done) | skip
  cases h
  cases hx
  cases hy
  exact ⟨_, _, rfl, rfl, q⟩
def cmpS (g : Str → Str → Bool) : D → D → Option Bool
  | .str i, .str j => some (g i j)
  | _, _ => none
theorem ci_str {g : Str → Str → Bool} : CmpI K (fun x y H Q => ∃ i j, x = .str i ∧ y = .str j ∧ Q (.bl (g i j)) H) (cmpS g) := by
  intro B H x y dx dy b e hx hy h Q q
  cases dx <;> first | (cases h; done) | skip
  cases dy <;> first | (cases h; done) | skip
  cases h
  cases hx
  cases hy
  exact ⟨_, _, rfl, rfl, q⟩
def rLts : R2 := fun x y H Q => rI0 (fun i j => .bl (decide (i < j))) x y H Q ∨ (fun x y H Q => ∃ i j, x = .str i ∧ y = .str j ∧ Q (.bl (decide (i.cps.toList < j.cps.toList))) H : R2) x y H Q
theorem op_lts : OpR X (compareOp .Lt) rLts := OpR.or op_lt op_lt_str
def gLt : D → D → Option Bool := fun a b => (cmpI (fun i j => decide (i < j)) a b).or (cmpS (fun i j => decide (i.cps.toList < j.cps.toList)) a b)
theorem ci_lt : CmpI K rLts gLt := CmpI.or ci_int ci_str
def rLes : R2 := fun x y H Q => rI0 (fun i j => .bl (decide (i ≤ j))) x y H Q ∨ (fun x y H Q => ∃ i j, x = .str i ∧ y = .str j ∧ Q (.bl (!decide (j.cps.toList < i.cps.toList))) H : R2) x y H Q
theorem op_les : OpR X (compareOp .LtE) rLes := OpR.or op_le op_le_str
def gLe : D → D → Option Bool := fun a b => (cmpI (fun i j => decide (i ≤ j)) a b).or (cmpS (fun i j => !decide (j.cps.toList < i.cps.toList)) a b)
theorem ci_le : CmpI K rLes gLe := CmpI.or ci_int ci_str
def rGts : R2 := rI0 fun i j => .bl (decide (j < i))
theorem op_gts : OpR X (compareOp .Gt) rGts := op_gt
def gGt : D → D → Option Bool := cmpI fun i j => decide (j < i)
theorem ci_gt : CmpI K rGts gGt := ci_int
def rGes : R2 := rI0 fun i j => .bl (decide (j ≤ i))
theorem op_ges : OpR X (compareOp .GtE) rGes := op_ge
def gGe : D → D → Option Bool := cmpI fun i j => decide (j ≤ i)
theorem ci_ge : CmpI K rGes gGe := ci_int
mutual
def pyd : D → Option PyData
  | .non => some .none
  | .bl b => some (.bool b)
  | .int i => some (.int i)
  | .str s => some (.str s)
  | .tup l => (pyds l).bind fun l => some (.tuple l)
  | .lst l => (pyds l).bind fun l => some (.list l)
  | _ => none
def pyds : List D → Option (List PyData)
  | [] => some []
  | d :: ds => (pyd d).bind fun p => (pyds ds).bind fun ps => some (p :: ps)
end
mutual
theorem DV.dp (e : Ex B H) : ∀ {v : V} {d : D} {p : PyData}, DV K B v d → pyd d = some p → Dp K H v p
  | _, _, p, .non, h => by unfold pyd at h; cases h; exact .non
  | _, _, p, .bl b, h => by unfold pyd at h; cases h; exact .bl b
  | _, _, p, .int b, h => by unfold pyd at h; cases h; exact .int b
  | _, _, p, .str b, h => by unfold pyd at h; cases h; exact .str b
  | _, _, p, .ref b, h => by unfold pyd at h; cases h
  | _, _, p, .ty b, h => by unfold pyd at h; cases h
  | _, _, p, .scr b, h => by unfold pyd at h; cases h
  | _, _, p, .tup (ds := ds) h1 h2, h => by
    unfold pyd at h
    cases e1 : pyds ds with
    | none => rw [e1] at h; cases h
    | some l =>
      rw [e1] at h
      cases h
      exact .tup (ex_t e h1) (DVs.dp e h2 e1)
  | _, _, p, .lst (ds := ds) h1 h2, h => by
    unfold pyd at h
    cases e1 : pyds ds with
    | none => rw [e1] at h; cases h
    | some l =>
      rw [e1] at h
      cases h
      exact .lst (SqL.of (e _ _ h1)) (DVs.dp e h2 e1)
theorem DVs.dp (e : Ex B H) : ∀ {vs : List V} {ds : List D} {ps : List PyData}, DVs K B vs ds → pyds ds = some ps → DpAll K H vs ps
  | _, _, ps, .nil, h => by unfold pyds at h; cases h; exact .nil
  | _, _, ps, .cons (d := d) (ds := ds) h1 h2, h => by
    unfold pyds at h
    cases e1 : pyd d with
    | none => rw [e1] at h; cases h
    | some p =>
      rw [e1] at h
      cases e2 : pyds ds with
      | none => rw [e2] at h; cases h
      | some l =>
        rw [e2] at h
        cases h
        exact .cons (DV.dp e h1 e1) (DVs.dp e h2 e2)
end
theorem RdV.dp {v : V} {d : D} {p : PyData} (e : Ex B H) (h : RdV K B H v d) (hp : pyd d = some p) : Dp K H v p := by
  cases d with
  | lst ds =>
    obtain ⟨q, xs, e1, h1, h2⟩ := h
    subst e1
    unfold pyd at hp
    cases e2 : pyds ds with
    | none => rw [e2] at hp; cases hp
    | some l =>
      rw [e2] at hp
      cases hp
      exact .lst (SqL.of h1) (h2.dp e e2)
  | _ => exact DV.dp e h hp
def eqS : D → D → Option Bool
  | .non, .non => some true
  | .non, .int _ => some false
  | .int _, .non => some false
  | .int i, .int j => some (decide (i = j))
  | .bl i, .bl j => some (decide (i = j))
  | .str i, .str j => some (decide (i = j))
  | .int _, .str _ => some false
  | .str _, .int _ => some false
  | .non, .str _ => some false
  | .str _, .non => some false
  | _, _ => none
theorem dec_v {α : Type} [DecidableEq α] {f : α → V} (hf : ∀ a b, f a = f b → a = b) {a b : α} : decide (f a = f b) = decide (a = b) := by
  by_cases h : a = b
  · subst h; simp
  · rw [decide_eq_false h, decide_eq_false fun z => h (hf _ _ z)]
theorem eqS_ok {x y : V} {dx dy : D} {b : Bool} (hx : RdV K B H x dx) (hy : RdV K B H y dy) (h : eqS dx dy = some b) : scal x y = true ∧ decide (x = y) = b := by
  cases dx <;> cases dy <;> first | (cases h; done) | skip
  all_goals (cases h; cases hx; cases hy; first | exact ⟨rfl, rfl⟩ | exact ⟨rfl, dec_v fun _ _ z => by cases z; rfl⟩)
theorem ci_eqS : CmpI K rEq eqS := fun B H x y dx dy b e hx hy h Q q => by
  obtain ⟨h1, h2⟩ := eqS_ok hx hy h
  exact ⟨h1, by rw [h2]; exact q⟩
theorem ci_neS : CmpI K rNe (fun a b => (eqS a b).map (!·)) := fun B H x y dx dy b e hx hy h Q q => by
  cases e1 : eqS dx dy with
  | none => simp [e1] at h
  | some k =>
    simp [e1] at h
    obtain ⟨h1, h2⟩ := eqS_ok hx hy e1
    exact ⟨h1, by rw [h2, h, Bool.not_not]; exact q⟩
def eqP (p q : PyData) : Option Bool := if (SeqAt.shaped p && SeqAt.shaped q) = true then some (PyData.eqv p q) else none
def eqD (a b : D) : Option Bool := (pyd a).bind fun p => (pyd b).bind fun q => eqP p q
theorem eqD_ok {x y : V} {dx dy : D} {b : Bool} (e : Ex B H) (hx : RdV K B H x dx) (hy : RdV K B H y dy) (h : eqD dx dy = some b) : ∃ p q, Dp K H x p ∧ Dp K H y q ∧ SeqAt.shaped p = true ∧ SeqAt.shaped q = true ∧ PyData.eqv p q = b := by
  unfold eqD at h
  cases e1 : pyd dx with
  | none => rw [e1] at h; cases h
  | some p =>
    rw [e1] at h
    cases e2 : pyd dy with
    | none => rw [e2] at h; cases h
    | some q =>
      rw [e2] at h
      have h : (if (SeqAt.shaped p && SeqAt.shaped q) = true then some (PyData.eqv p q) else none) = some b := h
      by_cases hc : (SeqAt.shaped p && SeqAt.shaped q) = true
      · rw [if_pos hc] at h
        cases h
        rw [Bool.and_eq_true] at hc
        exact ⟨p, q, hx.dp e e1, hy.dp e e2, hc.1, hc.2, rfl⟩
      · rw [if_neg hc] at h
        cases h
theorem ci_eqD : CmpI K (rEqD K) eqD := fun B H x y dx dy b e hx hy h Q q => by
  obtain ⟨p, p', h1, h2, h3, h4, h5⟩ := eqD_ok e hx hy h
  exact ⟨p, p', h1, h2, h3, h4, by rw [h5]; exact q⟩
theorem ci_neD : CmpI K (rNeD K) (fun a b => (eqD a b).map (!·)) := fun B H x y dx dy b e hx hy h Q q => by
  cases e1 : eqD dx dy with
  | none => simp [e1] at h
  | some k =>
    simp [e1] at h
    obtain ⟨p, p', h1, h2, h3, h4, h5⟩ := eqD_ok e hx hy e1
    exact ⟨p, p', h1, h2, h3, h4, by rw [h5, h, Bool.not_not]; exact q⟩
def rEqs (K : PySem.W.Frag) : R2 := fun x y H Q => rEq x y H Q ∨ rEqD K x y H Q
theorem op_eqs (hu : X.A.units + 64 < cLine) : OpR X (compareOp .Eq) (rEqs X.K) := OpR.or op_eq (op_eqD hu)
def gEq : D → D → Option Bool := fun a b => (eqS a b).or (eqD a b)
theorem ci_eq : CmpI K (rEqs K) gEq := CmpI.or ci_eqS ci_eqD
def rNes (K : PySem.W.Frag) : R2 := fun x y H Q => rNe x y H Q ∨ rNeD K x y H Q
theorem op_nes (hu : X.A.units + 64 < cLine) : OpR X (compareOp .NotEq) (rNes X.K) := OpR.or op_ne (op_neD hu)
def gNe : D → D → Option Bool := fun a b => ((eqS a b).map (!·)).or ((eqD a b).map (!·))
theorem ci_ne : CmpI K (rNes K) gNe := CmpI.or ci_neS ci_neD
def isNonD : D → Bool
  | .non => true
  | _ => false
theorem RdV.isNon {x : V} {dx : D} (h : RdV K B H x dx) : decide (x = .non) = isNonD dx := by
  cases dx with
  | lst l =>
    obtain ⟨p, xs, e, _⟩ := h
    subst e
    rfl
  | _ => cases h <;> rfl
def gIsN : D → D → Option Bool
  | a, .non => some (isNonD a)
  | _, _ => none
theorem ci_isN : CmpI K (fun x y H Q => y = .non ∧ Q (.bl (decide (x = .non))) H) gIsN := fun B H x y dx dy b e hx hy h Q q => by
  cases dy <;> first | (cases h; done) | skip
  cases h
  cases hy
  exact ⟨rfl, by rw [hx.isNon]; exact q⟩
def gNotN : D → D → Option Bool
  | a, .non => some (!isNonD a)
  | _, _ => none
theorem ci_notN : CmpI K (fun x y H Q => y = .non ∧ Q (.bl (!decide (x = .non))) H) gNotN := fun B H x y dx dy b e hx hy h Q q => by
  cases dy <;> first | (cases h; done) | skip
  cases h
  cases hy
  exact ⟨rfl, by rw [hx.isNon]; exact q⟩
def flatD : D → Bool
  | .non => true
  | .bl _ => true
  | .int _ => true
  | .str _ => true
  | _ => false
def eqF : D → D → Bool
  | .non, .non => true
  | .bl a, .bl b => a == b
  | .bl a, .int b => (if a then 1 else 0) == b
  | .int a, .bl b => a == (if b then 1 else 0)
  | .int a, .int b => a == b
  | .str a, .str b => a == b
  | _, _ => false
theorem DV.flat {v : V} {d : D} (h : DV K B v d) (hf : flatD d = true) : flatV v = true := by
  cases h <;> first | rfl | cases hf
theorem DV.eqF {v w : V} {d e : D} (h : DV K B v d) (k : DV K B w e) (hd : flatD d = true) (he : flatD e = true) : eqV v w = DL.eqF d e := by
  cases h <;> first | (cases hd; done) | skip
  all_goals (cases k <;> first | (cases he; done) | rfl)
def itemsFlat : D → Option (List D)
  | .lst l => if l.all flatD = true then some l else none
  | .tup l => if l.all flatD = true then some l else none
  | _ => none
def gIn (neg : Bool) : D → D → Option Bool := fun x s => if flatD x = true then (itemsFlat s).map fun l => if neg then !(l.any fun y => eqF y x) else l.any fun y => eqF y x else none
theorem DVs.flats : ∀ {vs : List V} {ds : List D}, DVs K B vs ds → ds.all flatD = true → vs.all flatV = true
  | _, _, .nil, _ => rfl
  | _, _, .cons h r, e => by
    rw [List.all_cons, Bool.and_eq_true] at e ⊢
    exact ⟨h.flat e.1, DVs.flats r e.2⟩
theorem DVs.anyEq {x : V} {dx : D} (hx : DV K B x dx) (fx : flatD dx = true) : ∀ {vs : List V} {ds : List D}, DVs K B vs ds → ds.all flatD = true → (vs.any fun y => eqV y x) = ds.any fun y => eqF y dx
  | _, _, .nil, _ => rfl
  | _, _, .cons h r, e => by
    rw [List.all_cons, Bool.and_eq_true] at e
    rw [List.any_cons, List.any_cons, h.eqF hx e.1 fx, DVs.anyEq hx fx r e.2]
theorem ci_in {neg : Bool} : CmpI K (rIn K neg) (gIn neg) := fun B H x y dx dy b e hx hy h Q q => by
  unfold gIn at h
  by_cases hf : flatD dx = true
  · rw [if_pos hf] at h
    have hxv : DV K B x dx := by cases dx <;> first | exact hx | cases hf
    cases dy with
    | lst l =>
      obtain ⟨p, xs, e1, h1, h2⟩ := hy
      subst e1
      have h : (if l.all flatD = true then some l else none).map (fun l => if neg then !(l.any fun y => eqF y dx) else l.any fun y => eqF y dx) = some b := h
      by_cases hl : l.all flatD = true
      · rw [if_pos hl] at h
        cases h
        refine ⟨p, xs, rfl, .inl (SqL.of h1), hxv.flat hf, h2.flats hl, ?_⟩
        unfold inV
        rw [h2.anyEq hxv hf hl]
        exact q
      · rw [if_neg hl] at h
        cases h
    | tup l =>
      cases hy with
      | tup h1 h2 =>
      have h : (if l.all flatD = true then some l else none).map (fun l => if neg then !(l.any fun y => eqF y dx) else l.any fun y => eqF y dx) = some b := h
      by_cases hl : l.all flatD = true
      · rw [if_pos hl] at h
        cases h
        refine ⟨_, _, rfl, .inr (ex_t e h1), hxv.flat hf, h2.flats hl, ?_⟩
        unfold inV
        rw [h2.anyEq hxv hf hl]
        exact q
      · rw [if_neg hl] at h
        cases h
    | _ => cases h
  · rw [if_neg hf] at h
    cases h

def gIx : D → D → Option Vl
  | .lst l, .int i => (atI l i).map .sh
  | .tup l, .int i => (atI l i).map .sh
  | .str s, .int i => if szOk s.length = true then (atI s.cps.toList i).map fun c => .sh (.str (sgn c)) else none
  | _, _ => none
theorem DVs.at {vs : List V} {ds : List D} {i : Int} {d : D} (h : DVs K B vs ds) (e : atI ds i = some d) : ∃ v, atI vs i = some v ∧ DV K B v d := by
  unfold atI at e ⊢
  rw [h.len]
  cases q : ixN ds.length i with
  | none => rw [q] at e; cases e
  | some j =>
    rw [q] at e
    exact h.get e
theorem gi_ix : OpI K (rIx K) gIx := by
  intro B H x y dx dy z e hx hy h Q q
  cases dy <;> first | (cases dx <;> first | (cases h; done)) | skip
  rename_i i
  cases hy
  cases dx with
  | lst l =>
    obtain ⟨p, xs, e1, h1, h2⟩ := hx
    subst e1
    have h : (atI l i).map Vl.sh = some z := h
    cases e2 : atI l i with
    | none => rw [e2] at h; cases h
    | some d =>
      rw [e2] at h
      cases h
      obtain ⟨v, w1, w2⟩ := h2.at e2
      exact .inl ⟨p, xs, i, v, rfl, rfl, SqL.of h1, w1, q _ _ _ _ (New.sc e w2)⟩
  | tup l =>
    cases hx with
    | tup h1 h2 =>
    have h : (atI l i).map Vl.sh = some z := h
    cases e2 : atI l i with
    | none => rw [e2] at h; cases h
    | some d =>
      rw [e2] at h
      cases h
      obtain ⟨v, w1, w2⟩ := h2.at e2
      exact .inr (.inl ⟨_, _, i, v, rfl, rfl, ex_t e h1, w1, q _ _ _ _ (New.sc e w2)⟩)
  | str s =>
    cases hx
    have h : (if szOk s.length = true then (atI s.cps.toList i).map fun c => Vl.sh (.str (sgn c)) else none) = some z := h
    by_cases hz : szOk s.length = true
    · rw [if_pos hz] at h
      cases e2 : atI s.cps.toList i with
      | none => rw [e2] at h; cases h
      | some c =>
        rw [e2] at h
        cases h
        exact .inr (.inr ⟨s, i, c, rfl, rfl, szOk_le hz, e2, q _ _ _ _ (New.sc e (.str _))⟩)
    · rw [if_neg hz] at h
      cases h
  | _ => cases h
def cutD {α : Type} (xs : List α) (lo hi : Option Int) : List α := (xs.drop (HT.sIx xs.length 0 lo)).take (HT.sIx xs.length xs.length hi - HT.sIx xs.length 0 lo)
theorem DVs.cut {vs : List V} {ds : List D} {lo hi : Option Int} (h : DVs K B vs ds) : DVs K B (cutV vs lo hi) (cutD ds lo hi) := by
  unfold cutV cutD
  rw [h.len]
  exact (h.drop _).take _
def gSlL : D → Option Int → Option Int → Option Vl
  | .lst l, lo, hi => some (.own (cutD l lo hi))
  | _, _, _ => none
theorem si_lst : SlI K (rSlL K) gSlL := by
  intro B H x dx lo hi z e hx h Q q
  cases dx <;> first | (cases h; done) | skip
  cases h
  obtain ⟨p, xs, e1, h1, h2⟩ := hx
  subst e1
  exact ⟨p, xs, rfl, SqL.of h1, fun l hl => q _ _ _ _ (New.lst e hl h2.cut)⟩
def gSlT : D → Option Int → Option Int → Option Vl
  | .tup l, lo, hi => some (.sh (.tup (cutD l lo hi)))
  | _, _, _ => none
theorem si_tup : SlI K (rSlA K) gSlT := by
  intro B H x dx lo hi z e hx h Q q
  cases dx <;> first | (cases h; done) | skip
  rename_i ds
  cases h
  cases hx with
  | tup h1 h2 =>
  refine ⟨_, _, rfl, ex_t e h1, fun z => ?_, fun _ l hl => q _ _ _ _ (New.tup e hl h2.cut)⟩
  have ec : cutD ds lo hi = ds := by
    unfold cutD
    rw [← h2.len, z.1, z.2, List.drop_zero, Nat.sub_zero, h2.len, List.take_length]
  exact q _ _ _ _ (New.sc e (by rw [ec]; exact .tup h1 h2))
def gSlS : D → Option Int → Option Int → Option Vl
  | .str s, lo, hi => if szOk s.length = true then some (.sh (.str (cutS s lo hi))) else none
  | _, _, _ => none
theorem si_str : SlI K rSlS gSlS := by
  intro B H x dx lo hi z e hx h Q q
  cases dx <;> first | (cases h; done) | skip
  rename_i s
  have h : (if szOk s.length = true then some (Vl.sh (.str (cutS s lo hi))) else none) = some z := h
  by_cases hz : szOk s.length = true
  · rw [if_pos hz] at h
    cases h
    cases hx
    exact ⟨s, rfl, szOk_le hz, q _ _ _ _ (New.sc e (.str _))⟩
  · rw [if_neg hz] at h
    cases h
def rSls (K : PySem.W.Frag) : V → Option Int → Option Int → Hp → VK → Prop := fun x lo hi H Q => rSlL K x lo hi H Q ∨ (fun x lo hi H Q => rSlA K x lo hi H Q ∨ rSlS x lo hi H Q : V → Option Int → Option Int → Hp → VK → Prop) x lo hi H Q
theorem sl_all : SlR X (rSls X.K) := SlR.or sl_list (SlR.or sl_tupA sl_str)
def gSl : D → Option Int → Option Int → Option Vl := fun a l u => (gSlL a l u).or ((gSlT a l u).or (gSlS a l u))
theorem si_all : SlI K (rSls K) gSl := SlI.or si_lst (SlI.or si_tup si_str)
end
end DL
end
section
set_option maxRecDepth 100000
set_option maxHeartbeats 2000000
namespace DL
open PySem PySem.Spec PyProof.Rows L2
open Evl (Ex ex_rd ex_l ex_t)
section
variable {K : PySem.W.Frag} {ct : Ct} {E : XK} {B H B' H' B1 H1 B2 H2 : Hp} {σ σ' : L2.St} {ρ ρ' : Env} {f0 f1 f2 : Fps} {v : V} {r : Vl} {f g : List Addr} {X : Cx} {fix : Nat → Bool}

theorem sc1 {d : D} {Q : VK} (e : Ex B H) (h : DV K B v d) (q : ∀ v' B' H' f, New K B H v' (.sh d) B' H' f → Q v' H') : Q v H := q _ _ _ _ (New.sc e h)
def gLen : List D → Option Vl
  | [.lst l] => some (.sh (.int l.length))
  | [.tup l] => some (.sh (.int l.length))
  | [.scr l] => some (.sh (.int l.length))
  | [.str s] => if szOk s.length = true then some (.sh (.int s.length)) else none
  | _ => none
theorem gc_len : CallI K (fun xs H Q => ∃ x n, xs = [x] ∧ LenV K x H n ∧ Q (.int n) H) gLen := by
  intro B H xs ds z e hx h Q q
  cases hx with
  | nil => cases h
  | cons h1 h2 =>
    cases h2 with
    | cons => rename_i d _ _ _ _ _ _; cases d <;> cases h
    | nil =>
      rename_i v d
      cases d with
      | lst l =>
        cases h
        obtain ⟨p, xs, e1, h1, h2⟩ := h1
        subst e1
        exact ⟨_, l.length, rfl, .inl ⟨xs, SqL.of h1, h2.len.symm⟩, sc1 e (.int _) q⟩
      | scr l =>
        cases h
        cases h1 with
        | scr h1 => exact ⟨_, l.length, rfl, .inl ⟨_, ex_l e h1, by rw [List.length_map]⟩, sc1 e (.int _) q⟩
      | tup l =>
        cases h
        cases h1 with
        | tup h1 h2 => exact ⟨_, l.length, rfl, .inr ⟨_, ex_t e h1, h2.len.symm⟩, sc1 e (.int _) q⟩
      | str s =>
        have h : (if szOk s.length = true then some (Vl.sh (.int s.length)) else none) = some z := h
        by_cases hz : szOk s.length = true
        · rw [if_pos hz] at h
          cases h
          cases h1
          exact ⟨_, s.length, rfl, ⟨szOk_le hz, rfl⟩, sc1 e (.int _) q⟩
        · rw [if_neg hz] at h
          cases h
      | _ => cases h
theorem RdVs.lst1 {xs : List V} {l : List D} (h : RdVs K B H xs [.lst l]) : ∃ p ys, xs = [.ref p] ∧ H p = some (.lst ys) ∧ DVs K B ys l := by
  obtain ⟨v, e, hv⟩ := h.one
  subst e
  obtain ⟨p, ys, e1, h1, h2⟩ := hv
  subst e1
  exact ⟨p, ys, rfl, h1, h2⟩
def blsOf : List D → Option (List Bool)
  | [] => some []
  | .bl b :: r => (blsOf r).map (b :: ·)
  | _ => none
theorem blsOf_map : ∀ {l : List D} {bs : List Bool}, blsOf l = some bs → l = bs.map D.bl
  | [], bs, h => by cases h; rfl
  | .bl b :: r, bs, h => by
    unfold blsOf at h
    cases e : blsOf r with
    | none => rw [e] at h; cases h
    | some cs => rw [e] at h; cases h; rw [blsOf_map e]; rfl
  | .non :: r, bs, h => by cases h
  | .int _ :: r, bs, h => by cases h
  | .str _ :: r, bs, h => by cases h
  | .tup _ :: r, bs, h => by cases h
  | .lst _ :: r, bs, h => by cases h
  | .scr _ :: r, bs, h => by cases h
  | .ty _ :: r, bs, h => by cases h
  | .ref _ :: r, bs, h => by cases h
def intsOf : List D → Option (List Int)
  | [] => some []
  | .int b :: r => (intsOf r).map (b :: ·)
  | _ => none
theorem intsOf_map : ∀ {l : List D} {bs : List Int}, intsOf l = some bs → l = bs.map D.int
  | [], bs, h => by cases h; rfl
  | .int b :: r, bs, h => by
    unfold intsOf at h
    cases e : intsOf r with
    | none => rw [e] at h; cases h
    | some cs => rw [e] at h; cases h; rw [intsOf_map e]; rfl
  | .non :: r, bs, h => by cases h
  | .bl _ :: r, bs, h => by cases h
  | .str _ :: r, bs, h => by cases h
  | .tup _ :: r, bs, h => by cases h
  | .lst _ :: r, bs, h => by cases h
  | .scr _ :: r, bs, h => by cases h
  | .ty _ :: r, bs, h => by cases h
  | .ref _ :: r, bs, h => by cases h
def strsOf : List D → Option (List Str)
  | [] => some []
  | .str b :: r => (strsOf r).map (b :: ·)
  | _ => none
theorem strsOf_map : ∀ {l : List D} {bs : List Str}, strsOf l = some bs → l = bs.map D.str
  | [], bs, h => by cases h; rfl
  | .str b :: r, bs, h => by
    unfold strsOf at h
    cases e : strsOf r with
    | none => rw [e] at h; cases h
    | some cs => rw [e] at h; cases h; rw [strsOf_map e]; rfl
  | .non :: r, bs, h => by cases h
  | .bl _ :: r, bs, h => by cases h
  | .int _ :: r, bs, h => by cases h
  | .tup _ :: r, bs, h => by cases h
  | .lst _ :: r, bs, h => by cases h
  | .scr _ :: r, bs, h => by cases h
  | .ty _ :: r, bs, h => by cases h
  | .ref _ :: r, bs, h => by cases h
theorem blsOf_of : ∀ bs : List Bool, blsOf (bs.map D.bl) = some bs
  | [] => rfl
  | b :: r => by rw [List.map_cons]; unfold blsOf; rw [blsOf_of r]; rfl
theorem intsOf_of : ∀ bs : List Int, intsOf (bs.map D.int) = some bs
  | [] => rfl
  | b :: r => by rw [List.map_cons]; unfold intsOf; rw [intsOf_of r]; rfl
theorem strsOf_of : ∀ bs : List Str, strsOf (bs.map D.str) = some bs
  | [] => rfl
  | b :: r => by rw [List.map_cons]; unfold strsOf; rw [strsOf_of r]; rfl
def g1 {α : Type} (of : List D → Option α) (k : α → Option Vl) : List D → Option Vl
  | [.lst l] => (of l).bind k
  | _ => none
theorem g1_inv {α : Type} {of : List D → Option α} {k : α → Option Vl} {ds : List D} {z : Vl} (h : g1 of k ds = some z) : ∃ l a, ds = [.lst l] ∧ of l = some a ∧ k a = some z := by
  unfold g1 at h
  split at h
  · rename_i l
    cases e : of l with
    | none => rw [e] at h; cases h
    | some a => rw [e] at h; exact ⟨l, a, rfl, e, h⟩
  · cases h
def gAll : List D → Option Vl := g1 blsOf fun bs => some (.sh (.bl (bs.all id)))
def gAny : List D → Option Vl := g1 blsOf fun bs => some (.sh (.bl (bs.any id)))
def gSum : List D → Option Vl := g1 intsOf fun ns => some (.sh (.int ns.sum))
theorem gc_all : CallI K (rAll K) gAll := by
  intro B H xs ds z e hx h Q q
  obtain ⟨l, bs, e1, e2, e3⟩ := g1_inv h
  subst e1
  cases e3
  obtain ⟨p, ys, e4, h1, h2⟩ := hx.lst1
  subst e4
  have el := blsOf_map e2
  subst el
  have ey := h2.bls_of
  subst ey
  exact ⟨p, bs, rfl, SqL.of h1, sc1 e (.bl _) q⟩
theorem gc_any : CallI K (rAny K) gAny := by
  intro B H xs ds z e hx h Q q
  obtain ⟨l, bs, e1, e2, e3⟩ := g1_inv h
  subst e1
  cases e3
  obtain ⟨p, ys, e4, h1, h2⟩ := hx.lst1
  subst e4
  have el := blsOf_map e2
  subst el
  have ey := h2.bls_of
  subst ey
  exact ⟨p, bs, rfl, SqL.of h1, sc1 e (.bl _) q⟩
theorem gc_sum : CallI K (rSum K) gSum := by
  intro B H xs ds z e hx h Q q
  obtain ⟨l, bs, e1, e2, e3⟩ := g1_inv h
  subst e1
  cases e3
  obtain ⟨p, ys, e4, h1, h2⟩ := hx.lst1
  subst e4
  have el := intsOf_map e2
  subst el
  have ey := h2.ints_of
  subst ey
  exact ⟨p, bs, rfl, SqL.of h1, sc1 e (.int _) q⟩
def leS (a b : Str) : Bool := decide (a.cps.toList ≤ b.cps.toList)
def sortS (l : List Str) : List Str := l.mergeSort leS
def sortZ (l : List Int) : List Int := l.mergeSort fun a b => decide (a ≤ b)
def gSortedZ : List D → Option Vl := g1 intsOf fun ns => some (.own ((sortZ ns).map D.int))
def gSortedS : List D → Option Vl := g1 strsOf fun ns => if ns.length < 64 then some (.own ((sortS ns).map D.str)) else none
theorem leS_lt (a b : Str) : (!ltCps b.cps.toList a.cps.toList) = leS a b := by
  unfold leS
  rw [ltCps_eq, Bool.eq_iff_iff]
  simp
theorem leS_trans (a b c : Str) (h1 : leS a b = true) (h2 : leS b c = true) : leS a c = true := by
  unfold leS at *
  simp only [decide_eq_true_eq] at *
  exact List.le_trans h1 h2
theorem leS_total (a b : Str) : (leS a b || leS b a) = true := by
  unfold leS
  simp only [Bool.or_eq_true, decide_eq_true_eq]
  exact List.le_total _ _
theorem leS_anti (a b : Str) (h1 : leS a b = true) (h2 : leS b a = true) : a = b := by
  unfold leS at *
  simp only [decide_eq_true_eq] at *
  have h := List.le_antisymm h1 h2
  cases a
  cases b
  simp at h
  rw [h]
theorem risingS_pw : ∀ (l : List Str) (p : Str), risingS p l = true → (∀ x ∈ l, leS p x = true) ∧ l.Pairwise (fun a b => leS a b = true)
  | [], p, _ => ⟨fun _ h => (nomatch h), .nil⟩
  | x :: r, p, h => by
    have h : (!ltCps x.cps.toList p.cps.toList && risingS x r) = true := h
    rw [Bool.and_eq_true] at h
    have h0 := h.1
    rw [leS_lt] at h0
    have ih := risingS_pw r x h.2
    refine ⟨fun y hy => ?_, .cons ih.1 ih.2⟩
    rcases List.mem_cons.mp hy with e | hy
    · rw [e]; exact h0
    · exact leS_trans _ _ _ h0 (ih.1 y hy)
theorem sortedS_pw : ∀ {l : List Str}, sortedS l = true → l.Pairwise (fun a b => leS a b = true)
  | [], _ => .nil
  | x :: r, h => .cons (risingS_pw r x h).1 (risingS_pw r x h).2
theorem sortS_pw (l : List Str) : (sortS l).Pairwise (fun a b => leS a b = true) := List.pairwise_mergeSort (le := leS) leS_trans leS_total l
theorem sortS_perm (l : List Str) : (sortS l).Perm l := List.mergeSort_perm _ _
theorem sortS_uniq {l m : List Str} (hp : m.Perm l) (h : m.Pairwise (fun a b => leS a b = true)) : m = sortS l :=
  List.Perm.eq_of_pairwise (fun a b _ _ h1 h2 => leS_anti a b h1 h2) h (sortS_pw l) (hp.trans (sortS_perm l).symm)
theorem gc_sortedS : CallI K (rSortedS K) gSortedS := by
  intro B H xs ds z e hx h Q q
  obtain ⟨l, bs, e1, e2, e3⟩ := g1_inv h
  subst e1
  have e3 : (if bs.length < 64 then some (Vl.own ((sortS bs).map D.str)) else none) = some z := e3
  by_cases hz : bs.length < 64
  · rw [if_pos hz] at e3
    cases e3
    obtain ⟨p, ys, e4, h1, h2⟩ := hx.lst1
    subst e4
    have el := strsOf_map e2
    subst el
    have ey := h2.strs_of
    subst ey
    refine ⟨p, bs, rfl, SqL.of h1, hz, fun ns' a hp hs ha => ?_⟩
    have es : ns' = sortS bs := sortS_uniq hp (sortedS_pw hs)
    rw [← es] at q
    exact q _ _ _ _ (New.lst e ha (DVs.strs ns'))
  · rw [if_neg hz] at e3
    cases e3
def rSorteds (K : PySem.W.Frag) : List V → Hp → VK → Prop := fun xs H Q => rSortedS K xs H Q ∨ rSortedI K xs H Q
theorem call_sorteds (hc : X.calm = true) : CallR X (.builtin "sorted") (rSorteds X.K) := CallR.or cr_sortedS cr_sortedI
def gSorted : List D → Option Vl := fun ds => (gSortedS ds).or (gSortedZ ds)
theorem gc_sortedZ : CallI K (rSortedI K) gSortedZ := by
  intro B H xs ds z e hx h Q q
  obtain ⟨l, bs, e1, e2, e3⟩ := g1_inv h
  subst e1
  cases e3
  obtain ⟨p, ys, e4, h1, h2⟩ := hx.lst1
  subst e4
  have el := intsOf_map e2
  subst el
  have ey := h2.ints_of
  subst ey
  refine ⟨p, bs, rfl, SqL.of h1, fun ns' a hp hs ha => ?_⟩
  have es : ns' = sortZ bs := by
    refine PySem.W.ksm_same (hp.trans (List.mergeSort_perm _ _).symm) hs ?_
    have := List.pairwise_mergeSort (le := fun a b : Int => decide (a ≤ b)) (fun a b c h1 h2 => by simp at *; omega) (fun a b => by simp; omega) bs
    exact this.imp fun h => by simpa using h
  rw [← es] at q
  exact q _ _ _ _ (New.lst e ha (DVs.ints ns'))
theorem gc_sorted : CallI K (rSorteds K) gSorted := CallI.or gc_sortedS gc_sortedZ
def gZ2 (g : Int → Int → Int) : List D → Option Vl
  | [.int i, .int j] => some (.sh (.int (g i j)))
  | _ => none
theorem gc_z2 {g : Int → Int → Int} : CallI K (fun xs H Q => ∃ i j, xs = [.int i, .int j] ∧ Q (.int (g i j)) H) (gZ2 g) := by
  intro B H xs ds z e hx h Q q
  unfold gZ2 at h
  split at h
  · cases h
    obtain ⟨v, w, e1, h1, h2⟩ := hx.two
    subst e1
    cases h1
    cases h2
    exact ⟨_, _, rfl, sc1 e (.int _) q⟩
  · cases h
def gMin2 : List D → Option Vl := gZ2 fun i j => if j < i then j else i
def gMax2 : List D → Option Vl := gZ2 fun i j => if j > i then j else i
theorem gc_min2 : CallI K (fun xs H Q => ∃ i j, xs = [.int i, .int j] ∧ Q (.int (if j < i then j else i)) H) gMin2 := gc_z2
theorem gc_max2 : CallI K (fun xs H Q => ∃ i j, xs = [.int i, .int j] ∧ Q (.int (if j > i then j else i)) H) gMax2 := gc_z2
def gAbs : List D → Option Vl
  | [.int i] => some (.sh (.int (if i < 0 then -i else i)))
  | _ => none
theorem gc_abs : CallI K (fun xs H Q => ∃ i, xs = [.int i] ∧ Q (.int (if i < 0 then -i else i)) H) gAbs := by
  intro B H xs ds z e hx h Q q
  unfold gAbs at h
  split at h
  · cases h
    obtain ⟨v, e1, h1⟩ := hx.one
    subst e1
    cases h1
    exact ⟨_, rfl, sc1 e (.int _) q⟩
  · cases h
def gToInt : List D → Option Vl
  | [.int i] => some (.sh (.int i))
  | [.bl k] => some (.sh (.int (if k then 1 else 0)))
  | _ => none
theorem gc_toInt : CallI K (fun xs H Q => (∃ i, xs = [.int i] ∧ Q (.int i) H) ∨ ∃ k, xs = [.bl k] ∧ Q (.int (if k then 1 else 0)) H) gToInt := by
  intro B H xs ds z e hx h Q q
  unfold gToInt at h
  split at h
  · cases h
    obtain ⟨v, e1, h1⟩ := hx.one
    subst e1
    cases h1
    exact .inl ⟨_, rfl, sc1 e (.int _) q⟩
  · cases h
    obtain ⟨v, e1, h1⟩ := hx.one
    subst e1
    cases h1
    exact .inr ⟨_, rfl, sc1 e (.int _) q⟩
  · cases h
def gList : List D → Option Vl
  | [.lst l] => some (.own l)
  | [.tup l] => some (.own l)
  | _ => none
theorem gc_list : CallI K (fun xs H Q => ∃ p ys, xs = [.ref p] ∧ (SqL K H p ys ∨ SqT K H p ys) ∧ ∀ l, H l = none → Q (.ref l) (upd H l (.lst ys))) gList := by
  intro B H xs ds z e hx h Q q
  unfold gList at h
  split at h
  · cases h
    obtain ⟨p, ys, e1, h1, h2⟩ := hx.lst1
    subst e1
    exact ⟨p, ys, rfl, .inl (SqL.of h1), fun l hl => q _ _ _ _ (New.lst e hl h2)⟩
  · cases h
    obtain ⟨v, e1, h1⟩ := hx.one
    subst e1
    cases h1 with
    | tup h1 h2 => exact ⟨_, _, rfl, .inr (ex_t e h1), fun l hl => q _ _ _ _ (New.lst e hl h2)⟩
  · cases h
def gTuple : List D → Option Vl
  | [.lst l] => some (.sh (.tup l))
  | [.tup l] => some (.sh (.tup l))
  | _ => none
theorem gc_tuple : CallI K (fun xs H Q => ∃ p ys, xs = [.ref p] ∧ ((SqL K H p ys ∧ ∀ l, H l = none → Q (.ref l) (upd H l (.tup ys))) ∨ (SqT K H p ys ∧ Q (.ref p) H))) gTuple := by
  intro B H xs ds z e hx h Q q
  unfold gTuple at h
  split at h
  · cases h
    obtain ⟨p, ys, e1, h1, h2⟩ := hx.lst1
    subst e1
    exact ⟨p, ys, rfl, .inl ⟨SqL.of h1, fun l hl => q _ _ _ _ (New.tup e hl h2)⟩⟩
  · cases h
    obtain ⟨v, e1, h1⟩ := hx.one
    subst e1
    cases h1 with
    | tup h1 h2 => exact ⟨_, _, rfl, .inr ⟨ex_t e h1, sc1 e (.tup h1 h2) q⟩⟩
  · cases h
def tyD : D → Option String
  | .non => some "NoneType"
  | .bl _ => some "bool"
  | .int _ => some "int"
  | .str _ => some "str"
  | .tup _ => some "tuple"
  | .lst _ => some "list"
  | .scr _ => some "list"
  | _ => none
def instTab : List (String × String × Bool) :=
  [("NoneType", "int", false), ("NoneType", "bool", false), ("NoneType", "str", false), ("NoneType", "tuple", false), ("NoneType", "list", false),
   ("bool", "int", true), ("bool", "bool", true), ("bool", "str", false), ("bool", "tuple", false), ("bool", "list", false),
   ("int", "int", true), ("int", "bool", false), ("int", "str", false), ("int", "tuple", false), ("int", "list", false),
   ("str", "int", false), ("str", "bool", false), ("str", "str", true), ("str", "tuple", false), ("str", "list", false),
   ("tuple", "int", false), ("tuple", "bool", false), ("tuple", "str", false), ("tuple", "tuple", true), ("tuple", "list", false),
   ("list", "int", false), ("list", "bool", false), ("list", "str", false), ("list", "tuple", false), ("list", "list", true)]
def instO (a b : String) : Option Bool := (instTab.find? fun p => p.1 == a && p.2.1 == b).map fun p => p.2.2
theorem instTab_ok : ∀ p ∈ instTab, kitB p.1 p.2.1 = some p.2.2 := by decide +kernel
theorem instO_ok {a b : String} {k : Bool} (h : instO a b = some k) : kitB a b = some k := by
  unfold instO at h
  cases e : instTab.find? (fun p => p.1 == a && p.2.1 == b) with
  | none => rw [e] at h; cases h
  | some p =>
    rw [e] at h
    cases h
    have h1 := List.mem_of_find?_eq_some e
    have h2 := List.find?_some e
    rw [Bool.and_eq_true] at h2
    have e1 : p.1 = a := by simpa using h2.1
    have e2 : p.2.1 = b := by simpa using h2.2
    rw [← e1, ← e2]
    exact instTab_ok p h1
def gIsi : List D → Option Vl
  | [d, .ty n] => (tyD d).bind fun t => (instO t n).map fun k => .sh (.bl k)
  | _ => none
theorem RdV.ty {d : D} {t : String} (e : Ex B H) (h : RdV K B H v d) (ht : tyD d = some t) : TyX K H v (.type t) := by
  cases d with
  | non => cases ht; cases h; exact .base .non
  | bl b => cases ht; cases h; exact .base (.bl _)
  | int b => cases ht; cases h; exact .base (.int _)
  | str b => cases ht; cases h; exact .base (.str _)
  | lst l =>
    cases ht
    obtain ⟨p, xs, e1, h1, _⟩ := h
    subst e1
    exact .base (.lst h1)
  | tup l =>
    cases ht
    cases h with
    | tup h1 h2 =>
      rcases ex_t e h1 with (q | ⟨o, q⟩) | ⟨o, its, n, q1, q2, _⟩
      · exact .base (.tup q)
      · exact .fTuple q
      · exact .kTuple q1 q2
  | scr l =>
    cases ht
    cases h with
    | scr h1 =>
      rcases ex_l e h1 with (q | ⟨o, q⟩) | ⟨o, its, n, q1, q2, _⟩
      · exact .base (.lst q)
      · exact .base (.frz q)
      · exact .kList q1 q2
  | ty n => cases ht
  | ref n => cases ht
theorem gc_isi : CallI K (rIsi K) gIsi := by
  intro B H xs ds z e hx h Q q
  unfold gIsi at h
  split at h
  · rename_i d n
    obtain ⟨x, c, e1, h1, h2⟩ := hx.two
    subst e1
    cases h2
    cases et : tyD d with
    | none => rw [et] at h; cases h
    | some t =>
      rw [et] at h
      have h : (instO t n).map (fun k => Vl.sh (.bl k)) = some z := h
      cases ek : instO t n with
      | none => rw [ek] at h; cases h
      | some k =>
        rw [ek] at h
        cases h
        exact ⟨x, .ty n, .type t, .type n, k, rfl, .ty n, h1.ty e et, kit_ty (instO_ok ek), sc1 e (.bl k) q⟩
  · cases h
def sSetI (i : Nat) (mv mi : MX) : MS := fun ρ => R.bind (mv ρ) fun a => rdO (share a.2 a.1) fun p => rdO (ownS p.2[i]?) fun _ => R.bind (mi p.2) fun b => rdO (rdv b.2 b.1) fun d => rdO (intOf d) fun k => rdO (ownS b.2[i]?) fun ds => rdO (ixN ds.length k) fun j =>
  .ok (.nx (b.2.set i (.own (ds.set j p.1))))
theorem is_setI {i : Nat} {te ti : TE} {mv mi : MX} (hv : Imp K ct E te mv) (hi : Imp K ct E ti mi) : ImpS K ct E fix (tAsg te (L2.gSub (tVar i) ti rSetL)) (sSetI i mv mi) := by
  intro B H σ ρ f0 Z R h
  refine hv B H σ ρ f0 _ R (h.first fun a ea h v B1 H1 f1 f x => ?_)
  obtain ⟨p, e1, h⟩ := h.get
  obtain ⟨B2, f2, y, hd⟩ := x.shared (ρ' := p.2) (d := p.1) e1
  obtain ⟨ds0, e0, h⟩ := h.get
  obtain ⟨l, xs, q1, q2, q3, q4, q5⟩ := y.rel.own e0
  refine ⟨_, q1, hi B2 H1 σ p.2 f2 _ y.rel (h.step y.frm (fun _ z => z) fun b eb h w B3 H3 f3 g z => ?_)⟩
  obtain ⟨d, e2, h⟩ := h.get
  obtain ⟨k, e3, h⟩ := h.get
  obtain ⟨ds, e4, h⟩ := h.get
  obtain ⟨j, e5, h⟩ := h.get
  have hw : RdV K B3 H3 w (.int k) := by
    rw [← intOf_eq e3]
    exact z.val.rd z.rel e2
  cases hw
  obtain ⟨l', xs', r1, r2, r3, r4, r5⟩ := z.rel.own e4
  rw [q1] at r1
  cases r1
  refine ⟨l, xs', k, j, rfl, rfl, r3, by rw [r4.len]; exact e5, ?_⟩
  exact h σ B3 _ f3 ⟨z.rel.mut r5 q1 r2 (DVs.set (hd.mono z.frm.bb) j r4), (y.frm.trans z.drop.frm).trans (frm_upd ⟨i, by rw [r2]; simp⟩), fun _ _ => rfl⟩
def zipT (xs ys : List D) : List D := (xs.zip ys).map fun p => .tup [p.1, p.2]
end
end DL
end
section
set_option maxRecDepth 100000
set_option maxHeartbeats 2000000
namespace DL
open PySem PySem.Spec PyProof.Rows L2
open Evl (Ex ex_rd ex_l ex_t)

structure FnG (P : Program) (w : World) (K : PySem.W.Frag) (mg : Str → Option Value) (base : Heap) (k : Nat) (f : Addr) (fd : FuncData) (ps : List Str) (sp : Sp) : Prop where
  len : ∀ vs H Q E, sp vs H Q E → vs.length = ps.length
  run : ∀ (A : Around) (outer : List PySem.Env) (s : Shared) (H : Hp) (args : Args) (us : List Value) (vs : List V) (Q : VK) (E : XK), Room k A → A.guards = some [] → Env0 P w K mg base A outer s H → BindsTo s fd args (ps.zip us) → Vals vs us → sp vs H Q E →
    codeAny (model P w) A (.call (.ref f) args) (CR (L2.CX P w) outer P w H s Q E) s
theorem FnG.of {P : Program} {w : World} {K : PySem.W.Frag} {mg : Str → Option Value} {base : Heap} {k : Nat} {f : Addr} {fd : FuncData} {ps : List Str} {sp : Sp} (F : FnOk P w K mg base (L2.CX P w) k f fd ps sp) : FnG P w K mg base k f fd ps sp :=
  ⟨F.len, fun A outer s H args us vs Q E hr _ => F.run A outer s H args us vs Q E hr⟩
theorem FnG.mono {P : Program} {w : World} {K : PySem.W.Frag} {mg : Str → Option Value} {base : Heap} {j k : Nat} {f : Addr} {fd : FuncData} {ps : List Str} {sp : Sp} (F : FnG P w K mg base j f fd ps sp) (h : j ≤ k) : FnG P w K mg base k f fd ps sp :=
  ⟨F.len, fun A outer s H args us vs Q E hr => F.run A outer s H args us vs Q E (hr.mono h)⟩
structure CanC (X : Cx) (f : Addr) (fd : FuncData) (ps : List Str) (sp : Sp) (E : XK) : Prop where
  len : ∀ vs H Q E, sp vs H Q E → vs.length = ps.length
  run : ∀ (pins : List (Addr × Obj)) (σ : L2.St) (s : Shared) (H : Hp) (args : Args) (us : List Value) (vs : List V) (Q : VK), Inv X pins σ H s → BindsTo s fd args (ps.zip us) → Vals vs us → sp vs H Q E →
    wpAny (model X.prog X.w) X.A (call (.ref f) args.pos args.kw) (EP X pins σ Q) X.xe s
section
variable {X : Cx} {k : Nat} {f : Addr} {fd : FuncData} {ps : List Str} {sp : Sp} {E : XK}
theorem canC_of {pins : List (Addr × Obj)} {σ : L2.St} {s : Shared} {H : Hp} {args : Args} {Q : VK} (I : Inv X pins σ H s) (hx : Passes (L2.CX X.prog X.w) X E) (h : codeAny (model X.prog X.w) X.A (.call (.ref f) args) (CR (L2.CX X.prog X.w) X.stack X.prog X.w H s Q E) s) :
    wpAny (model X.prog X.w) X.A (call (.ref f) args.pos args.kw) (EP X pins σ Q) X.xe s := by
  refine wpAny_call (codeAny_mono h fun r s' hq => ?_)
  cases r with
  | error e => exact hx pins σ H s e s' I hq
  | ok fl =>
    cases fl with
    | ret u => exact I.after hq
    | _ => exact False.elim hq
theorem CanC.ok (F : FnOk X.prog X.w X.K X.mg X.base (L2.CX X.prog X.w) k f fd ps sp) (hr : Room k X.A) (hx : Passes (L2.CX X.prog X.w) X E) : CanC X f fd ps sp E :=
  ⟨F.len, fun pins σ s H args us vs Q I hb r h => canC_of I hx (F.run X.A X.stack s H args us vs Q E hr I.env0 hb r h)⟩
theorem CanC.g (F : FnG X.prog X.w X.K X.mg X.base k f fd ps sp) (hr : Room k X.A) (hg : X.A.guards = some []) (hx : Passes (L2.CX X.prog X.w) X E) : CanC X f fd ps sp E :=
  ⟨F.len, fun pins σ s H args us vs Q I hb r h => canC_of I hx (F.run X.A X.stack s H args us vs Q E hr hg I.env0 hb r h)⟩
theorem pe_fn {x : Str} {p pos : Pos} {e : Expr} {es : List Expr} {t : TA} (C : CanC X f fd ps sp E) (hg : Gl X x) (hm : X.mg x = some (.ref f)) (hk : PySem.W.keepIn X.K (.ref f) = true) (hb : Binds X.K fd ps []) (ha : PA X (e :: es) t)
    (hdb : (x == ("__debug__" : Str)) = false := by decide) (he : starEach (e :: es) X.env = (false, eval e X.env) :: starEach es X.env := by rfl) (hpl : (backTo pos (starEach es X.env)).any (·.1) = false := by rfl) :
    PE X (.Call (.Name x p) (e :: es) [] pos) (tCall sp [] E t) := by
  constructor
  intro pins s σ H Q I h
  refine wpAny_Call_Name_kw (ld_glob I hg hm ?_ hdb)
  refine PySem.W.callWith_K (h₀ := X.base) I.ok.mod.kin hk (thn (ha.run pos pins s σ H _ I h) fun us s1 q => ?_) he hpl
  obtain ⟨vs, H1, I1, r, q⟩ := q
  refine ⟨I1.kIn, ?_⟩
  have q : sp (vs ++ []) H1 Q E := q
  rw [List.append_nil] at q
  have hl : (us ++ ([] : List Value)).length = ps.length := by rw [List.append_nil, ← r.length]; exact C.len _ _ _ _ q
  have hb' := hb s1 us I1.kIn hl
  rw [List.append_nil] at hb'
  exact C.run pins σ s1 H1 ⟨us, []⟩ us vs Q I1 hb' r q
def permL {α : Type} (idx : List Nat) (l : List α) : List α := idx.filterMap fun i => l[i]?
theorem permL_vals {vs : List V} {us : List Value} (r : Vals vs us) : ∀ idx : List Nat, Vals (permL idx vs) (permL idx us)
  | [] => .nil
  | i :: idx => by
    unfold permL
    rw [List.filterMap_cons, List.filterMap_cons]
    cases e : vs[i]? with
    | none =>
      rw [r.none_of e]
      exact permL_vals r idx
    | some v =>
      obtain ⟨u, h1, h2⟩ := r.get e
      rw [h1]
      exact .cons h2 (permL_vals r idx)
def BindsK (K : PySem.W.Frag) (fd : FuncData) (ps : List Str) (np : Nat) (ks : List Str) (idx : List Nat) : Prop := ∀ (s : Shared) (us ws : List Value), K.In s.heap → us.length = np → ws.length = ks.length → BindsTo s fd ⟨us, ks.zip ws⟩ (ps.zip (permL idx (us ++ ws)))
def tCallKw (np nk : Nat) (idx : List Nat) (sp : Sp) (E : XK) (t tk : TA) : TE := fun σ H Q => t σ H fun vs H1 => tk σ H1 fun zs H2 => vs.length = np ∧ zs.length = nk ∧ sp (permL idx (vs ++ zs)) H2 Q E
theorem pe_fnK0 {x : Str} {p pos : Pos} {kws : List Keyword} {tk : TA} {ks : List Str} {idx : List Nat} (C : CanC X f fd ps sp E) (hg : Gl X x) (hm : X.mg x = some (.ref f)) (hk : PySem.W.keepIn X.K (.ref f) = true) (hb : BindsK X.K fd ps 0 ks idx) (hkw : PK X kws tk)
    (hall : (backToKw pos (keywordEach kws X.env)).all (·.1.isSome) = true := by rfl) (hks : (backToKw pos (keywordEach kws X.env)).filterMap (·.1) = ks := by rfl) (hdb : (x == ("__debug__" : Str)) = false := by decide)
    (hpl : ((backTo pos (starEach [] X.env)).any (·.1) || (backToKw pos (keywordEach kws X.env)).any (·.1.isNone)) = false := by rfl) :
    PE X (.Call (.Name x p) [] kws pos) (tCallKw 0 ks.length idx sp E tNil tk) := by
  constructor
  intro pins s σ H Q I h
  refine wpAny_Call_Name_kw (ld_glob I hg hm ?_ hdb)
  refine PySem.W.callWith_KW0 (h₀ := X.base) I.ok.mod.kin hk hall ?_ hpl
  refine thn (hkw.run pos pins s σ H _ I h) fun ws s2 q => ?_
  obtain ⟨zs, H2, I2, rz, _, l2, q⟩ := q
  refine ⟨I2.kIn, ?_⟩
  rw [hks]
  have lw : ws.length = ks.length := by rw [← rz.length]; exact l2
  exact C.run pins σ s2 H2 ⟨[], ks.zip ws⟩ (permL idx ([] ++ ws)) (permL idx ([] ++ zs)) Q I2 (hb s2 [] ws I2.kIn rfl lw) (permL_vals rz idx) q
theorem pe_fnK {x : Str} {p pos : Pos} {e : Expr} {es : List Expr} {kws : List Keyword} {t tk : TA} {ks : List Str} {np : Nat} {idx : List Nat} (C : CanC X f fd ps sp E) (hg : Gl X x) (hm : X.mg x = some (.ref f)) (hk : PySem.W.keepIn X.K (.ref f) = true) (hb : BindsK X.K fd ps np ks idx) (ha : PA X (e :: es) t) (hkw : PK X kws tk)
    (hall : (backToKw pos (keywordEach kws X.env)).all (·.1.isSome) = true := by rfl) (hks : (backToKw pos (keywordEach kws X.env)).filterMap (·.1) = ks := by rfl) (hdb : (x == ("__debug__" : Str)) = false := by decide)
    (he : starEach (e :: es) X.env = (false, eval e X.env) :: starEach es X.env := by rfl) (hpl : ((backTo pos (starEach (e :: es) X.env)).any (·.1) || (backToKw pos (keywordEach kws X.env)).any (·.1.isNone)) = false := by rfl) :
    PE X (.Call (.Name x p) (e :: es) kws pos) (tCallKw np ks.length idx sp E t tk) := by
  constructor
  intro pins s σ H Q I h
  refine wpAny_Call_Name_kw (ld_glob I hg hm ?_ hdb)
  refine PySem.W.callWith_KW (h₀ := X.base) I.ok.mod.kin hk hall (thn (ha.run pos pins s σ H _ I h) fun us s1 q => ?_) hpl he
  obtain ⟨vs, H1, I1, r, q⟩ := q
  refine thn (hkw.run pos pins s1 σ H1 _ I1 q) fun ws s2 q => ?_
  obtain ⟨zs, H2, I2, rz, l1, l2, q⟩ := q
  refine ⟨I2.kIn, ?_⟩
  rw [hks]
  have lw : ws.length = ks.length := by rw [← rz.length]; exact l2
  have lu : us.length = np := by rw [← r.length]; exact l1
  exact C.run pins σ s2 H2 ⟨us, ks.zip ws⟩ (permL idx (us ++ ws)) (permL idx (vs ++ zs)) Q I2 (hb s2 us ws I2.kIn lu lw) (permL_vals (r.append rz) idx) q
end
section
variable {K : PySem.W.Frag} {ct : Ct} {E : XK} {B H B' H' B1 H1 B2 H2 : Hp} {σ σ' : L2.St} {ρ ρ' : Env} {f0 f1 f2 : Fps} {v : V} {r : Vl} {f g : List Addr} {X : Cx} {fix : Nat → Bool}
def shF (ds : List D) : List Sl := ds.map .sh
theorem Rel.shs {vs : List V} {ds : List D} (e : Ex B H) (hp : NoE B) (h : DVs K B vs ds) : Rel K B H (vs.map some) (shF ds) (fun _ => []) where
  len := by unfold shF; rw [List.length_map, List.length_map, h.len]
  ex := e
  pl := hp
  ok := fun i s q => by
    unfold shF at q
    rw [List.getElem?_map] at q
    cases e1 : ds[i]? with
    | none => rw [e1] at q; cases q
    | some d =>
      rw [e1] at q
      cases q
      obtain ⟨v, h1, h2⟩ := h.get e1
      rw [List.getElem?_map, h1]
      exact ⟨rfl, v, rfl, h2⟩
  out := fun _ _ => rfl
  dis := fun _ _ _ h => (nomatch h)
  off := fun _ _ h => (nomatch h)
theorem spM_sh {F : Fn} {vs : List V} {ds : List D} {Q : VK} (e : Ex B H) (hp : NoE B) (h : DVs K B vs ds) (q : Post ct E H (fun _ => []) (F (shF ds)) (fun p => ∀ v B' H' f' g, ResF K B H vs (fun _ => []) v p.1 p.2 B' H' f' g → Q v H')) : spM K ct F vs H Q E :=
  ⟨B, shF ds, fun _ => [], .shs e hp h, q⟩
theorem DVs.perm {vs : List V} {ds : List D} (h : DVs K B vs ds) : ∀ idx : List Nat, DVs K B (permL idx vs) (permL idx ds)
  | [] => .nil
  | i :: idx => by
    unfold permL
    rw [List.filterMap_cons, List.filterMap_cons]
    cases e : ds[i]? with
    | none =>
      have e2 : vs[i]? = none := by
        rw [List.getElem?_eq_none_iff] at e ⊢
        rw [h.len]
        exact e
      rw [e2]
      exact DVs.perm h idx
    | some d =>
      obtain ⟨v, h1, h2⟩ := h.get e
      rw [h1]
      exact .cons h2 (DVs.perm h idx)
def xCallK (np nk : Nat) (idx : List Nat) (F : Fn) (m mk : MA) : MX := fun ρ => R.bind (m ρ) fun a => rdO (shares a.2 a.1) fun p => R.bind (mk p.2) fun b => rdO (shares b.2 b.1) fun q => if p.1.length = np ∧ q.1.length = nk then R.bind (F (shF (permL idx (p.1 ++ q.1)))) fun w => .ok (w.1, q.2) else .bad
theorem im_callK {np nk : Nat} {idx : List Nat} {F : Fn} {t tk : TA} {m mk : MA} (ha : ImpA K ct E t m) (hk : ImpA K ct E tk mk) : Imp K ct E (tCallKw np nk idx (spM K ct F) E t tk) (xCallK np nk idx F m mk) := by
  intro B H σ ρ f0 Q R h
  refine ha B H σ ρ f0 _ R (h.first fun a ea h vs B1 H1 f1 g x => ?_)
  obtain ⟨p, e1, h⟩ := h.get
  obtain ⟨B2, f2, R2, hd, fr⟩ := x.shared (ρ' := p.2) (ds := p.1) e1
  refine hk B2 H1 σ p.2 f2 _ R2 (h.step fr (fun _ z => z) fun b eb h zs B3 H3 f3 g' y => ?_)
  obtain ⟨q, e2, h⟩ := h.get
  obtain ⟨B4, f4, R4, hd2, fr2⟩ := y.shared (ρ' := q.2) (ds := q.1) e2
  by_cases hl : p.1.length = np ∧ q.1.length = nk
  · rw [if_pos hl] at h
    have hd' : DVs K B4 vs p.1 := hd.mono fr2.bb
    refine ⟨by rw [hd.len]; exact hl.1, by rw [hd2.len]; exact hl.2, spM_sh R4.ex R4.pl ((hd'.app hd2).perm idx) ?_⟩
    refine h.step (fr.trans fr2) (fun _ z => by obtain ⟨i, z⟩ := z; exact (nomatch z)) fun w ew h v B5 H5 f5 k z => ?_
    have frz : Frm B4 H3 (Owned (fun _ => [])) B5 H5 (fun a => Owned f5 a ∨ a ∈ k) := z.frm
    have R5 : Rel K B5 H5 σ q.2 f4 := R4.frm frz z.rel.ex z.rel.pl fun a _ q => by obtain ⟨i, q⟩ := q; exact (nomatch q)
    refine h v B5 H5 f4 k ⟨R5, z.val.any, fun a ha => ⟨(z.off a ha).1, fun ⟨i, hi⟩ => ?_⟩, ((fr.trans fr2).trans (((frz.side (Owned f4)).pre (Q := Owned f4) (fun a z => z.elim (fun ⟨i, q⟩ => (nomatch q)) id) fun a z => .inr z).to (Q' := fun a => Owned f4 a ∨ a ∈ k) fun a z => ?_))⟩
    · exact frz.apart (R4.off i a hi).2 (fun ⟨i, q⟩ => (nomatch q)) (.inr ha)
    · rcases z with z | z
      · exact .inl (.inr z)
      · exact .inl (.inl (.inr z))
  · rw [if_neg hl] at h
    exact h.elim
def sRaise (c : String) : MS := fun _ => .exc c none
theorem is_raise {c : String} : ImpS K ct E fix (fun _ σ H => (fun (_ : L2.St) (H : Hp) (Q : XK) => Q (.ref (ct c)) none H) σ H fun cls d H' => (fun cls d (_ : L2.St) H => E cls d H) cls d σ H') (sRaise c) := fun B H σ ρ f0 Z R h => h none H (fun _ _ q _ => q) rfl
end
section
variable {P : Program} {w : World} {K : PySem.W.Frag} {mg : Str → Option Value} {base : Heap} {N : List Str} {qual : Str} {scope : Scope} {f : Addr} {cdv : Value} {A : Around} {outer : List PySem.Env} {s : Shared} {H : Hp} {E : XK}
theorem hxE : Passes (L2.CX P w) (cxOf (L2.CX P w) P w K mg base N qual scope f cdv A outer s H E) E := passes_call (takes_of rfl rfl rfl rfl) fun _ _ _ _ h => h
theorem tkE : Takes (cxOf (L2.CX P w) P w K mg base N qual scope f cdv A outer s H E) (fun cls d _ H => E cls d H) := takes_of rfl rfl rfl rfl
end
theorem hxB {X : Cx} : Passes (L2.CX X.prog X.w) X DL.E0 := L2.passL
theorem fnG_of {P : Program} {w : World} {K : PySem.W.Frag} {mg : Str → Option Value} {base : Heap} {x qual : Str} {st : Stmt} {f : Addr} {fd : FuncData} {N ps : List Str} {k : Nat} {sp : Sp} (F : Fun K x qual st f fd) (S : FnScope N ps (defScope st)) (len : ∀ vs H Q E, sp vs H Q E → vs.length = ps.length)
    (hbody : ∀ (cdv : Value) (A : Around) (outer : List PySem.Env) (s : Shared) (H : Hp) (vs : List V) (Q : VK) (E : XK), Room k (A.deeper (envOfC qual (defScope st) s.heap.objs.size f cdv)) → A.guards = some [] → sp vs H Q E →
      ∃ t, PSs (cxOf (L2.CX P w) P w K mg base N qual (defScope st) f cdv A outer s H E) (defBody st) t ∧ t { nx := fun _ H' => Q .non H', rt := Q } (L2.start N vs) H) : FnG P w K mg base (k + 1) f fd ps sp := by
  obtain ⟨oc, od, kV, doc, pm, an, cdv, ct, osl, e, lk, hcd⟩ := F.ex
  subst e
  refine ⟨len, fun A outer s H args us vs Q E hr hg e0 hb r h => ?_⟩
  exact LamX.run_ofS lk hcd S hr e0 hb r (len _ _ _ _ h) fun hr' => hbody cdv A outer s H vs Q E hr' hg h
end DL
end
section
set_option maxRecDepth 100000
set_option maxHeartbeats 2000000
namespace DL
open PySem PySem.Spec PyProof.Rows L2
open Evl (Ex ex_rd ex_l ex_t)
section
variable {K : PySem.W.Frag} {ct : Ct} {E : XK} {B H B' H' B1 H1 B2 H2 : Hp} {σ σ' : L2.St} {ρ ρ' : Env} {f0 f1 f2 : Fps} {v : V} {r : Vl} {f g : List Addr} {X : Cx} {fix : Nat → Bool}
theorem ip_of {op : Operator} {rr : R2} (h : OpR X (inplaceOp op) rr) : PIp X op rr := fun pins s σ H x y u v Q I rx ry q => h pins s σ H x y u v Q I rx ry q
def rIMuls : R2 := rI CMulW fun i j => .int (i * j)
theorem iop_mulW : OpR X (inplaceOp .Mult) rIMuls := opI fun _ _ _ _ _ _ _ hc q => imul_int q hc.ok
theorem gi_augMul : OpI K rIMuls (gInt cMul fun i j => i * j) := gi_int fun i j (h : cMul i j = true) => show i.natAbs.log2 + j.natAbs.log2 < 1000000 from of_decide_eq_true h
def Put1 (K : PySem.W.Frag) (B H : Hp) (σ : L2.St) (f0 : Fps) (f : List Addr) (v : V) (i : Nat) (ρ' : Env) (S : List Addr) : Prop :=
    ∃ B' f', Rel K B' H (σ.set i (some v)) ρ' f' ∧ (∀ a ∈ S, B' a = none ∧ ¬ Owned f' a) ∧ (∀ {vs : List V} {rs : List Vl} {g : List Addr}, VlsOk K B H σ vs rs g → VlsOk K B' H σ vs rs g) ∧
      Frm B H (fun a => Owned f0 a ∨ a ∈ f) B' H (Owned f')
theorem put1 {i : Nat} {S : List Addr} (R : Rel K B H σ ρ f0) (x : VlOk K B H σ v r f) (off : ∀ a ∈ f, B a = none ∧ ¬ Owned f0 a) (offS : ∀ a ∈ S, B a = none ∧ ¬ Owned f0 a ∧ a ∉ f) (h : put ρ i r = some ρ') :
    Put1 K B H σ f0 f v i ρ' S := by
  have go : ∀ (s : Sl), i < ρ.length → SlOk K B H (some v) s f → ρ' = ρ.set i s → Put1 K B H σ f0 f v i ρ' S := fun s hi q e => by
    subst e
    exact ⟨B, fpSet f0 i f, R.setSl hi q off, fun a ha => ⟨(offS a ha).1, fun z => (owned_set z).elim (offS a ha).2.1 (offS a ha).2.2⟩, fun q => q, Frm.refl.to fun a z => .inl ((owned_set z).elim Or.inl Or.inr)⟩
  cases r with
  | sh d =>
    have h : (if i < ρ.length then some (ρ.set i (.sh d)) else none) = some ρ' := h
    split at h
    · rename_i hi
      cases h
      exact go (.sh d) hi x rfl
    · cases h
  | own d =>
    have h : (if i < ρ.length then some (ρ.set i (.own d)) else none) = some ρ' := h
    split at h
    · rename_i hi
      cases h
      exact go (.own d) hi x rfl
    · cases h
  | drw d =>
    have h : (if i < ρ.length then some (ρ.set i (.drw d)) else none) = some ρ' := h
    split at h
    · rename_i hi
      cases h
      exact go (.drw d) hi x rfl
    · cases h
  | bor j =>
    have h : ((share ρ (.bor j)).bind fun p => if i < p.2.length then some (p.2.set i (.sh p.1)) else none) = some ρ' := h
    cases e : share ρ (.bor j) with
    | none => rw [e] at h; cases h
    | some p =>
      rw [e] at h
      have h : (if i < p.2.length then some (p.2.set i (.sh p.1)) else none) = some ρ' := h
      split at h
      · rename_i hi
        cases h
        obtain ⟨B2, f2, R2, hd, eB, oS, lift, fr⟩ := share_ok (S := S) (d := p.1) (ρ' := p.2) R x off offS e
        exact ⟨B2, _, R2.setSl hi ⟨rfl, v, rfl, hd⟩ fun _ z => (nomatch z), fun a ha => ⟨(oS a ha).1, fun z => (owned_set z).elim (oS a ha).2 fun q => (nomatch q)⟩, lift, fr.to fun a z => .inl ((owned_set z).elim id fun q => (nomatch q))⟩
      · cases h
def notBor (i : Nat) : List Vl → Bool
  | [] => true
  | .bor j :: r => decide (j ≠ i) && notBor i r
  | _ :: r => notBor i r
def puts (ρ : Env) : List Nat → List Vl → Option Env
  | [], [] => some ρ
  | i :: is, r :: rs => if notBor i rs = true then (put ρ i r).bind fun ρ1 => puts ρ1 is rs else none
  | _, _ => none
def setsV (σ : L2.St) : List Nat → List V → L2.St
  | i :: is, v :: vs => setsV (σ.set i (some v)) is vs
  | _, _ => σ
theorem VlsOk.set {i : Nat} {w : V} : ∀ {vs : List V} {rs : List Vl} {g : List Addr}, VlsOk K B H σ vs rs g → notBor i rs = true → VlsOk K B H (σ.set i (some w)) vs rs g := by
  intro vs rs g x
  induction x with
  | nil => intro _; exact .nil
  | cons h _ n ih =>
    rename_i v r f vs rs g _
    intro hb
    cases r with
    | bor j =>
      have hb : (decide (j ≠ i) && notBor i rs) = true := hb
      rw [Bool.and_eq_true] at hb
      have ne : j ≠ i := of_decide_eq_true hb.1
      exact .cons (f := f) ⟨h.1, by rw [List.getElem?_set_ne (Ne.symm ne)]; exact h.2⟩ (ih hb.2) n
    | sh d => exact .cons (r := .sh d) h (ih hb) n
    | own d => exact .cons (r := .own d) h (ih hb) n
    | drw d => exact .cons (r := .drw d) h (ih hb) n
theorem puts_ok : ∀ {is : List Nat} {rs : List Vl} {vs : List V} {g : List Addr} {B : Hp} {σ : L2.St} {ρ ρ' : Env} {f0 : Fps}, Rel K B H σ ρ f0 → VlsOk K B H σ vs rs g → (∀ a ∈ g, B a = none ∧ ¬ Owned f0 a) → puts ρ is rs = some ρ' →
    ∃ B' f', Rel K B' H (setsV σ is vs) ρ' f' ∧ Frm B H (fun a => Owned f0 a ∨ a ∈ g) B' H (Owned f') ∧ vs.length = is.length := by
  intro is
  induction is with
  | nil =>
    intro rs vs g B σ ρ ρ' f0 R x off h
    cases rs with
    | cons => cases h
    | nil =>
      obtain ⟨e1, e2⟩ := x.inv0
      subst e1 e2
      cases h
      exact ⟨B, f0, R, Frm.refl.to fun a z => .inl (.inl z), rfl⟩
  | cons i is ih =>
    intro rs vs g B σ ρ ρ' f0 R x off h
    cases rs with
    | nil => cases h
    | cons r rs =>
      obtain ⟨v, vs', f, g', e1, e2, h1, h2, n⟩ := x.inv
      subst e1 e2
      have h : (if notBor i rs = true then (put ρ i r).bind fun ρ1 => puts ρ1 is rs else none) = some ρ' := h
      by_cases hb : notBor i rs = true
      · rw [if_pos hb] at h
        cases e : put ρ i r with
        | none => rw [e] at h; cases h
        | some ρ1 =>
          rw [e] at h
          have h : puts ρ1 is rs = some ρ' := h
          obtain ⟨B1, f1, R1, oS, lift, fr⟩ := put1 (S := g') R h1 (fun a ha => off a (List.mem_append_left _ ha)) (fun a ha => ⟨(off a (List.mem_append_right _ ha)).1, (off a (List.mem_append_right _ ha)).2, fun z => n a z ha⟩) e
          obtain ⟨B2, f2, R2, fr2, len⟩ := ih R1 ((lift h2).set hb) oS h
          have fr' := (fr.side (· ∈ g')).trans fr2
          refine ⟨B2, f2, R2, fr'.pre (fun a z => ?_) fun a z => ?_, by rw [List.length_cons, List.length_cons, len]⟩
          · rcases z with (z | z) | z
            · exact .inl z
            · exact .inr (List.mem_append_left _ z)
            · exact .inr (List.mem_append_right _ z)
          · rcases z with z | z
            · exact .inl (.inl z)
            · rcases List.mem_append.mp z with z | z
              · exact .inl (.inr z)
              · exact .inr z
      · rw [if_neg hb] at h
        cases h
def sPars (is : List Nat) (m : MA) : MS := fun ρ => R.bind (m ρ) fun a => rdO (puts a.2 is a.1) fun ρ' => .ok (.nx ρ')
theorem setsV_out {i : Nat} : ∀ {is : List Nat} {vs : List V} {σ : L2.St}, i ∉ is → (setsV σ is vs)[i]? = σ[i]?
  | [], _, _, _ => rfl
  | _ :: _, [], _, _ => rfl
  | j :: is, v :: vs, σ, h => by
    show (setsV (σ.set j (some v)) is vs)[i]? = _
    rw [setsV_out fun z => h (List.mem_cons_of_mem _ z), List.getElem?_set_ne (fun e => h (by rw [e]; simp))]
theorem pars_aux {is : List Nat} {t : TA} {m : MA} (ha : ImpA K ct E t m) (hf : ∀ i ∈ is, fix i = false) (R : Rel K B H σ ρ f0) {Z : Ends} (h : Post ct E H f0 (sPars is m ρ) (OutOk K B H σ f0 fix Z)) :
    t σ H fun vs H1 => vs.length = is.length ∧ Z.nx (setsV σ is vs) H1 := by
  refine ha B H σ ρ f0 _ R (h.first fun a ea h vs B1 H1 f1 g x => ?_)
  obtain ⟨ρ', e, h⟩ := h.get
  obtain ⟨B2, f2, R2, fr, len⟩ := puts_ok x.rel x.val x.off e
  refine ⟨len, h _ B2 H1 f2 ⟨R2, x.frm.trans fr, fun i hi => setsV_out fun z => ?_⟩⟩
  rw [hf i z] at hi
  cases hi
def MonoA (t : TA) : Prop := ∀ σ H (Q Q' : List V → Hp → Prop), (∀ vs H', Q vs H' → Q' vs H') → t σ H Q → t σ H Q'
theorem is_par {i j : Nat} {t : TA} {m : MA} (ha : ImpA K ct E t m) (hf : ∀ k ∈ [i, j], fix k = false) : ImpS K ct E fix (tPar i j t) (sPars [i, j] m) := by
  intro B H σ ρ f0 Z R h
  refine ha B H σ ρ f0 _ R (h.first fun a ea h vs B1 H1 f1 g x => ?_)
  obtain ⟨ρ', e, h⟩ := h.get
  obtain ⟨B2, f2, R2, fr, len⟩ := puts_ok x.rel x.val x.off e
  match vs, len, R2 with
  | [v, w], _, R2 => exact ⟨v, w, rfl, h _ B2 H1 f2 ⟨R2, x.frm.trans fr, fun k hk => setsV_out (is := [i, j]) (vs := [v, w]) fun z => by rw [hf k z] at hk; cases hk⟩⟩
theorem is_par3 {i j l : Nat} {t : TA} {m : MA} (ha : ImpA K ct E t m) (hf : ∀ k ∈ [i, j, l], fix k = false) : ImpS K ct E fix (tPar3 i j l t) (sPars [i, j, l] m) := by
  intro B H σ ρ f0 Z R h
  refine ha B H σ ρ f0 _ R (h.first fun a ea h vs B1 H1 f1 g x => ?_)
  obtain ⟨ρ', e, h⟩ := h.get
  obtain ⟨B2, f2, R2, fr, len⟩ := puts_ok x.rel x.val x.off e
  match vs, len, R2 with
  | [u, v, w], _, R2 => exact ⟨u, v, w, rfl, h _ B2 H1 f2 ⟨R2, x.frm.trans fr, fun k hk => setsV_out (is := [i, j, l]) (vs := [u, v, w]) fun z => by rw [hf k z] at hk; cases hk⟩⟩
end
end DL
end
section
set_option maxRecDepth 100000
set_option maxHeartbeats 2000000
namespace DL
open PySem PySem.Spec PyProof.Rows L2
open Evl (Ex ex_rd ex_l ex_t)

def SqK (K : PySem.W.Frag) : Bool → Hp → Addr → List V → Prop
  | false, H, a, xs => SqL K H a xs
  | true, H, a, xs => SqT K H a xs
def ItIs : Bool → Heap → Addr → Addr → Nat → Prop
  | false, h, it, l, i => h.IsListIter it l i
  | true, h, it, l, i => h.IsTupleIter it l i
def SqIs : Bool → Heap → Addr → Array Value → Prop
  | false, h, l, its => h.IsList l its
  | true, h, l, its => h.IsTuple l its
theorem ItIs.at {k : Bool} {h h' : Heap} {it l : Addr} {i : Nat} (x : ItIs k h it l i) (e : ∀ o, h.get? it = some o → h'.get? it = some o) : ItIs k h' it l i := by
  cases k with
  | false => exact Heap.IsListIter.at x e
  | true => exact Heap.IsTupleIter.at x e
theorem ItIs.there {k : Bool} {h : Heap} {it l : Addr} {i : Nat} (x : ItIs k h it l i) : ∃ o vs, h.get? it = some o ∧ o.data = .fields vs := by
  cases k with
  | false => obtain ⟨o, e, _, d⟩ := x; exact ⟨o, _, e, d⟩
  | true => obtain ⟨o, e, _, d⟩ := x; exact ⟨o, _, e, d⟩
theorem drawsK {prog : Program} {w : World} {A : Around} (k : Bool) (hh : A.handled = none) (it l : Addr) (hne : l ≠ it) (items : Array Value) :
    Draws prog w A it [it, l] items.size (fun i v => items[i]? = some v) (fun i h => ItIs k h it l i ∧ SqIs k h l items) := by
  cases k with
  | false => exact Draws.list hh it l hne items
  | true => exact Draws.tuple hh it l hne items
theorem invK {X : Cx} {pins : List (Addr × Obj)} {σ : L2.St} {H : Hp} {s : Shared} (I : Inv X pins σ H s) {k : Bool} {a : Addr} {xs : List V} (h : SqK X.K k H a xs) : ∃ its, Vals xs its ∧ SqIs k s.heap a its.toArray ∧ a < s.heap.objs.size := by
  cases k with
  | false =>
    obtain ⟨its, rv, p, _⟩ := I.list h
    exact ⟨its, rv, p.isList, p.lt⟩
  | true =>
    obtain ⟨its, rv, p, _⟩ := I.tuple h
    obtain ⟨o, ho, _⟩ := id p
    exact ⟨its, rv, p, Heap.lt_size ho⟩
theorem injK {X : Cx} {pins : List (Addr × Obj)} {σ : L2.St} {H : Hp} {s : Shared} (I : Inv X pins σ H s) {k : Bool} {a : Addr} {xs ys : List V} (h : SqK X.K k H a xs) (h' : SqK X.K k H a ys) : xs = ys := by
  cases k with
  | false => exact I.list_inj h h'
  | true => exact I.tuple_inj h h'
theorem exK {K : PySem.W.Frag} {k : Bool} {B H : Hp} {a : Addr} {xs : List V} (e : Ex B H) (h : SqK K k B a xs) : SqK K k H a xs := by
  cases k with
  | false => exact ex_l e h
  | true => exact ex_t e h

def ItzK (K : PySem.W.Frag) (k1 k2 : Bool) (a b : Addr) : It :=
  ⟨fun i H => ∃ (xs ys : List V) (x y : V), SqK K k1 H a xs ∧ SqK K k2 H b ys ∧ xs[i]? = some x ∧ ys[i]? = some y,
    fun i H v H' => ∃ T x y, v = .ref T ∧ H T = none ∧ H' = upd H T (.tup [x, y]) ∧ (∀ xs, SqK K k1 H a xs → xs[i]? = some x) ∧ ∀ ys, SqK K k2 H b ys → ys[i]? = some y,
    fun i H => ∃ xs ys : List V, SqK K k1 H a xs ∧ SqK K k2 H b ys ∧ xs.length ≤ xs.length ∧ i ≤ xs.length ∧ i ≤ ys.length ∧ (xs.length ≤ i ∨ ys.length ≤ i)⟩
theorem sep_of {z TI TO i1 i2 a b : Addr} (D : ZipApart z TI TO i1 i2 a b) : ZipSep2 z TI TO i1 i2 [i1, a] [i2, b] where
  TIz := D.TIz
  TOz := D.TOz
  TITO := D.TITO
  TIi1 := D.TIi1
  mem1 := by simp
  zf1 := by simp only [List.mem_cons, List.not_mem_nil, or_false, not_or]; exact ⟨fun e => D.i1z e.symm, fun e => D.l1z e.symm⟩
  Tf1 := by simp only [List.mem_cons, List.not_mem_nil, or_false, not_or]; exact ⟨D.TOi1, fun e => D.l1TO e.symm⟩
  TIi2 := D.TIi2
  mem2 := by simp
  zf2 := by simp only [List.mem_cons, List.not_mem_nil, or_false, not_or]; exact ⟨fun e => D.i2z e.symm, fun e => D.l2z e.symm⟩
  Tf2 := by simp only [List.mem_cons, List.not_mem_nil, or_false, not_or]; exact ⟨D.TOi2, fun e => D.l2TO e.symm⟩
  sep1_2 := by simp only [List.mem_cons, List.not_mem_nil, or_false, not_or]; exact ⟨D.i12, fun e => D.l2i1 e.symm⟩
  sep2_1 := by simp only [List.mem_cons, List.not_mem_nil, or_false, not_or]; exact ⟨fun e => D.i12 e.symm, fun e => D.l1i2 e.symm⟩
theorem turn_zipK {P : Program} {w : World} {K : PySem.W.Frag} {k1 k2 : Bool} {elts : List Expr} {kk : Nat} {tpos : Pos} {a b z TI TO i1 i2 : Addr} (D : ZipApart z TI TO i1 i2 a b) :
    Turn P w K (.Tuple elts kk tpos) (ItzK K k1 k2 a b) [z, TI, TO, i1, i2] z (fun i h => IsZip h z TI TO .none ∧ IsPair h TI (.ref i1) (.ref i2) ∧ (∃ x y, IsPair h TO x y) ∧ ItIs k1 h i1 a i ∧ ItIs k2 h i2 b i) where
  mem := by simp
  obj := fun i h st c hc => by
    obtain ⟨hz, hTI, ⟨x, y, hTO⟩, q1, q2⟩ := st
    obtain ⟨o1, v1, e1, d1⟩ := q1.there
    obtain ⟨o2, v2, e2, d2⟩ := q2.there
    have e' : c = z ∨ c = TI ∨ c = TO ∨ c = i1 ∨ c = i2 := by simpa using hc
    rcases e' with q | q | q | q | q
    · rw [q]; exact ⟨_, hz, fun v q => nomatch q⟩
    · rw [q]; exact ⟨_, hTI, fun v q => nomatch q⟩
    · rw [q]; exact ⟨_, hTO, fun v q => nomatch q⟩
    · rw [q]; exact ⟨o1, e1, fun v q => by rw [d1] at q; cases q⟩
    · rw [q]; exact ⟨o2, e2, fun v q => by rw [d2] at q; cases q⟩
  keep := fun i h h' st k => by
    obtain ⟨hz, hTI, ⟨x, y, hTO⟩, h1, h2⟩ := st
    exact ⟨k z (by simp) _ hz, k TI (by simp) _ hTI, ⟨x, y, k TO (by simp) _ hTO⟩, h1.at fun o q => k i1 (by simp) o q, h2.at fun o q => k i2 (by simp) o q⟩
  item := by
    intro X hP hw hK hc i pins s σ H E I hf st hg
    subst hP hw hK
    obtain ⟨hz, hTI, ⟨x0, y0, hTO⟩, h1, h2⟩ := st
    obtain ⟨xs, ys, x, y, hqx, hqy, hx, hy⟩ := hg
    obtain ⟨its, rv, p, _⟩ := invK I hqx
    obtain ⟨its2, rv2, p2, _⟩ := invK I hqy
    obtain ⟨u, hu, ru⟩ := rv.get hx
    obtain ⟨u2, hu2, ru2⟩ := rv2.get hy
    have hzl : z < s.heap.objs.size := Heap.lt_size hz
    have hd : X.A.handled = none := I.ok.hd hc
    have li : i < its.toArray.size := by
      have := (List.getElem?_eq_some_iff.mp hu).1
      simpa using this
    have li2 : i < its2.toArray.size := by
      have := (List.getElem?_eq_some_iff.mp hu2).1
      simpa using this
    refine wpAny_pyNext_zipD2_item (sep_of D) (drawsK k1 (show X.A.in1.handled = none from hd) i1 a D.l1i1 its.toArray) (drawsK k2 (show X.A.in1.handled = none from hd) i2 b D.l2i2 its2.toArray) hz hTI hTO ⟨h1, p⟩ ⟨h2, p2⟩ li li2 fun x1 x2 h' tk px1 px2 z' TO' h1' h2' hT hsz hk => ?_
    have ex1 : x1 = u := by
      have px1 : its.toArray[i]? = some x1 := px1
      rw [List.getElem?_toArray, hu] at px1
      exact (Option.some.inj px1).symm
    have ex2 : x2 = u2 := by
      have px2 : its2.toArray[i]? = some x2 := px2
      rw [List.getElem?_toArray, hu2] at px2
      exact (Option.some.inj px2).symm
    subst ex1 ex2
    refine ⟨_, rfl, wpAny_letOwnedTupleGo_zip (s := { s with heap := h', toks := tk }) z' fun h'' z'' sb => ?_⟩
    have hT2 : h''.get? s.heap.objs.size = some { cls := .type "tuple", data := .seq #[x1, x2] } := (sb.2 _ (Nat.ne_of_gt hzl)).trans hT
    have new : ObjOk X.prog X.w (upd H s.heap.objs.size (.tup [x, y])) h'' s.heap.objs.size (.tup [x, y]) :=
      ⟨by show 2 ≤ sizeLine; decide, [x1, x2], .cons ru (.cons ru2 .nil), ⟨_, hT2, rfl, _, rfl⟩⟩
    have I1 : Inv X pins σ (upd H s.heap.objs.size (.tup [x, y])) { s with heap := h'', toks := tk } :=
      I.turnedNew (t' := tk) (ch := [z, TI, TO, i1, i2]) (fun c o hb q => (sb.2 c (fun q' => hb (by simp [q']))).trans (hk c o (fun q' => hb (by simp [q'])) (fun q' => hb (by simp [q'])) (fun q' => hb (by simp [q'])) (fun q' => hb (by simp [q'])) q)) hf (Nat.le_refl _) new
    refine ⟨.ref s.heap.objs.size, _, I1, rfl, ⟨_, x, y, rfl, I.hok.fresh (Nat.le_refl _), rfl, fun l hl => by rw [injK I hl hqx]; exact hx, fun l hl => by rw [injK I hl hqy]; exact hy⟩, ⟨z'', ?_, ⟨x1, x2, ?_⟩, ?_, ?_⟩, fun c hcm => ?_⟩
    · exact (sb.2 _ D.TIz).trans (hk _ _ D.TIz D.TITO D.TIi1 D.TIi2 hTI)
    · exact (sb.2 _ D.TOz).trans TO'
    · exact h1'.1.at fun o q => (sb.2 _ D.i1z).trans q
    · exact h2'.1.at fun o q => (sb.2 _ D.i2z).trans q
    · have hlt : c < s.heap.objs.size := by
        obtain ⟨o1, v1, e1, _⟩ := h1.there
        obtain ⟨o2, v2, e2, _⟩ := h2.there
        have e' : c = z ∨ c = TI ∨ c = TO ∨ c = i1 ∨ c = i2 := by simpa using hcm
        rcases e' with q | q | q | q | q
        · rw [q]; exact hzl
        · rw [q]; exact Heap.lt_size hTI
        · rw [q]; exact Heap.lt_size hTO
        · rw [q]; exact Heap.lt_size e1
        · rw [q]; exact Heap.lt_size e2
      rw [upd_ne (Nat.ne_of_lt hlt)]
      exact (hf c hcm).1
  done := by
    intro X hP hw hK hc i pins s σ H E I hf st hg
    subst hP hw hK
    obtain ⟨hz, hTI, ⟨x0, y0, hTO⟩, h1, h2⟩ := st
    obtain ⟨xs, ys, hqx, hqy, _, ix, iy, hend⟩ := hg
    obtain ⟨its, rv, p, _⟩ := invK I hqx
    obtain ⟨its2, rv2, p2, _⟩ := invK I hqy
    have l1 := rv.length
    have l2 := rv2.length
    have hd : X.A.handled = none := I.ok.hd hc
    refine wpAny_pyNext_zipD2_end (sep_of D) (drawsK k1 (show X.A.in1.handled = none from hd) i1 a D.l1i1 its.toArray) (drawsK k2 (show X.A.in1.handled = none from hd) i2 b D.l2i2 its2.toArray) hz hTI hTO ⟨h1, p⟩ ⟨h2, p2⟩ (by simp; omega) (by simp; omega) (by simp; omega) fun h' tk hk => ⟨rfl, I.turnedL (t' := tk) (ch := [z, TI, TO, i1, i2]) (fun c o hb q =>
      hk c o (fun q' => hb (by simp [q'])) (fun q' => hb (by simp [q'])) (fun q' => hb (by simp [q'])) (fun q' => hb (by simp [q'])) q) hf⟩
  self := fun A i s Q E st h => wpAny_pyIter_zip st.1 h
theorem begK (k : Bool) (l : Addr) (items : Array Value) : ∃ o : Obj, Begins (.ref l) o (fun h => SqIs k h l items) ∧ ∀ (h' : Heap) (it : Addr), h'.get? it = some o → ItIs k h' it l 0 := by
  cases k with
  | false => exact ⟨_, begins_list l items, fun h' it e => ⟨_, e, rfl, rfl⟩⟩
  | true => exact ⟨_, begins_tuple l items, fun h' it e => ⟨_, e, rfl, rfl⟩⟩
def iZipK (K : PySem.W.Frag) (ta : TA) : TI := fun σ H R => ta σ H fun vs H1 => ∃ a b xs ys k1 k2, vs = [.ref a, .ref b] ∧ SqK K k1 H1 a xs ∧ SqK K k2 H1 b ys ∧ R (ItzK K k1 k2 a b) H1
theorem pi_zipK {X : Cx} {e e2 : Expr} {ta : TA} {p pos tpos : Pos} {elts : List Expr} {kk : Nat} (hg : Gl X "zip") (hm : X.mg "zip" = none) (ha : PA X [e, e2] ta)
    (hs : starEach [e, e2] X.env = (false, eval e X.env) :: starEach [e2] X.env := by rfl) (hpl : (backTo pos (starEach [e2] X.env)).any (·.1) = false := by rfl) :
    PI X (.Tuple elts kk tpos) (.Call (.Name "zip" p) [e, e2] [] pos) (iZipK X.K ta) := by
  refine ⟨fun pins s σ H R I h => ?_⟩
  refine Call_ (ld_blt I hg hm PyProof.Rows.boot_zip (PyProof.Rows.callWith_type1 (thn (ha.run pos pins s σ H _ I h) fun us s1 ⟨vs, H1, I1, r1, q1⟩ => ?_) hs hpl))
  obtain ⟨a, b, xs, ys, k1, k2, ex, hqx, hqy, q⟩ := q1
  subst ex
  cases r1 with
  | cons r rr =>
    cases rr with
    | cons r' rr =>
      cases rr
      cases r
      cases r'
      have fresh5 : ∀ c, c ∈ [s1.heap.objs.size + 4, s1.heap.objs.size + 2, s1.heap.objs.size + 3, s1.heap.objs.size, s1.heap.objs.size + 1] → FpOk X pins H1 c := fun c hcm => by
        have e' : c = s1.heap.objs.size + 4 ∨ c = s1.heap.objs.size + 2 ∨ c = s1.heap.objs.size + 3 ∨ c = s1.heap.objs.size ∨ c = s1.heap.objs.size + 1 := by simpa using hcm
        have hle : s1.heap.objs.size ≤ c := by
          rcases e' with z | z | z | z | z
          · rw [z]; exact Nat.le_add_right _ _
          · rw [z]; exact Nat.le_add_right _ _
          · rw [z]; exact Nat.le_add_right _ _
          · rw [z]; exact Nat.le_refl _
          · rw [z]; exact Nat.le_add_right _ _
        exact I1.fpOk hle (I1.hok.fresh hle)
      obtain ⟨its, rv, p1, la⟩ := invK I1 hqx
      obtain ⟨its2, rv2, p2, lb⟩ := invK I1 hqy
      obtain ⟨o1, B1, it1⟩ := begK k1 a its.toArray
      obtain ⟨o2, B2, it2⟩ := begK k2 b its2.toArray
      refine zip_begins2 B1 B2 p1 p2 fun h' hz hTI hTO h1 h2 hsz hk => wpAny_pyIter_zip hz ?_
      have I2 : Inv X pins σ H1 { s1 with heap := h' } := I1.kept (t' := s1.toks) hk
      exact ⟨s1.heap.objs.size + 4, [s1.heap.objs.size + 4, s1.heap.objs.size + 2, s1.heap.objs.size + 3, s1.heap.objs.size, s1.heap.objs.size + 1], _, _, H1, rfl, I2, turn_zipK (PySem.W.ktu_apart s1.heap.objs.size a b la lb), ⟨hz, hTI, ⟨_, _, hTO⟩, it1 _ _ h1, it2 _ _ h2⟩, fresh5, q⟩

section
variable {K : PySem.W.Frag} {ct : Ct} {E : XK} {B H B' H' B1 H1 B2 H2 : Hp} {σ σ' : L2.St} {ρ ρ' : Env} {f0 f1 f2 : Fps} {v : V} {r : Vl} {f g : List Addr}
def zipD : List D → List D → List D
  | d :: ds, e :: es => .tup [d, e] :: zipD ds es
  | _, _ => []
theorem zipD_len : ∀ ds es : List D, (zipD ds es).length = min ds.length es.length
  | [], es => by simp [zipD]
  | _ :: _, [] => by simp [zipD]
  | d :: ds, e :: es => by
    show (zipD ds es).length + 1 = _
    rw [zipD_len ds es, List.length_cons, List.length_cons]
    omega
theorem zipD_get : ∀ {ds es : List D} {i : Nat} {x : D}, (zipD ds es)[i]? = some x → ∃ d e, ds[i]? = some d ∧ es[i]? = some e ∧ x = .tup [d, e]
  | [], es, i, x, h => by simp [zipD] at h
  | _ :: _, [], i, x, h => by simp [zipD] at h
  | d :: ds, e :: es, 0, x, h => by
    have h : some (D.tup [d, e]) = some x := h
    cases h
    exact ⟨d, e, rfl, rfl, rfl⟩
  | d :: ds, e :: es, i + 1, x, h => by
    obtain ⟨d', e', h1, h2, h3⟩ := zipD_get (i := i) (x := x) h
    exact ⟨d', e', h1, h2, h3⟩
def kindOf : D → Option (List D × Bool)
  | .lst ds => some (ds, false)
  | .scr ns => some (ns.map D.int, false)
  | .tup ds => some (ds, true)
  | _ => none
theorem kindOf_ok {d : D} {ds : List D} {k : Bool} (h : DV K B v d) (e : kindOf d = some (ds, k)) : ∃ a xs, v = .ref a ∧ SqK K k B a xs ∧ DVs K B xs ds := by
  cases h with
  | lst h1 h2 => cases e; exact ⟨_, _, rfl, SqL.of h1, h2⟩
  | scr h1 => cases e; exact ⟨_, _, rfl, h1, DVs.ints _⟩
  | tup h1 h2 => cases e; exact ⟨_, _, rfl, h1, h2⟩
  | _ => cases e
theorem itd_zip {a b : Addr} {xs ys : List V} {ds es : List D} {k1 k2 : Bool} (h1 : SqK K k1 B a xs) (h2 : SqK K k2 B b ys) (hd : DVs K B xs ds) (he : DVs K B ys es) : ItD K B (ItzK K k1 k2 a b) (zipD ds es) := by
  intro B' H' e1 e2 i
  have q1 : SqK K k1 H' a xs := exK (e1.trans e2) h1
  have q2 : SqK K k2 H' b ys := exK (e1.trans e2) h2
  have l1 := hd.len
  have l2 := he.len
  have lz := zipD_len ds es
  refine ⟨fun hi => ?_, fun hi => ?_, fun x H'' d hx y => ?_⟩
  · have i1 : i < xs.length := by omega
    have i2 : i < ys.length := by omega
    exact ⟨xs, ys, xs[i], ys[i], q1, q2, by simp, by simp⟩
  · exact ⟨xs, ys, q1, q2, Nat.le_refl _, by omega, by omega, by omega⟩
  · obtain ⟨T, u, w, rfl, hT, rfl, g1, g2⟩ := y
    obtain ⟨d1, d2, g3, g4, rfl⟩ := zipD_get hx
    obtain ⟨u', hu, ru⟩ := hd.get g3
    obtain ⟨w', hw, rw'⟩ := he.get g4
    rw [g1 xs q1] at hu
    cases hu
    rw [g2 ys q2] at hw
    cases hw
    have n := New.tup (K := K) (xs := [u, w]) (ds := [d1, d2]) e2 hT (.cons (ru.mono e1) (.cons (rw'.mono e1) .nil))
    obtain ⟨_, y, e3, h3⟩ := n.val
    cases e3
    exact ⟨_, n.bb, n.hh, n.bh, n.off, n.pl, h3⟩
def xIZip (ma : MA) : MI := fun ρ => R.bind (ma ρ) fun a => rdO (shares a.2 a.1) fun p => match p.1 with
  | [d, e] => match kindOf d, kindOf e with
    | some (ds, _), some (es, _) => .ok (zipD ds es, p.2)
    | _, _ => .bad
  | _ => .bad
theorem ii_zip {t : TA} {m : MA} (ha : ImpA K ct E t m) : ImpI K ct E (iZipK K t) (xIZip m) := by
  intro B H σ ρ f0 Q R h
  refine ha B H σ ρ f0 _ R (h.first fun a ea h vs B1 H1 f1 f x => ?_)
  obtain ⟨p, e1, h⟩ := h.get
  obtain ⟨B2, f2, R2, hd, fr⟩ := x.shared e1
  split at h
  · rename_i d e ep
    split at h
    · rename_i ds kd es ke q1 q2
      rw [ep] at hd
      cases hd with
      | cons h1 hd =>
        cases hd with
        | cons h2 hd =>
          cases hd
          obtain ⟨a1, xs, rfl, s1, v1⟩ := kindOf_ok h1 q1
          obtain ⟨a2, ys, rfl, s2, v2⟩ := kindOf_ok h2 q2
          exact ⟨_, _, _, _, _, _, rfl, exK R2.ex s1, exK R2.ex s2, h _ _ _ _ ⟨R2, fr⟩ (itd_zip s1 s2 v1 v2)⟩
    · exact h.elim
  · exact h.elim
end

theorem zip_no_len : typeLookup (.type "zip") "__len__" = pure none := am_miss_of_fast (by decide +kernel)
theorem zip_no_hint : typeLookup (.type "zip") "__length_hint__" = pure none := am_miss_of_fast (by decide +kernel)
def ZSt (z TI TO i1 i2 a b S : Addr) (i : Nat) (h : Heap) : Prop := IsPair h TI (.ref i1) (.ref i2) ∧ h.IsListIter i1 a i ∧ h.IsListIter i2 b i ∧
  (∃ o, h.get? TO = some o) ∧ ((IsZip h z TI TO .none ∧ ∃ x y, IsPair h TO x y) ∨ ∃ T f oT, IsZipHeld h z TI TO T f ∧ h.get? T = some oT ∧ T ≠ z ∧ T ≠ i1 ∧ T ≠ i2 ∧ T ≠ S)
structure ZAcc (H0 H : Hp) (xs ys : List V) (ts : List Addr) (i : Nat) : Prop where
  len : ts.length = i
  ex : Ex H0 H
  at_ : ∀ (j : Nat) (T : Addr), ts[j]? = some T → H0 T = none ∧ ∃ x y, xs[j]? = some x ∧ ys[j]? = some y ∧ H T = some (.tup [x, y])
theorem lt_of_some {α : Type} {l : List α} {i : Nat} {x : α} (h : l[i]? = some x) : i < l.length := (List.getElem?_eq_some_iff.mp h).1
section
variable {X : Cx} {A : Around} {pins : List (Addr × Obj)} {σ : L2.St} {H0 : Hp} {xs ys : List V} {z TI TO i1 i2 a b S : Addr} {R : Result → Shared → Prop} {res : Value}
theorem zip_fill (hh : A.handled = none) (D : ZipApart z TI TO i1 i2 a b) (dz : S ≠ z) (dTI : S ≠ TI) (dTO : S ≠ TO) (di1 : S ≠ i1) (di2 : S ≠ i2) (hn : min xs.length ys.length ≤ sizeLine)
    (hR : ∀ s' H' ts acc c, Inv X pins σ H' s' → ZAcc H0 H' xs ys ts (min xs.length ys.length) → acc.toList = ts.map Value.ref → s'.heap.get? S = some { cls := .type "list", dict := none, data := .seq acc c, slots := #[] } → R (.ok (.ret res)) s') :
    ∀ (k i : Nat) (s : Shared) (H : Hp) (ts : List Addr) (acc : Array Value) (c : Nat), min xs.length ys.length - i = k → i ≤ min xs.length ys.length → Inv X pins σ H s → (∀ b ∈ [z, TI, TO, i1, i2, S], FpOk X pins H b) → ZSt z TI TO i1 i2 a b S i s.heap →
      s.heap.get? S = some { cls := .type "list", dict := none, data := .seq acc c, slots := #[] } → acc.toList = ts.map Value.ref → ZAcc H0 H xs ys ts i → SqL X.K H a xs → SqL X.K H b ys →
      codeAny (model X.prog X.w) A (.builtin "list.extend.loop" ⟨[.ref S, .ref z, res], []⟩) R s := by
  intro k
  induction k with
  | zero =>
    intro i s H ts acc c hk hi I hf st hS hacc za hqx hqy
    have hin : i = min xs.length ys.length := by omega
    subst hin
    obtain ⟨its, rv, p, _⟩ := I.list hqx
    obtain ⟨its2, rv2, p2, _⟩ := I.list hqy
    have l1 := rv.length
    have l2 := rv2.length
    have he : its.toArray[min xs.length ys.length]? = none ∨ its2.toArray[min xs.length ys.length]? = none := by
      rcases Nat.le_total xs.length ys.length with h | h
      · exact .inl (by rw [Nat.min_eq_left h]; simp; omega)
      · exact .inr (by rw [Nat.min_eq_right h]; simp; omega)
    refine codeAny_builtin F.entry_extend_loop ?_
    rw [Around.under_plainId F.plain_extend_loop _]
    show wpAny _ A.in1 (pyNext (.ref z) >>= _) _ _ s
    obtain ⟨hTI, h1, h2, ⟨oTO, eTO⟩, hz⟩ := st
    have fin : ∀ h', (∀ c o, c ∉ [z, TO, i1, i2] → s.heap.get? c = some o → h'.get? c = some o) → R (.ok (.ret res)) { s with heap := h' } := fun h' hk => by
      refine hR _ H ts acc c (I.turnedL (t' := s.toks) (ch := [z, TO, i1, i2]) (fun c o hc e => hk c o hc e) fun c hc => hf c ?_) za hacc (hk _ _ ?_ hS)
      · simp only [List.mem_cons, List.not_mem_nil, or_false] at hc ⊢
        rcases hc with q | q | q | q <;> simp [q]
      · simp only [List.mem_cons, List.not_mem_nil, or_false, not_or]
        exact ⟨dz, dTO, di1, di2⟩
    rcases hz with ⟨hz, x, y, hTO⟩ | ⟨T, f, oT, hz, hT, r1, r2, r3, r4⟩
    · refine wpAny_bind (wpAny_pyNext_zip_end (A := A.in1) hh D hz hTI hTO h1 h2 p.isList p2.isList he fun h' hk => wpAny_pure (fin h' fun c o hc e => ?_))
      simp only [List.mem_cons, List.not_mem_nil, or_false, not_or] at hc
      exact hk c o hc.1 hc.2.1 hc.2.2.1 hc.2.2.2 e
    · refine wpAny_bind (wpAny_pyNext_zip_end_held (A := A.in1) hh D hz hT hTI h1 h2 p.isList p2.isList he fun h' hk => wpAny_pure (fin h' fun c o hc e => ?_))
      simp only [List.mem_cons, List.not_mem_nil, or_false, not_or] at hc
      exact hk c o hc.1 hc.2.2.1 hc.2.2.2 e
  | succ k ih =>
    intro i s H ts acc c hk hi I hf st hS hacc za hqx hqy
    have hlt : i < min xs.length ys.length := by omega
    obtain ⟨its, rv, p, _⟩ := I.list hqx
    obtain ⟨its2, rv2, p2, _⟩ := I.list hqy
    have hx : xs[i]? = some (xs[i]'(by omega)) := List.getElem?_eq_getElem (by omega)
    have hy : ys[i]? = some (ys[i]'(by omega)) := List.getElem?_eq_getElem (by omega)
    obtain ⟨u, hu, ru⟩ := rv.get hx
    obtain ⟨u2, hu2, ru2⟩ := rv2.get hy
    refine codeAny_builtin F.entry_extend_loop ?_
    rw [Around.under_plainId F.plain_extend_loop _]
    show wpAny _ A.in1 (pyNext (.ref z) >>= _) _ _ s
    obtain ⟨hTI, h1, h2, ⟨oTO, eTO⟩, hz⟩ := st
    have hnT : ∀ c o, s.heap.get? c = some o → c ≠ s.heap.objs.size := fun c o e => Nat.ne_of_lt (Heap.lt_size e)
    have lSS : s.heap.objs.size ≠ S := fun e => hnT S _ hS e.symm
    have go : ∀ h', ZSt z TI TO i1 i2 a b S (i + 1) h' → IsPair h' s.heap.objs.size u u2 → (∀ c o, c ∉ [z, TO, i1, i2] → s.heap.get? c = some o → h'.get? c = some o) →
        wpAny (model X.prog X.w) A.in1 (updateSeq S (·.push (.ref s.heap.objs.size)) >>= fun _ => again (.builtin "list.extend.loop" ⟨[.ref S, .ref z, res], []⟩))
          (fun fin s' => match fin with | .done f => R (.ok f) s' | .again c' => c'.quiet = true ∧ codeAny (model X.prog X.w) A c' R s') (fun e s' => R (.error e) s') { s with heap := h' } := fun h' st' hp hkk => by
      have hS' : h'.get? S = some { cls := .type "list", dict := none, data := .seq acc c, slots := #[] } := hkk _ _ (by simp only [List.mem_cons, List.not_mem_nil, or_false, not_or]; exact ⟨dz, dTO, di1, di2⟩) hS
      have hf4 : ∀ c ∈ [z, TO, i1, i2], FpOk X pins H c := fun c hc => hf c (by
        simp only [List.mem_cons, List.not_mem_nil, or_false] at hc ⊢
        rcases hc with q | q | q | q <;> simp [q])
      have hfresh : H s.heap.objs.size = none := I.hok.fresh (Nat.le_refl _)
      have I1 : Inv X pins σ (upd H s.heap.objs.size (.tup [xs[i]'(by omega), ys[i]'(by omega)])) { s with heap := h' } :=
        I.turnedNew (t' := s.toks) (ch := [z, TO, i1, i2]) (fun c o hc e => hkk c o hc e) hf4 (Nat.le_refl _) ⟨by show 2 ≤ sizeLine; decide, [u, u2], .cons ru (.cons ru2 .nil), ⟨_, hp, rfl, _, rfl⟩⟩
      have exH : Ex H (upd H s.heap.objs.size (.tup [xs[i]'(by omega), ys[i]'(by omega)])) := Ex.new hfresh
      have lts : ts.length = i := za.len
      have lacc : acc.size = i := by rw [← Array.length_toList, hacc, List.length_map, lts]
      have there : ∀ c ∈ [z, TI, TO, i1, i2, S], c ≠ s.heap.objs.size → FpOk X pins (upd H s.heap.objs.size (.tup [xs[i]'(by omega), ys[i]'(by omega)])) c := fun c hc ne => ⟨by rw [upd_ne ne]; exact (hf c hc).1, (hf c hc).2⟩
      have z0 : ∃ o, s.heap.get? z = some o := by
        rcases hz with ⟨hz, _⟩ | ⟨_, _, _, hz, _⟩
        · exact ⟨_, hz⟩
        · exact ⟨_, hz⟩
      have hf2 : ∀ c ∈ [z, TI, i1, i2, S], c ≠ s.heap.objs.size := fun c hc => by
        obtain ⟨oz, hz0⟩ := z0
        obtain ⟨o1, e1, _⟩ := id h1
        obtain ⟨o2, e2, _⟩ := id h2
        simp only [List.mem_cons, List.not_mem_nil, or_false] at hc
        rcases hc with q | q | q | q | q
        · rw [q]; exact hnT _ _ hz0
        · rw [q]; exact hnT _ _ hTI
        · rw [q]; exact hnT _ _ e1
        · rw [q]; exact hnT _ _ e2
        · rw [q]; exact hnT _ _ hS
      have hf3 : ∀ c ∈ [z, TI, TO, i1, i2, S], c ≠ s.heap.objs.size := fun c hc => by
        by_cases e : c = TO
        · rw [e]; exact hnT _ _ eTO
        · refine hf2 c ?_
          simp only [List.mem_cons, List.not_mem_nil, or_false] at hc ⊢
          rcases hc with q | q | q | q | q | q
          · exact .inl q
          · exact .inr (.inl q)
          · exact absurd q e
          · exact .inr (.inr (.inl q))
          · exact .inr (.inr (.inr (.inl q)))
          · exact .inr (.inr (.inr (.inr q)))
      refine wpAny_bind (wpAny_updateSeq hS' rfl (wpAny_pure ⟨plainId_quiet F.plain_extend_loop _, ?_⟩) (by rw [lacc]; omega) (by show (acc.push (.ref s.heap.objs.size)).size ≤ sizeLine + 1; rw [Array.size_push, lacc]; omega))
      have oth : ∀ (c : Addr) (o : Obj), c ≠ S → h'.get? c = some o → (h'.update S (Obj.mapSeq (·.push (.ref s.heap.objs.size)))).get? c = some o := fun c o hc e => (Heap.get?_update_other _ _ (Ne.symm hc)).trans e
      have I2 := I1.turnedL (t' := s.toks) (ch := [S]) (h' := h'.update S (Obj.mapSeq (·.push (.ref s.heap.objs.size)))) (fun c o hc e => oth c o (fun q => hc (by rw [q]; simp)) e) fun c hc => by
        have e : c = S := by simpa using hc
        rw [e]
        exact there S (by simp) (hf3 S (by simp))
      have hS2 := Heap.get?_update_self (Obj.mapSeq (·.push (Value.ref s.heap.objs.size))) hS' rfl
      refine ih (i + 1) _ _ (ts ++ [s.heap.objs.size]) _ _ (by omega) hlt I2 (fun c hc => there c hc (hf3 c hc)) ?_ hS2 ?_ ⟨by rw [List.length_append, lts]; rfl, za.ex.trans exH, fun j T e => ?_⟩ (ex_l exH hqx) (ex_l exH hqy)
      · obtain ⟨q1, ⟨p1, e1, r1⟩, ⟨p2, e2, r2⟩, ⟨oT, eT⟩, q2⟩ := st'
        refine ⟨oth _ _ (Ne.symm dTI) q1, ⟨p1, oth _ _ (Ne.symm di1) e1, r1⟩, ⟨p2, oth _ _ (Ne.symm di2) e2, r2⟩, ⟨oT, oth _ _ (Ne.symm dTO) eT⟩, ?_⟩
        rcases q2 with ⟨q2, x, y, q3⟩ | ⟨T, f, o, q2, q3, n1, n2, n3, n4⟩
        · exact .inl ⟨oth _ _ (Ne.symm dz) q2, x, y, oth _ _ (Ne.symm dTO) q3⟩
        · exact .inr ⟨T, f, o, oth _ _ (Ne.symm dz) q2, oth _ _ n4 q3, n1, n2, n3, n4⟩
      · rw [Array.toList_push, hacc, List.map_append]; rfl
      · by_cases hj : j < ts.length
        · rw [List.getElem?_append_left hj] at e
          obtain ⟨g0, x, y, g1, g2, g3⟩ := za.at_ j T e
          exact ⟨g0, x, y, g1, g2, exH _ _ g3⟩
        · have hj' : j = i := by
            have := lt_of_some e
            rw [List.length_append, List.length_singleton] at this
            omega
          subst hj'
          rw [List.getElem?_append_right (by omega), lts, Nat.sub_self] at e
          have e : s.heap.objs.size = T := Option.some.inj e
          subst e
          refine ⟨?_, _, _, hx, hy, upd_same⟩
          cases q : H0 s.heap.objs.size with
          | none => rfl
          | some o =>
            rw [za.ex _ _ q] at hfresh
            cases hfresh
    have sn : ∀ c o, s.heap.get? c = some o → s.heap.objs.size ≠ c := fun c o e => (hnT c o e).symm
    have s1 : s.heap.objs.size ≠ i1 := let ⟨_, e, _⟩ := h1; sn _ _ e
    have s2 : s.heap.objs.size ≠ i2 := let ⟨_, e, _⟩ := h2; sn _ _ e
    rcases hz with ⟨hz, x, y, hTO⟩ | ⟨T, f, oT, hz, hT, r1, r2, r3, r4⟩
    · refine wpAny_bind (wpAny_pyNext_zip_item (A := A.in1) D hz hTI hTO h1 h2 p.isList p2.isList (x := u) (y := u2) (by simpa using hu) (by simpa using hu2) fun h' a1 a2 a3 a4 a5 a6 hk => ?_)
      refine go h' ⟨hk _ _ D.TIz D.TITO D.TIi1 D.TIi2 hTI, a3, a4, ⟨_, a2⟩, .inr ⟨s.heap.objs.size, false, _, a1, a5, sn _ _ hz, s1, s2, lSS⟩⟩ a5 fun c o hc e => ?_
      simp only [List.mem_cons, List.not_mem_nil, or_false, not_or] at hc
      exact hk c o hc.1 hc.2.1 hc.2.2.1 hc.2.2.2 e
    · refine wpAny_bind (wpAny_pyNext_zip_item_held (A := A.in1) D hz hT hTI h1 h2 p.isList p2.isList (x := u) (y := u2) (by simpa using hu) (by simpa using hu2) fun h' a1 a3 a4 a5 a6 hk => ?_)
      refine go h' ⟨hk _ _ D.TIz D.TIi1 D.TIi2 hTI, a3, a4, ⟨_, hk _ _ D.TOz D.TOi1 D.TOi2 eTO⟩, .inr ⟨T, true, oT, a1, hk _ _ r1 r2 r3 hT, r1, r2, r3, r4⟩⟩ a5 fun c o hc e => ?_
      simp only [List.mem_cons, List.not_mem_nil, or_false, not_or] at hc
      exact hk c o hc.1 hc.2.2.1 hc.2.2.2 e
theorem collect_zip {Q : List Value → Shared → Prop} {s : Shared} {H : Hp} {E : Value → Shared → Prop} (hh : A.handled = none) (D : ZipApart z TI TO i1 i2 a b) (hn : min xs.length ys.length ≤ sizeLine) (I : Inv X pins σ H s) (hf : ∀ b ∈ [z, TI, TO, i1, i2], FpOk X pins H b)
    (hz : IsZip s.heap z TI TO .none) (hTI : IsPair s.heap TI (.ref i1) (.ref i2)) (hTO : ∃ x y, IsPair s.heap TO x y) (h1 : s.heap.IsListIter i1 a 0) (h2 : s.heap.IsListIter i2 b 0) (hqx : SqL X.K H a xs) (hqy : SqL X.K H b ys)
    (hQ : ∀ s' H' ts, Inv X pins σ H' s' → ZAcc H H' xs ys ts (min xs.length ys.length) → Q (ts.map Value.ref) s') : wpAny (model X.prog X.w) A (collect (.ref z)) Q E s := by
  obtain ⟨x0, y0, hTO⟩ := hTO
  have nz := Heap.lt_size hz
  have nTI := Heap.lt_size hTI
  have nTO := Heap.lt_size hTO
  have n1 : i1 < s.heap.objs.size := let ⟨_, e, _⟩ := h1; Heap.lt_size e
  have n2 : i2 < s.heap.objs.size := let ⟨_, e, _⟩ := h2; Heap.lt_size e
  unfold collect
  refine wpAny_bind (wpAny_runValue (codeAny_builtin F.entry_proto_collect ?_))
  rw [Around.under_plainId F.plain_proto_collect _]
  show wpAny _ A.in1 (newList [] >>= fun l => again (.builtin "list.__iadd__" ⟨[l, .ref z], []⟩)) _ _ s
  refine wpAny_bind (wpAny_newObj_type ?_)
  refine wpAny_pure ⟨plainId_quiet F.plain_list_iadd _, codeAny_builtin F.entry_list_iadd ?_⟩
  rw [Around.under_plainId F.plain_list_iadd _]
  generalize hob : ({ cls := .type "list", data := .seq ([] : List Value).toArray } : Obj) = ob
  have hS₁ : (s.heap.push ob).get? s.heap.objs.size = some ob := Heap.get?_push_size _ (by rw [← hob]; rfl)
  have keep1 : ∀ c o, s.heap.get? c = some o → (s.heap.push ob).get? c = some o := fun c o e => Heap.get?_push_of_some _ e
  have I1 : Inv X pins σ H { s with heap := s.heap.push ob } := I.kept (t' := s.toks) keep1
  show wpAny _ A.in1 (Builtin.List.listExtendWith (.ref s.heap.objs.size) (.ref z) (.ref s.heap.objs.size)) _ _ _
  unfold Builtin.List.listExtendWith
  have hTy : ∀ s1 : Shared, IsZip s1.heap z TI TO .none → s1.TypeIs (.ref z) "zip" := fun s1 e => ⟨_, e, rfl⟩
  have hz1 : IsZip (s.heap.push ob) z TI TO .none := keep1 _ _ hz
  refine wpAny_bind (wpAny_typeOf (hTy _ hz1) ?_)
  have e1 : Builtin.List.listSameRef (.ref s.heap.objs.size) (.ref z) = false := by simp [Builtin.List.listSameRef, Nat.ne_of_gt nz]
  have e2 : (Value.type "zip" == Value.type "list") = false := by decide
  have e3 : (Value.type "zip" == Value.type "tuple") = false := by decide
  simp only [e1, e2, e3, Bool.or_false, Bool.false_eq_true, if_false]
  refine wpAny_bind (wpAny_pyIter_zip hz1 ?_)
  refine wpAny_bind (wpAny_holding ?_)
  unfold Builtin.List.listLengthHint
  refine wpAny_bind (wpAny_specialOf (hTy _ hz1) zip_no_len ?_)
  show wpAny _ A.in1 (specialOf (Value.ref z) (Str.ofString "__length_hint__") >>= _) _ _ _
  refine wpAny_bind (wpAny_specialOf (hTy _ hz1) zip_no_hint ?_)
  refine wpAny_pure ?_
  show wpAny _ A.in1 (rule "list.extend.makes-room" >>= fun _ => Builtin.List.listTouch (.ref s.heap.objs.size) >>= fun _ =>
    again (.builtin "list.extend.loop" ⟨[.ref s.heap.objs.size, .ref z, .ref s.heap.objs.size], []⟩)) _ _ _
  refine wpAny_bind (wpAny_rule ?_)
  refine wpAny_bind ?_
  show wpAny _ A.in1 (updateSeq s.heap.objs.size (·.push .none) >>= fun _ => updateSeq s.heap.objs.size (·.pop)) _ _ _
  have hS₁ : (s.heap.push ob).get? s.heap.objs.size = some { cls := .type "list", data := .seq ([] : List Value).toArray } := by rw [hS₁, ← hob]
  refine wpAny_bind (wpAny_updateSeq hS₁ rfl ?_)
  have hS₂ := Heap.get?_update_self (Obj.mapSeq (·.push Value.none)) hS₁ rfl
  refine wpAny_updateSeq hS₂ rfl ?_
  have hS₃ := Heap.get?_update_self (Obj.mapSeq (·.pop)) hS₂ rfl
  have oth : ∀ b o, b ≠ s.heap.objs.size → (s.heap.push ob).get? b = some o →
      (((s.heap.push ob).update s.heap.objs.size (Obj.mapSeq (·.push Value.none))).update s.heap.objs.size (Obj.mapSeq (·.pop))).get? b = some o :=
    fun b o hb e => (Heap.get?_update_other _ _ (Ne.symm hb)).trans ((Heap.get?_update_other _ _ (Ne.symm hb)).trans e)
  have fS : FpOk X pins H s.heap.objs.size := I.fpOk (Nat.le_refl _) (I.hok.fresh (Nat.le_refl _))
  have I3 := I1.turnedL (t' := s.toks) (ch := [s.heap.objs.size]) (h' := ((s.heap.push ob).update s.heap.objs.size (Obj.mapSeq (·.push Value.none))).update s.heap.objs.size (Obj.mapSeq (·.pop))) (fun c o hc e => oth c o (fun q => hc (by rw [q]; simp)) e) fun c hc => by
    have e : c = s.heap.objs.size := by simpa using hc
    rw [e]
    exact fS
  have old : ∀ c o, s.heap.get? c = some o → (((s.heap.push ob).update s.heap.objs.size (Obj.mapSeq (·.push Value.none))).update s.heap.objs.size (Obj.mapSeq (·.pop))).get? c = some o := fun c o e => oth c o (Nat.ne_of_lt (Heap.lt_size e)) (keep1 c o e)
  refine wpAny_pure ⟨plainId_quiet F.plain_extend_loop _, zip_fill (H0 := H) (R := _) hh D (Nat.ne_of_gt nz) (Nat.ne_of_gt nTI) (Nat.ne_of_gt nTO) (Nat.ne_of_gt n1) (Nat.ne_of_gt n2) hn (fun s' H' ts acc c I' za hacc hS' => ?_) _ 0 _ H [] _ _ rfl (Nat.zero_le _) I3 (fun c hc => ?_) ?_ hS₃ rfl ⟨rfl, fun _ _ q => q, fun j T e => (by simp at e)⟩ hqx hqy⟩
  · show wpAny _ A (load s.heap.objs.size >>= _) _ _ s'
    refine wpAny_bind (wpAny_load hS' ?_)
    refine wpAny_pure ?_
    have q := hQ s' H' ts I' za
    rw [← hacc] at q
    exact q
  · simp only [List.mem_cons, List.not_mem_nil, or_false] at hc
    rcases hc with q | q | q | q | q | q
    · exact hf c (by simp [q])
    · exact hf c (by simp [q])
    · exact hf c (by simp [q])
    · exact hf c (by simp [q])
    · exact hf c (by simp [q])
    · rw [q]; exact fS
  · obtain ⟨o1, q1, r1⟩ := h1
    obtain ⟨o2, q2, r2⟩ := h2
    exact ⟨old _ _ hTI, ⟨o1, old _ _ q1, r1⟩, ⟨o2, old _ _ q2, r2⟩, ⟨_, old _ _ hTO⟩, .inl ⟨old _ _ hz, x0, y0, old _ _ hTO⟩⟩
theorem code_tuple_new_zip {Q₁ : Value → Shared → Prop} {s : Shared} {H : Hp} {E : Value → Shared → Prop} (hh : A.handled = none) (D : ZipApart z TI TO i1 i2 a b) (hn : min xs.length ys.length ≤ sizeLine) (I : Inv X pins σ H s) (hf : ∀ b ∈ [z, TI, TO, i1, i2], FpOk X pins H b)
    (hz : IsZip s.heap z TI TO .none) (hTI : IsPair s.heap TI (.ref i1) (.ref i2)) (hTO : ∃ x y, IsPair s.heap TO x y) (h1 : s.heap.IsListIter i1 a 0) (h2 : s.heap.IsListIter i2 b 0) (hqx : SqL X.K H a xs) (hqy : SqL X.K H b ys)
    (h : ∀ s' H' ts, Inv X pins σ H' s' → ZAcc H H' xs ys ts (min xs.length ys.length) → Q₁ (.ref s'.heap.objs.size) { s' with heap := s'.heap.push { cls := .type "tuple", data := .seq (ts.map Value.ref).toArray } }) :
    codeAny (model X.prog X.w) A (.call (.builtin "tuple.__new__") ⟨[.type "tuple", .ref z], []⟩) (wants Q₁ E) s := by
  refine codeAny_of_tree ?_
  show wpAny _ A.in1 (do checkBuiltinCall "tuple.__new__" ⟨[.type "tuple", .ref z], []⟩; again (.builtin "tuple.__new__" ⟨[.type "tuple", .ref z], []⟩)) _ _ s
  refine wpAny_bind (wpAny_of_eq (F.newCall_tuple_1 _) (wpAny_pure ⟨plainId_quiet F.plain_tuple_new _, codeAny_builtin F.entry_tuple_new ?_⟩))
  rw [Around.under_plainId F.plain_tuple_new _]
  have hsub := sub_tuple_self
  have hinit := init_tuple_lookup
  have hmh := madeHere_tuple
  have hTI0 : s.TypeIs (.ref z) "zip" := ⟨_, hz, rfl⟩
  have hh1 : A.in1.handled = none := hh
  have goal := fun (Q : List Value → Shared → Prop) (E : Value → Shared → Prop) (hQ : ∀ s' H' ts, Inv X pins σ H' s' → ZAcc H H' xs ys ts (min xs.length ys.length) → Q (ts.map Value.ref) s') => collect_zip (A := A.in1) (E := E) hh1 D hn I hf hz hTI hTO h1 h2 hqx hqy hQ
  wp_walk using wpAny_typeOf hTI0, goal
  intro s' H' ts I' za
  show wpAny _ _ (Builtin.Tuple.tupleExact (ts.map Value.ref).toArray >>= fun v => ret v) _ _ _
  unfold Builtin.Tuple.tupleExact
  refine wpAny_bind (wpAny_newObj_type ?_ (by show (ts.map Value.ref).toArray.size ≤ sizeLine; rw [List.size_toArray, List.length_map, za.len]; exact hn))
  exact wpAny_pure (h s' H' ts I' za)
theorem call_tuple_zip {Q : Value → Shared → Prop} {s : Shared} {H : Hp} {E : Value → Shared → Prop} (hh : A.handled = none) (D : ZipApart z TI TO i1 i2 a b) (hn : min xs.length ys.length ≤ sizeLine) (I : Inv X pins σ H s) (hf : ∀ b ∈ [z, TI, TO, i1, i2], FpOk X pins H b)
    (hz : IsZip s.heap z TI TO .none) (hTI : IsPair s.heap TI (.ref i1) (.ref i2)) (hTO : ∃ x y, IsPair s.heap TO x y) (h1 : s.heap.IsListIter i1 a 0) (h2 : s.heap.IsListIter i2 b 0) (hqx : SqL X.K H a xs) (hqy : SqL X.K H b ys)
    (hQ : ∀ s' H' ts, Inv X pins σ H' s' → ZAcc H H' xs ys ts (min xs.length ys.length) → Q (.ref s'.heap.objs.size) { s' with heap := s'.heap.push { cls := .type "tuple", data := .seq (ts.map Value.ref).toArray } }) :
    wpAny (model X.prog X.w) A (call (.type "tuple") [.ref z]) Q E s := by
  refine callType_codes (Q₁ := fun obj s₁ => s₁.TypeIs obj "tuple" ∧ Q obj s₁) F.called_tuple (F.typeCall_tuple_1 _) F.entry_object_init
    (code_tuple_new_zip (A := A.in1) hh D hn I hf hz hTI hTO h1 h2 hqx hqy fun s' H' ts I' za => ⟨⟨_, Heap.get?_push_size _ rfl, rfl⟩, hQ s' H' ts I' za⟩) fun obj s₁ h₁ => ?_
  exact ⟨h₁.1, F.args_object_init_2 obj _, object_init_meets F.called_tuple.init.lookup F.called_tuple.made (by decide) X.prog X.w A.in1 _ s₁ ⟨h₁.1, rfl, h₁.2⟩⟩
end
def tTupZip (K : PySem.W.Frag) (ta : TA) : TE := fun σ H Q => ta σ H fun vs H1 => ∃ a b xs ys, vs = [.ref a, .ref b] ∧ SqL K H1 a xs ∧ SqL K H1 b ys ∧ min xs.length ys.length ≤ sizeLine ∧
  ∀ H2 ts q, ZAcc H1 H2 xs ys ts (min xs.length ys.length) → H2 q = none → Q (.ref q) (upd H2 q (.tup (ts.map V.ref)))
theorem vals_refs : ∀ ts : List Addr, Vals (ts.map V.ref) (ts.map Value.ref)
  | [] => .nil
  | _ :: ts => .cons rfl (vals_refs ts)
theorem pe_tupZip {X : Cx} {e e2 : Expr} {ta : TA} {p p2 q pos : Pos} (hc : X.calm = true) (hg : Gl X "tuple") (hm : X.mg "tuple" = none) (hg2 : Gl X "zip") (hm2 : X.mg "zip" = none) (ha : PA X [e, e2] ta)
    (hs : starEach [e, e2] X.env = (false, eval e X.env) :: starEach [e2] X.env := by rfl) (hpl : (backTo q (starEach [e2] X.env)).any (·.1) = false := by rfl)
    (na : starEach [(Expr.Call (.Name "zip" p2) [e, e2] [] q)] X.env = (false, eval (Expr.Call (.Name "zip" p2) [e, e2] [] q) X.env) :: starEach [] X.env := by rfl) :
    PE X (.Call (.Name "tuple" p) [.Call (.Name "zip" p2) [e, e2] [] q] [] pos) (tTupZip X.K ta) := by
  refine ⟨fun pins s σ H Q I h => ?_⟩
  refine Call_ (ld_blt I hg hm boot_tuple (PyProof.Rows.callWith_type1 (PyProof.Rows.args_cons ?_ na) na rfl))
  refine Call_ (ld_blt I hg2 hm2 PyProof.Rows.boot_zip (PyProof.Rows.callWith_type1 (thn (ha.run q pins s σ H _ I h) fun us s1 ⟨vs, H1, I1, r1, q1⟩ => ?_) hs hpl))
  obtain ⟨a, b, xs, ys, ex, hqx, hqy, hn, q1⟩ := q1
  subst ex
  cases r1 with
  | cons r rr =>
    cases rr with
    | cons r' rr =>
      cases rr
      cases r
      cases r'
      obtain ⟨its, rv, p1, _⟩ := I1.list hqx
      obtain ⟨its2, rv2, p2, _⟩ := I1.list hqy
      refine call_zip_2 p1.isList p2.isList fun h' hz hTI hTO h1 h2 hsz hk => args_nil ?_
      have I2 : Inv X pins σ H1 { s1 with heap := h' } := I1.kept (t' := s1.toks) hk
      refine call_tuple_zip (A := X.A) (s := { s1 with heap := h' }) (I.ok.hd hc) (PySem.W.ktu_apart s1.heap.objs.size a b p1.lt p2.lt) hn I2 (fun c hcm => ?_) hz hTI ⟨_, _, hTO⟩ h1 h2 hqx hqy fun s' H' ts I' za => ?_
      · have e' : c = s1.heap.objs.size + 4 ∨ c = s1.heap.objs.size + 2 ∨ c = s1.heap.objs.size + 3 ∨ c = s1.heap.objs.size ∨ c = s1.heap.objs.size + 1 := by simpa using hcm
        have hle : s1.heap.objs.size ≤ c := by
          rcases e' with z | z | z | z | z
          · rw [z]; exact Nat.le_add_right _ _
          · rw [z]; exact Nat.le_add_right _ _
          · rw [z]; exact Nat.le_add_right _ _
          · rw [z]; exact Nat.le_refl _
          · rw [z]; exact Nat.le_add_right _ _
        exact I1.fpOk hle (I1.hok.fresh hle)
      · have hq : H' s'.heap.objs.size = none := I'.hok.fresh (Nat.le_refl _)
        have I3 : Inv X pins σ (upd H' s'.heap.objs.size (.tup (ts.map V.ref))) { s' with heap := s'.heap.push { cls := .type "tuple", data := .seq (ts.map Value.ref).toArray } } :=
          I'.laid (t' := s'.toks) (fun c o e => Heap.get?_push_of_some _ e) (Nat.le_refl _) (show ObjOk X.prog X.w _ _ _ (.tup (ts.map V.ref)) from ⟨by rw [List.length_map, za.len]; exact hn, ts.map Value.ref, vals_refs ts, IsTup.new _ _⟩)
        exact ⟨.ref s'.heap.objs.size, _, I3, rfl, q1 _ _ _ za hq⟩
section
variable {K : PySem.W.Frag} {ct : Ct} {E : XK} {B H B' H' B1 H1 B2 H2 : Hp} {σ σ' : L2.St} {ρ ρ' : Env} {f0 f1 f2 : Fps} {v : V} {r : Vl} {f g : List Addr}
def noExt : Option HO → Option HO
  | some (.ext _) => none
  | o => o
theorem noExt_some {o : Option HO} {u : HO} (h : noExt o = some u) : o = some u := by
  unfold noExt at h
  split at h
  · cases h
  · exact h
theorem noExt_of {u : HO} (h : ∀ φ, u ≠ .ext φ) : noExt (some u) = some u := by
  unfold noExt
  split
  · rename_i e
    exact absurd (Option.some.inj e) (h _)
  · rfl
theorem noExt_ne {o : Option HO} {φ : Heap → Prop} : noExt o ≠ some (.ext φ) := fun h => by
  have e := noExt_some h
  rw [e] at h
  cases h
def grown (B H H' : Hp) : Hp := fun a => match H a with
  | none => noExt (H' a)
  | some _ => B a
theorem New.grown {d : D} (e1 : Ex B H) (e2 : Ex H H') (h : DV K (grown B H H') v d) : New K B H v (.sh d) (grown B H H') H' [] where
  bb := fun a o q => by
    unfold DL.grown
    rw [e1 a o q]
    exact q
  hh := e2
  bh := fun a o q => by
    unfold DL.grown at q
    split at q
    · exact noExt_some q
    · exact e2 a o (e1 a o q)
  off := fun a q1 q2 => by
    unfold DL.grown
    split
    · rename_i h; exact absurd h q2
    · exact q1
  val := ⟨rfl, v, rfl, h⟩
  fr := fun _ q => (nomatch q)
  pl := fun n a φ q => by
    unfold DL.grown at q
    split at q
    · exact noExt_ne q
    · exact n a φ q
theorem grown_new {a : Addr} {xs : List V} (h : H a = none) (e : H' a = some (.tup xs)) : grown B H H' a = some (.tup xs) := by
  unfold grown
  rw [h, e]
  rfl
theorem grown_ex (e : Ex B H) : Ex B (grown B H H') := fun a o q => by
  unfold DL.grown
  rw [e a o q]
  exact q
def xTupZip (ma : MA) : MX := fun ρ => R.bind (ma ρ) fun a => rdO (shares a.2 a.1) fun p => match p.1 with
  | [d, e] => match kindOf d, kindOf e with
    | some (ds, false), some (es, false) => if szOk ds.length = true then .ok (.sh (.tup (zipD ds es)), p.2) else .bad
    | _, _ => .bad
  | _ => .bad
theorem dvs_of {xs : List V} : ∀ {ts : List Addr} {ds : List D}, ts.length = ds.length → (∀ (j : Nat) (T : Addr) (d : D), ts[j]? = some T → ds[j]? = some d → DV K B (.ref T) d) → DVs K B (ts.map V.ref) ds
  | [], [], _, _ => .nil
  | [], _ :: _, h, _ => by simp at h
  | _ :: _, [], h, _ => by simp at h
  | T :: ts, d :: ds, h, f => .cons (f 0 T d rfl rfl) (dvs_of (xs := xs) (by simpa using h) fun j T d h1 h2 => f (j + 1) T d (by simpa using h1) (by simpa using h2))
theorem im_tupZip {t : TA} {m : MA} (ha : ImpA K ct E t m) : Imp K ct E (tTupZip K t) (xTupZip m) := by
  intro B H σ ρ f0 Q R h
  refine ha B H σ ρ f0 _ R (h.first fun a ea h vs B1 H1 f1 f x => ?_)
  obtain ⟨p, e1, h⟩ := h.get
  obtain ⟨B2, f2, R2, hd, fr⟩ := x.shared e1
  split at h
  · rename_i d e ep
    split at h
    · rename_i ds es q1 q2
      by_cases hz : szOk ds.length = true
      · rw [if_pos hz] at h
        rw [ep] at hd
        cases hd with
        | cons h1 hd =>
          cases hd with
          | cons h2 hd =>
            cases hd
            obtain ⟨a1, xs, rfl, s1, v1⟩ := kindOf_ok h1 q1
            obtain ⟨a2, ys, rfl, s2, v2⟩ := kindOf_ok h2 q2
            refine ⟨_, _, _, _, rfl, ex_l R2.ex s1, ex_l R2.ex s2, ?_, fun H3 ts q za hq => ?_⟩
            · have := szOk_le hz
              rw [v1.len]
              omega
            · have hHq : H1 q = none := by
                cases e : H1 q with
                | none => rfl
                | some o => rw [za.ex _ _ e] at hq; cases hq
              have e3 : Ex H1 (upd H3 q (.tup (ts.map V.ref))) := za.ex.trans (Ex.new hq)
              refine h _ _ _ _ _ (R2.newRes fr (New.grown R2.ex e3 (.tup (xs := ts.map V.ref) (Or.inl (Or.inl (grown_new hHq upd_same))) ?_)))
              refine dvs_of (xs := []) (by rw [za.len, zipD_len, v1.len, v2.len]) fun j T w g1 g2 => ?_
              obtain ⟨d', e', g3, g4, rfl⟩ := zipD_get g2
              obtain ⟨n0, u, u2, g5, g6, g7⟩ := za.at_ j T g1
              obtain ⟨u', hu, ru⟩ := v1.get g3
              obtain ⟨w', hw, rw'⟩ := v2.get g4
              rw [g5] at hu
              cases hu
              rw [g6] at hw
              cases hw
              have hTq : T ≠ q := fun z => by rw [z, hq] at g7; cases g7
              refine .tup (xs := [u, u2]) (Or.inl (Or.inl (grown_new n0 (by rw [upd_ne hTq]; exact g7)))) (.cons (ru.mono (grown_ex R2.ex)) (.cons (rw'.mono (grown_ex R2.ex)) .nil))
      · rw [if_neg hz] at h
        exact h.elim
    · exact h.elim
  · exact h.elim
def xYes : MT := fun ρ => .ok (true, ρ)
theorem it_yes : ImpT K ct E tYes xYes := fun B H σ ρ f0 Q R q => q B H f0 (.refl R)
theorem spM_bad {vs : List V} {Q : VK} (h : spM K ct (fun _ => .bad) vs H Q E) : False := by
  obtain ⟨_, _, _, _, h⟩ := h
  exact h
theorem okBad {P : Program} {w : World} {mg : Str → Option Value} {base : Heap} {k : Nat} {a : Addr} {fd : FuncData} {ps : List Str} : FnOk P w K mg base (L2.CX P w) k a fd ps (spM K ct fun _ => .bad) :=
  ⟨fun _ _ _ _ h => (spM_bad h).elim, fun _ _ _ _ _ _ _ _ _ _ _ _ _ h => (spM_bad h).elim⟩
end
end DL
end
section
set_option maxRecDepth 100000
set_option maxHeartbeats 2000000
namespace DL
open PySem PySem.Spec PyProof.Rows L2
open Evl (Ex ex_rd ex_l ex_t)
section
variable {K : PySem.W.Frag} {ct : Ct} {E : XK} {B H B' H' B1 H1 B2 H2 : Hp} {σ σ' : L2.St} {ρ ρ' : Env} {f0 f1 f2 : Fps} {v : V} {r : Vl} {f g : List Addr} {fix : Nat → Bool}
theorem Rel.mutS {i : Nat} {p : Addr} {o : HO} {s : Sl} (R : Rel K B H σ ρ f0) (hi : i < ρ.length) (hp : p ∈ f0 i) (ok : SlOk K B (upd H p o) (σ[i]?).join s (f0 i)) : Rel K B (upd H p o) σ (ρ.set i s) f0 where
  len := by rw [List.length_set]; exact R.len
  ex := fun a o q => by
    rw [upd_ne (fun e => by rw [e, (R.off i p hp).1] at q; cases q)]
    exact R.ex a o q
  pl := R.pl
  ok := fun j t q => by
    by_cases e : j = i
    · subst e
      rw [List.getElem?_set_self hi] at q
      cases q
      exact ok
    · rw [List.getElem?_set_ne (Ne.symm e)] at q
      have ok := R.ok j t q
      have ne : ∀ a ∈ f0 j, a ≠ p := fun a ha z => e (R.dis j i a ha (by rw [z]; exact hp))
      cases t with
      | emp => exact ok
      | sh d => exact ok
      | own es =>
        obtain ⟨p', ys, e1, e2, e3, e4⟩ := ok
        refine ⟨p', ys, e1, e2, ?_, e4⟩
        rw [upd_ne (ne p' (by rw [e2]; simp))]
        exact e3
      | own2 l =>
        obtain ⟨p', ps, e1, e2, e3, e4, e5⟩ := ok
        refine ⟨p', ps, e1, e2, e3, ?_, e5.to (fun _ _ q => q) fun q hq o e => ?_⟩
        · rw [upd_ne (ne p' (by rw [e2]; simp))]
          exact e4
        · rw [upd_ne (ne q (by rw [e2]; exact List.mem_cons_of_mem _ hq))]
          exact e
      | drw st =>
        obtain ⟨a, w, c, e1, e2, e3, e4, e5, e6⟩ := ok
        refine ⟨a, w, c, e1, e2, e3, ?_, ?_, e6⟩
        · rw [upd_ne (ne a (by rw [e2]; simp))]
          exact e4
        · rw [upd_ne (ne w (by rw [e2]; simp))]
          exact e5
      | tab T d => exact ⟨ok.1.to fun a ha o e => by rw [upd_ne (ne a ha)]; exact e, ok.2⟩
  out := fun j q => by
    by_cases e : j = i
    · subst e
      rw [List.getElem?_set_self hi] at q
      cases q
    · rw [List.getElem?_set_ne (Ne.symm e)] at q
      exact R.out j q
  dis := R.dis
  off := fun j a ha => ⟨(R.off j a ha).1, by
    by_cases e : a = p
    · rw [e, upd_same]; simp
    · rw [upd_ne e]
      exact (R.off j a ha).2⟩
def drwS : Option Sl → Option Draw
  | some (.drw st) => some st
  | _ => none
def dkOf (st : Draw) (w c : Addr) : List (Key × V) := [(.inr "wide", .ref w), (.inr "cells", .ref c), (.inr "rest", .int st.rest), (.inr "turn", .int st.turn)]
theorem Rel.drw {i : Nat} {st : Draw} (R : Rel K B H σ ρ f0) (h : drwS ρ[i]? = some st) : ∃ a w c, σ[i]? = some (some (.ref a)) ∧ f0 i = [a, w] ∧ a ≠ w ∧ H a = some (.dK (dkOf st w c)) ∧ H w = some (.lst (st.wide.map V.int)) ∧ SqL K B c (st.cells.map V.int) ∧ i < ρ.length := by
  cases e : ρ[i]? with
  | none => rw [e] at h; cases h
  | some s =>
    rw [e] at h
    have ok := R.ok i s e
    cases s with
    | drw st' =>
      cases h
      obtain ⟨a, w, c, q1, q2, q3, q4, q5, q6⟩ := ok
      refine ⟨a, w, c, ?_, q2, q3, q4, q5, q6, (List.getElem?_eq_some_iff.mp e).1⟩
      cases q : σ[i]? with
      | none => rw [q] at q1; cases q1
      | some o => rw [q] at q1; exact congrArg some q1
    | _ => cases h
def xDrw (g : Draw → Vl) (i : Nat) : MX := fun ρ => rdO (drwS ρ[i]?) fun st => .ok (g st, ρ)
theorem valV_wide {st : Draw} {w c : Addr} : valV (dkOf st w c) (.inr "wide") = some (.ref w) := rfl
theorem valV_cells {st : Draw} {w c : Addr} : valV (dkOf st w c) (.inr "cells") = some (.ref c) := rfl
theorem valV_rest {st : Draw} {w c : Addr} : valV (dkOf st w c) (.inr "rest") = some (.int st.rest) := rfl
theorem valV_turn {st : Draw} {w c : Addr} : valV (dkOf st w c) (.inr "turn") = some (.int st.turn) := rfl
theorem putK_rest {st : Draw} {w c : Addr} {k : Int} : putK (dkOf st w c) (.inr "rest") (.int k) = dkOf { st with rest := k } w c := rfl
theorem putK_turn {st : Draw} {w c : Addr} {k : Int} : putK (dkOf st w c) (.inr "turn") (.int k) = dkOf { st with turn := k } w c := rfl
theorem im_drest {i : Nat} : Imp K ct E (tDGet (tVar i) (tC (.str "rest"))) (xDrw (fun st => .sh (.int st.rest)) i) := by
  intro B H σ ρ f0 Q R h
  obtain ⟨st, e, h⟩ := h.get
  obtain ⟨a, w, c, q1, q2, q3, q4, q5, q6, q7⟩ := R.drw e
  exact ⟨_, q1, a, .int st.rest, rfl, DGet.k (k := .inr "rest") q4, h _ _ _ _ _ (.refl R (.int _))⟩
theorem im_dturn {i : Nat} : Imp K ct E (tDGet (tVar i) (tC (.str "turn"))) (xDrw (fun st => .sh (.int st.turn)) i) := by
  intro B H σ ρ f0 Q R h
  obtain ⟨st, e, h⟩ := h.get
  obtain ⟨a, w, c, q1, q2, q3, q4, q5, q6, q7⟩ := R.drw e
  exact ⟨_, q1, a, .int st.turn, rfl, DGet.k (k := .inr "turn") q4, h _ _ _ _ _ (.refl R (.int _))⟩
theorem im_dcells {i : Nat} : Imp K ct E (tDGet (tVar i) (tC (.str "cells"))) (xDrw (fun st => .sh (.scr st.cells)) i) := by
  intro B H σ ρ f0 Q R h
  obtain ⟨st, e, h⟩ := h.get
  obtain ⟨a, w, c, q1, q2, q3, q4, q5, q6, q7⟩ := R.drw e
  exact ⟨_, q1, a, .ref c, rfl, DGet.k (k := .inr "cells") q4, h _ _ _ _ _ (.refl R (.scr q6))⟩
def okL (ds : List D) : Prop := ∃ ps, pyds ds = some ps ∧ PyData.canLayAll0 ps = true ∧ PyData.depthAll ps ≤ 63
theorem eqD_nil {ds : List D} (h : okL ds) : eqD (.lst ds) (.lst []) = some ds.isEmpty := by
  obtain ⟨ps, e1, e2, e3⟩ := h
  have p1 : pyd (.lst ds) = some (.list ps) := by
    unfold pyd
    rw [e1]
    rfl
  have p2 : pyd (.lst []) = some (.list []) := by
    unfold pyd pyds
    rfl
  have s1 : SeqAt.shaped (.list ps) = true := by
    unfold SeqAt.shaped PyData.canLay0 PyData.depth
    rw [e2]
    simp
    omega
  have s2 : SeqAt.shaped (.list []) = true := by
    unfold SeqAt.shaped PyData.canLay0 PyData.canLayAll0 PyData.depth PyData.depthAll
    simp
  unfold eqD
  rw [p1, p2]
  show (if (SeqAt.shaped (.list ps) && SeqAt.shaped (.list [])) = true then some (PyData.eqv (.list ps) (.list [])) else none) = _
  rw [s1, s2]
  show some (PyData.eqv (.list ps) (.list [])) = _
  have l : ps.isEmpty = ds.isEmpty := by
    cases ds with
    | nil => unfold pyds at e1; cases e1; rfl
    | cons d r =>
      unfold pyds at e1
      cases q : pyd d with
      | none => rw [q] at e1; cases e1
      | some p =>
        rw [q] at e1
        cases q2 : pyds r with
        | none => rw [q2] at e1; cases e1
        | some qs => rw [q2] at e1; cases e1; rfl
  rw [← l]
  cases ps with
  | nil => unfold PyData.eqv PyData.eqvAll; rfl
  | cons p r => unfold PyData.eqv PyData.eqvAll; rfl
theorem gEq_nil {ds : List D} (h : okL ds) : gEq (.lst ds) (.lst []) = some ds.isEmpty := by
  unfold gEq
  rw [eqD_nil h]
  rfl
theorem gNe_nil {ds : List D} (h : okL ds) : gNe (.lst ds) (.lst []) = some (!ds.isEmpty) := by
  unfold gNe
  rw [eqD_nil h]
  rfl
theorem okL_ints : ∀ ns : List Int, okL (ns.map D.int)
  | [] => ⟨[], by unfold List.map pyds; rfl, by unfold PyData.canLayAll0; rfl, by unfold PyData.depthAll; omega⟩
  | n :: r => by
    obtain ⟨ps, e1, e2, e3⟩ := okL_ints r
    refine ⟨.int n :: ps, ?_, ?_, ?_⟩
    · rw [List.map_cons]
      unfold pyds
      rw [e1]
      unfold pyd
      rfl
    · unfold PyData.canLayAll0 PyData.canLay0
      rw [e2]
      rfl
    · unfold PyData.depthAll PyData.depth
      omega
theorem im_dwide {i : Nat} : Imp K ct E (tOp (rNes K) (tDGet (tVar i) (tC (.str "wide"))) (tLst tNil)) (xDrw (fun st => .sh (.bl (!st.wide.isEmpty))) i) := by
  intro B H σ ρ f0 Q R h
  obtain ⟨st, e, h⟩ := h.get
  obtain ⟨a, w, c, q1, q2, q3, q4, q5, q6, q7⟩ := R.drw e
  refine ⟨_, q1, a, .ref w, rfl, DGet.k (k := .inr "wide") q4, Nat.zero_le _, fun q hq => ?_⟩
  have n := New.lst (K := K) (xs := []) (ds := []) R.ex hq .nil
  have nw : w ≠ q := fun z => by rw [z, hq] at q5; cases q5
  have R2 := n.rel R
  have e2 : gNe (.lst (st.wide.map D.int)) (.lst []) = some (!st.wide.isEmpty) := by
    rw [gNe_nil (okL_ints _)]
    cases st.wide <;> rfl
  refine ci_ne _ _ (.ref w) (.ref q) (.lst (st.wide.map D.int)) (.lst []) (!st.wide.isEmpty) R2.ex ⟨w, _, rfl, by rw [upd_ne nw]; exact q5, DVs.ints _⟩ ⟨q, [], rfl, upd_same, .nil⟩ e2 Q ?_
  exact h _ _ _ _ _ (Res.refl' R2 (.bl _) ((n.frm0 _)))
def xDPop (i : Nat) : MX := fun ρ => rdO (drwS ρ[i]?) fun st => match st.wide with
  | [] => .bad
  | k :: r => if szOk st.wide.length = true then .ok (.sh (.int k), ρ.set i (.drw { st with wide := r })) else .bad
theorem im_dpop {i : Nat} : Imp K ct E (tBM K "list" rPopAt (tDGet (tVar i) (tC (.str "wide"))) (tCons (tC (.int 0)) tNil)) (xDPop i) := by
  intro B H σ ρ f0 Q R h
  obtain ⟨st, e, h⟩ := h.get
  obtain ⟨a, w, c, q1, q2, q3, q4, q5, q6, q7⟩ := R.drw e
  cases ew : st.wide with
  | nil =>
    simp only [ew] at h
    exact h.elim
  | cons k r =>
    simp only [ew] at h
    by_cases hz : szOk (k :: r).length = true
    · rw [if_pos hz] at h
      rw [ew] at q5
      refine ⟨_, q1, a, .ref w, rfl, DGet.k (k := .inr "wide") q4, .inl ⟨rfl, _, SqL.of q5⟩, w, _, 0, 0, .int k, rfl, rfl, q5, by omega, by omega, ?_, rfl, ?_⟩
      · rw [List.length_map]
        show seqIndex? 0 (r.length + 1) = some 0
        unfold seqIndex?
        simp
      · refine h _ _ _ _ _ (Res.refl' (R.mutS (p := w) (o := .lst (r.map V.int)) (s := .drw { st with wide := r }) q7 (by rw [q2]; simp) ?_) (.int k) (frm_upd ⟨i, by rw [q2]; simp⟩))
        rw [q1]
        exact ⟨a, w, c, rfl, q2, q3, by rw [upd_ne q3]; exact q4, upd_same, q6⟩
    · rw [if_neg hz] at h
      exact h.elim
def sDPut (g : Draw → Int → Draw) (i : Nat) (m : MX) : MS := fun ρ => R.bind (m ρ) fun a => rdO (rdv a.2 a.1) fun d => rdO (intOf d) fun k => rdO (drwS a.2[i]?) fun st => .ok (.nx (a.2.set i (.drw (g st k))))
theorem is_dput_aux {i : Nat} {x : Str} {gg : Draw → Int → Draw} {t : TE} {m : MX} (hg : ∀ st w c k, putK (dkOf st w c) (.inr x) (.int k) = dkOf (gg st k) w c) (hw : ∀ st k, (gg st k).wide = st.wide) (hc : ∀ st k, (gg st k).cells = st.cells)
    (ha : Imp K ct E t m) : ImpS K ct E fix (L2.sDPut (tVar i) (tC (.str x)) t) (DL.sDPut gg i m) := by
  intro B H σ ρ f0 Z R h
  refine ha B H σ ρ f0 _ R (h.first fun a ea h v B1 H1 f1 g y => ?_)
  obtain ⟨d, e1, h⟩ := h.get
  obtain ⟨k, e2, h⟩ := h.get
  obtain ⟨st, e3, h⟩ := h.get
  have hv : RdV K B1 H1 v (.int k) := by
    rw [← intOf_eq e2]
    exact y.val.rd y.rel e1
  cases hv
  obtain ⟨a', w, c, q1, q2, q3, q4, q5, q6, q7⟩ := y.rel.drw e3
  refine ⟨_, q1, a', _, rfl, DPut.k (k := .inr x) q4 ?_, h _ _ _ f1 ⟨y.rel.mutS q7 (by rw [q2]; simp) ?_, y.drop.frm.trans (frm_upd ⟨i, by rw [q2]; simp⟩), fun j _ => rfl⟩⟩
  · show 4 < sizeLine
    rw [sizeLine_eq]
    omega
  · rw [q1, hg]
    refine ⟨a', w, c, rfl, q2, q3, upd_same, ?_, ?_⟩
    · rw [upd_ne (Ne.symm q3), hw]; exact q5
    · rw [hc]; exact q6
theorem is_drest {i : Nat} {t : TE} {m : MX} (ha : Imp K ct E t m) : ImpS K ct E fix (L2.sDPut (tVar i) (tC (.str "rest")) t) (DL.sDPut (fun st k => { st with rest := k }) i m) :=
  is_dput_aux (fun _ _ _ _ => rfl) (fun _ _ => rfl) (fun _ _ => rfl) ha
theorem is_dturn {i : Nat} {t : TE} {m : MX} (ha : Imp K ct E t m) : ImpS K ct E fix (L2.sDPut (tVar i) (tC (.str "turn")) t) (DL.sDPut (fun st k => { st with turn := k }) i m) :=
  is_dput_aux (fun _ _ _ _ => rfl) (fun _ _ => rfl) (fun _ _ => rfl) ha
def intsD : List D → Option (List Int)
  | [] => some []
  | .int i :: r => (intsD r).map (i :: ·)
  | _ => none
theorem intsD_eq : ∀ {l : List D} {ns : List Int}, intsD l = some ns → l = ns.map D.int
  | [], ns, h => by cases h; rfl
  | d :: r, ns, h => by
    cases d with
    | int i =>
      have h : (intsD r).map (i :: ·) = some ns := h
      cases e : intsD r with
      | none => rw [e] at h; cases h
      | some ms =>
        rw [e] at h
        cases h
        rw [intsD_eq e]
        rfl
    | _ => cases h
def xDraw (i : Nat) (m : MX) : MX := fun ρ => rdO (ownS ρ[i]?) fun _ => R.bind (m ρ) fun a => rdO (share a.2 a.1) fun p => match p.1 with
  | .lst cs => rdO (ownS p.2[i]?) fun ws => rdO (intsD ws) fun wi => rdO (intsD cs) fun ci => .ok (.drw ⟨wi, ci, 0, 0⟩, p.2.set i .emp)
  | _ => .bad
theorem merge4 {w c : Addr} : mergeK [] [((.inr "wide" : Key), V.ref w), (.inr "cells", .ref c), (.inr "rest", .int 0), (.inr "turn", .int 0)] = dkOf ⟨[], [], 0, 0⟩ w c := rfl
theorem set_self {i : Nat} {w : Option V} (h : σ[i]? = some w) : σ.set i w = σ := by
  apply List.ext_getElem?
  intro j
  by_cases e : j = i
  · subst e
    rw [List.getElem?_set_self (List.getElem?_eq_some_iff.mp h).1, h]
  · rw [List.getElem?_set_ne (Ne.symm e)]
theorem im_draw {i : Nat} {t : TE} {m : MX} (ha : Imp K ct E t m) : Imp K ct E (tDisp [(tC (.str "wide"), tVar i), (tC (.str "cells"), t), (tC (.str "rest"), tC (.int 0)), (tC (.str "turn"), tC (.int 0))]) (xDraw i m) := by
  intro B H σ ρ f0 Q R h
  intro p hp
  obtain ⟨w0, e0, h⟩ := h.get
  obtain ⟨w, ys, q1, q2, q3, q4, q5⟩ := R.own e0
  have bp : B p = none := Rel.fresh R.ex hp
  have np : ¬ Owned f0 p := fun ⟨j, z⟩ => (R.off j p z).2 hp
  have fr0 : Frm B H (Owned f0) B (upd H p (.dK [])) (fun a => Owned f0 a ∨ a = p) := ⟨fun _ _ q => q, fun a o q n => by rw [upd_ne (ne_of_none q hp)]; exact q, fun a q _ _ => q, fun a q => q.elim .inl fun z => .inr (by rw [z]; exact hp), fun a q => by
    by_cases z : a = p
    · rw [z, upd_same]; simp
    · rw [upd_ne z]; exact q⟩
  have R1 : Rel K B (upd H p (.dK [])) σ ρ f0 := R.frm (P := fun _ => False) (P' := fun _ => False) ⟨fun _ _ q => q, fun a o q n => by rw [upd_ne (ne_of_none q hp)]; exact q, fun a q _ _ => q, fun a q => .inl q, fr0.dom⟩ (fun a o q => by rw [upd_ne (fun z => by rw [z, bp] at q; cases q)]; exact R.ex a o q) R.pl fun _ _ z => z
  refine ⟨_, q1, ha B _ σ ρ f0 _ R1 (h.step fr0 (fun _ z => .inl z) fun a ea h v B2 H2 f2 g x => ?_)⟩
  obtain ⟨s, e1, h⟩ := h.get
  have hp1 : (upd H p (.dK []) : Hp) p ≠ none := by rw [upd_same]; simp
  have hp2 : H2 p = some (.dK []) := x.frm.keep p _ upd_same np
  have ap := x.frm.apart hp1 np
  obtain ⟨B3, f3, R3, hd, e3, off3, _, fr3⟩ := share_ok (S := [p]) (d := s.1) (ρ' := s.2) x.rel x.val x.off (fun b hb => by
    have eb : b = p := by simpa using hb
    rw [eb]
    exact ⟨x.frm.off p bp hp1 np, fun z => ap (.inl z), fun z => ap (.inr z)⟩) e1
  have o3 := off3 p (by simp)
  obtain ⟨d, ρ3⟩ := s
  cases d with
  | lst cs =>
    have h : Post ct E H f0 (rdO (ownS ρ3[i]?) fun ws => rdO (intsD ws) fun wi => rdO (intsD cs) fun ci => .ok (.drw ⟨wi, ci, 0, 0⟩, ρ3.set i .emp)) (XOk K B H σ f0 Q) := h
    obtain ⟨ws, e4, h⟩ := h.get
    obtain ⟨wi, e5, h⟩ := h.get
    obtain ⟨ci, e6, h⟩ := h.get
    obtain ⟨w', xs, r1, r2, r3, r4, r5⟩ := R3.own e4
    rw [q1] at r1
    cases r1
    rw [intsD_eq e5] at r4
    have ex := r4.ints_of
    subst ex
    cases hd with
    | lst h1 h2 =>
    rename_i c zs
    rw [intsD_eq e6] at h2
    have ez := h2.ints_of
    subst ez
    have nw : p ≠ w := fun z => o3.2 ⟨i, by rw [r2, z]; simp⟩
    refine ⟨hp2, [((.inr "wide" : Key), V.ref w), (.inr "cells", .ref c), (.inr "rest", .int 0), (.inr "turn", .int 0)], rfl, by show 4 ≤ 15; decide, ?_⟩
    refine h _ B3 _ (fpSet f3 i []) [p, w] ⟨?_, ⟨p, w, c, rfl, rfl, nw, upd_same, by rw [upd_ne (Ne.symm nw)]; exact r3, R3.ex |> fun _ => SqL.of h1⟩, fun b hb => ?_, ?_⟩
    · have R4 := R3.empSl i (some (.ref w))
      rw [set_self q1] at R4
      refine R4.frm (P := fun a => a = p) (P' := fun a => a = p) (frm_upd rfl) (fun a o q => ?_) R3.pl fun a z e => ?_
      · rw [upd_ne (fun z => by rw [z, o3.1] at q; cases q)]
        exact R3.ex a o q
      · subst e
        rcases owned_set z with z | z
        · exact o3.2 z
        · exact (nomatch z)
    · have hb' : b = p ∨ b = w := by simpa using hb
      rcases hb' with e | e
      · rw [e]
        refine ⟨o3.1, fun z => ?_⟩
        rcases owned_set z with z | z
        · exact o3.2 z
        · exact (nomatch z)
      · rw [e]
        refine ⟨(R3.off i w (by rw [r2]; simp)).1, fun ⟨j, z⟩ => ?_⟩
        by_cases ej : j = i
        · subst ej
          rw [fpSet_same] at z
          exact (nomatch z)
        · rw [fpSet_ne ej] at z
          exact ej (R3.dis j i w z (by rw [r2]; simp))
    · have F1 := (fr0.trans (x.frm.side (· = p))).trans (fr3.side (· = p))
      refine (F1.trans (frm_upd (P := fun a => Owned f3 a ∨ a = p) (.inr rfl))).to fun b z => .inl ?_
      rcases z with z | z
      · rcases owned_set z with z | z
        · exact .inl z
        · exact (nomatch z)
      · have hb' : b = p ∨ b = w := by simpa using z
        rcases hb' with e | e
        · exact .inr e
        · exact .inl ⟨i, by rw [r2, e]; simp⟩
  | _ => exact h.elim
end
end DL
end
section
set_option maxRecDepth 100000
set_option maxHeartbeats 2000000
namespace DL
open PySem PySem.Spec PyProof.Rows L2
open Evl (Ex ex_rd ex_l ex_t)
section
variable {K : PySem.W.Frag} {ct : Ct} {E : XK} {B H B' H' B1 H1 B2 H2 : Hp} {σ σ' : L2.St} {ρ ρ' : Env} {f0 f1 f2 : Fps} {v : V} {r : Vl} {f g : List Addr} {fix : Nat → Bool} {X : Cx}
def frz : Sl → Sl
  | .own ds => .sh (.lst ds)
  | .own2 l => .sh (.lst (l.map D.lst))
  | .drw _ => .emp
  | .tab _ d => .sh d
  | s => s
def noF : Fps := fun _ => []
theorem noF_owned {a : Addr} (h : Owned noF a) : False := by
  obtain ⟨i, z⟩ := h
  exact (nomatch z)
def strip (H : Hp) : Hp := fun a => noExt (H a)
theorem strip_no : NoE (strip H) := fun a φ h => noExt_ne h
theorem strip_ex : Ex (strip H) H := fun a o h => noExt_some h
theorem strip_of {a : Addr} {o : HO} (h : H a = some o) (n : ∀ φ, o ≠ .ext φ) : strip H a = some o := by
  unfold strip
  rw [h]
  exact noExt_of n
theorem strip_lst {a : Addr} {xs : List V} (h : H a = some (.lst xs)) : strip H a = some (.lst xs) := strip_of h fun _ z => by cases z
theorem ex_strip (e : Ex B H) (n : NoE B) : Ex B (strip H) := fun a o h => strip_of (e a o h) fun φ z => n a φ (by rw [h, z])
theorem RowsOk.dvs : ∀ {ps : List Addr} {l : List (List D)}, RowsOk K B H ps l → Ex B (strip H) → DVs K (strip H) (ps.map V.ref) (l.map D.lst)
  | _, _, .nil, _ => .nil
  | _, _, .cons h d r, e => .cons (.lst (strip_lst h) (d.mono e)) (RowsOk.dvs r e)
theorem Rel.frz (R : Rel K B H σ ρ f0) : Rel K (strip H) H σ (ρ.map DL.frz) noF where
  len := by rw [List.length_map]; exact R.len
  ex := strip_ex
  pl := strip_no
  ok := fun i s q => by
    have eS := ex_strip R.ex R.pl
    rw [List.getElem?_map] at q
    cases e : ρ[i]? with
    | none => rw [e] at q; cases q
    | some t =>
      rw [e] at q
      cases q
      have ok := R.ok i t e
      cases t with
      | emp => rfl
      | sh d =>
        obtain ⟨_, x, h1, h2⟩ := ok
        exact ⟨rfl, x, h1, h2.mono eS⟩
      | own ds =>
        obtain ⟨p, xs, h1, h2, h3, h4⟩ := ok
        exact ⟨rfl, _, h1, .lst (strip_lst h3) (h4.mono eS)⟩
      | own2 l =>
        obtain ⟨p, ps, h1, h2, h3, h4, h5⟩ := ok
        exact ⟨rfl, _, h1, .lst (strip_lst h4) (h5.dvs eS)⟩
      | drw st => rfl
      | tab T d =>
        obtain ⟨_, x, h1, h2⟩ := ok
        exact ⟨rfl, x, h1, h2.mono eS⟩
  out := fun _ _ => rfl
  dis := fun _ _ _ h => (nomatch h)
  off := fun _ _ h => (nomatch h)
def scalD : D → Bool
  | .non | .bl _ | .int _ | .str _ => true
  | _ => false
theorem DV.scal {d : D} (h : DV K B v d) (hs : scalD d = true) (B' : Hp) : DV K B' v d := by
  cases h <;> first | (cases hs; done) | skip
  · exact .non
  · exact .bl _
  · exact .int _
  · exact .str _
theorem DVs.scal : ∀ {vs : List V} {ds : List D}, DVs K B vs ds → ds.all scalD = true → ∀ B', DVs K B' vs ds
  | _, _, .nil, _, _ => .nil
  | _, _, .cons h r, hs, B' => by
    rw [List.all_cons, Bool.and_eq_true] at hs
    exact .cons (h.scal hs.1 B') (DVs.scal r hs.2 B')
theorem RdV.scal {d : D} (h : RdV K B H v d) (hs : scalD d = true) (B' : Hp) : DV K B' v d := by
  cases d <;> first | (cases hs; done) | skip
  all_goals exact DV.scal (d := _) h hs B'
def xFrz (m : MX) : MX := fun ρ => R.bind (m (ρ.map frz)) fun a => rdO (rdv a.2 a.1) fun d => if scalD d = true then .ok (.sh d, ρ) else .bad
theorem Kept.ofNo (k : Kept H noF H') (f0 : Fps) : Kept H f0 H' := fun a o h _ => k a o h fun z => noF_owned z
theorem Frm.ofNo {P' : Addr → Prop} (fr : Frm B H (Owned noF) B' H' P') : Ex H H' := fun a o q => fr.keep a o q fun z => noF_owned z
theorem Rel.unfrz (R : Rel K B H σ ρ f0) (e : Ex H H') : Rel K B H' σ ρ f0 :=
  R.frm (P := fun _ => False) (P' := fun _ => False) (Frm.new (fun _ _ q => q) e fun _ q _ => q) (R.ex.trans e) R.pl fun _ _ z => z
theorem frz_frm (f0 : Fps) (e : Ex H H') : Frm B H (Owned f0) B H' (Owned f0) := Frm.new (fun _ _ q => q) e fun _ q _ => q
theorem Post.frz {α β : Type} {m : R α} {k : α → R β} {ok : β → Prop} {ok1 : α → Prop} (h : Post ct E H f0 (R.bind m k) ok) (st : ∀ a, m = .ok a → Post ct E H f0 (k a) ok → ok1 a) : Post ct E H noF m ok1 := by
  cases e : m with
  | bad => rw [e] at h; exact h
  | ok a =>
    rw [e] at h
    exact st a e h
  | exc c p =>
    rw [e] at h
    exact fun d H' kk pk => h d H' (kk.ofNo f0) pk
theorem im_frz {t : TE} {m : MX} (ha : Imp K ct E t m) : Imp K ct E t (xFrz m) := by
  intro B H σ ρ f0 Q R h
  refine ha (strip H) H σ (ρ.map DL.frz) noF _ R.frz (h.frz fun a ea h v B1 H1 f1 f x => ?_)
  obtain ⟨d, e1, h⟩ := h.get
  by_cases hs : scalD d = true
  · rw [if_pos hs] at h
    have e := x.frm.ofNo
    exact h v B H1 f0 [] (Res.refl' (R.unfrz e) ((x.val.rd x.rel e1).scal hs B) (frz_frm f0 e))
  · rw [if_neg hs] at h
    exact h.elim
def own2S : Option Sl → Option (List (List D))
  | some (.own2 l) => some l
  | _ => none
def intS : Option Sl → Option Int
  | some (.sh (.int k)) => some k
  | _ => none
theorem Rel.intS {i : Nat} {k : Int} (R : Rel K B H σ ρ f0) (h : DL.intS ρ[i]? = some k) : σ[i]? = some (some (.int k)) := by
  cases e : ρ[i]? with
  | none => rw [e] at h; cases h
  | some s =>
    rw [e] at h
    have ok := R.ok i s e
    cases s with
    | sh d =>
      cases d <;> first | (cases h; done) | skip
      cases h
      obtain ⟨_, x, h1, h2⟩ := ok
      cases h2
      cases q : σ[i]? with
      | none => rw [q] at h1; cases h1
      | some o => rw [q] at h1; exact congrArg some h1
    | _ => cases h
theorem Rel.own2 {i : Nat} {l : List (List D)} (R : Rel K B H σ ρ f0) (h : own2S ρ[i]? = some l) : ∃ p ps, σ[i]? = some (some (.ref p)) ∧ f0 i = p :: ps ∧ (p :: ps).Nodup ∧ H p = some (.lst (ps.map V.ref)) ∧ RowsOk K B H ps l ∧ i < ρ.length := by
  cases e : ρ[i]? with
  | none => rw [e] at h; cases h
  | some s =>
    rw [e] at h
    have ok := R.ok i s e
    cases s with
    | own2 es =>
      cases h
      obtain ⟨p, ps, q1, q2, q3, q4, q5⟩ := ok
      refine ⟨p, ps, ?_, q2, by rw [← q2]; exact q3, q4, q5, (List.getElem?_eq_some_iff.mp e).1⟩
      cases q : σ[i]? with
      | none => rw [q] at q1; cases q1
      | some o => rw [q] at q1; exact congrArg some q1
    | _ => cases h
theorem RowsOk.len : ∀ {ps : List Addr} {l : List (List D)}, RowsOk K B H ps l → ps.length = l.length
  | _, _, .nil => rfl
  | _, _, .cons _ _ r => by rw [List.length_cons, List.length_cons, RowsOk.len r]
theorem RowsOk.get : ∀ {ps : List Addr} {l : List (List D)} {j : Nat} {row : List D}, RowsOk K B H ps l → l[j]? = some row → ∃ p xs, ps[j]? = some p ∧ H p = some (.lst xs) ∧ DVs K B xs row
  | _, _, j, row, .nil, e => by simp at e
  | _, _, 0, row, .cons (p := p) (xs := xs) h d _, e => by
    have e' := Option.some.inj e
    subst e'
    exact ⟨p, xs, rfl, h, d⟩
  | _, _, j + 1, row, .cons _ _ r, e => RowsOk.get (j := j) (row := row) r e
theorem RowsOk.put {q : Addr} {ys : List V} {row : List D} (hd : DVs K B ys row) : ∀ {ps : List Addr} {l : List (List D)} {j : Nat}, RowsOk K B H ps l → ps.Nodup → ps[j]? = some q → RowsOk K B (upd H q (.lst ys)) ps (l.set j row)
  | _, _, j, .nil, _, e => by simp at e
  | _, _, 0, .cons h d r, n, e => by
    have e' := Option.some.inj e
    subst e'
    refine .cons upd_same hd (r.to (fun _ _ z => z) fun p hp o ho => ?_)
    rw [upd_ne (fun z => (List.nodup_cons.mp n).1 (by rw [← z]; exact hp))]
    exact ho
  | _, _, j + 1, .cons h d r, n, e => by
    refine .cons ?_ d (RowsOk.put hd r (List.nodup_cons.mp n).2 e)
    rw [upd_ne (fun z => (List.nodup_cons.mp n).1 (by rw [z]; exact List.mem_of_getElem? e))]
    exact h
def rGetL (K : PySem.W.Frag) : V → V → Hp → VK → Prop := fun x y H Q => ∃ p xs i v, x = .ref p ∧ y = .int i ∧ SqL K H p xs ∧ atI xs i = some v ∧ Q v H
theorem get_list : PGet X (rGetL X.K) := by
  intro pins s σ H x y v u Q I rx ry h
  obtain ⟨p, xs, i, z, rfl, rfl, hq, he, q⟩ := h
  cases rx
  obtain ⟨t, rfl⟩ := ry
  obtain ⟨its, r, pl, hz⟩ := I.list hq
  obtain ⟨j, h1, h2, h3, h4, h5⟩ := atI_get he
  obtain ⟨w, ew, rw'⟩ := r.get h2
  have hl := r.length
  have hn := line63
  have fin : EP X pins σ Q w s := ⟨z, H, I, rw', q⟩
  by_cases h0 : 0 ≤ i
  · have hj : i.toNat = j := by
      rw [seqIndex_of h0 h5] at h1
      exact Option.some.inj h1
    exact wpAny_getItem_list pl.isList h0 (by omega) (by rw [hj]; simpa using ew) fin
  · have hj : (i + (its.toArray.size : Int)).toNat = j := by
      rw [seqIndex_neg (by omega) h4] at h1
      rw [List.size_toArray, ← hl]
      exact Option.some.inj h1
    exact wpAny_getItem_list_neg pl.isList (by omega) (by rw [List.size_toArray] <;> omega) (by omega) (by rw [hj]; simpa using ew) fin
def sRowAug (c g t : Nat) (me : MX) : MS := fun ρ => rdO (own2S ρ[c]?) fun l => rdO (DL.intS ρ[g]?) fun k => rdO (DL.intS ρ[t]?) fun m => rdO (ixN l.length k) fun j => rdO l[j]? fun row => rdO (ixN row.length m) fun i => rdO row[i]? fun d => rdO (intOf d) fun old =>
  R.bind (me (ρ.map frz)) fun a => rdO (rdv a.2 a.1) fun d => rdO (intOf d) fun z => .ok (.nx (ρ.set c (.own2 (l.set j (row.set i (.int (old + z)))))))
theorem atI_ix {α : Type} {xs : List α} {k : Int} {j : Nat} {x : α} (h : ixN xs.length k = some j) (e : xs[j]? = some x) : atI xs k = some x := by
  unfold atI
  rw [h]
  exact e
theorem is_rowAug {c g t : Nat} {te : TE} {me : MX} (ha : Imp K ct E te me) : ImpS K ct E fix (tAugS (tOp (rIx K) (tVar c) (tVar g)) (tVar t) te (rGetL K) (ipI fun i j => i + j) rSetL) (sRowAug c g t me) := by
  intro B H σ ρ f0 Z R h
  obtain ⟨l, e1, h⟩ := h.get
  obtain ⟨k, e2, h⟩ := h.get
  obtain ⟨m, e3, h⟩ := h.get
  obtain ⟨j, e4, h⟩ := h.get
  obtain ⟨row, e5, h⟩ := h.get
  obtain ⟨i, e6, h⟩ := h.get
  obtain ⟨d, e7, h⟩ := h.get
  obtain ⟨old, e8, h⟩ := h.get
  obtain ⟨p, ps, q1, q2, q3, q4, q5, q6⟩ := R.own2 e1
  obtain ⟨pr, xs, r1, r2, r3⟩ := q5.get e5
  have hl := q5.len
  rw [intOf_eq e8] at e7
  obtain ⟨w, w1, w2⟩ := r3.get e7
  cases w2
  have hr := r3.len
  refine ⟨_, q1, _, R.intS e2, .inl ⟨p, _, k, .ref pr, rfl, rfl, SqL.of q4, atI_ix (by rw [List.length_map, hl]; exact e4) (by rw [List.getElem?_map, r1]; rfl), _, R.intS e3, pr, xs, m, .int old, rfl, rfl, SqL.of r2, atI_ix (by rw [hr]; exact e6) w1, ?_⟩⟩
  refine ha (strip H) H σ (ρ.map DL.frz) noF _ R.frz (h.frz fun a ea h v B1 H1 f1 f x => ?_)
  obtain ⟨dz, e9, h⟩ := h.get
  obtain ⟨z, e10, h⟩ := h.get
  rw [intOf_eq e10] at e9
  have hv := x.val.rd x.rel e9
  cases hv
  have e := x.frm.ofNo
  have R1 := R.unfrz e
  refine ⟨old, z, rfl, rfl, pr, xs, m, i, rfl, rfl, e _ _ r2, by rw [hr]; exact e6, ?_⟩
  obtain ⟨p', ps', t1, t2, t3, t4, t5, t6⟩ := R1.own2 e1
  rw [q1] at t1
  cases t1
  have eps : ps' = ps := by
    rw [q2] at t2
    exact (List.cons.inj t2).2.symm
  subst eps
  have hm : pr ∈ f0 c := by
    rw [q2]
    exact List.mem_cons_of_mem _ (List.mem_of_getElem? r1)
  have nd := List.nodup_cons.mp q3
  have npr : p ≠ pr := fun z => nd.1 (by rw [z]; exact List.mem_of_getElem? r1)
  refine h _ B _ f0 ⟨R1.mutS (p := pr) (o := .lst (xs.set i (.int (old + z)))) (s := .own2 (l.set j (row.set i (.int (old + z))))) q6 hm ?_, (frz_frm f0 e).trans (frm_upd ⟨c, hm⟩), fun _ _ => rfl⟩
  rw [q1]
  exact ⟨p, ps', rfl, q2, by rw [q2]; exact q3, by rw [upd_ne npr]; exact t4, t5.put (r3.set (.int _) i) nd.2 r1⟩
def rowsLoop (mg : MG) (me : MX) (ρf : Env) : List DL.D → List (List DL.D) → R (List (List DL.D))
  | [], acc => .ok acc
  | d :: ds, acc => rdO (mg d ρf) fun ρ1 => R.bind (R.noX (me ρ1)) fun v => match v.1 with
    | .own row => if (row.all scalD && szOk (acc.length + 1)) = true then rowsLoop mg me ρf ds (acc ++ [row]) else .bad
    | _ => .bad
def sAsgR (i : Nat) (mi : MI) (mg : MG) (me : MX) (vs : List Nat) : MS := fun ρ => R.bind (mi ρ) fun a => R.bind (rowsLoop mg me ((emps a.2 vs).map frz) a.1 []) fun l => if i < a.2.length then .ok (.nx (a.2.set i (.own2 l))) else .bad
theorem RowsOk.app {p : Addr} {xs : List V} {row : List D} (h : H p = some (.lst xs)) (d : DVs K B xs row) : ∀ {ps : List Addr} {l : List (List D)}, RowsOk K B H ps l → RowsOk K B H (ps ++ [p]) (l ++ [row])
  | _, _, .nil => .cons h d .nil
  | _, _, .cons h1 d1 r => .cons h1 d1 (RowsOk.app h d r)
theorem is_asgR {i0 : Nat} {js vs : List Nat} {wi : TI} {gg : TG} {te : TE} {mi : MI} {mg : MG} {me : MX} (hi : ImpI K ct E wi mi) (hg : ImpG K js gg mg) (he : Imp K ct E0 te me) (hj : ∀ j ∈ js, j ∈ vs) (hf : fix i0 = false) :
    ImpS K ct E fix (tAsg (tLc wi gg tYes te vs) (gName i0)) (sAsgR i0 mi mg me vs) := by
  intro B H σ ρ f0 Z R h
  refine hi B H σ ρ f0 _ R (h.first fun a ea h J B1 H1 f1 x itd => ?_)
  intro D0 hD
  generalize eρ : ((emps a.2 vs).map DL.frz) = ρf at h
  refine ⟨fun i m Hc => m = a.1.length - i ∧ i ≤ a.1.length ∧ ∃ (ps : List Addr) (acc : List (List DL.D)), Ex H1 Hc ∧ Hc D0 = some (.lst (ps.map V.ref)) ∧ RowsOk K B1 Hc ps acc ∧ ps.Nodup ∧ (∀ p ∈ ps, H1 p = none ∧ p ≠ D0) ∧
      Post ct E H f0 (DL.R.bind (rowsLoop mg me ρf (a.1.drop i) acc) fun l => if i0 < a.2.length then .ok (.nx (a.2.set i0 (.own2 l))) else .bad) (OutOk K B H σ f0 fix Z), ⟨a.1.length, by simp, Nat.zero_le _, [], [], Ex.new hD, upd_same, .nil, List.nodup_nil, fun _ z => (nomatch z), h⟩, ?_⟩
  rintro i m Hc ⟨rfl, hile, ps, acc, eH, hD0, rows, nd, fresh, h⟩
  have Rc : Rel K B1 Hc σ a.2 f1 := x.rel.unfrz eH
  have Rf : Rel K (strip Hc) Hc (L2.wipe σ vs) ρf noF := by
    rw [← eρ]
    exact (Rc.wipe vs).frz
  by_cases hlt : i < a.1.length
  · have dr : a.1.drop i = a.1[i] :: a.1.drop (i + 1) := (List.drop_eq_getElem_cons hlt)
    rw [dr] at h
    have q := itd (strip Hc) Hc (ex_strip Rc.ex Rc.pl) strip_ex i
    refine .inr ⟨q.1 hlt, fun H2 => ∃ (ps : List Addr) (acc : List (List DL.D)), Ex H1 H2 ∧ H2 D0 = some (.lst (ps.map V.ref)) ∧ RowsOk K B1 H2 ps acc ∧ ps.Nodup ∧ (∀ p ∈ ps, H1 p = none ∧ p ≠ D0) ∧
      Post ct E H f0 (DL.R.bind (rowsLoop mg me ρf (a.1.drop (i + 1)) acc) fun l => if i0 < a.2.length then .ok (.nx (a.2.set i0 (.own2 l))) else .bad) (OutOk K B H σ f0 fix Z), fun H2 hN => ⟨a.1.length - (i + 1), by omega, rfl, hlt, hN⟩, fun y H2 hy => ?_⟩
    obtain ⟨B2, e1, e2, e3, e4, e4', hd⟩ := q.2.2 y H2 a.1[i] (by simp) hy
    have R2 : Rel K B2 H2 (L2.wipe σ vs) ρf noF := Rf.frm (P := fun _ => False) (P' := fun _ => False) (Frm.new e1 e2 e4) e3 (e4' Rf.pl) fun _ _ z => z
    have h : Post ct E H f0 (DL.R.bind (rdO (mg a.1[i] ρf) fun ρ1 => DL.R.bind (DL.R.noX (me ρ1)) fun v => match v.1 with
      | .own row => if (row.all scalD && szOk (acc.length + 1)) = true then rowsLoop mg me ρf (a.1.drop (i + 1)) (acc ++ [row]) else .bad
      | _ => .bad) fun l => if i0 < a.2.length then .ok (.nx (a.2.set i0 (.own2 l))) else .bad) (OutOk K B H σ f0 fix Z) := h
    cases eg : mg a.1[i] ρf with
    | none => rw [eg] at h; exact h.elim
    | some ρ1 =>
    rw [eg] at h
    refine hg B2 H2 _ ρf ρ1 noF y a.1[i] R2 hd eg _ fun σ3 f3 R3 l3 k3 o3 => ⟨mem_wipe_eq hj (l3.trans (wipe_length σ vs)) k3, ?_⟩
    show te σ3 H2 _
    have h : Post ct E H f0 (DL.R.bind (DL.R.bind (DL.R.noX (me ρ1)) fun v => match v.1 with
      | .own row => if (row.all scalD && szOk (acc.length + 1)) = true then rowsLoop mg me ρf (a.1.drop (i + 1)) (acc ++ [row]) else .bad
      | _ => .bad) fun l => if i0 < a.2.length then .ok (.nx (a.2.set i0 (.own2 l))) else .bad) (OutOk K B H σ f0 fix Z) := h
    rw [DL.R.bind_assoc] at h
    obtain ⟨w, ew, h⟩ := Post.noX (m := me ρ1) h
    refine he B2 H2 σ3 ρ1 f3 _ R3 ?_
    rw [ew]
    intro u B5 H5 f5 f z
    have no3 : ∀ a, ¬ Owned f3 a := fun a q => noF_owned (o3 a q)
    have e5 : Ex H2 H5 := fun a o q => z.frm.keep a o q (no3 a)
    obtain ⟨w1, w2⟩ := w
    cases w1 with
    | own row =>
      have h : Post ct E H f0 (DL.R.bind (if (row.all scalD && szOk (acc.length + 1)) = true then rowsLoop mg me ρf (a.1.drop (i + 1)) (acc ++ [row]) else .bad) fun l => if i0 < a.2.length then .ok (.nx (a.2.set i0 (.own2 l))) else .bad) (OutOk K B H σ f0 fix Z) := h
      by_cases hc : (row.all scalD && szOk (acc.length + 1)) = true
      · rw [if_pos hc] at h
        rw [Bool.and_eq_true] at hc
        obtain ⟨p, xs, t1, t2, t3, t4⟩ := z.val
        cases t1
        have hp : H2 p = none := (z.frm.own p (.inr (by rw [t2]; simp))).elim (fun q => (no3 p q).elim) id
        have hpc : Hc p = none := by
          cases e : Hc p with
          | none => rfl
          | some o => rw [e2 _ _ e] at hp; cases hp
        have hp1 : H1 p = none := by
          cases e : H1 p with
          | none => rfl
          | some o => rw [eH _ _ e] at hpc; cases hpc
        have npD : p ≠ D0 := fun q => by rw [q, hD0] at hpc; cases hpc
        have npps : p ∉ ps := fun q => by
          obtain ⟨j, ej⟩ := List.mem_iff_getElem?.mp q
          have hj : j < acc.length := by rw [← rows.len]; exact (List.getElem?_eq_some_iff.mp ej).1
          obtain ⟨p', xs', g1, g2, _⟩ := rows.get (j := j) (List.getElem?_eq_getElem hj)
          rw [ej] at g1
          cases g1
          rw [hpc] at g2
          cases g2
        have e25 := e2.trans e5
        refine ⟨ps.map V.ref, e25 _ _ hD0, ?_, ps ++ [p], acc ++ [row], ?_, ?_, ?_, ?_, ?_, h⟩
        · rw [List.length_map, rows.len]
          exact Nat.lt_of_lt_of_le (Nat.lt_succ_self _) (szOk_le hc.2)
        · intro b o q
          rw [upd_ne (ne_of_none q hD)]
          exact e25 _ _ (eH _ _ q)
        · rw [upd_same, List.map_append]
          rfl
        · refine RowsOk.app (by rw [upd_ne npD]; exact t3) (t4.scal hc.1 B1) (rows.to (fun _ _ q => q) fun b hb o q => ?_)
          rw [upd_ne (fresh b hb).2]
          exact e25 _ _ q
        · rw [List.nodup_append]
          refine ⟨nd, by simp, fun b hb c hc' => ?_⟩
          have ec : c = p := by simpa using hc'
          rw [ec]
          exact fun q => npps (by rw [← q]; exact hb)
        · intro b hb
          rcases List.mem_append.mp hb with hb | hb
          · exact fresh b hb
          · have eb : b = p := by simpa using hb
            rw [eb]
            exact ⟨hp1, npD⟩
      · rw [if_neg hc] at h
        exact h.elim
    | _ => exact h.elim
  · have e : i = a.1.length := by omega
    subst e
    have q := itd (strip Hc) Hc (ex_strip Rc.ex Rc.pl) strip_ex a.1.length
    refine .inl ⟨q.2.1 rfl, ?_⟩
    rw [List.drop_length] at h
    have h : Post ct E H f0 (if i0 < a.2.length then .ok (.nx (a.2.set i0 (.own2 acc))) else .bad) (OutOk K B H σ f0 fix Z) := h
    by_cases hl : i0 < a.2.length
    · rw [if_pos hl] at h
      have bD : B1 D0 = none := Rel.fresh x.rel.ex hD
      have ownf : ∀ b, b ∈ D0 :: ps → H1 b = none := fun b hb => by
        rcases List.mem_cons.mp hb with q | q
        · rw [q]; exact hD
        · exact (fresh b q).1
      refine h _ B1 Hc (fpSet f1 i0 (D0 :: ps)) ⟨Rc.setSl hl (s := .own2 acc) (f := D0 :: ps) ⟨D0, ps, rfl, rfl, List.nodup_cons.mpr ⟨fun z => (fresh D0 z).2 rfl, nd⟩, hD0, rows⟩ fun b hb => ⟨Rel.fresh x.rel.ex (ownf b hb), fun ⟨j, z⟩ => (x.rel.off j b z).2 (ownf b hb)⟩, ?_, fun j hj => ?_⟩
      · exact x.frm.trans ⟨fun _ _ q => q, fun b o q _ => eH b o q, fun b q _ _ => q, fun b z => (owned_set z).elim .inl fun z => .inr (ownf b z), fun b q z => by
          cases e : H1 b with
          | none => exact q e
          | some o => rw [eH _ _ e] at z; cases z⟩
      · by_cases ej : j = i0
        · rw [ej, hf] at hj
          cases hj
        · rw [List.getElem?_set_ne (Ne.symm ej)]
    · rw [if_neg hl] at h
      exact h.elim
end
end DL
end
section
set_option maxRecDepth 100000
set_option maxHeartbeats 2000000
namespace DL
open PySem PySem.Spec PyProof.Rows L2
open Evl (Ex ex_rd ex_l ex_t)
def HeldX (cls : Value) (d : Option Addr) (a : Addr) : HO := .ext fun h => ∃ (oe : Obj) (vs : Array Value), h.get? a = some oe ∧ Zc cls d oe ∧ oe.data = .fields vs
section
variable {X : Cx} {pins : List (Addr × Obj)} {σ : L2.St} {H : Hp} {s : Shared}
theorem Inv.track {a : Addr} {o : HO} (I : Inv X pins σ H s) (hn : H a = none) (h0 : X.s_0.heap.get? a = none) (hp : ∀ p ∈ X.pn ++ pins, p.1 ≠ a) (hL : a ≠ X.env.locals) (hc : ∀ x c, X.env.cells.lookup x = some c → c ≠ a)
    (new : ObjOk X.prog X.w (upd H a o) s.heap a o) : Inv X pins σ (upd H a o) s := by
  have ne0 : ∀ b u, X.s_0.heap.get? b = some u → b ≠ a := fun b u e z => by rw [z, h0] at e; cases e
  refine ⟨I.ok, I.os, I.bare, ⟨I.base.keep, I.base.slot, fun b u e n hx => ?_, I.base.there, fun b xs e => ?_, fun b u w e => ?_, fun b ps e => ?_⟩, I.loc, I.cell, ?_, fun x c e => ?_, fun p hm => ?_, fun b u e => ?_, I.len⟩
  · rw [upd_ne (ne0 b u e)]
    exact I.base.free b u e n hx
  · have q := I.base.tups b xs e
    rw [upd_ne (ne_of_none q hn)]
    exact q
  · have q := I.base.frzs b u w e
    rw [upd_ne (ne_of_none q hn)]
    exact q
  · obtain ⟨m, q⟩ := I.base.tbls b ps e
    exact ⟨m, by rw [upd_ne (ne_of_none q hn)]; exact q⟩
  · rw [upd_ne (Ne.symm hL)]
    exact I.free
  · rw [upd_ne (hc x c e)]
    exact I.freeC x c e
  · obtain ⟨q1, q2, q3⟩ := I.pin p hm
    exact ⟨q1, by rw [upd_ne (hp p hm)]; exact q2, q3⟩
  · by_cases e1 : b = a
    · subst e1
      rw [upd_same] at e
      cases e
      exact new
    · rw [upd_ne e1] at e
      exact (I.hok b u e).stay (fun c w _ q => q) (fun c q => by rw [upd_ne (ne_of_none q hn)]; exact q) fun c xs q => by rw [upd_ne (ne_of_none q hn)]; exact q
end
def noK : L2.St → Hp → Prop := fun _ _ => False
def wKeep (K : PySem.W.Frag) (n : Nat) (c : Value) (i : Nat) (ts : Addr → Value → Option Addr → TS) (D : Ends) : WX := fun cls d σ H => PySem.W.exmOne K cls c = some true ∧
  ∀ a, H a = none → σ.length = n → ts a cls d { nx := fun σ' H' => H' a = none ∧ D.nx (σ'.set i none) (upd H' a (HeldX cls d a)), rt := fun _ _ => False, bk := noK, ct := noK } (σ.set i (some (.ref a))) H
section
variable {X : Cx} {x n : Str} {c : Value} {i : Nat} {body suite : List Stmt} {b₀ : Stmt} {np pos pos' : Pos} {tb : WX → TS} {ts : Addr → Value → Option Addr → TS}
theorem ps_keep (st : X.stack = X.env :: X.outer) (fr : X.env.frame = some X.env.locals) (nd : X.N.Nodup) (at_ : X.N[i]? = some n) (kl : X.env.kindOf n = some .local) (nm : Names X x c) (ne : X.ex = [])
    (hb : ∀ (W : WX) (pn : List (Addr × Obj)) (xe : Value → Shared → Prop), Takes (X.tr pn xe) W → PassesOwn (model X.prog X.w) X.A X.env xe → PSs (X.tr pn xe) body (tb W))
    (hsu : ∀ (a : Addr) (oe : Obj) (cls : Value) (d : Option Addr) (pn : List (Addr × Obj)), Zc cls d oe → (∃ vs, oe.data = .fields vs) → PSs (X.suite a ((a, oe) :: pn)) (b₀ :: suite) (ts a cls d)) :
    PS X (.Try body [.ExceptHandler (some (.Name x np)) (some n) (b₀ :: suite) pos'] [] [] pos) (fun D σ H => tb (wKeep X.K X.N.length c i ts D) D σ H) := by
  constructor
  intro pins s σ H D I wish
  have okX := I.ok
  have frames : X.A.frames = some (X.env :: X.outer) := by
    rw [okX.frames]
    rw [st]
  apply wpAny_Try_except
  refine wpAny_mono ((hb (wKeep X.K X.N.length c i ts D) (X.pn ++ pins) (fun err sx => wpAny (model X.prog X.w) X.A (noteFrame err X.env) (fun _ sy => wpAny (model X.prog X.w) X.A (setFlight err none) (fun _ sz =>
    wpAny (model X.prog X.w) X.A (handleBy err X.env [.ExceptHandler (some (.Name x np)) (some n) (b₀ :: suite) pos']) (SP X pins D) X.xe sz) X.xe sy) X.xe sx) (fun err sx caught => ?_) PassesOwn.looking).run [] s σ H D (I.toTry _) wish) (fun fl se ended => ?_) (fun _ _ z => z)
  · obtain ⟨a, G, sg, pg, σg, Hg, cls, d, rfl, Jt, grd, upS, sky, na, osE, bareE, matches_, suiteW⟩ := caught
    have Jg : Inv X pins σg Hg sg := Jt.ofTry okX
    show wpAny (model X.prog X.w) X.A (noteFrame (.ref a) X.env) _ _ _
    refine Sky.land Zc.steady frames fr (by rw [← st]; exact sky) fun hA flA upA => ?_
    have JA : Inv X pins σg Hg { sx with heap := hA } := Jg.landed grd flA.1 (upS.trans upA) osE bareE
    obtain ⟨oA, vA, getA, zA, datA⟩ := flA.there
    have offFrames : a ∉ frs (X.env :: X.outer) := fun hm => by
      obtain ⟨_, o2, e2, notF⟩ := flA.2.2.1.mem hm
      rw [getA] at e2
      cases e2
      exact notF _ datA
    have offL : a ≠ X.env.locals := fun z => offFrames (List.mem_filterMap.mpr ⟨X.env, List.mem_cons_self, by rw [fr, z]⟩)
    have offF : a ∉ X.fs := fun hm => by
      obtain ⟨ev, hev, q⟩ := List.mem_filterMap.mp hm
      exact offFrames (List.mem_filterMap.mpr ⟨ev, List.mem_cons_of_mem _ hev, q⟩)
    have gone : sg.heap.get? a = none := by
      cases e : sg.heap.get? a with
      | none => rfl
      | some o =>
        have z := grd a o e (by rw [st]; exact offFrames)
        rw [flA.2.1] at z
        cases z
    have new0 : X.s_0.heap.get? a = none := by
      cases e : X.s_0.heap.get? a with
      | none => rfl
      | some o =>
        obtain ⟨o', z⟩ := Jg.base.there a o e (by rw [ne]; exact fun z => nomatch z)
        rw [gone] at z
        cases z
    have SA := JA.suite getA datA na offL offF
    refine wpAny_handleBy_cons (codeAny_handlers_test ?_) (fun z => by cases z)
    have type_ : PySem.W.Looks (model X.prog X.w) hA (typeOf (.ref a)) cls := fun _ _ _ _ k q => wpAny_typeOf_ref (k _ _ getA) (by rw [zA.1]; exact q)
    have mtc := PySem.W.exm_one (M := model X.prog X.w) (JA.kIn) type_ matches_
    have clsAt : ∀ {Q : Value → Shared → Prop} {E : Value → Shared → Prop}, Q c { sx with heap := hA } → wpAny (model X.prog X.w) (X.A.mark (some (.ref a))) (eval (.Name x np) X.env) Q E { sx with heap := hA } := fun {Q E} q => by
      obtain ⟨isG, notD, byMg | ⟨noMg, isB, notN⟩⟩ := nm
      · exact ld_glob (X := X.suite a ((a, oA) :: (X.pn ++ pins))) SA isG byMg q notD
      · exact ld_blt (X := X.suite a ((a, oA) :: (X.pn ++ pins))) SA isG noMg isB q notN notD
    refine clsAt (mtc.here ?_)
    refine codeAny_handlers_suite_as ?_
    refine HandSPX.lands_againZ flA fun hB flB upB => ?_
    have JB : Inv X pins σg Hg { sx with heap := hB } := Jg.landed grd flB.1 ((upS.trans upA).trans upB) osE bareE
    obtain ⟨oB, vB, getB, zB, datB⟩ := flB.there
    have SB := JB.suite getB datB na offL offF
    refine store_ok (X := X.suite a ((a, oB) :: (X.pn ++ pins))) (v := .ref a) SB nd at_ (.inl kl) rfl (fun sC SC => ?_) (.inr kl)
    refine wpAny_mono ((hsu a oB cls d (X.pn ++ pins) zB ⟨_, datB⟩).run [] sC _ Hg _ SC (suiteW a na Jg.len)) (fun fl sD endD => ?_) (fun _ _ z => z.elim)
    cases fl with
    | next =>
      obtain ⟨σD, HD, SD, nD, qD⟩ := endD
      have JD : Inv X pins σD HD sD := SD.unsuite okX
      obtain ⟨getD_, _⟩ := SD.pin (a, oB) (List.mem_append_left _ List.mem_cons_self)
      have TD : Inv X pins σD (upd HD a (HeldX cls d a)) sD := DL.Inv.track JD nD new0 (fun p hp z => ?_) offL (fun y cc e z => ?_) ⟨⟨oB, vB, getD_, zB, datB⟩, ⟨oB, getD_⟩, fun _ _ ⟨o1, v1, q1, q2⟩ k => ⟨o1, v1, k o1 q1, q2⟩⟩
      · exact gone_ok TD nd at_ kl fun sE JE => ⟨_, _, JE, qD⟩
      · have q := (Jg.pin p hp).1
        rw [z, gone] at q
        cases q
      · obtain ⟨v, oc, q, _⟩ := Jg.cell y cc e
        rw [z, gone] at q
        cases q
    | brk =>
      obtain ⟨_, _, _, z⟩ := endD
      exact z.elim
    | cont =>
      obtain ⟨_, _, _, z⟩ := endD
      exact z.elim
    | ret u =>
      obtain ⟨_, _, _, _, _, z⟩ := endD
      exact z.elim
  · cases fl with
    | next =>
      obtain ⟨σe, He, Je, q⟩ := ended
      exact wpAny_execs_nil ⟨σe, He, Je.ofTry okX, q⟩
    | brk =>
      obtain ⟨σe, He, Je, q⟩ := ended
      exact ⟨σe, He, Je.ofTry okX, q⟩
    | cont =>
      obtain ⟨σe, He, Je, q⟩ := ended
      exact ⟨σe, He, Je.ofTry okX, q⟩
    | ret u =>
      obtain ⟨w, σe, He, Je, r, q⟩ := ended
      exact ⟨w, σe, He, Je.ofTry okX, r, q⟩
end

def rIsH (K : PySem.W.Frag) : List V → Hp → VK → Prop := fun xs H Q => ∃ (x c : V) (cv : Value) (b : Bool), xs = [x, c] ∧ (∀ u, RelV c u → u = cv) ∧
  ((∃ a D, x = .ref a ∧ H a = some (HeldX (.ref D) none a) ∧ ExcC K D ∧ PySem.W.kitOne K (.ref D) cv = some b) ∨ (x = .non ∧ PySem.W.kitOne K (.type "NoneType") cv = some b)) ∧ Q (.bl b) H
theorem call_isH {X : Cx} : CallR X (.builtin "isinstance") (rIsH X.K) := by
  intro pins s σ H xs us Q I r h
  obtain ⟨x, c, cv, b, rfl, hc, hx, q⟩ := h
  obtain ⟨u1, u2, rfl, r1, r2⟩ := vals2 r
  have e2 := hc _ r2
  subst e2
  rcases hx with ⟨a, D, rfl, hH, C, e⟩ | ⟨rfl, e⟩
  · obtain rfl : u1 = Value.ref a := r1
    obtain ⟨⟨oe, vs, g, z, dd⟩, _, _⟩ := I.hok a _ hH
    have J : PySem.W.InstAt s.heap a oe D none := by
      obtain ⟨oc, od, oda, osl⟩ := oe
      obtain ⟨z1, z2⟩ := z
      dsimp only at z1 z2 dd
      subst z1 z2 dd
      exact ⟨g, rfl, rfl, trivial⟩
    exact PySem.W.kia_one (PySem.W.handS_kitx_exc C.hg C.hk C.hs C.hd C.ha C.hn C.ht C.hm) I.kIn J e (fun z => nomatch z) fun tk => ⟨.bl b, H, I.kept (t' := tk) fun _ _ z => z, rfl, q⟩
  · exact isinst_ok I r1 .non e fun tk => ⟨.bl b, H, I.kept (t' := tk) fun _ _ z => z, rfl, q⟩
def rRepr (K : PySem.W.Frag) : List V → Hp → VK → Prop := fun xs H Q => ∃ a p, xs = [.ref a] ∧ Dp K H (.ref a) p ∧ p.showable = true ∧ p.hasDict = false ∧ p.depth ≤ 60 ∧ p.shown.length ≤ sizeLine ∧ Q (.str p.shown) H
theorem call_reprD {X : Cx} (hg : X.A.guards = some []) (hu : X.A.units + 64 < cLine) : CallR X (.builtin "repr") (rRepr X.K) := by
  intro pins s σ H xs us Q I r h
  obtain ⟨a, p, rfl, hp, h1, h2, h3, h4, q⟩ := h
  obtain ⟨u, rfl, r1⟩ := vals1 r
  obtain rfl : u = Value.ref a := r1
  obtain ⟨as, rd⟩ := Dp.reads I p _ _ hp rfl
  exact repr_of_reads' rd h1 (PyData.noDict_hsm h2) hg (by omega) (fun _ _ e => e) (fun h' t tk k => ⟨.str p.shown, H, I.kept (t' := tk) k, ⟨t, rfl⟩, q⟩) h4
def gRepr : List D → Option Vl
  | [d] => (pyd d).bind fun p => if (p.showable && !p.hasDict && decide (p.depth ≤ 60) && szOk p.shown.length) = true then (match d with
    | .lst _ | .tup _ => some (.sh (.str p.shown))
    | _ => none) else none
  | _ => none
section
variable {K : PySem.W.Frag} {ct : Ct} {E : XK} {B H B' H' B1 H1 B2 H2 : Hp} {σ σ' : L2.St} {ρ ρ' : Env} {f0 f1 f2 : Fps} {v : V} {r : Vl} {f g : List Addr} {fix : Nat → Bool} {X : Cx}
theorem gc_repr : CallI K (rRepr K) gRepr := by
  intro B H xs ds z e hx hz Q q
  match ds, hx, hz with
  | [d], hx, hz =>
    obtain ⟨v, rfl, hv⟩ := hx.one
    have hz : (pyd d).bind (fun p => if (p.showable && !p.hasDict && decide (p.depth ≤ 60) && szOk p.shown.length) = true then (match d with
      | .lst _ | .tup _ => some (Vl.sh (.str p.shown))
      | _ => none) else none) = some z := hz
    cases ep : pyd d with
    | none => rw [ep] at hz; cases hz
    | some p =>
      rw [ep] at hz
      have hz : (if (p.showable && !p.hasDict && decide (p.depth ≤ 60) && szOk p.shown.length) = true then (match d with
        | .lst _ | .tup _ => some (Vl.sh (.str p.shown))
        | _ => none) else none) = some z := hz
      by_cases hc : (p.showable && !p.hasDict && decide (p.depth ≤ 60) && szOk p.shown.length) = true
      · rw [if_pos hc] at hz
        simp only [Bool.and_eq_true, Bool.not_eq_true', decide_eq_true_eq] at hc
        obtain ⟨⟨⟨c1, c2⟩, c3⟩, c4⟩ := hc
        have hd := RdV.dp e hv ep
        cases d with
        | lst l =>
          cases hz
          obtain ⟨a, xs, rfl, _⟩ := hv
          exact ⟨a, p, rfl, hd, c1, c2, c3, szOk_le c4, q _ _ _ _ (New.sc e (.str _))⟩
        | tup l =>
          cases hz
          have hv' : DV K B v (.tup l) := hv
          cases hv' with
          | tup g1 g2 => exact ⟨_, p, rfl, hd, c1, c2, c3, szOk_le c4, q _ _ _ _ (New.sc e (.str _))⟩
        | _ => cases hz
      · rw [if_neg hc] at hz
        cases hz
end
def TCaught (K : PySem.W.Frag) (CW : Addr) : (XK → Hp → VK → Prop) → Hp → VK → Prop := fun tl H Q =>
  tl (fun cls d H' => PySem.W.exmOne K cls (.ref CW) = some true ∧ ∀ a, H' a = none → Q (.ref a) (upd H' a (HeldX cls d a))) H fun _ H' => ∃ v : V, (some (some V.non) : Option (Option V)) = some (some v) ∧ Q v H'
end DL
end
section
set_option maxRecDepth 100000
set_option maxHeartbeats 2000000
namespace DL
open PySem PySem.Spec PyProof.Rows L2
open Evl (Ex ex_rd ex_l ex_t)
structure ExtT (T : List (Addr × Str)) (H H1 : Hp) : Prop where
  keep : ∀ b o, H b = some o → b ∉ T.map Prod.fst → H1 b = some o
  new : ∀ p ∈ T, ∀ (ps1 : Array Value) (pos : Pos) (c : Addr), H1 p.1 = some (.tbl ps1) → codeAmong pos ps1.toList = some (.ref c) → (∃ ps : Array Value, H p.1 = some (.tbl ps) ∧ codeAmong pos ps.toList = some (.ref c)) ∨ H c = none
section
variable {X : Cx} {pins : List (Addr × Obj)} {σ : L2.St} {H : Hp} {s : Shared}
theorem lam_mk {T : List (Addr × Str)} {c P : Addr} {params : Arguments} {body : Expr} {scope : Scope} {pos : Pos} {E : Value → Shared → Prop} {Q : Value → Shared → Prop} (I : Inv X pins σ H s) (tb : LamX.TabB X.base X.mg c P) (code : X.env.code = .ref c)
    (mem : (P, X.env.qual ++ "<lambda>") ∈ T) (uniq : ∀ p ∈ T, p.1 = P → p.2 = X.env.qual ++ "<lambda>") (tabs : LamX.Tabs T H) (nodef : defaultsOf params X.env = ([], [])) (free : ∀ y ∈ scope.names, y.2 = .free → ∃ c, X.env.cells.lookup y.1 = some c)
    (goal : ∀ (f d : Addr) (pm ctv : Value) (H1 : Hp) (s' : Shared), Inv X pins σ H1 s' → ExtT T H H1 → LamX.Tabs T H1 →
      s'.heap.get? f = some (PySem.W.kla_obj "<lambda>" (X.env.qual ++ "<lambda>") params body scope (cloFrom X.env.cells scope.names []) pm d ctv) → H1 f = none → f ∉ frs X.stack → H1 d = some (LamX.CodeO d (X.env.qual ++ "<lambda>")) → Q (.ref f) s') :
    wpAny (model X.prog X.w) X.A (eval (.Lambda params body scope pos) X.env) Q E s := by
  have memA : P ∈ T.map Prod.fst := List.mem_map.mpr ⟨_, mem, rfl⟩
  obtain ⟨rows, atP, triples, known⟩ := tabs _ mem
  apply PySem.W.kla_eval nodef
  have bi : s.heap.BuiltinsAt X.mg P := tb.bm.keeps I.bk
  have raw : s.heap.get? P = some { cls := .none, data := .fields rows } := I.hok P _ atP
  have young : ∀ f, s.heap.objs.size ≤ f → f ∉ frs X.stack := fun f hf hm => by
    rcases List.mem_cons.mp (I.stkSub _ hm) with z | z
    · have l := I.lt
      rw [← z] at l
      exact absurd (Nat.lt_of_lt_of_le l hf) (Nat.lt_irrefl _)
    · exact I.nofs hf z
  cases look : codeAmong pos rows.toList with
  | none =>
    refine PySem.W.kla_makeFunction (mg := X.mg) (c := c) (P := P) (ps := rows) (closure_ok free) I.ok.glob (I.mod.glob.keeps I.bk) code (tb.code.keeps I.bk) raw triples look tb.gP bi fun d ctv h' tk kept big lt rec table => ?_
    obtain ⟨d2, oc, vs, t, ed, goc, dat, nameAt⟩ := rec
    cases ed
    have up : s.heap.objs.size ≤ h'.objs.size := by omega
    have newD : H d = none := I.hok.fresh big
    have ndP : P ≠ d := ne_of_none atP newD
    have I1 := LamX.inv_table (t' := tk) (more := #[rawInt pos.line, rawInt pos.col, .ref d]) (h' := h'.push (PySem.W.kla_obj "<lambda>" (X.env.qual ++ "<lambda>") params body scope (cloFrom X.env.cells scope.names []) ((X.mg "__name__").getD .none) d ctv)) I atP
      (fun b o hb e => Heap.get?_push_of_some _ (kept b o hb e)) (Heap.get?_push_of_some _ table) big ⟨oc, vs, t, Heap.get?_push_of_some _ goc, dat, nameAt⟩
    have stayN : ∀ b o, H b = some o → (∀ ps, o ≠ .tbl ps) → upd (upd H P (.tbl (rows ++ #[rawInt pos.line, rawInt pos.col, .ref d]))) d (LamX.CodeO d (X.env.qual ++ "<lambda>")) b = some o := fun b o e nt => by
      rw [upd_ne (ne_of_none e newD), upd_ne (fun z => by rw [z, atP] at e; exact nt _ (Option.some.inj e).symm)]
      exact e
    have list_ : (rows ++ #[rawInt pos.line, rawInt pos.col, .ref d]).toList = rows.toList ++ [rawInt pos.line, rawInt pos.col, .ref d] := by simp
    have stay : ExtT T H (upd (upd H P (.tbl (rows ++ #[rawInt pos.line, rawInt pos.col, .ref d]))) d (LamX.CodeO d (X.env.qual ++ "<lambda>"))) := ⟨fun b o e nb => by
      rw [upd_ne (ne_of_none e newD), upd_ne (fun z => nb (by rw [z]; exact memA))]
      exact e, fun p hp ps1 p' c1 e1 e2 => by
      obtain ⟨ro, a1, a2, a3⟩ := tabs p hp
      rw [upd_ne (ne_of_none a1 newD)] at e1
      by_cases isP : p.1 = P
      · rw [isP, upd_same] at e1
        cases e1
        rw [list_] at e2
        rcases LamX.among_app _ triples e2 with z | z
        · exact .inl ⟨rows, by rw [isP]; exact atP, z⟩
        · cases z
          exact .inr newD
      · rw [upd_ne isP] at e1
        exact .inl ⟨ps1, e1, e2⟩⟩
    refine goal h'.objs.size d ((X.mg "__name__").getD .none) ctv _ _ I1 stay (fun p hp => ?_) (Heap.get?_push_size _ rfl) ?_ (young _ up) upd_same
    · by_cases isP : p.1 = P
      · rw [uniq p hp isP, isP]
        refine ⟨_, by rw [upd_ne ndP, upd_same], by rw [list_]; exact PySem.TriplesOk_snoc _ _ _ _ triples, fun p' cv hcv => ?_⟩
        rw [list_] at hcv
        rcases LamX.among_app _ triples hcv with z | z
        · obtain ⟨d0, e1, e2⟩ := known p' cv z
          exact ⟨d0, e1, stayN _ _ e2 LamX.codeO_ne⟩
        · exact ⟨d, z, upd_same⟩
      · obtain ⟨rows', a1, a2, a3⟩ := tabs p hp
        refine ⟨rows', by rw [upd_ne (ne_of_none a1 newD), upd_ne isP]; exact a1, a2, fun p' cv hcv => ?_⟩
        obtain ⟨d0, e1, e2⟩ := a3 p' cv hcv
        exact ⟨d0, e1, stayN _ _ e2 LamX.codeO_ne⟩
    · have n1 : h'.objs.size ≠ d := Nat.ne_of_gt lt
      have n2 : h'.objs.size ≠ P := Nat.ne_of_gt (Nat.lt_of_lt_of_le (Heap.lt_size raw) up)
      rw [upd_ne n1, upd_ne n2]
      exact I.hok.fresh up
  | some cv =>
    obtain ⟨d, e, hco⟩ := known pos cv look
    subst e
    refine PySem.W.kla_makeFunctionHit (mg := X.mg) (c := c) (P := P) (ps := rows) (closure_ok free) I.ok.glob (I.mod.glob.keeps I.bk) code (tb.code.keeps I.bk) raw triples look bi fun ctv h' tk kept up => ?_
    have I1 : Inv X pins σ H { s with heap := h'.push (PySem.W.kla_obj "<lambda>" (X.env.qual ++ "<lambda>") params body scope (cloFrom X.env.cells scope.names []) ((X.mg "__name__").getD .none) d ctv), toks := tk } := I.kept fun b o e => Heap.get?_push_of_some _ (kept b o e)
    exact goal h'.objs.size d ((X.mg "__name__").getD .none) ctv H _ I1 ⟨fun _ _ e _ => e, fun p hp ps1 _ _ e1 e2 => .inl ⟨ps1, e1, e2⟩⟩ tabs (Heap.get?_push_size _ rfl) (I.hok.fresh up) (young _ up) hco
end
def tLamT (T : List (Addr × Str)) (TT : (XK → Hp → VK → Prop) → Hp → VK → Prop) (t : XK → TE) : TE := fun σ H Q => LamX.Tabs T H ∧ ∀ H1, ExtT T H H1 → LamX.Tabs T H1 → TT (fun E H' Q' => t E σ H' Q') H1 Q
section
variable {X : Cx}
theorem pe_lamT {T : List (Addr × Str)} {TT : (XK → Hp → VK → Prop) → Hp → VK → Prop} {x a : Str} {g c P : Addr} {k : Nat} {pg : Arguments} {bg : List Stmt} {sg : Scope} {dV kV doc pm cdv ct oc : Value} {an od : Option Addr} {osl : Array (Option Value)} {Ng : List Str}
    {params : Arguments} {body : Expr} {scope : Scope} {t : XK → TE} {p lpos pos : Pos} (gl : Gl X x) (hm : X.mg x = some (.ref g)) (kp : PySem.W.keepIn X.K (.ref g) = true)
    (lk : X.K.lookup g = some ⟨oc, od, .func (PySem.W.fnOf x x pg bg sg dV kV doc pm an cdv ct), osl⟩) (cg : PySem.W.codeIn X.K cdv x = true) (bi : L2.Binds X.K (PySem.W.fnOf x x pg bg sg dV kV doc pm an cdv ct) [a] []) (Sg : FnScope Ng [a] sg) (at0 : Ng[0]? = some a) (va : Vis sg a)
    (gives : LamX.GivesTo X Ng x sg g cdv bg a (X.env.qual ++ "<lambda>") TT)
    (tb : LamX.TabB X.base X.mg c P) (code : X.env.code = .ref c) (mem : (P, X.env.qual ++ "<lambda>") ∈ T) (uniq : ∀ p ∈ T, p.1 = P → p.2 = X.env.qual ++ "<lambda>") (hr : Room (k + 2) X.A) (L : LamX.LamS X.env.scope scope) (nodef : defaultsOf params X.env = ([], []))
    (bindL : ∀ (q : Str) (cl : List (Str × Addr)) (pm cv ctv : Value), bindArgs (PySem.W.kla_fn "<lambda>" q params body scope cl pm cv ctv) ⟨[], []⟩ = pure [])
    (bodyOk : ∀ (A : Around) (outer : List PySem.Env) (s : Shared) (H : Hp) (E : XK) (f d : Addr), Room k (A.deeper (LamX.lamEnv X scope s.heap.objs.size f d)) → PE (LamX.lamCx X A outer s H E scope f d) body (t E))
    (n1 : (x == ("__debug__" : Str)) = false := by decide) (n2 : (a == ("__debug__" : Str)) = false := by decide) (n3 : (a == ("__classdict__" : Str)) = false := by decide) :
    PE X (.Call (.Name x p) [.Lambda params body scope lpos] [] pos) (tLamT T TT t) := by
  constructor
  intro pins s σ H Q I wish
  obtain ⟨tabs, wish⟩ := wish
  refine wpAny_Call_Name_kw (ld_glob I gl hm ?_ n1)
  refine PySem.W.callWith_K (h₀ := X.base) I.ok.mod.kin kp ?_ (by rfl) (by rfl)
  show wpAny _ _ (spliced ((false, eval (.Lambda params body scope lpos) X.env) :: backTo pos (starEach [] X.env))) _ _ s
  refine Calls.spliced_cons (lam_mk I tb code mem uniq tabs nodef (L.has I.ok) fun f d pm' ctv H1 s1 I1 ext tabs1 objF freeF offF codeD => ?_)
  refine Calls.spliced_nil ⟨I1.kIn, ?_⟩
  have called : codeAny (model X.prog X.w) X.A (.call (.ref g) ⟨[.ref f], []⟩) (CR C8.CX0 X.stack X.prog X.w H1 s1 Q C8.E0) s1 := by
    refine LamX.run_ofS (N := Ng) (ps := [a]) (us := [.ref f]) (vs := [.ref f]) lk cg Sg hr I1.env0 (bi s1 [.ref f] I1.kIn rfl) (.cons rfl .nil) rfl fun hr1 => ?_
    obtain ⟨tg, runs, holds⟩ := gives f d s1 H1 Q (fun E H' Q' => t E σ H' Q') (fun W pn xe E p1 p2 tk hW => LamX.pe_act (i := 0) I1 L objF freeF offF (bindL _ _ _ _ _) tk hW hr1 (fun A outer s H hr2 => bodyOk A outer s H E f d hr2) at0 va n2 n3) codeD (wish H1 ext tabs1)
    exact ⟨tg, runs.nox, holds⟩
  refine wpAny_call (codeAny_mono called fun res s2 out => ?_)
  cases res with
  | error e => exact (show False from out).elim
  | ok fl =>
    cases fl with
    | ret u => exact I1.after out
    | next => exact False.elim out
    | brk => exact False.elim out
    | cont => exact False.elim out
end
section
variable {K : PySem.W.Frag} {ct : Ct} {E : XK} {B H B' H' B1 H1 B2 H2 : Hp} {σ σ' : L2.St} {ρ ρ' : Env} {f0 f1 f2 : Fps} {v : V} {r : Vl} {f g : List Addr} {fix : Nat → Bool} {X : Cx}
def isExtO : Option HO → Bool
  | some (.ext _) => true
  | _ => false
def refO : Value → Option Addr
  | .ref a => some a
  | _ => none
def tblO : Option HO → List Addr
  | some (.tbl ps) => ps.toList.filterMap refO
  | _ => []
def codesOf (T : List (Addr × Str)) (H : Hp) : List Addr := (T.flatMap fun p => tblO (H p.1)).filter fun c => isExtO (H c)
theorem among_mem {pos : Pos} {cv : Value} : ∀ {l : List Value}, codeAmong pos l = some cv → cv ∈ l := by
  intro l
  fun_induction codeAmong pos l with
  | case1 l1 t1 c1 t2 c rest h =>
    intro e
    cases e
    simp
  | case2 l1 t1 c1 t2 c rest h ih =>
    intro e
    have := ih e
    simp [this]
  | case3 => intro e; cases e
theorem Rel.tabs {it : Nat} {T : List (Addr × Str)} {d : D} (R : Rel K B H σ ρ f0) (h : ρ[it]? = some (.tab T d)) (e : ExtT T H H1) (t : LamX.Tabs T H1) : ∃ f1, Rel K B H1 σ ρ f1 ∧ Frm B H (Owned f0) B H1 (Owned f1) := by
  obtain ⟨⟨tf1, tf2⟩, x, hx, hd⟩ := R.ok it _ h
  have inT : ∀ a, a ∈ T.map Prod.fst → a ∈ f0 it := fun a ha => by
    obtain ⟨p, hp, ep⟩ := List.mem_map.mp ha
    rw [← ep]
    exact (tf1 p hp).1
  have off0 : ∀ j a, j ≠ it → a ∈ f0 j → a ∉ T.map Prod.fst := fun j a hj ha z => hj (R.dis j it a ha (inT a z))
  have bT : ∀ a, a ∈ T.map Prod.fst → B a = none := fun a ha => (R.off it a (inT a ha)).1
  have exB : Ex B H1 := fun a o q => e.keep a o (R.ex a o q) fun z => by rw [bT a z] at q; cases q
  have alive : ∀ a, H a ≠ none → H1 a ≠ none := fun a q => by
    by_cases z : a ∈ T.map Prod.fst
    · obtain ⟨p, hp, ep⟩ := List.mem_map.mp z
      obtain ⟨ps, h1, _⟩ := t p hp
      rw [← ep, h1]
      simp
    · cases q1 : H a with
      | none => exact absurd q1 q
      | some o => rw [e.keep a o q1 z]; simp
  let F := f0 it ++ (codesOf T H1).filter fun c => (H c).isNone
  have newN : ∀ a, a ∈ (codesOf T H1).filter (fun c => (H c).isNone) → H a = none ∧ H1 a ≠ none := fun a ha => by
    obtain ⟨h1, h2⟩ := List.mem_filter.mp ha
    have h3 := (List.mem_filter.mp h1).2
    exact ⟨Option.isNone_iff_eq_none.mp h2, fun z => by rw [z] at h3; cases h3⟩
  have TF : TabsF T H1 F := by
    refine ⟨fun p hp => ⟨List.mem_append_left _ (tf1 p hp).1, ?_⟩, fun a ha => ?_⟩
    · obtain ⟨ps, h1, h2, h3⟩ := t p hp
      refine ⟨ps, h1, h2, fun pos cv ec => ?_⟩
      obtain ⟨c, e1, e2⟩ := h3 pos cv ec
      subst e1
      refine ⟨c, ?_, rfl, e2⟩
      rcases e.new p hp ps pos c h1 ec with ⟨ps0, g1, g2⟩ | g
      · obtain ⟨ps0', k1, _, k3⟩ := (tf1 p hp).2
        rw [k1] at g1
        cases g1
        obtain ⟨c', k4, k5, _⟩ := k3 pos _ g2
        cases k5
        exact List.mem_append_left _ k4
      · refine List.mem_append_right _ (List.mem_filter.mpr ⟨List.mem_filter.mpr ⟨List.mem_flatMap.mpr ⟨p, hp, ?_⟩, ?_⟩, by rw [g]; rfl⟩)
        · rw [h1]
          exact List.mem_filterMap.mpr ⟨_, among_mem ec, rfl⟩
        · rw [e2]
          rfl
    · rcases List.mem_append.mp ha with ha | ha
      · exact alive a (tf2 a ha)
      · exact (newN a ha).2
  refine ⟨fpSet f0 it F, ⟨R.len, exB, R.pl, fun j s q => ?_, fun j q => ?_, fun j k a h1 h2 => ?_, fun j a ha => ?_⟩, ⟨fun _ _ q => q, fun a o q n => e.keep a o q fun z => n ⟨it, inT a z⟩, fun a q _ _ => q, fun a z => ?_, fun a q => alive a q⟩⟩
  · by_cases hj : j = it
    · subst hj
      rw [h] at q
      cases q
      rw [fpSet_same]
      exact ⟨TF, x, hx, hd⟩
    · rw [fpSet_ne hj]
      have ok := R.ok j s q
      have keep : ∀ a ∈ f0 j, ∀ o, H a = some o → H1 a = some o := fun a ha o e1 => e.keep a o e1 (off0 j a hj ha)
      generalize (σ[j]?).join = w at ok ⊢
      generalize f0 j = ff at ok keep
      cases s with
      | emp => exact ok
      | sh d => exact ok
      | own ds =>
        obtain ⟨p, xs, e1, e2, e3, e4⟩ := ok
        exact ⟨p, xs, e1, e2, keep p (by rw [e2]; simp) _ e3, e4⟩
      | own2 l =>
        obtain ⟨p, ps, e1, e2, e3, e4, e5⟩ := ok
        exact ⟨p, ps, e1, e2, e3, keep p (by rw [e2]; simp) _ e4, e5.to (fun _ _ z => z) fun q hq o eo => keep q (by rw [e2]; exact List.mem_cons_of_mem _ hq) o eo⟩
      | drw st =>
        obtain ⟨p, w', c, e1, e2, e3, e4, e5, e6⟩ := ok
        exact ⟨p, w', c, e1, e2, e3, keep p (by rw [e2]; simp) _ e4, keep w' (by rw [e2]; simp) _ e5, e6⟩
      | tab T' d' => exact ⟨ok.1.to keep, ok.2⟩
  · have hj : j ≠ it := fun z => by rw [z, h] at q; cases q
    rw [fpSet_ne hj]
    exact R.out j q
  · have sep : ∀ j, j ≠ it → a ∈ f0 j → a ∉ F := fun j hj ha z => by
      rcases List.mem_append.mp z with z | z
      · exact hj (R.dis j it a ha z)
      · exact (R.off j a ha).2 (newN a z).1
    by_cases hj : j = it
    · by_cases hk : k = it
      · rw [hj, hk]
      · subst hj
        rw [fpSet_same] at h1
        rw [fpSet_ne hk] at h2
        exact absurd h1 (sep k hk h2)
    · by_cases hk : k = it
      · subst hk
        rw [fpSet_same] at h2
        rw [fpSet_ne hj] at h1
        exact absurd h2 (sep j hj h1)
      · rw [fpSet_ne hj] at h1
        rw [fpSet_ne hk] at h2
        exact R.dis j k a h1 h2
  · by_cases hj : j = it
    · subst hj
      rw [fpSet_same] at ha
      rcases List.mem_append.mp ha with z | z
      · exact ⟨(R.off j a z).1, alive a (R.off j a z).2⟩
      · exact ⟨Rel.fresh R.ex (newN a z).1, (newN a z).2⟩
    · rw [fpSet_ne hj] at ha
      exact ⟨(R.off j a ha).1, alive a (R.off j a ha).2⟩
  · rcases owned_set z with z | z
    · exact .inl z
    · rcases List.mem_append.mp z with z | z
      · exact .inl ⟨it, z⟩
      · exact .inr (newN a z).1
structure IsaOk (K : PySem.W.Frag) (ct : Ct) (CW CC : Addr) (isa : String → Option Bool) : Prop where
  non : PySem.W.kitOne K (.type "NoneType") (.ref CC) = some false
  ok : ∀ c b, isa c = some b → PySem.W.exmOne K (.ref (ct c)) (.ref CW) = some true ∧ ExcC K (ct c) ∧ PySem.W.kitOne K (.ref (ct c)) (.ref CC) = some b
def xCaught (T : List (Addr × Str)) (it : Nat) (isa : String → Option Bool) (m : MX) : MX := fun ρ => match ρ[it]? with
  | some (.tab T' _) => if T' = T then (match m (ρ.map frz) with
    | .ok _ => .ok (.sh (.bl false), ρ)
    | .exc c none => rdO (isa c) fun b => .ok (.sh (.bl b), ρ)
    | _ => .bad) else .bad
  | _ => .bad
theorem im_caught {T : List (Addr × Str)} {it : Nat} {CW CC : Addr} {isa : String → Option Bool} {m : MX} {t : XK → TE} (I : IsaOk K ct CW CC isa) (ht : ∀ E', Imp K ct E' (t E') m) :
    Imp K ct E (tCB (rIsH K) (tCons (tLamT T (TCaught K CW) t) (tCons (tC (.ref CC)) tNil))) (xCaught T it isa m) := by
  intro B H σ ρ f0 Q R h
  unfold xCaught at h
  split at h
  · rename_i T' d e0
    by_cases hT : T' = T
    · subst hT
      rw [if_pos rfl] at h
      have ok := R.ok it _ e0
      have tabs : LamX.Tabs T' H := fun p hp => by
        obtain ⟨ps, h1, h2, h3⟩ := (ok.1.1 p hp).2
        exact ⟨ps, h1, h2, fun pos cv ec => by
          obtain ⟨c, _, e1, e2⟩ := h3 pos cv ec
          exact ⟨c, e1, e2⟩⟩
      refine ⟨tabs, fun H1 eT t1 => ?_⟩
      obtain ⟨f1, R1, fr1⟩ := Rel.tabs R e0 eT t1
      have cc : ∀ u, RelV (.ref CC) u → u = Value.ref CC := fun u z => z
      refine ht _ (strip H1) H1 σ (ρ.map DL.frz) noF _ R1.frz ?_
      cases em : m (ρ.map DL.frz) with
      | bad =>
        rw [em] at h
        exact h.elim
      | ok a =>
        rw [em] at h
        intro v B' H' f' f x
        have e := x.frm.ofNo
        refine ⟨.non, rfl, .non, .ref CC, .ref CC, false, rfl, cc, .inr ⟨rfl, I.non⟩, ?_⟩
        exact h _ _ _ _ _ (Res.refl' (R1.unfrz e) (.bl false) (fr1.trans (frz_frm f1 e)))
      | exc c p =>
        rw [em] at h
        cases p with
        | some p => exact h.elim
        | none =>
          have h : Post ct E H f0 (rdO (isa c) fun b => .ok (.sh (.bl b), ρ)) (XOk K B H σ f0 Q) := h
          obtain ⟨b, eb, h⟩ := h.get
          obtain ⟨i1, i2, i3⟩ := I.ok c b eb
          intro dd H' kk pk
          have pk : dd = none := pk
          subst pk
          refine ⟨i1, fun a ha => ⟨.ref a, .ref CC, .ref CC, b, rfl, cc, .inl ⟨a, ct c, rfl, upd_same, i2, i3⟩, ?_⟩⟩
          have e : Ex H1 (upd H' a (HeldX (.ref (ct c)) none a)) := Ex.trans (fun b o q => kk b o q fun z => noF_owned z) (Ex.new ha)
          exact h _ _ _ _ _ (Res.refl' (R1.unfrz e) (.bl b) (fr1.trans (frz_frm f1 e)))
    · rw [if_neg hT] at h
      exact h.elim
  · exact h.elim
end
theorem hxL {X : Cx} {P : Program} {w : World} {A : Around} {outer : List PySem.Env} {s : Shared} {H : Hp} {E : XK} {scope : Scope} {f d : Addr} (h1 : X.prog = P) (h2 : X.w = w) : Passes (L2.CX P w) (LamX.lamCx X A outer s H E scope f d) E := by
  subst h1 h2
  exact passes_call (takes_of rfl rfl rfl rfl) fun _ _ _ _ h => h
theorem fnC_of {P : Program} {w : World} {K : PySem.W.Frag} {mg : Str → Option Value} {base : Heap} {x qual : Str} {st : Stmt} {f : Addr} {N ps : List Str} {k : Nat} {sp : Sp} {oc kV doc pm cdv ctv : Value} {od an : Option Addr} {osl : Array (Option Value)}
    (lk : K.lookup f = some ⟨oc, od, .func (PySem.W.fnOf x qual (defArgs st) (defBody st) (defScope st) .none kV doc pm an cdv ctv), osl⟩) (hcd : PySem.W.codeIn K cdv qual = true) (S : FnScope N ps (defScope st)) (len : ∀ vs H Q E, sp vs H Q E → vs.length = ps.length)
    (hbody : ∀ (A : Around) (outer : List PySem.Env) (s : Shared) (H : Hp) (vs : List V) (Q : VK) (E : XK), Room k (A.deeper (envOfC qual (defScope st) s.heap.objs.size f cdv)) → A.guards = some [] → sp vs H Q E →
      ∃ t, PSs (cxOf (L2.CX P w) P w K mg base N qual (defScope st) f cdv A outer s H E) (defBody st) t ∧ t { nx := fun _ H' => Q .non H', rt := Q } (L2.start N vs) H) :
    FnG P w K mg base (k + 1) f (PySem.W.fnOf x qual (defArgs st) (defBody st) (defScope st) .none kV doc pm an cdv ctv) ps sp :=
  ⟨len, fun A outer s H args us vs Q E hr hg e0 hb r h => LamX.run_ofS lk hcd S hr e0 hb r (len _ _ _ _ h) fun hr' => hbody A outer s H vs Q E hr' hg h⟩
def isaOf (c : String) : String → Option Bool := fun x => if x = c then some true else none
theorem isaOk_of {K : PySem.W.Frag} {ct : Ct} {CW : Addr} {c : String} (h0 : PySem.W.kitOne K (.type "NoneType") (.ref (ct c)) = some false) (h1 : PySem.W.exmOne K (.ref (ct c)) (.ref CW) = some true) (h2 : ExcC K (ct c)) (h3 : PySem.W.kitOne K (.ref (ct c)) (.ref (ct c)) = some true) : IsaOk K ct CW (ct c) (isaOf c) :=
  ⟨h0, fun x b e => by
    unfold isaOf at e
    by_cases z : x = c
    · rw [if_pos z] at e
      cases e
      rw [z]
      exact ⟨h1, h2, h3⟩
    · rw [if_neg z] at e
      cases e⟩
end DL
end
section
set_option maxRecDepth 100000
set_option maxHeartbeats 2000000
namespace DL
open PySem PySem.Spec PyProof.Rows L2
open Evl (Ex ex_rd ex_l ex_t)
section
variable {P : Program} {w : World} {K : PySem.W.Frag} {mg mb : Str → Option Value} {k : Nat} {fa a c Pt : Addr} {fd : FuncData} {x : Str} {sp : Sp} {s₁ : Shared} {vs : List Value} {ns : List Int}
def hEnd (K : PySem.W.Frag) (Pt a : Addr) (vs : List Value) (ns : List Int) : Hp := fun b => if b = Pt then some (.tbl #[]) else if b = a ∧ K.lookup a = none then some (.frz { cls := .type "list", data := .seq vs.toArray } (.lst (ns.map V.int))) else none
theorem hEnd_t : hEnd K Pt a vs ns Pt = some (.tbl #[]) := if_pos rfl
theorem hEnd_cases {b : Addr} {u : HO} (h : hEnd K Pt a vs ns b = some u) : (b = Pt ∧ u = .tbl #[]) ∨ (b ≠ Pt ∧ b = a ∧ K.lookup a = none ∧ u = .frz { cls := .type "list", data := .seq vs.toArray } (.lst (ns.map V.int))) := by
  unfold hEnd at h
  by_cases h1 : b = Pt
  · rw [if_pos h1] at h
    exact .inl ⟨h1, (Option.some.inj h).symm⟩
  · rw [if_neg h1] at h
    by_cases h2 : b = a ∧ K.lookup a = none
    · rw [if_pos h2] at h
      exact .inr ⟨h1, h2.1, h2.2, (Option.some.inj h).symm⟩
    · rw [if_neg h2] at h
      cases h
theorem end_call (inK : K.In s₁.heap) (glob : s₁.heap.Ns mainGlobals mg) (blt : s₁.heap.Ns builtinsNs mb) (boot : ∀ x : Str, x ≠ "__name__" → mb x = bootBuiltins x) (lim : s₁.heap.NoLimit) (gens : s₁.gens = #[])
    (atT : s₁.heap.get? Pt = some { cls := .none, data := .fields #[] }) (noT : K.lookup Pt = none) (code : PySem.W.CodeHd s₁.heap c Pt)
    (bmod : ∃ (bm : Addr) (ob : Obj), mg "__builtins__" = some (.ref bm) ∧ bm ≠ builtinsNs ∧ s₁.heap.get? bm = some ob ∧ ob.cls = .type "module" ∧ ob.dict = some builtinsNs ∧ ob.data = .plain)
    (atA : s₁.heap.get? a = some { cls := .type "list", data := .seq vs.toArray }) (intsA : IntsAre vs ns) (short : ns.length ≤ sizeLine) (room : Room k callerA)
    (F : ∀ base : Heap, K.In base → base.Ns mainGlobals mg → LamX.TabB base mg c Pt → FnG P w K mg base k fa fd [x] sp) (bind : ∀ (s : Shared) (u : Value), BindsTo s fd ⟨[u], []⟩ [(x, u)])
    (want : ∀ H : Hp, H Pt = some (.tbl #[]) → Pt ≠ a → (∀ b u, H b = some u → b = Pt ∨ ∃ o xs, u = .frz o (.lst xs)) → SqL K H a (ns.map V.int) → sp [.ref a] H (fun v _ => v = .bl true) fun _ _ _ => False) :
    codeAny (model P w) callerA (.call (.ref fa) ⟨[.ref a], []⟩) (fun r s' => r = .ok (.ret (.bool true)) ∧ OldK s₁.heap s'.heap ∧ s'.os = s₁.os ∧ AllBare s'.gens) s₁ := by
  have vals := vals_ints intsA
  have lv := intsA.length
  have sep : Pt ≠ a := fun z => by
    rw [z, atA] at atT
    cases atT
  generalize eH : hEnd K Pt a vs ns = H
  have H_t : H Pt = some (.tbl #[]) := by rw [← eH]; exact hEnd_t
  have H_c : ∀ {b u}, H b = some u → (b = Pt ∧ u = .tbl #[]) ∨ (b ≠ Pt ∧ b = a ∧ K.lookup a = none ∧ u = .frz { cls := .type "list", data := .seq vs.toArray } (.lst (ns.map V.int))) := fun {b u} q => by
    rw [← eH] at q
    exact hEnd_cases q
  -- the script is read
  have script : SqL K H a (ns.map V.int) := by
    cases q : K.lookup a with
    | none =>
      refine .inl (.inr ⟨{ cls := .type "list", data := .seq vs.toArray }, ?_⟩)
      rw [← eH]
      unfold hEnd
      rw [if_neg (Ne.symm sep), if_pos ⟨rfl, q⟩]
    | some o =>
      have e := inK a o q
      rw [atA] at e
      cases e
      exact .inr ⟨_, vs.toArray, _, q, rfl, rfl, rfl, by rw [List.size_toArray, lv]; exact short, by simpa using vals⟩
  have good : HOk P w H s₁.heap := fun b u q => by
    rcases H_c q with ⟨rfl, rfl⟩ | ⟨_, rfl, _, rfl⟩
    · exact atT
    · exact ⟨atA, by rw [List.length_map]; exact short, vs, _, vals, atA⟩
  -- the ground: all that is not told by H
  have down : ∀ {b : Addr} {o : Obj}, s₁.heap.get? b = some o → H b = none → (hidT s₁.heap H).get? b = some o := fun e n => hidT_get e n
  have free : ∀ {b : Addr} {o : Obj}, s₁.heap.get? b = some o → (∀ us n, o.data ≠ .seq us n) → o.data ≠ .fields #[] → H b = none := fun {b o} e h1 h2 => by
    cases q : H b with
    | none => rfl
    | some u =>
      rcases H_c q with ⟨rfl, _⟩ | ⟨_, rfl, _, _⟩
      · rw [atT] at e
        cases e
        exact absurd rfl h2
      · rw [atA] at e
        cases e
        exact absurd rfl (h1 _ _)
  have dictFree : ∀ {b : Addr} {o : Obj} {es : Array DictEntry} {ep : Nat}, s₁.heap.get? b = some o → o.data = .dict es ep → H b = none := fun {b o es ep} e d => free e (fun us n z => by rw [d] at z; cases z) fun z => by rw [d] at z; cases z
  have nsDown : ∀ {b : Addr} {m : Str → Option Value}, s₁.heap.Ns b m → (hidT s₁.heap H).Ns b m := fun {b m} q => by
    obtain ⟨o, es, ep, e, d, r⟩ := q
    exact ⟨o, es, ep, down e (dictFree e d), d, r⟩
  have kDown : K.In (hidT s₁.heap H) := fun b o e => down (inK b o e) (by
    cases q : H b with
    | none => rfl
    | some u =>
      rcases H_c q with ⟨rfl, _⟩ | ⟨_, rfl, z, _⟩
      · rw [noT] at e
        cases e
      · rw [z] at e
        cases e)
  have modl : L2.Mod K mg (hidT s₁.heap H) := by
    obtain ⟨mc, l1, l2⟩ := lim
    exact ⟨kDown, nsDown glob, ⟨mb, nsDown blt, boot⟩, mc, nsDown l1, l2⟩
  have tabB : LamX.TabB (hidT s₁.heap H) mg c Pt := by
    refine ⟨?_, ?_, fun z => ?_⟩
    · obtain ⟨o, us, file, tf, flags, tg, inF, text, tt, e1, r1, r2, r3, r⟩ := code
      refine ⟨o, us, file, tf, flags, tg, inF, text, tt, down e1 (free e1 (fun us n z => ?_) fun z => ?_), r1, r2, r3, r⟩
      · rw [r2] at z
        cases z
      · rw [r2] at z
        cases z
        simp at r3
    · obtain ⟨bm, ob, b1, b2, b3, b4, b5, b6⟩ := bmod
      refine ⟨bm, ob, b1, b2, fun q => ?_, fun q => ?_, down b3 (free b3 (fun us n z => by rw [b6] at z; cases z) fun z => by rw [b6] at z; cases z), b4, b5, b6⟩
      · obtain ⟨o, es, ep, e, hd, _⟩ := glob
        rw [q, e] at b3
        cases b3
        rw [hd] at b6
        cases b6
      · rw [q, atT] at b3
        cases b3
        cases b6
    · obtain ⟨o, es, ep, e, hd, _⟩ := glob
      rw [z, atT] at e
      cases e
      cases hd
  have entry : Env0 P w K mg (hidT s₁.heap H) callerA [] s₁ H := ⟨rfl, modl, fun b o e => of_hidT e, Nat.le_of_eq (hidT_size _ _), trivial, fun b hb => (nomatch (show b ∈ ([] : List Addr) from hb)), good, .of_eq gens⟩
  refine codeAny_mono ((F _ kDown (nsDown glob) tabB).run callerA [] s₁ H ⟨[.ref a], []⟩ [.ref a] [.ref a] (fun v _ => v = .bl true) (fun _ _ _ => False) room rfl entry (bind s₁ (.ref a)) (.cons rfl .nil) (want H H_t sep (fun b u q => (H_c q).imp (·.1) fun z => ⟨_, _, z.2.2.2⟩) script)) fun r s' out => ?_
  cases r with
  | error e =>
    obtain ⟨_, _, _, _, _, _, _, _, _, _, _, _, z⟩ := out
    exact z.elim
  | ok fl =>
    cases fl with
    | next => exact False.elim out
    | brk => exact False.elim out
    | cont => exact False.elim out
    | ret u =>
      obtain ⟨v, H', osE, bareE, un, good', rel, q⟩ := out
      have q : v = .bl true := q
      subst q
      obtain rfl : u = Value.bool true := rel
      have same : ∀ b o, b ≠ Pt → s₁.heap.get? b = some o → s'.heap.get? b = some o := fun b o nb e => by
        cases q : H b with
        | none => exact un.keep b o e q (fun z => by cases z) (by simp)
        | some u =>
          rcases H_c q with ⟨z, _⟩ | ⟨_, rfl, _, rfl⟩
          · exact absurd z nb
          · obtain ⟨e1, _⟩ := good _ _ q
            obtain ⟨e2, _⟩ := good' _ _ (un.frzs _ _ _ q)
            rw [e] at e1
            cases e1
            exact e2
      obtain ⟨more, grownT⟩ := un.tbls Pt #[] H_t
      have atT' : s'.heap.get? Pt = some { cls := .none, data := .fields (#[] ++ more) } := good' Pt _ grownT
      refine ⟨rfl, ⟨fun b o e => ?_, fun b o e => ?_⟩, osE, bareE⟩
      · by_cases hb : b = Pt
        · subst hb
          rw [atT] at e
          cases e
          exact .inr (.inl ⟨(code.tab atT).isCodeTable, rfl, #[], more, rfl, atT'⟩)
        · exact .inl (same b o hb e)
      · by_cases hb : b = Pt
        · subst hb
          exact ⟨_, atT'⟩
        · exact ⟨o, same b o hb e⟩
def EndAt (l : PySem.W.OpenLaw) (w : World) (K : PySem.W.Frag) (k n : Nat) (x : Str) (mg : Str → Option Value) (fa : Addr) (h : Heap) : Prop :=
  ∃ (fd : FuncData) (c Pt : Addr) (sp : Sp), h.get? Pt = some { cls := .none, data := .fields #[] } ∧ K.lookup Pt = none ∧ PySem.W.CodeHd h c Pt ∧ (∀ (s : Shared) (u : Value), BindsTo s fd ⟨[u], []⟩ [(x, u)]) ∧
    (∀ (H : Hp) (a : Addr) (ns : List Int), ns.length ≤ n → (∀ z ∈ ns, Builtin.Int.intBits z ≤ 1048576) → H Pt = some (.tbl #[]) → Pt ≠ a → (∀ b u, H b = some u → b = Pt ∨ ∃ o xs, u = .frz o (.lst xs)) → SqL K H a (ns.map V.int) → sp [.ref a] H (fun v _ => v = .bl true) fun _ _ _ => False) ∧
    ∀ base : Heap, K.In base → base.Ns mainGlobals mg → LamX.TabB base mg c Pt → FnG l.prog w K mg base k fa fd [x] sp
theorem end_walk {l : PySem.W.OpenLaw} {n k : Nat} {q : Program} {loose : List Str} {XP : (Str → Option Value) → Heap → Prop} {YP : World → Heap → Prop} {d : DefRec} {K : Params → PySem.W.Frag} {x : Str}
    (most : l.most = some n) (few : n ≤ sizeLine) (nodef : d.params.defaults = []) (room : Room k callerA) (has : ∀ (w : World) (h : Heap), YP w h → (K w.params).In h)
    (F : ∀ (w : World) (mg : Str → Option Value) (fa : Addr) (h : Heap), YP w h → (K w.params).In h → h.Ns mainGlobals mg → mg d.name = some (.ref fa) → EndAt l w (K w.params) k n x mg fa h) :
    PySem.W.WalkO q loose XP YP l.row.toRowW d [] (fun f vs => PySem.call f vs) := by
  refine Att.attach_callB most nodef fun w s₀ s₁ mg mb fa o pm cd doc a vs ns G Y ho hd hcd hmg atA intsA len bits gens => ?_
  obtain ⟨fd, c, Pt, sp, atT, noT, code, bind, want, run⟩ := F w mg fa _ Y (has w _ Y) G.T.g hmg
  exact end_call (has w _ Y) G.T.g G.T.b G.T.builtins G.T.nolimit gens atT noT code G.T.bmain atA intsA (Nat.le_trans len few) room run bind fun H h1 h2 h3 h4 => want H a ns len bits h1 h2 h3 h4
end
section
variable {K : PySem.W.Frag} {ct : Ct} {H : Hp} {a Pt : Addr} {ns : List Int}
theorem law_spM {F : Fn} {q : Str} {ρ' : List Sl} (hF : F [.tab [(Pt, q)] (.scr ns)] = .ok (.sh (.bl true), ρ')) (h1 : H Pt = some (.tbl #[])) (h2 : Pt ≠ a) (h3 : ∀ b u, H b = some u → b = Pt ∨ ∃ o xs, u = .frz o (.lst xs)) (h4 : SqL K H a (ns.map V.int)) :
    spM K ct F [.ref a] H (fun v _ => v = .bl true) fun _ _ _ => False := by
  let B : Hp := fun b => if b = Pt then none else H b
  have bP : B Pt = none := if_pos rfl
  have bn : ∀ b, b ≠ Pt → B b = H b := fun b hb => if_neg hb
  have eB : Ex B H := fun b o q => by
    by_cases hb : b = Pt
    · rw [hb, bP] at q
      cases q
    · rw [bn b hb] at q
      exact q
  have pl : NoE B := fun b φ q => by
    by_cases hb : b = Pt
    · rw [hb, bP] at q
      cases q
    · rw [bn b hb] at q
      rcases h3 b _ q with z | ⟨o, xs, z⟩
      · exact hb z
      · cases z
  have sB : SqL K B a (ns.map V.int) := by
    rcases h4 with z | z
    · refine .inl ?_
      rcases z with z | ⟨o, z⟩
      · exact .inl (by rw [bn a (Ne.symm h2)]; exact z)
      · exact .inr ⟨o, by rw [bn a (Ne.symm h2)]; exact z⟩
    · exact .inr z
  refine ⟨B, [.tab [(Pt, q)] (.scr ns)], fun i => if i = 0 then [Pt] else [], ⟨rfl, eB, pl, fun i s e => ?_, fun i e => ?_, fun i j b e1 e2 => ?_, fun i b e => ?_⟩, ?_⟩
  · match i, e with
    | 0, e =>
      cases e
      refine ⟨⟨fun p hp => ?_, fun b hb => ?_⟩, .ref a, rfl, .scr sB⟩
      · have ep : p = (Pt, q) := List.mem_singleton.mp hp
        subst ep
        refine ⟨List.mem_singleton.mpr rfl, #[], h1, trivial, fun pos cv z => ?_⟩
        simp [codeAmong] at z
      · have eb : b = Pt := List.mem_singleton.mp hb
        rw [eb, h1]
        simp
  · match i, e with
    | i + 1, _ => rfl
  · match i, j, e1, e2 with
    | 0, 0, _, _ => rfl
    | _ + 1, _, e1, _ => exact (nomatch (show b ∈ ([] : List Addr) from e1))
    | 0, _ + 1, _, e2 => exact (nomatch (show b ∈ ([] : List Addr) from e2))
  · match i, e with
    | 0, e =>
      have eb : b = Pt := List.mem_singleton.mp e
      rw [eb]
      exact ⟨bP, by rw [h1]; simp⟩
    | _ + 1, e => exact (nomatch (show b ∈ ([] : List Addr) from e))
  · rw [hF]
    intro v B' H' f' g x
    obtain ⟨_, y, e1, e2⟩ := x.val
    cases e1
    cases e2
    rfl
def ctOf : List (String × Addr) → Ct
  | [], _ => 0
  | (n, a) :: r, s => if s = n then a else ctOf r s
theorem ct_hd {n : String} {r : List (String × Addr)} : ctOf ((n, a) :: r) n = a := if_pos rfl
theorem ct_tl {n m : String} {b : Addr} {r : List (String × Addr)} (h : m ≠ n) (e : ctOf r m = a) : ctOf ((n, b) :: r) m = a := (if_neg h).trans e
end
end DL
end
section
set_option maxRecDepth 100000
set_option maxHeartbeats 1000000
namespace DL
open PySem
theorem at0 {α : Type} (a b : α) : L2.atI [a, b] 0 = some a := rfl
theorem at1 {α : Type} (a b : α) : L2.atI [a, b] 1 = some b := rfl
theorem maskA1 (f : Nat → Bool) (ρ : DL.Env) : maskA f 1 ρ = [if f 0 = true then ρ[0]?.getD .emp else .emp] := rfl
theorem maskA2 (f : Nat → Bool) (ρ : DL.Env) : maskA f 2 ρ = [if f 0 = true then ρ[0]?.getD .emp else .emp, if f 1 = true then ρ[1]?.getD .emp else .emp] := rfl
theorem maskA3 (f : Nat → Bool) (ρ : DL.Env) : maskA f 3 ρ = [if f 0 = true then ρ[0]?.getD .emp else .emp, if f 1 = true then ρ[1]?.getD .emp else .emp, if f 2 = true then ρ[2]?.getD .emp else .emp] := rfl
theorem R_bind_ok {α β : Type} (a : α) (f : α → R β) : R.bind (.ok a) f = f a := Eq.trans rfl rfl
theorem R_bind_bad {α β : Type} (f : α → R β) : R.bind .bad f = .bad := Eq.trans rfl rfl
theorem R_bind_exc {α β : Type} (c : String) (p : Option (Str × Int)) (f : α → R β) : R.bind (.exc c p) f = .exc c p := Eq.trans rfl rfl
theorem rdO_some {α β : Type} (a : α) (f : α → R β) : rdO (some a) f = f a := Eq.trans rfl rfl
theorem rdO_none {α β : Type} (f : α → R β) : rdO none f = .bad := Eq.trans rfl rfl


theorem sz_0 : szOk 0 = true := by unfold szOk; simp
theorem sz_1 : szOk 1 = true := by unfold szOk; simp
theorem sz_2 : szOk 2 = true := by unfold szOk; simp
theorem sz_3 : szOk 3 = true := by unfold szOk; simp
theorem sz_4 : szOk 4 = true := by unfold szOk; simp
theorem sz_5 : szOk 5 = true := by unfold szOk; simp
theorem sz_6 : szOk 6 = true := by unfold szOk; simp
theorem sz_7 : szOk 7 = true := by unfold szOk; simp
theorem sz_8 : szOk 8 = true := by unfold szOk; simp
theorem gAdd_int (a b : Int) : gAdd (.int a) (.int b) = some (.sh (.int (a + b))) := by simp [gAdd, gInt, yes2]
theorem gSub_int (a b : Int) : gSub (.int a) (.int b) = some (.sh (.int (a - b))) := by simp [gSub, gInt, yes2]
theorem gAug_int (a b : Int) : gAugAdd (.int a) (.int b) = some (.sh (.int (a + b))) := by simp [gAugAdd, gInt, yes2]
def rng2C (i j : Int) (ρ : DL.Env) : R (List D × DL.Env) := if (smallI i && smallI j) = true then .ok ((List.range (j - i).toNat).map fun (k : Nat) => D.int (i + (k : Int)), ρ) else .bad
def rng1C (j : Int) (ρ : DL.Env) : R (List D × DL.Env) := if smallI j = true then .ok ((List.range j.toNat).map fun (i : Nat) => D.int (0 + (i : Int)), ρ) else .bad
def rngV : Option (List D) → DL.Env → R (List D × DL.Env)
  | some [.int i, .int j], ρ => rng2C i j ρ
  | _, _ => .bad
def rngU : Option (List D) → DL.Env → R (List D × DL.Env)
  | some [.int j], ρ => rng1C j ρ
  | _, _ => .bad
theorem rngV_ints (i j : Int) (ρ : DL.Env) : rngV (some [.int i, .int j]) ρ = rng2C i j ρ := by simp [rngV]
theorem rngU_ints (j : Int) (ρ : DL.Env) : rngU (some [.int j]) ρ = rng1C j ρ := by simp [rngU]
theorem xIRng2_eq (ma : MA) (ρ : DL.Env) : xIRng2 ma ρ = R.bind (ma ρ) fun a => rngV (rdvs a.2 a.1) a.2 := by
  unfold xIRng2
  congr 1
  funext a
  cases rdvs a.2 a.1 with
  | none => simp [rngV]
  | some l =>
    match l with
    | [] => simp [rngV]
    | [d] => cases d <;> simp [rngV]
    | [d, e] => cases d <;> cases e <;> simp [rngV, rng2C]
    | d :: e :: f :: r => cases d <;> cases e <;> simp [rngV]
theorem xIRng1_eq (ma : MA) (ρ : DL.Env) : xIRng1 ma ρ = R.bind (ma ρ) fun a => rngU (rdvs a.2 a.1) a.2 := by
  unfold xIRng1
  congr 1
  funext a
  cases rdvs a.2 a.1 with
  | none => simp [rngU]
  | some l =>
    match l with
    | [] => simp [rngU]
    | [d] => cases d <;> simp [rngU, rng1C]
    | d :: e :: r => cases d <;> cases e <;> simp [rngU]
theorem rng2C_ok {i j : Int} {ρ : DL.Env} (hi : smallI i = true) (hj : smallI j = true) : rng2C i j ρ = .ok ((List.range (j - i).toNat).map fun (k : Nat) => D.int (i + (k : Int)), ρ) := by
  unfold rng2C
  rw [hi, hj]
  rfl
theorem rng1C_ok {j : Int} {ρ : DL.Env} (hj : smallI j = true) : rng1C j ρ = .ok ((List.range j.toNat).map fun (i : Nat) => D.int (0 + (i : Int)), ρ) := by
  unfold rng1C
  rw [hj]
  rfl
theorem isi_tt (l : List D) : gIsi [.tup l, .ty "tuple"] = some (.sh (.bl true)) := by simp [gIsi, tyD, instO, instTab]
theorem isi_ss (l : Str) : gIsi [.str l, .ty "str"] = some (.sh (.bl true)) := by simp [gIsi, tyD, instO, instTab]
theorem lc_nil (mg : MG) (mt : MT) (me : MX) (vs : List Nat) (ρ : Env) (acc : List D) : lcLoop mg mt me vs [] ρ acc = .ok (acc, ρ) := by unfold lcLoop; exact Eq.trans rfl rfl
theorem gEq_int (a b : Int) : gEq (.int a) (.int b) = some (decide (a = b)) := by simp [gEq, eqS]
theorem gNe_int (a b : Int) : gNe (.int a) (.int b) = some (!decide (a = b)) := by simp [gNe, eqS]
theorem gLt_int (a b : Int) : gLt (.int a) (.int b) = some (decide (a < b)) := by simp [gLt, cmpI]
theorem gLe_int (a b : Int) : gLe (.int a) (.int b) = some (decide (a ≤ b)) := by simp [gLe, cmpI]
theorem gGt_int (a b : Int) : gGt (.int a) (.int b) = some (decide (b < a)) := by simp [gGt, cmpI]
theorem gGe_int (a b : Int) : gGe (.int a) (.int b) = some (decide (b ≤ a)) := by simp [gGe, cmpI]

theorem lc_pure {mg : MG} {me : MX} {vs : List Nat} {ρ : Env} {f : D → D} : ∀ {ds acc : List D}, (∀ d ∈ ds, ∃ ρ1 v ρ2 p, mg d ρ = some ρ1 ∧ me ρ1 = .ok (v, ρ2) ∧ share ρ2 v = some (f d, p) ∧ emps p vs = ρ) → acc.length + ds.length ≤ 1000000 →
    lcLoop mg xYes me vs ds ρ acc = .ok (acc ++ ds.map f, ρ)
  | [], acc, _, _ => by simp [lcLoop]
  | d :: ds, acc, h, hz => by
    obtain ⟨ρ1, v, ρ2, p, h1, h2, h3, h4⟩ := h d (by simp)
    have ih := lc_pure (acc := acc ++ [f d]) (fun e he => h e (List.mem_cons_of_mem _ he)) (by simp at hz ⊢; omega)
    have hz1 : szOk (acc.length + 1) = true := by
      unfold szOk
      simp at hz ⊢
      omega
    unfold lcLoop
    simp only [h1, rdO, xYes, R.noX, R.bind, h2, h3, hz1, h4, if_true]
    show lcLoop mg xYes me vs ds ρ (acc ++ [f d]) = _
    rw [ih]
    simp
theorem lc_test {mg : MG} {mt : MT} {me : MX} {vs : List Nat} {ρ : Env} {t : D → Bool} {f : D → D} : ∀ {ds acc : List D}, (∀ d ∈ ds, ∃ ρ1 ρ2, mg d ρ = some ρ1 ∧ mt ρ1 = .ok (t d, ρ2) ∧ emps ρ2 vs = ρ ∧ (t d = true → ∃ v ρ3 p, me ρ2 = .ok (v, ρ3) ∧ share ρ3 v = some (f d, p) ∧ emps p vs = ρ)) → acc.length + ds.length ≤ 1000000 →
    lcLoop mg mt me vs ds ρ acc = .ok (acc ++ (ds.filter t).map f, ρ)
  | [], acc, _, _ => by simp [lcLoop]
  | d :: ds, acc, h, hz => by
    obtain ⟨ρ1, ρ2, h1, h2, h5, h6⟩ := h d (by simp)
    unfold lcLoop
    simp only [h1, rdO, R.noX, R.bind, h2]
    cases ht : t d with
    | false =>
      simp only [Bool.false_eq_true, if_false]
      rw [h5, lc_test (fun e he => h e (List.mem_cons_of_mem _ he)) (by simp at hz ⊢; omega), List.filter_cons, ht]
      simp
    | true =>
      obtain ⟨v, ρ3, p, g1, g2, g3⟩ := h6 ht
      have hz1 : szOk (acc.length + 1) = true := by
        unfold szOk
        simp at hz ⊢
        omega
      simp only [if_true, g1, g2, hz1]
      rw [g3, lc_test (fun e he => h e (List.mem_cons_of_mem _ he)) (by simp at hz ⊢; omega), List.filter_cons, ht]
      simp
theorem lc_state {S : Type} {mg : MG} {me : MX} {vs : List Nat} {ρs : S → Env} {Inv : Nat → S → Prop} {Ok : D → D → Prop} : ∀ {ds acc : List D} {n : Nat} {s : S}, Inv n s →
    (∀ d ∈ ds, ∀ k s, n ≤ k → k < n + ds.length → Inv k s → ∃ ρ1 v ρ2 x p s', mg d (ρs s) = some ρ1 ∧ me ρ1 = .ok (v, ρ2) ∧ share ρ2 v = some (x, p) ∧ emps p vs = ρs s' ∧ Inv (k + 1) s' ∧ Ok d x) → acc.length + ds.length ≤ 1000000 →
    ∃ out s', lcLoop mg xYes me vs ds (ρs s) acc = .ok (acc ++ out, ρs s') ∧ Inv (n + ds.length) s' ∧ out.length = ds.length ∧ ∀ (i : Nat) (d x : D), ds[i]? = some d → out[i]? = some x → Ok d x
  | [], acc, n, s, hI, _, _ => ⟨[], s, by simp [lcLoop], hI, rfl, fun i d x e => by simp at e⟩
  | d :: ds, acc, n, s, hI, h, hz => by
    obtain ⟨ρ1, v, ρ2, x, p, s1, h1, h2, h3, h4, h5, h6⟩ := h d (by simp) n s (Nat.le_refl _) (by simp) hI
    have hz1 : szOk (acc.length + 1) = true := by
      unfold szOk
      simp at hz ⊢
      omega
    obtain ⟨out, s2, g1, g2, g3, g4⟩ := lc_state (ds := ds) (acc := acc ++ [x]) (n := n + 1) (s := s1) h5 (fun e he k s hk hk2 => h e (List.mem_cons_of_mem _ he) k s (by omega) (by simp; omega)) (by simp at hz ⊢; omega)
    refine ⟨x :: out, s2, ?_, by rw [List.length_cons]; rw [show n + (ds.length + 1) = n + 1 + ds.length by omega]; exact g2, by simp [g3], fun i e y ei ey => ?_⟩
    · unfold lcLoop
      simp only [h1, rdO, xYes, R.noX, R.bind, h2, h3, hz1, h4, if_true]
      show lcLoop mg xYes me vs ds (ρs s1) (acc ++ [x]) = _
      rw [g1]
      simp
    · cases i with
      | zero =>
        simp at ei ey
        subst ei ey
        exact h6
      | succ i => exact g4 i e y (by simpa using ei) (by simpa using ey)
theorem for_inv {mg : MG} {mb : MS} {Inv : Nat → Env → Prop} : ∀ {ds : List D} {n : Nat} {ρ : Env}, Inv n ρ → (∀ (i : Nat) (d : D) (ρ : Env), ds[i]? = some d → Inv (n + i) ρ → ∃ ρ1 ρ2, mg d ρ = some ρ1 ∧ mb ρ1 = .ok (.nx ρ2) ∧ Inv (n + i + 1) ρ2) →
    ∃ ρ', forLoop mg mb ds ρ = .ok (.nx ρ') ∧ Inv (n + ds.length) ρ'
  | [], n, ρ, h, _ => ⟨ρ, by simp [forLoop], h⟩
  | d :: ds, n, ρ, h, hs => by
    obtain ⟨ρ1, ρ2, h1, h2, h3⟩ := hs 0 d ρ rfl h
    obtain ⟨ρ', g1, g2⟩ := for_inv (ds := ds) (n := n + 1) (ρ := ρ2) h3 (fun i e ρ ei hi => by
      obtain ⟨a, b, k1, k2, k3⟩ := hs (i + 1) e ρ (by simpa using ei) (by rw [show n + (i + 1) = n + 1 + i by omega]; exact hi)
      exact ⟨a, b, k1, k2, by rw [show n + 1 + i + 1 = n + (i + 1) + 1 by omega]; exact k3⟩)
    refine ⟨ρ', ?_, by rw [List.length_cons, show n + (ds.length + 1) = n + 1 + ds.length by omega]; exact g2⟩
    unfold forLoop
    simp only [h1, rdO_some, rdO_none, R_bind_ok, R_bind_bad, R_bind_exc, h2]
    exact g1
theorem for_inv0 {mg : MG} {mb : MS} {ds : List D} {ρ : Env} (Inv : Nat → Env → Prop) (h : Inv 0 ρ) (hs : ∀ (i : Nat) (d : D) (ρ : Env), ds[i]? = some d → Inv i ρ → ∃ ρ1 ρ2, mg d ρ = some ρ1 ∧ mb ρ1 = .ok (.nx ρ2) ∧ Inv (i + 1) ρ2) :
    ∃ ρ', forLoop mg mb ds ρ = .ok (.nx ρ') ∧ Inv ds.length ρ' := by
  obtain ⟨ρ', h1, h2⟩ := for_inv (mg := mg) (mb := mb) (ds := ds) (n := 0) (Inv := Inv) h fun i d ρ hd hi => by
    rw [Nat.zero_add] at hi ⊢
    exact hs i d ρ hd hi
  exact ⟨ρ', h1, by rwa [Nat.zero_add] at h2⟩
end DL
end
section
set_option maxRecDepth 100000
set_option maxHeartbeats 2000000
namespace K82
open PySem PySem.Spec PyProof.Rows L2 DL
def topS (i : Nat) : Stmt := PySem.Challenge.pw_samewriting_k82_whole_how_many_trees_of.main.body.getD i (.Pass ⟨0, 0, 0, 0⟩)

abbrev s_is_name : Stmt := topS 8
abbrev s_is_number : Stmt := topS 12
abbrev s_is_kind : Stmt := topS 13
abbrev s_is_kinds : Stmt := topS 14
abbrev s_need_kinds : Stmt := topS 15
abbrev s_rows_of : Stmt := topS 17
abbrev s_counts_to : Stmt := topS 16
abbrev s_count : Stmt := topS 18
abbrev s_tuples_of : Stmt := topS 22
abbrev s_are_states : Stmt := topS 23
abbrev s_tuples_number : Stmt := topS 25
abbrev s_is_row : Stmt := topS 24
abbrev s_goals_of : Stmt := topS 26
abbrev s_is_set : Stmt := topS 27
abbrev s_need_set : Stmt := topS 28
abbrev s_rows_in : Stmt := topS 30
abbrev s_number_in : Stmt := topS 29
abbrev s__law_begun : Stmt := topS 32
abbrev s__law_mixed : Stmt := topS 33
abbrev s__law_take : Stmt := topS 34
abbrev s__law_pick : Stmt := topS 35
abbrev s__law_shuffled : Stmt := topS 36
abbrev s__law_names : Stmt := topS 38
abbrev s__law_all_of : Stmt := topS 39
abbrev s__law_counts : Stmt := topS 40
abbrev s__law_caught : Stmt := topS 37
abbrev s_law : Stmt := topS 41
structure Tx (K : PySem.W.Frag) (mg : Str → Option Value) where
  ct : Ct
  b_abs : mg "abs" = none
  b_all : mg "all" = none
  b_any : mg "any" = none
  b_bool : mg "bool" = none
  b_int : mg "int" = none
  b_isinstance : mg "isinstance" = none
  b_len : mg "len" = none
  b_list : mg "list" = none
  b_min : mg "min" = none
  b_range : mg "range" = none
  b_repr : mg "repr" = none
  b_sorted : mg "sorted" = none
  b_str : mg "str" = none
  b_sum : mg "sum" = none
  b_tuple : mg "tuple" = none
  b_zip : mg "zip" = none
  a_KEPT : Addr
  g_KEPT : mg "KEPT" = some (.ref a_KEPT)
  d_KEPT : ∀ B, DV K B (.ref a_KEPT) (.tup [(.str "call"), (.str "else"), (.str "end"), (.str "for"), (.str "if"), (.str "in"), (.str "on"), (.str "use"), (.str "with")])
  t_MOST_GOALS : Tok
  k_MOST_GOALS : mg "MOST_GOALS" = some (.int 4000 t_MOST_GOALS)
  t_MOST_KINDS : Tok
  k_MOST_KINDS : mg "MOST_KINDS" = some (.int 6 t_MOST_KINDS)
  t_MOST_LETTERS : Tok
  k_MOST_LETTERS : mg "MOST_LETTERS" = some (.int 8 t_MOST_LETTERS)
  t_MOST_RANK : Tok
  k_MOST_RANK : mg "MOST_RANK" = some (.int 3 t_MOST_RANK)
  t_MOST_STATES : Tok
  k_MOST_STATES : mg "MOST_STATES" = some (.int 60 t_MOST_STATES)
  g_BadKinds : mg "BadKinds" = some (.ref (ct "BadKinds"))
  x_BadKinds : PySem.W.excIn K (ct "BadKinds") [.type "ValueError", .type "Exception", .type "BaseException", .type "object"] "ValueError.__new__" = true
  k_BadKinds : PySem.W.keepIn K (.ref (ct "BadKinds")) = true
  e_BadKinds : PySem.W.subIn K (.ref (ct "BadKinds")) (.type "BaseException") = some true
  t_BadKinds : PySem.W.typeIn K (.ref (ct "BadKinds")) = some (.type "type")
  w_BadNumber : IsaOk K ct (ct "WritingError") (ct "BadNumber") (isaOf "BadNumber")
  g_BadNumber : mg "BadNumber" = some (.ref (ct "BadNumber"))
  x_BadNumber : PySem.W.excIn K (ct "BadNumber") [.type "ValueError", .type "Exception", .type "BaseException", .type "object"] "ValueError.__new__" = true
  k_BadNumber : PySem.W.keepIn K (.ref (ct "BadNumber")) = true
  e_BadNumber : PySem.W.subIn K (.ref (ct "BadNumber")) (.type "BaseException") = some true
  t_BadNumber : PySem.W.typeIn K (.ref (ct "BadNumber")) = some (.type "type")
  g_BadSet : mg "BadSet" = some (.ref (ct "BadSet"))
  x_BadSet : PySem.W.excIn K (ct "BadSet") [.type "ValueError", .type "Exception", .type "BaseException", .type "object"] "ValueError.__new__" = true
  k_BadSet : PySem.W.keepIn K (.ref (ct "BadSet")) = true
  e_BadSet : PySem.W.subIn K (.ref (ct "BadSet")) (.type "BaseException") = some true
  t_BadSet : PySem.W.typeIn K (.ref (ct "BadSet")) = some (.type "type")
  g_WritingError : mg "WritingError" = some (.ref (ct "WritingError"))
  a_is_name : Addr
  fd_is_name : FuncData
  f_is_name : Fun K "is_name" "is_name" s_is_name a_is_name fd_is_name
  g_is_name : mg "is_name" = some (.ref a_is_name)
  bi_is_name : Binds K fd_is_name ["thing"] []
  a_is_number : Addr
  fd_is_number : FuncData
  f_is_number : Fun K "is_number" "is_number" s_is_number a_is_number fd_is_number
  g_is_number : mg "is_number" = some (.ref a_is_number)
  bi_is_number : Binds K fd_is_number ["thing", "end"] []
  a_is_kind : Addr
  fd_is_kind : FuncData
  f_is_kind : Fun K "is_kind" "is_kind" s_is_kind a_is_kind fd_is_kind
  g_is_kind : mg "is_kind" = some (.ref a_is_kind)
  bi_is_kind : Binds K fd_is_kind ["thing"] []
  a_is_kinds : Addr
  fd_is_kinds : FuncData
  f_is_kinds : Fun K "is_kinds" "is_kinds" s_is_kinds a_is_kinds fd_is_kinds
  g_is_kinds : mg "is_kinds" = some (.ref a_is_kinds)
  bi_is_kinds : Binds K fd_is_kinds ["thing"] []
  a_need_kinds : Addr
  fd_need_kinds : FuncData
  f_need_kinds : Fun K "need_kinds" "need_kinds" s_need_kinds a_need_kinds fd_need_kinds
  g_need_kinds : mg "need_kinds" = some (.ref a_need_kinds)
  bi_need_kinds : Binds K fd_need_kinds ["kinds"] []
  a_rows_of : Addr
  fd_rows_of : FuncData
  f_rows_of : Fun K "rows_of" "rows_of" s_rows_of a_rows_of fd_rows_of
  g_rows_of : mg "rows_of" = some (.ref a_rows_of)
  bi_rows_of : Binds K fd_rows_of ["counts", "total", "rank"] []
  a_counts_to : Addr
  fd_counts_to : FuncData
  f_counts_to : Fun K "counts_to" "counts_to" s_counts_to a_counts_to fd_counts_to
  g_counts_to : mg "counts_to" = some (.ref a_counts_to)
  bi_counts_to : Binds K fd_counts_to ["kinds", "many"] []
  a_count : Addr
  fd_count : FuncData
  f_count : Fun K "count" "count" s_count a_count fd_count
  g_count : mg "count" = some (.ref a_count)
  bi_count : Binds K fd_count ["kinds", "many"] []
  a_tuples_of : Addr
  fd_tuples_of : FuncData
  f_tuples_of : Fun K "tuples_of" "tuples_of" s_tuples_of a_tuples_of fd_tuples_of
  g_tuples_of : mg "tuples_of" = some (.ref a_tuples_of)
  bi_tuples_of : Binds K fd_tuples_of ["many", "rank"] []
  a_are_states : Addr
  fd_are_states : FuncData
  f_are_states : Fun K "are_states" "are_states" s_are_states a_are_states fd_are_states
  g_are_states : mg "are_states" = some (.ref a_are_states)
  bi_are_states : Binds K fd_are_states ["thing", "many"] []
  a_tuples_number : Addr
  fd_tuples_number : FuncData
  f_tuples_number : Fun K "tuples_number" "tuples_number" s_tuples_number a_tuples_number fd_tuples_number
  g_tuples_number : mg "tuples_number" = some (.ref a_tuples_number)
  bi_tuples_number : Binds K fd_tuples_number ["many", "rank"] []
  a_is_row : Addr
  fd_is_row : FuncData
  f_is_row : Fun K "is_row" "is_row" s_is_row a_is_row fd_is_row
  g_is_row : mg "is_row" = some (.ref a_is_row)
  bi_is_row : Binds K fd_is_row ["thing", "many", "rank"] []
  a_goals_of : Addr
  fd_goals_of : FuncData
  f_goals_of : Fun K "goals_of" "goals_of" s_goals_of a_goals_of fd_goals_of
  g_goals_of : mg "goals_of" = some (.ref a_goals_of)
  bi_goals_of : Binds K fd_goals_of ["kinds", "many"] []
  a_is_set : Addr
  fd_is_set : FuncData
  f_is_set : Fun K "is_set" "is_set" s_is_set a_is_set fd_is_set
  g_is_set : mg "is_set" = some (.ref a_is_set)
  bi_is_set : Binds K fd_is_set ["thing"] []
  a_need_set : Addr
  fd_need_set : FuncData
  f_need_set : Fun K "need_set" "need_set" s_need_set a_need_set fd_need_set
  g_need_set : mg "need_set" = some (.ref a_need_set)
  bi_need_set : Binds K fd_need_set ["trees"] []
  a_rows_in : Addr
  fd_rows_in : FuncData
  f_rows_in : Fun K "rows_in" "rows_in" s_rows_in a_rows_in fd_rows_in
  g_rows_in : mg "rows_in" = some (.ref a_rows_in)
  bi_rows_in : Binds K fd_rows_in ["lists", "total"] []
  a_number_in : Addr
  fd_number_in : FuncData
  f_number_in : Fun K "number_in" "number_in" s_number_in a_number_in fd_number_in
  g_number_in : mg "number_in" = some (.ref a_number_in)
  bi_number_in : Binds K fd_number_in ["trees", "many"] []
  a__law_begun : Addr
  fd__law_begun : FuncData
  f__law_begun : Fun K "_law_begun" "_law_begun" s__law_begun a__law_begun fd__law_begun
  g__law_begun : mg "_law_begun" = some (.ref a__law_begun)
  bi__law_begun : Binds K fd__law_begun ["script"] []
  a__law_mixed : Addr
  fd__law_mixed : FuncData
  f__law_mixed : Fun K "_law_mixed" "_law_mixed" s__law_mixed a__law_mixed fd__law_mixed
  g__law_mixed : mg "_law_mixed" = some (.ref a__law_mixed)
  bi__law_mixed : Binds K fd__law_mixed ["draw"] []
  a__law_take : Addr
  fd__law_take : FuncData
  f__law_take : Fun K "_law_take" "_law_take" s__law_take a__law_take fd__law_take
  g__law_take : mg "_law_take" = some (.ref a__law_take)
  bi__law_take : Binds K fd__law_take ["draw", "many"] []
  a__law_pick : Addr
  fd__law_pick : FuncData
  f__law_pick : Fun K "_law_pick" "_law_pick" s__law_pick a__law_pick fd__law_pick
  g__law_pick : mg "_law_pick" = some (.ref a__law_pick)
  bi__law_pick : Binds K fd__law_pick ["draw", "some"] []
  a__law_shuffled : Addr
  fd__law_shuffled : FuncData
  f__law_shuffled : Fun K "_law_shuffled" "_law_shuffled" s__law_shuffled a__law_shuffled fd__law_shuffled
  g__law_shuffled : mg "_law_shuffled" = some (.ref a__law_shuffled)
  bi__law_shuffled : Binds K fd__law_shuffled ["draw", "some"] []
  a__law_names : Addr
  fd__law_names : FuncData
  f__law_names : Fun K "_law_names" "_law_names" s__law_names a__law_names fd__law_names
  g__law_names : mg "_law_names" = some (.ref a__law_names)
  bi__law_names : Binds K fd__law_names ["draw", "many"] []
  a__law_all_of : Addr
  fd__law_all_of : FuncData
  f__law_all_of : Fun K "_law_all_of" "_law_all_of" s__law_all_of a__law_all_of fd__law_all_of
  g__law_all_of : mg "_law_all_of" = some (.ref a__law_all_of)
  bi__law_all_of : Binds K fd__law_all_of ["kinds"] []
  a__law_counts : Addr
  fd__law_counts : FuncData
  f__law_counts : Fun K "_law_counts" "_law_counts" s__law_counts a__law_counts fd__law_counts
  g__law_counts : mg "_law_counts" = some (.ref a__law_counts)
  bi__law_counts : Binds K fd__law_counts ["kinds", "most"] []
  a__law_caught : Addr
  fd__law_caught : FuncData
  f__law_caught : Fun K "_law_caught" "_law_caught" s__law_caught a__law_caught fd__law_caught
  g__law_caught : mg "_law_caught" = some (.ref a__law_caught)
  bi__law_caught : Binds K fd__law_caught ["work"] []
  a_law : Addr
  fd_law : FuncData
  f_law : Fun K "law" "law" s_law a_law fd_law
  g_law : mg "law" = some (.ref a_law)
  bi_law : Binds K fd_law ["script"] []
  kb_count_0_many_kinds : BindsK K fd_count ["kinds", "many"] 0 ["many", "kinds"] [1, 0]
variable {P : Program} {w : World} {K : PySem.W.Frag} {mg : Str → Option Value} {base : Heap}
theorem sc_is_name : FnScope ["thing", "sign"] ["thing"] (defScope s_is_name) := ⟨rfl, rfl, rfl, by decide +kernel, rfl, by decide +kernel, by decide +kernel⟩
def e_is_name_1 : MX := (xChain gLe gLe (xC (.str "a")) (xVar 1) (xC (.str "z")))
def x_is_name_1 : MX := (xLc (xISeq (xVar 0)) (mName 1) xYes e_is_name_1 [1])
def m_is_name : MS := (sSeq (sIf (xOr (xNot (xTru (xCB gIsi (aCons (xVar 0) (aCons (xC (.ty "str")) aNil))))) (xOr (xNot (xTest (xChain gLe gLe (xC (.int 1)) (xCB gLen (aCons (xVar 0) aNil)) (xC (.int 8))))) (xTest (xOp (blR (gIn false)) (xVar 0) (xC (.tup [(.str "call"), (.str "else"), (.str "end"), (.str "for"), (.str "if"), (.str "in"), (.str "on"), (.str "use"), (.str "with")])))))) (sRet (xC (.bl false))) sNext) (sRet (xCB gAll (aCons x_is_name_1 aNil))))
def F_is_name : Fn := runF (fun i => decide (i ∈ ([0] : List Nat))) 1 1 m_is_name
theorem ok_is_name (T : Tx K mg) : FnOk P w K mg base (L2.CX P w) 1 T.a_is_name T.fd_is_name ["thing"] (spM K T.ct F_is_name) := by
  refine T.f_is_name.okX sc_is_name (fun vs H Q E h => sp_len runF_len h) (fun cdv A outer s H vs Q E hr h => ?_)
  have I : ImpS K T.ct E (fun i => decide (i ∈ ([0] : List Nat))) _ m_is_name := (is_seq (is_if (it_or (it_not (it_tru (im_cb gc_isi (ia_cons (im_var (i := 0)) (ia_cons im_ty ia_nil))))) (it_or (it_not (it_test (im_chain ci_le ci_le im_int (im_cb gc_len (ia_cons (im_var (i := 0)) ia_nil)) im_int))) (it_test (im_op (CmpI.op ci_in) (im_var (i := 0)) (im_c fun B => T.d_KEPT B))))) (is_ret im_bl) is_next) (is_ret (im_cb gc_all (ia_cons (im_lc (vs := [1]) (ii_seq (im_var (i := 0))) (ig_name (i := 1)) it_yes (im_chain ci_le ci_le im_str (im_var (i := 1)) im_str) (by decide)) ia_nil))))
  exact ⟨_, (pss_cons (ps_if (PW.pt (pw_or (pt_not (pt_truth (pe_callB call_isi (by rfl) T.b_isinstance (by decide +kernel) (pa_cons (pv 0) (pa_cons (pe_bltn (v := .ty "str") (by rfl) T.b_str (by decide +kernel) rfl) pa_nil))) (by intro _; rfl))) (pw_or (pt_not (pt_chain op_les op_les pe_int (pe_callB call_len (by rfl) T.b_len (by decide +kernel) (pa_cons (pv 0) pa_nil)) (pe_glob (v := (.int 8)) rfl T.k_MOST_LETTERS ⟨_, rfl⟩))) (pw_or1 (pt_cmpR op_in_seq (pv 0) (pe_glob (v := .ref T.a_KEPT) rfl T.g_KEPT rfl) (by rfl)))))) (pss_one (ps_ret pe_bl)) pss_nil) (pss_one (ps_ret (pe_callB (cr_all rfl) (by rfl) T.b_all (by decide +kernel) (pa_cons (pe_lc (own := [("sign", 1)]) rfl sc_is_name.nd (pi_seq (pv 0)) (blkOk_by (N := ["thing", "sign"]) (sc := defScope s_is_name) (by first | decide +kernel | rfl)) (fun _ _ _ _ _ => (pg_name (i := 1) sc_is_name.nd rfl (by first | exact Or.inl rfl | exact Or.inr rfl))) (fun _ _ _ _ _ => pts_nil) (fun _ _ _ _ _ => (pe_chain op_les op_les pe_str (pv 1) pe_str))) pa_nil))))), fn_body (np := 1) (nl := 1) I rfl h⟩
theorem sc_is_number : FnScope ["thing", "end"] ["thing", "end"] (defScope s_is_number) := ⟨rfl, rfl, rfl, by decide +kernel, rfl, by decide +kernel, by decide +kernel⟩
def m_is_number : MS := (sRet (xAndV (xCB gIsi (aCons (xVar 0) (aCons (xC (.ty "int")) aNil))) (xAndV (xNotV (xCB gIsi (aCons (xVar 0) (aCons (xC (.ty "bool")) aNil)))) (xChain gLe gLt (xC (.int 0)) (xVar 0) (xVar 1)))))
def F_is_number : Fn := runF (fun i => decide (i ∈ ([0, 1] : List Nat))) 2 0 m_is_number
theorem ok_is_number (T : Tx K mg) : FnOk P w K mg base (L2.CX P w) 1 T.a_is_number T.fd_is_number ["thing", "end"] (spM K T.ct F_is_number) := by
  refine T.f_is_number.okX sc_is_number (fun vs H Q E h => sp_len runF_len h) (fun cdv A outer s H vs Q E hr h => ?_)
  have I : ImpS K T.ct E (fun i => decide (i ∈ ([0, 1] : List Nat))) _ m_is_number := (is_ret (im_andV (im_cb gc_isi (ia_cons (im_var (i := 0)) (ia_cons im_ty ia_nil))) (im_andV (im_notV (im_cb gc_isi (ia_cons (im_var (i := 0)) (ia_cons im_ty ia_nil)))) (im_chain ci_le ci_lt im_int (im_var (i := 0)) (im_var (i := 1))))))
  exact ⟨_, (pss_one (ps_ret (pe_and (pe_callB call_isi (by rfl) T.b_isinstance (by decide +kernel) (pa_cons (pv 0) (pa_cons (pe_bltn (v := .ty "int") (by rfl) T.b_int (by decide +kernel) rfl) pa_nil))) (pe_and (pe_not (pe_callB call_isi (by rfl) T.b_isinstance (by decide +kernel) (pa_cons (pv 0) (pa_cons (pe_bltn (v := .ty "bool") (by rfl) T.b_bool (by decide +kernel) rfl) pa_nil)))) (pe_one (pe_chain op_les op_lts pe_int (pv 0) (pv 1))))))), fn_body (np := 2) (nl := 0) I rfl h⟩
theorem sc_is_kind : FnScope ["thing"] ["thing"] (defScope s_is_kind) := ⟨rfl, rfl, rfl, by decide +kernel, rfl, by decide +kernel, by decide +kernel⟩
def m_is_kind : MS := (sSeq (sIf (xOr (xNot (xTru (xCB gIsi (aCons (xVar 0) (aCons (xC (.ty "tuple")) aNil))))) (xTest (xOp (blR gNe) (xCB gLen (aCons (xVar 0) aNil)) (xC (.int 2))))) (sRet (xC (.bl false))) sNext) (sRet (xAndV (xCall [false] F_is_name (aCons (xOp gIx (xVar 0) (xC (.int 0))) aNil)) (xCall [false, false] F_is_number (aCons (xOp gIx (xVar 0) (xC (.int 1))) (aCons (xOp gAdd (xC (.int 3)) (xC (.int 1))) aNil))))))
def F_is_kind : Fn := runF (fun i => decide (i ∈ ([0] : List Nat))) 1 0 m_is_kind
theorem ok_is_kind (T : Tx K mg) : FnOk P w K mg base (L2.CX P w) 2 T.a_is_kind T.fd_is_kind ["thing"] (spM K T.ct F_is_kind) := by
  refine T.f_is_kind.okX sc_is_kind (fun vs H Q E h => sp_len runF_len h) (fun cdv A outer s H vs Q E hr h => ?_)
  have I : ImpS K T.ct E (fun i => decide (i ∈ ([0] : List Nat))) _ m_is_kind := (is_seq (is_if (it_or (it_not (it_tru (im_cb gc_isi (ia_cons (im_var (i := 0)) (ia_cons im_ty ia_nil))))) (it_test (im_op (CmpI.op ci_ne) (im_cb gc_len (ia_cons (im_var (i := 0)) ia_nil)) im_int))) (is_ret im_bl) is_next) (is_ret (im_andV (im_call (bs := [false]) (ia_cons (im_op gi_ix (im_var (i := 0)) im_int) ia_nil)) (im_call (bs := [false, false]) (ia_cons (im_op gi_ix (im_var (i := 0)) im_int) (ia_cons (im_op gi_add im_int im_int) ia_nil))))))
  exact ⟨_, (pss_cons (ps_if (PW.pt (pw_or (pt_not (pt_truth (pe_callB call_isi (by rfl) T.b_isinstance (by decide +kernel) (pa_cons (pv 0) (pa_cons (pe_bltn (v := .ty "tuple") (by rfl) T.b_tuple (by decide +kernel) rfl) pa_nil))) (by intro _; rfl))) (pw_or1 (pt_cmpR (op_nes hr.units) (pe_callB call_len (by rfl) T.b_len (by decide +kernel) (pa_cons (pv 0) pa_nil)) pe_int (nomark _))))) (pss_one (ps_ret pe_bl)) pss_nil) (pss_one (ps_ret (pe_and (pe_fn (CanC.ok (ok_is_name T) (hr.mono (by decide)) hxE) (by rfl) T.g_is_name T.f_is_name.kp T.bi_is_name (pa_cons (pe_ix ix_seq (pv 0) pe_int (fun _ _ => rfl)) pa_nil)) (pe_one (pe_fn (CanC.ok (ok_is_number T) (hr.mono (by decide)) hxE) (by rfl) T.g_is_number T.f_is_number.kp T.bi_is_number (pa_cons (pe_ix ix_seq (pv 0) pe_int (fun _ _ => rfl)) (pa_cons (pe_op op_adds (pe_glob (v := (.int 3)) rfl T.k_MOST_RANK ⟨_, rfl⟩) pe_int) pa_nil)))))))), fn_body (np := 1) (nl := 0) I rfl h⟩
theorem sc_is_kinds : FnScope ["thing", "pair", "one", "other", "name", "rank"] ["thing"] (defScope s_is_kinds) := ⟨rfl, rfl, rfl, by decide +kernel, rfl, by decide +kernel, by decide +kernel⟩
def e_is_kinds_1 : MX := (xCall [false] F_is_kind (aCons (xVar 1) aNil))
def x_is_kinds_1 : MX := (xLc (xISeq (xVar 0)) (mName 1) xYes e_is_kinds_1 [1])
def e_is_kinds_2 : MX := (xOp (blR gLt) (xOp gIx (xVar 2) (xC (.int 0))) (xOp gIx (xVar 3) (xC (.int 0))))
def x_is_kinds_2 : MX := (xLc (xIZip (aCons (xVar 0) (aCons (xSl gSl (xVar 0) (oPart (xC (.int 1))) oNone) aNil))) (mTup 2 (mgCons (mName 2) (mgCons (mName 3) mgNil))) xYes e_is_kinds_2 [2, 3])
def e_is_kinds_3 : MX := (xOp (blR gEq) (xVar 5) (xC (.int 0)))
def x_is_kinds_3 : MX := (xLc (xISeq (xVar 0)) (mTup 2 (mgCons (mName 4) (mgCons (mName 5) mgNil))) xYes e_is_kinds_3 [4, 5])
def m_is_kinds : MS := (sSeq (sIf (xOr (xNot (xTru (xCB gIsi (aCons (xVar 0) (aCons (xC (.ty "tuple")) aNil))))) (xOr (xNot (xTest (xChain gLe gLe (xC (.int 1)) (xCB gLen (aCons (xVar 0) aNil)) (xC (.int 6))))) (xNot (xTru (xCB gAll (aCons x_is_kinds_1 aNil)))))) (sRet (xC (.bl false))) sNext) (sSeq (sIf (xNot (xTru (xCB gAll (aCons x_is_kinds_2 aNil)))) (sRet (xC (.bl false))) sNext) (sRet (xCB gAny (aCons x_is_kinds_3 aNil)))))
def F_is_kinds : Fn := runF (fun i => decide (i ∈ ([0] : List Nat))) 1 5 m_is_kinds
theorem ok_is_kinds (T : Tx K mg) : FnOk P w K mg base (L2.CX P w) 3 T.a_is_kinds T.fd_is_kinds ["thing"] (spM K T.ct F_is_kinds) := by
  refine T.f_is_kinds.okX sc_is_kinds (fun vs H Q E h => sp_len runF_len h) (fun cdv A outer s H vs Q E hr h => ?_)
  have I : ImpS K T.ct E (fun i => decide (i ∈ ([0] : List Nat))) _ m_is_kinds := (is_seq (is_if (it_or (it_not (it_tru (im_cb gc_isi (ia_cons (im_var (i := 0)) (ia_cons im_ty ia_nil))))) (it_or (it_not (it_test (im_chain ci_le ci_le im_int (im_cb gc_len (ia_cons (im_var (i := 0)) ia_nil)) im_int))) (it_not (it_tru (im_cb gc_all (ia_cons (im_lc (vs := [1]) (ii_seq (im_var (i := 0))) (ig_name (i := 1)) it_yes (im_call (bs := [false]) (ia_cons (im_var (i := 1)) ia_nil)) (by decide)) ia_nil)))))) (is_ret im_bl) is_next) (is_seq (is_if (it_not (it_tru (im_cb gc_all (ia_cons (im_lc (vs := [2, 3]) (ii_zip (ia_cons (im_var (i := 0)) (ia_cons (im_sl si_all (im_var (i := 0)) (io_part im_int) io_none) ia_nil))) (ig_tup (igs_cons (ig_name (i := 2)) (igs_cons (ig_name (i := 3)) igs_nil))) it_yes (im_op (CmpI.op ci_lt) (im_op gi_ix (im_var (i := 2)) im_int) (im_op gi_ix (im_var (i := 3)) im_int)) (by decide)) ia_nil)))) (is_ret im_bl) is_next) (is_ret (im_cb gc_any (ia_cons (im_lc (vs := [4, 5]) (ii_seq (im_var (i := 0))) (ig_tup (igs_cons (ig_name (i := 4)) (igs_cons (ig_name (i := 5)) igs_nil))) it_yes (im_op (CmpI.op ci_eq) (im_var (i := 5)) im_int) (by decide)) ia_nil)))))
  exact ⟨_, (pss_cons (ps_if (PW.pt (pw_or (pt_not (pt_truth (pe_callB call_isi (by rfl) T.b_isinstance (by decide +kernel) (pa_cons (pv 0) (pa_cons (pe_bltn (v := .ty "tuple") (by rfl) T.b_tuple (by decide +kernel) rfl) pa_nil))) (by intro _; rfl))) (pw_or (pt_not (pt_chain op_les op_les pe_int (pe_callB call_len (by rfl) T.b_len (by decide +kernel) (pa_cons (pv 0) pa_nil)) (pe_glob (v := (.int 6)) rfl T.k_MOST_KINDS ⟨_, rfl⟩))) (pw_or1 (pt_not (pt_truth (pe_callB (cr_all rfl) (by rfl) T.b_all (by decide +kernel) (pa_cons (pe_lc (own := [("pair", 1)]) rfl sc_is_kinds.nd (pi_seq (pv 0)) (blkOk_by (N := ["thing", "pair", "one", "other", "name", "rank"]) (sc := defScope s_is_kinds) (by first | decide +kernel | rfl)) (fun _ _ _ _ _ => (pg_name (i := 1) sc_is_kinds.nd rfl (by first | exact Or.inl rfl | exact Or.inr rfl))) (fun _ _ _ _ _ => pts_nil) (fun _ _ _ _ _ => (pe_fn (CanC.ok (ok_is_kind T) (hr.mono (by decide)) hxB) (by rfl) T.g_is_kind T.f_is_kind.kp T.bi_is_kind (pa_cons (pv 1) pa_nil)))) pa_nil)) (by intro _; rfl))))))) (pss_one (ps_ret pe_bl)) pss_nil) (pss_cons (ps_if (pt_not (pt_truth (pe_callB (cr_all rfl) (by rfl) T.b_all (by decide +kernel) (pa_cons (pe_lc (own := [("one", 2), ("other", 3)]) rfl sc_is_kinds.nd (pi_zipK (by rfl) T.b_zip (pa_cons (pv 0) (pa_cons (pe_slice sl_all (pv 0) (po_some pe_int) po_none) pa_nil))) (blkOk_by (N := ["thing", "pair", "one", "other", "name", "rank"]) (sc := defScope s_is_kinds) (by first | decide +kernel | rfl)) (fun _ _ _ _ _ => (pg_tup rfl (pgs_cons (pg_name (i := 2) sc_is_kinds.nd rfl (by first | exact Or.inl rfl | exact Or.inr rfl)) (pgs_cons (pg_name (i := 3) sc_is_kinds.nd rfl (by first | exact Or.inl rfl | exact Or.inr rfl)) pgs_nil)))) (fun _ _ _ _ _ => pts_nil) (fun _ _ _ _ _ => (pe_cmpR op_lts (pe_ix ix_seq (pv 2) pe_int (fun _ _ => rfl)) (pe_ix ix_seq (pv 3) pe_int (fun _ _ => rfl)) (nomark _)))) pa_nil)) (by intro _; rfl))) (pss_one (ps_ret pe_bl)) pss_nil) (pss_one (ps_ret (pe_callB (cr_any rfl) (by rfl) T.b_any (by decide +kernel) (pa_cons (pe_lc (own := [("name", 4), ("rank", 5)]) rfl sc_is_kinds.nd (pi_seq (pv 0)) (blkOk_by (N := ["thing", "pair", "one", "other", "name", "rank"]) (sc := defScope s_is_kinds) (by first | decide +kernel | rfl)) (fun _ _ _ _ _ => (pg_tup rfl (pgs_cons (pg_name (i := 4) sc_is_kinds.nd rfl (by first | exact Or.inl rfl | exact Or.inr rfl)) (pgs_cons (pg_name (i := 5) sc_is_kinds.nd rfl (by first | exact Or.inl rfl | exact Or.inr rfl)) pgs_nil)))) (fun _ _ _ _ _ => pts_nil) (fun _ _ _ _ _ => (pe_cmpR (op_eqs hr.units) (pv 5) pe_int (nomark _)))) pa_nil)))))), fn_body (np := 1) (nl := 5) I rfl h⟩
theorem sc_need_kinds : FnScope ["kinds"] ["kinds"] (defScope s_need_kinds) := ⟨rfl, rfl, rfl, by decide +kernel, rfl, by decide +kernel, by decide +kernel⟩
def m_need_kinds : MS := (sIf (xNot (xTru (xCall [false] F_is_kinds (aCons (xVar 0) aNil)))) (sRaise "BadKinds") sNext)
def F_need_kinds : Fn := runF (fun i => decide (i ∈ ([0] : List Nat))) 1 0 m_need_kinds
theorem ok_need_kinds (T : Tx K mg) : FnOk P w K mg base (L2.CX P w) 4 T.a_need_kinds T.fd_need_kinds ["kinds"] (spM K T.ct F_need_kinds) := by
  refine T.f_need_kinds.okX sc_need_kinds (fun vs H Q E h => sp_len runF_len h) (fun cdv A outer s H vs Q E hr h => ?_)
  have I : ImpS K T.ct E (fun i => decide (i ∈ ([0] : List Nat))) _ m_need_kinds := (is_if (it_not (it_tru (im_call (bs := [false]) (ia_cons (im_var (i := 0)) ia_nil)))) (is_raise (c := "BadKinds")) is_next)
  exact ⟨_, (pss_one (ps_if (pt_not (pt_truth (pe_fn (CanC.ok (ok_is_kinds T) (hr.mono (by decide)) hxE) (by rfl) T.g_is_kinds T.f_is_kinds.kp T.bi_is_kinds (pa_cons (pv 0) pa_nil)) (by intro _; rfl))) (pss_one (ps_raise rfl tkE (pmk_own PySem.F.excBase_ValueError T.x_BadKinds T.g_BadKinds T.k_BadKinds (raises_own T.e_BadKinds T.t_BadKinds) (by rfl)))) pss_nil)), fn_body (np := 1) (nl := 0) I rfl h⟩
theorem sc_rows_of : FnScope ["counts", "total", "rank", "first"] ["counts", "total", "rank"] (defScope s_rows_of) := ⟨rfl, rfl, rfl, by decide +kernel, rfl, by decide +kernel, by decide +kernel⟩
def e_rows_of_1 (R : Fn) : MX := (xOp gMul (xOp gIx (xVar 0) (xVar 3)) (xCall [true, false, false] R (aCons (xVar 0) (aCons (xOp gSub (xVar 1) (xVar 3)) (aCons (xOp gSub (xVar 2) (xC (.int 1))) aNil)))))
def x_rows_of_1 (R : Fn) : MX := (xLc (xIRng2 (aCons (xC (.int 1)) (aCons (xVar 1) aNil))) (mName 3) xYes (e_rows_of_1 R) [3])
def m_rows_of (R : Fn) : MS := (sSeq (sIf (xTest (xOp (blR gEq) (xVar 2) (xC (.int 0)))) (sRet (xIf (xTest (xOp (blR gEq) (xVar 1) (xC (.int 0)))) (xC (.int 1)) (xC (.int 0)))) sNext) (sSeq (sIf (xTest (xOp (blR gEq) (xVar 2) (xC (.int 1)))) (sRet (xIf (xTest (xOp (blR gGt) (xVar 1) (xC (.int 0)))) (xOp gIx (xVar 0) (xVar 1)) (xC (.int 0)))) sNext) (sRet (xCB gSum (aCons (x_rows_of_1 R) aNil)))))
def F_rows_of : Nat → Fn
  | 0 => fun _ => .bad
  | k + 1 => runF (fun i => decide (i ∈ ([0, 1, 2] : List Nat))) 3 1 (m_rows_of (F_rows_of k))
theorem ok_rows_of (T : Tx K mg) : ∀ n : Nat, FnOk P w K mg base (L2.CX P w) (1 + n) T.a_rows_of T.fd_rows_of ["counts", "total", "rank"] (spM K T.ct (F_rows_of n))
  | 0 => okBad
  | n + 1 => by
    have G := ok_rows_of T n
    refine T.f_rows_of.okX sc_rows_of (fun vs H Q E h => sp_len runF_len h) (fun cdv A outer s H vs Q E hr h => ?_)
    have I : ImpS K T.ct E (fun i => decide (i ∈ ([0, 1, 2] : List Nat))) _ (m_rows_of (F_rows_of n)) := (is_seq (is_if (it_test (im_op (CmpI.op ci_eq) (im_var (i := 2)) im_int)) (is_ret (im_if (it_test (im_op (CmpI.op ci_eq) (im_var (i := 1)) im_int)) im_int im_int)) is_next) (is_seq (is_if (it_test (im_op (CmpI.op ci_eq) (im_var (i := 2)) im_int)) (is_ret (im_if (it_test (im_op (CmpI.op ci_gt) (im_var (i := 1)) im_int)) (im_op gi_ix (im_var (i := 0)) (im_var (i := 1))) im_int)) is_next) (is_ret (im_cb gc_sum (ia_cons (im_lc (vs := [3]) (ii_rng2 (ia_cons im_int (ia_cons (im_var (i := 1)) ia_nil))) (ig_name (i := 3)) it_yes (im_op gi_mul (im_op gi_ix (im_var (i := 0)) (im_var (i := 3))) (im_call (bs := [true, false, false]) (ia_cons (im_var (i := 0)) (ia_cons (im_op gi_sub (im_var (i := 1)) (im_var (i := 3))) (ia_cons (im_op gi_sub (im_var (i := 2)) im_int) ia_nil))))) (by decide)) ia_nil)))))
    exact ⟨_, (pss_cons (ps_if (pt_cmpR (op_eqs hr.units) (pv 2) pe_int (nomark _)) (pss_one (ps_ret (pe_ifExp (pt_cmpR (op_eqs hr.units) (pv 1) pe_int (nomark _)) pe_int pe_int))) pss_nil) (pss_cons (ps_if (pt_cmpR (op_eqs hr.units) (pv 2) pe_int (nomark _)) (pss_one (ps_ret (pe_ifExp (pt_cmpR op_gts (pv 1) pe_int (nomark _)) (pe_ix ix_seq (pv 0) (pv 1) (fun _ _ => rfl)) pe_int))) pss_nil) (pss_one (ps_ret (pe_callB (cr_sum rfl) (by rfl) T.b_sum (by decide +kernel) (pa_cons (pe_lc (own := [("first", 3)]) rfl sc_rows_of.nd (pi_range2 (by rfl) T.b_range (pa_cons pe_int (pa_cons (pv 1) pa_nil))) (blkOk_by (N := ["counts", "total", "rank", "first"]) (sc := defScope s_rows_of) (by first | decide +kernel | rfl)) (fun _ _ _ _ _ => (pg_name (i := 3) sc_rows_of.nd rfl (by first | exact Or.inl rfl | exact Or.inr rfl))) (fun _ _ _ _ _ => pts_nil) (fun _ _ _ _ _ => (pe_op op_muls (pe_ix ix_seq (pv 0) (pv 3) (fun _ _ => rfl)) (pe_fn (CanC.ok G hr hxB) (by rfl) T.g_rows_of T.f_rows_of.kp T.bi_rows_of (pa_cons (pv 0) (pa_cons (pe_op op_subs (pv 1) (pv 3)) (pa_cons (pe_op op_subs (pv 2) pe_int) pa_nil))))))) pa_nil)))))), fn_body (np := 3) (nl := 1) I rfl h⟩
theorem sc_counts_to : FnScope ["kinds", "many", "found", "total", "sum_here", "name", "rank"] ["kinds", "many"] (defScope s_counts_to) := ⟨rfl, rfl, rfl, by decide +kernel, rfl, by decide +kernel, by decide +kernel⟩
def b_counts_to_1 : MS := (sAug 4 gAugAdd (xCall [true, false, false] (F_rows_of 8) (aCons (xVar 2) (aCons (xOp gSub (xVar 3) (xC (.int 1))) (aCons (xVar 6) aNil)))))
def b_counts_to_2 : MS := (sSeq (sAsg 4 (xC (.int 0))) (sSeq (sFor (xISeq (xVar 0)) (mTup 2 (mgCons (mName 5) (mgCons (mName 6) mgNil))) b_counts_to_1) (sDrop (xApp 2 (xVar 4)))))
def m_counts_to : MS := (sSeq (sAsg 2 (xLst (aCons (xC (.int 0)) aNil))) (sSeq (sFor (xIRng2 (aCons (xC (.int 1)) (aCons (xOp gAdd (xVar 1) (xC (.int 1))) aNil))) (mName 3) b_counts_to_2) (sRet (xVar 2))))
def F_counts_to : Fn := runF (fun i => decide (i ∈ ([0, 1] : List Nat))) 2 5 m_counts_to
theorem ok_counts_to (T : Tx K mg) : FnOk P w K mg base (L2.CX P w) 10 T.a_counts_to T.fd_counts_to ["kinds", "many"] (spM K T.ct F_counts_to) := by
  refine T.f_counts_to.okX sc_counts_to (fun vs H Q E h => sp_len runF_len h) (fun cdv A outer s H vs Q E hr h => ?_)
  have I : ImpS K T.ct E (fun i => decide (i ∈ ([0, 1] : List Nat))) _ m_counts_to := (is_seq (is_asg (i := 2) (im_lst (ia_cons im_int ia_nil)) (by decide)) (is_seq (is_for (ii_rng2 (ia_cons im_int (ia_cons (im_op gi_add (im_var (i := 1)) im_int) ia_nil))) (ig_name (i := 3)) (is_seq (is_asg (i := 4) im_int (by decide)) (is_seq (is_for (ii_seq (im_var (i := 0))) (ig_tup (igs_cons (ig_name (i := 5)) (igs_cons (ig_name (i := 6)) igs_nil))) (is_aug (i := 4) gi_augAdd (im_call (bs := [true, false, false]) (ia_cons (im_var (i := 2)) (ia_cons (im_op gi_sub (im_var (i := 3)) im_int) (ia_cons (im_var (i := 6)) ia_nil)))) (by decide)) (by decide)) (is_drop (im_app (i := 2) (im_var (i := 4)))))) (by decide)) (is_ret (im_var (i := 2)))))
  exact ⟨_, (pss_cons (ps_set (i := 2) sc_counts_to.nd rfl (by first | exact Or.inl rfl | exact Or.inr rfl) (pe_lst (pa_cons pe_int pa_nil))) (pss_cons (ps_for (passes_of rfl) rfl (pi_range2 (by rfl) T.b_range (pa_cons pe_int (pa_cons (pe_op op_adds (pv 1) pe_int) pa_nil))) (pg_name (i := 3) sc_counts_to.nd rfl (by first | exact Or.inl rfl | exact Or.inr rfl)) (pss_cons (ps_set (i := 4) sc_counts_to.nd rfl (by first | exact Or.inl rfl | exact Or.inr rfl) pe_int) (pss_cons (ps_for (passes_of rfl) rfl (pi_seq (pv 0)) (pg_tup rfl (pgs_cons (pg_name (i := 5) sc_counts_to.nd rfl (by first | exact Or.inl rfl | exact Or.inr rfl)) (pgs_cons (pg_name (i := 6) sc_counts_to.nd rfl (by first | exact Or.inl rfl | exact Or.inr rfl)) pgs_nil))) (pss_one (ps_aug (i := 4) sc_counts_to.nd rfl (by first | exact Or.inl rfl | exact Or.inr rfl) (pe_fn (CanC.ok (ok_rows_of T 8) (hr.mono (by decide)) hxE) (by rfl) T.g_rows_of T.f_rows_of.kp T.bi_rows_of (pa_cons (pv 2) (pa_cons (pe_op op_subs (pv 3) pe_int) (pa_cons (pv 6) pa_nil)))) ip_add))) (pss_one (ps_expr (pe_bm PySem.F.plainAttrs_list PySem.F.slot_list_append PySem.F.type_list_append mt_append (pv 2) (pa_cons (pv 4) pa_nil))))))) (pss_one (ps_ret (pv 2))))), fn_body (np := 2) (nl := 5) I rfl h⟩
theorem sc_count : FnScope ["kinds", "many"] ["kinds", "many"] (defScope s_count) := ⟨rfl, rfl, rfl, by decide +kernel, rfl, by decide +kernel, by decide +kernel⟩
def m_count : MS := (sSeq (sDrop (xCall [false] F_need_kinds (aCons (xVar 0) aNil))) (sSeq (sIf (xOr (xNot (xTru (xCall [false, false] F_is_number (aCons (xVar 1) (aCons (xC (.int 201)) aNil))))) (xTest (xOp (blR gEq) (xVar 1) (xC (.int 0))))) (sRaise "BadNumber") sNext) (sRet (xOp gIx (xCall [false, false] F_counts_to (aCons (xVar 0) (aCons (xVar 1) aNil))) (xVar 1)))))
def F_count : Fn := runF (fun i => decide (i ∈ ([0, 1] : List Nat))) 2 0 m_count
theorem ok_count (T : Tx K mg) : FnOk P w K mg base (L2.CX P w) 11 T.a_count T.fd_count ["kinds", "many"] (spM K T.ct F_count) := by
  refine T.f_count.okX sc_count (fun vs H Q E h => sp_len runF_len h) (fun cdv A outer s H vs Q E hr h => ?_)
  have I : ImpS K T.ct E (fun i => decide (i ∈ ([0, 1] : List Nat))) _ m_count := (is_seq (is_drop (im_call (bs := [false]) (ia_cons (im_var (i := 0)) ia_nil))) (is_seq (is_if (it_or (it_not (it_tru (im_call (bs := [false, false]) (ia_cons (im_var (i := 1)) (ia_cons im_int ia_nil))))) (it_test (im_op (CmpI.op ci_eq) (im_var (i := 1)) im_int))) (is_raise (c := "BadNumber")) is_next) (is_ret (im_op gi_ix (im_call (bs := [false, false]) (ia_cons (im_var (i := 0)) (ia_cons (im_var (i := 1)) ia_nil))) (im_var (i := 1))))))
  exact ⟨_, (pss_cons (ps_expr (pe_fn (CanC.ok (ok_need_kinds T) (hr.mono (by decide)) hxE) (by rfl) T.g_need_kinds T.f_need_kinds.kp T.bi_need_kinds (pa_cons (pv 0) pa_nil))) (pss_cons (ps_if (PW.pt (pw_or (pt_not (pt_truth (pe_fn (CanC.ok (ok_is_number T) (hr.mono (by decide)) hxE) (by rfl) T.g_is_number T.f_is_number.kp T.bi_is_number (pa_cons (pv 1) (pa_cons pe_int pa_nil))) (by intro _; rfl))) (pw_or1 (pt_cmpR (op_eqs hr.units) (pv 1) pe_int (nomark _))))) (pss_one (ps_raise rfl tkE (pmk_own PySem.F.excBase_ValueError T.x_BadNumber T.g_BadNumber T.k_BadNumber (raises_own T.e_BadNumber T.t_BadNumber) (by rfl)))) pss_nil) (pss_one (ps_ret (pe_ix ix_seq (pe_fn (CanC.ok (ok_counts_to T) (hr.mono (by decide)) hxE) (by rfl) T.g_counts_to T.f_counts_to.kp T.bi_counts_to (pa_cons (pv 0) (pa_cons (pv 1) pa_nil))) (pv 1) (fun _ _ => rfl)))))), fn_body (np := 2) (nl := 0) I rfl h⟩
theorem sc_tuples_of : FnScope ["many", "rank", "found", "turn", "longer", "one", "at"] ["many", "rank"] (defScope s_tuples_of) := ⟨rfl, rfl, rfl, by decide +kernel, rfl, by decide +kernel, by decide +kernel⟩
def e_tuples_of_1 : MX := (xOp gAdd (xVar 5) (xTup (aCons (xVar 6) aNil)))
def x_tuples_of_1 : MX := (xLc (xIRng1 (aCons (xVar 0) aNil)) (mName 6) xYes e_tuples_of_1 [6])
def b_tuples_of_1 : MS := (sDrop (xExt 4 x_tuples_of_1))
def b_tuples_of_2 : MS := (sSeq (sAsg 4 (xLst aNil)) (sSeq (sFor (xISeq (xVar 2)) (mName 5) b_tuples_of_1) (sAsg 2 (xVar 4))))
def m_tuples_of : MS := (sSeq (sAsg 2 (xLst (aCons (xTup aNil) aNil))) (sSeq (sFor (xIRng1 (aCons (xVar 1) aNil)) (mName 3) b_tuples_of_2) (sRet (xVar 2))))
def F_tuples_of : Fn := runF (fun i => decide (i ∈ ([0, 1] : List Nat))) 2 5 m_tuples_of
theorem ok_tuples_of (T : Tx K mg) : FnOk P w K mg base (L2.CX P w) 1 T.a_tuples_of T.fd_tuples_of ["many", "rank"] (spM K T.ct F_tuples_of) := by
  refine T.f_tuples_of.okX sc_tuples_of (fun vs H Q E h => sp_len runF_len h) (fun cdv A outer s H vs Q E hr h => ?_)
  have I : ImpS K T.ct E (fun i => decide (i ∈ ([0, 1] : List Nat))) _ m_tuples_of := (is_seq (is_asg (i := 2) (im_lst (ia_cons (im_tup ia_nil) ia_nil)) (by decide)) (is_seq (is_for (ii_rng1 (ia_cons (im_var (i := 1)) ia_nil)) (ig_name (i := 3)) (is_seq (is_asg (i := 4) (im_lst ia_nil) (by decide)) (is_seq (is_for (ii_seq (im_var (i := 2))) (ig_name (i := 5)) (is_drop (im_ext (i := 4) (im_lc (vs := [6]) (ii_rng1 (ia_cons (im_var (i := 0)) ia_nil)) (ig_name (i := 6)) it_yes (im_op gi_add (im_var (i := 5)) (im_tup (ia_cons (im_var (i := 6)) ia_nil))) (by decide)))) (by decide)) (is_asg (i := 2) (im_var (i := 4)) (by decide)))) (by decide)) (is_ret (im_var (i := 2)))))
  exact ⟨_, (pss_cons (ps_set (i := 2) sc_tuples_of.nd rfl (by first | exact Or.inl rfl | exact Or.inr rfl) (pe_lst (pa_cons (pe_tup pa_nil) pa_nil))) (pss_cons (ps_for (passes_of rfl) rfl (pi_range1 (by rfl) T.b_range (pa_cons (pv 1) pa_nil)) (pg_name (i := 3) sc_tuples_of.nd rfl (by first | exact Or.inl rfl | exact Or.inr rfl)) (pss_cons (ps_set (i := 4) sc_tuples_of.nd rfl (by first | exact Or.inl rfl | exact Or.inr rfl) (pe_lst pa_nil)) (pss_cons (ps_for (passes_of rfl) rfl (pi_seq (pv 2)) (pg_name (i := 5) sc_tuples_of.nd rfl (by first | exact Or.inl rfl | exact Or.inr rfl)) (pss_one (ps_expr (pe_bm PySem.F.plainAttrs_list PySem.F.slot_list_extend PySem.F.type_list_extend mt_extend (pv 4) (pa_cons (pe_lc (own := [("at", 6)]) rfl sc_tuples_of.nd (pi_range1 (by rfl) T.b_range (pa_cons (pv 0) pa_nil)) (blkOk_by (N := ["many", "rank", "found", "turn", "longer", "one", "at"]) (sc := defScope s_tuples_of) (by first | decide +kernel | rfl)) (fun _ _ _ _ _ => (pg_name (i := 6) sc_tuples_of.nd rfl (by first | exact Or.inl rfl | exact Or.inr rfl))) (fun _ _ _ _ _ => pts_nil) (fun _ _ _ _ _ => (pe_op op_adds (pv 5) (pe_tup (pa_cons (pv 6) pa_nil))))) pa_nil))))) (pss_one (ps_set (i := 2) sc_tuples_of.nd rfl (by first | exact Or.inl rfl | exact Or.inr rfl) (pv 4)))))) (pss_one (ps_ret (pv 2))))), fn_body (np := 2) (nl := 5) I rfl h⟩
theorem sc_are_states : FnScope ["thing", "many", "state", "one", "other"] ["thing", "many"] (defScope s_are_states) := ⟨rfl, rfl, rfl, by decide +kernel, rfl, by decide +kernel, by decide +kernel⟩
def e_are_states_1 : MX := (xCall [false, false] F_is_number (aCons (xVar 2) (aCons (xVar 1) aNil)))
def x_are_states_1 : MX := (xLc (xISeq (xVar 0)) (mName 2) xYes e_are_states_1 [2])
def e_are_states_2 : MX := (xOp (blR gLt) (xVar 3) (xVar 4))
def x_are_states_2 : MX := (xLc (xIZip (aCons (xVar 0) (aCons (xSl gSl (xVar 0) (oPart (xC (.int 1))) oNone) aNil))) (mTup 2 (mgCons (mName 3) (mgCons (mName 4) mgNil))) xYes e_are_states_2 [3, 4])
def m_are_states : MS := (sSeq (sIf (xOr (xNot (xTru (xCB gIsi (aCons (xVar 0) (aCons (xC (.ty "tuple")) aNil))))) (xNot (xTru (xCB gAll (aCons x_are_states_1 aNil))))) (sRet (xC (.bl false))) sNext) (sRet (xCB gAll (aCons x_are_states_2 aNil))))
def F_are_states : Fn := runF (fun i => decide (i ∈ ([0, 1] : List Nat))) 2 3 m_are_states
theorem ok_are_states (T : Tx K mg) : FnOk P w K mg base (L2.CX P w) 2 T.a_are_states T.fd_are_states ["thing", "many"] (spM K T.ct F_are_states) := by
  refine T.f_are_states.okX sc_are_states (fun vs H Q E h => sp_len runF_len h) (fun cdv A outer s H vs Q E hr h => ?_)
  have I : ImpS K T.ct E (fun i => decide (i ∈ ([0, 1] : List Nat))) _ m_are_states := (is_seq (is_if (it_or (it_not (it_tru (im_cb gc_isi (ia_cons (im_var (i := 0)) (ia_cons im_ty ia_nil))))) (it_not (it_tru (im_cb gc_all (ia_cons (im_lc (vs := [2]) (ii_seq (im_var (i := 0))) (ig_name (i := 2)) it_yes (im_call (bs := [false, false]) (ia_cons (im_var (i := 2)) (ia_cons (im_var (i := 1)) ia_nil))) (by decide)) ia_nil))))) (is_ret im_bl) is_next) (is_ret (im_cb gc_all (ia_cons (im_lc (vs := [3, 4]) (ii_zip (ia_cons (im_var (i := 0)) (ia_cons (im_sl si_all (im_var (i := 0)) (io_part im_int) io_none) ia_nil))) (ig_tup (igs_cons (ig_name (i := 3)) (igs_cons (ig_name (i := 4)) igs_nil))) it_yes (im_op (CmpI.op ci_lt) (im_var (i := 3)) (im_var (i := 4))) (by decide)) ia_nil))))
  exact ⟨_, (pss_cons (ps_if (PW.pt (pw_or (pt_not (pt_truth (pe_callB call_isi (by rfl) T.b_isinstance (by decide +kernel) (pa_cons (pv 0) (pa_cons (pe_bltn (v := .ty "tuple") (by rfl) T.b_tuple (by decide +kernel) rfl) pa_nil))) (by intro _; rfl))) (pw_or1 (pt_not (pt_truth (pe_callB (cr_all rfl) (by rfl) T.b_all (by decide +kernel) (pa_cons (pe_lc (own := [("state", 2)]) rfl sc_are_states.nd (pi_seq (pv 0)) (blkOk_by (N := ["thing", "many", "state", "one", "other"]) (sc := defScope s_are_states) (by first | decide +kernel | rfl)) (fun _ _ _ _ _ => (pg_name (i := 2) sc_are_states.nd rfl (by first | exact Or.inl rfl | exact Or.inr rfl))) (fun _ _ _ _ _ => pts_nil) (fun _ _ _ _ _ => (pe_fn (CanC.ok (ok_is_number T) (hr.mono (by decide)) hxB) (by rfl) T.g_is_number T.f_is_number.kp T.bi_is_number (pa_cons (pv 2) (pa_cons (pv 1) pa_nil))))) pa_nil)) (by intro _; rfl)))))) (pss_one (ps_ret pe_bl)) pss_nil) (pss_one (ps_ret (pe_callB (cr_all rfl) (by rfl) T.b_all (by decide +kernel) (pa_cons (pe_lc (own := [("one", 3), ("other", 4)]) rfl sc_are_states.nd (pi_zipK (by rfl) T.b_zip (pa_cons (pv 0) (pa_cons (pe_slice sl_all (pv 0) (po_some pe_int) po_none) pa_nil))) (blkOk_by (N := ["thing", "many", "state", "one", "other"]) (sc := defScope s_are_states) (by first | decide +kernel | rfl)) (fun _ _ _ _ _ => (pg_tup rfl (pgs_cons (pg_name (i := 3) sc_are_states.nd rfl (by first | exact Or.inl rfl | exact Or.inr rfl)) (pgs_cons (pg_name (i := 4) sc_are_states.nd rfl (by first | exact Or.inl rfl | exact Or.inr rfl)) pgs_nil)))) (fun _ _ _ _ _ => pts_nil) (fun _ _ _ _ _ => (pe_cmpR op_lts (pv 3) (pv 4) (nomark _)))) pa_nil))))), fn_body (np := 2) (nl := 3) I rfl h⟩
theorem sc_tuples_number : FnScope ["many", "rank", "found", "turn"] ["many", "rank"] (defScope s_tuples_number) := ⟨rfl, rfl, rfl, by decide +kernel, rfl, by decide +kernel, by decide +kernel⟩
def b_tuples_number_1 : MS := (sAug 2 (gInt cMul fun i j => i * j) (xVar 0))
def m_tuples_number : MS := (sSeq (sAsg 2 (xC (.int 1))) (sSeq (sFor (xIRng1 (aCons (xVar 1) aNil)) (mName 3) b_tuples_number_1) (sRet (xVar 2))))
def F_tuples_number : Fn := runF (fun i => decide (i ∈ ([0, 1] : List Nat))) 2 2 m_tuples_number
theorem ok_tuples_number (T : Tx K mg) : FnOk P w K mg base (L2.CX P w) 1 T.a_tuples_number T.fd_tuples_number ["many", "rank"] (spM K T.ct F_tuples_number) := by
  refine T.f_tuples_number.okX sc_tuples_number (fun vs H Q E h => sp_len runF_len h) (fun cdv A outer s H vs Q E hr h => ?_)
  have I : ImpS K T.ct E (fun i => decide (i ∈ ([0, 1] : List Nat))) _ m_tuples_number := (is_seq (is_asg (i := 2) im_int (by decide)) (is_seq (is_for (ii_rng1 (ia_cons (im_var (i := 1)) ia_nil)) (ig_name (i := 3)) (is_aug (i := 2) gi_augMul (im_var (i := 0)) (by decide)) (by decide)) (is_ret (im_var (i := 2)))))
  exact ⟨_, (pss_cons (ps_set (i := 2) sc_tuples_number.nd rfl (by first | exact Or.inl rfl | exact Or.inr rfl) pe_int) (pss_cons (ps_for (passes_of rfl) rfl (pi_range1 (by rfl) T.b_range (pa_cons (pv 1) pa_nil)) (pg_name (i := 3) sc_tuples_number.nd rfl (by first | exact Or.inl rfl | exact Or.inr rfl)) (pss_one (ps_aug (i := 2) sc_tuples_number.nd rfl (by first | exact Or.inl rfl | exact Or.inr rfl) (pv 0) (ip_of iop_mulW)))) (pss_one (ps_ret (pv 2))))), fn_body (np := 2) (nl := 2) I rfl h⟩
theorem sc_is_row : FnScope ["thing", "many", "rank", "state"] ["thing", "many", "rank"] (defScope s_is_row) := ⟨rfl, rfl, rfl, by decide +kernel, rfl, by decide +kernel, by decide +kernel⟩
def e_is_row_1 : MX := (xCall [false, false] F_is_number (aCons (xVar 3) (aCons (xVar 1) aNil)))
def x_is_row_1 : MX := (xLc (xISeq (xVar 0)) (mName 3) xYes e_is_row_1 [3])
def m_is_row : MS := (sSeq (sIf (xOr (xNot (xTru (xCB gIsi (aCons (xVar 0) (aCons (xC (.ty "tuple")) aNil))))) (xTest (xOp (blR gNe) (xCB gLen (aCons (xVar 0) aNil)) (xCall [false, false] F_tuples_number (aCons (xVar 1) (aCons (xVar 2) aNil)))))) (sRet (xC (.bl false))) sNext) (sRet (xCB gAll (aCons x_is_row_1 aNil))))
def F_is_row : Fn := runF (fun i => decide (i ∈ ([0, 1, 2] : List Nat))) 3 1 m_is_row
theorem ok_is_row (T : Tx K mg) : FnOk P w K mg base (L2.CX P w) 2 T.a_is_row T.fd_is_row ["thing", "many", "rank"] (spM K T.ct F_is_row) := by
  refine T.f_is_row.okX sc_is_row (fun vs H Q E h => sp_len runF_len h) (fun cdv A outer s H vs Q E hr h => ?_)
  have I : ImpS K T.ct E (fun i => decide (i ∈ ([0, 1, 2] : List Nat))) _ m_is_row := (is_seq (is_if (it_or (it_not (it_tru (im_cb gc_isi (ia_cons (im_var (i := 0)) (ia_cons im_ty ia_nil))))) (it_test (im_op (CmpI.op ci_ne) (im_cb gc_len (ia_cons (im_var (i := 0)) ia_nil)) (im_call (bs := [false, false]) (ia_cons (im_var (i := 1)) (ia_cons (im_var (i := 2)) ia_nil)))))) (is_ret im_bl) is_next) (is_ret (im_cb gc_all (ia_cons (im_lc (vs := [3]) (ii_seq (im_var (i := 0))) (ig_name (i := 3)) it_yes (im_call (bs := [false, false]) (ia_cons (im_var (i := 3)) (ia_cons (im_var (i := 1)) ia_nil))) (by decide)) ia_nil))))
  exact ⟨_, (pss_cons (ps_if (PW.pt (pw_or (pt_not (pt_truth (pe_callB call_isi (by rfl) T.b_isinstance (by decide +kernel) (pa_cons (pv 0) (pa_cons (pe_bltn (v := .ty "tuple") (by rfl) T.b_tuple (by decide +kernel) rfl) pa_nil))) (by intro _; rfl))) (pw_or1 (pt_cmpR (op_nes hr.units) (pe_callB call_len (by rfl) T.b_len (by decide +kernel) (pa_cons (pv 0) pa_nil)) (pe_fn (CanC.ok (ok_tuples_number T) (hr.mono (by decide)) hxE) (by rfl) T.g_tuples_number T.f_tuples_number.kp T.bi_tuples_number (pa_cons (pv 1) (pa_cons (pv 2) pa_nil))) (nomark _))))) (pss_one (ps_ret pe_bl)) pss_nil) (pss_one (ps_ret (pe_callB (cr_all rfl) (by rfl) T.b_all (by decide +kernel) (pa_cons (pe_lc (own := [("state", 3)]) rfl sc_is_row.nd (pi_seq (pv 0)) (blkOk_by (N := ["thing", "many", "rank", "state"]) (sc := defScope s_is_row) (by first | decide +kernel | rfl)) (fun _ _ _ _ _ => (pg_name (i := 3) sc_is_row.nd rfl (by first | exact Or.inl rfl | exact Or.inr rfl))) (fun _ _ _ _ _ => pts_nil) (fun _ _ _ _ _ => (pe_fn (CanC.ok (ok_is_number T) (hr.mono (by decide)) hxB) (by rfl) T.g_is_number T.f_is_number.kp T.bi_is_number (pa_cons (pv 3) (pa_cons (pv 1) pa_nil))))) pa_nil))))), fn_body (np := 3) (nl := 1) I rfl h⟩
theorem sc_goals_of : FnScope ["kinds", "many", "name", "rank"] ["kinds", "many"] (defScope s_goals_of) := ⟨rfl, rfl, rfl, by decide +kernel, rfl, by decide +kernel, by decide +kernel⟩
def e_goals_of_1 : MX := (xCall [false, false] F_tuples_number (aCons (xVar 1) (aCons (xVar 3) aNil)))
def x_goals_of_1 : MX := (xLc (xISeq (xVar 0)) (mTup 2 (mgCons (mName 2) (mgCons (mName 3) mgNil))) xYes e_goals_of_1 [2, 3])
def m_goals_of : MS := (sRet (xCB gSum (aCons x_goals_of_1 aNil)))
def F_goals_of : Fn := runF (fun i => decide (i ∈ ([0, 1] : List Nat))) 2 2 m_goals_of
theorem ok_goals_of (T : Tx K mg) : FnOk P w K mg base (L2.CX P w) 2 T.a_goals_of T.fd_goals_of ["kinds", "many"] (spM K T.ct F_goals_of) := by
  refine T.f_goals_of.okX sc_goals_of (fun vs H Q E h => sp_len runF_len h) (fun cdv A outer s H vs Q E hr h => ?_)
  have I : ImpS K T.ct E (fun i => decide (i ∈ ([0, 1] : List Nat))) _ m_goals_of := (is_ret (im_cb gc_sum (ia_cons (im_lc (vs := [2, 3]) (ii_seq (im_var (i := 0))) (ig_tup (igs_cons (ig_name (i := 2)) (igs_cons (ig_name (i := 3)) igs_nil))) it_yes (im_call (bs := [false, false]) (ia_cons (im_var (i := 1)) (ia_cons (im_var (i := 3)) ia_nil))) (by decide)) ia_nil)))
  exact ⟨_, (pss_one (ps_ret (pe_callB (cr_sum rfl) (by rfl) T.b_sum (by decide +kernel) (pa_cons (pe_lc (own := [("name", 2), ("rank", 3)]) rfl sc_goals_of.nd (pi_seq (pv 0)) (blkOk_by (N := ["kinds", "many", "name", "rank"]) (sc := defScope s_goals_of) (by first | decide +kernel | rfl)) (fun _ _ _ _ _ => (pg_tup rfl (pgs_cons (pg_name (i := 2) sc_goals_of.nd rfl (by first | exact Or.inl rfl | exact Or.inr rfl)) (pgs_cons (pg_name (i := 3) sc_goals_of.nd rfl (by first | exact Or.inl rfl | exact Or.inr rfl)) pgs_nil)))) (fun _ _ _ _ _ => pts_nil) (fun _ _ _ _ _ => (pe_fn (CanC.ok (ok_tuples_number T) (hr.mono (by decide)) hxB) (by rfl) T.g_tuples_number T.f_tuples_number.kp T.bi_tuples_number (pa_cons (pv 1) (pa_cons (pv 3) pa_nil))))) pa_nil)))), fn_body (np := 2) (nl := 2) I rfl h⟩
theorem sc_is_set : FnScope ["thing", "word", "kinds", "many", "rows", "takes", "row", "pair"] ["thing"] (defScope s_is_set) := ⟨rfl, rfl, rfl, by decide +kernel, rfl, by decide +kernel, by decide +kernel⟩
def e_is_set_1 : MX := (xCall [false, false, false] F_is_row (aCons (xVar 6) (aCons (xVar 3) (aCons (xOp gIx (xVar 7) (xC (.int 1))) aNil))))
def x_is_set_1 : MX := (xLc (xIZip (aCons (xVar 4) (aCons (xVar 2) aNil))) (mTup 2 (mgCons (mName 6) (mgCons (mName 7) mgNil))) xYes e_is_set_1 [6, 7])
def m_is_set : MS := (sSeq (sIf (xOr (xNot (xTru (xCB gIsi (aCons (xVar 0) (aCons (xC (.ty "tuple")) aNil))))) (xOr (xTest (xOp (blR gNe) (xCB gLen (aCons (xVar 0) aNil)) (xC (.int 5)))) (xOr (xNot (xTru (xCB gIsi (aCons (xOp gIx (xVar 0) (xC (.int 0))) (aCons (xC (.ty "str")) aNil))))) (xTest (xOp (blR gNe) (xOp gIx (xVar 0) (xC (.int 0))) (xC (.str "set"))))))) (sRet (xC (.bl false))) sNext) (sSeq (sAsgG (mTup 5 (mgCons (mName 1) (mgCons (mName 2) (mgCons (mName 3) (mgCons (mName 4) (mgCons (mName 5) mgNil)))))) (xVar 0)) (sSeq (sIf (xOr (xNot (xTru (xCall [false] F_is_kinds (aCons (xVar 2) aNil)))) (xOr (xNot (xTru (xCall [false, false] F_is_number (aCons (xVar 3) (aCons (xOp gAdd (xC (.int 60)) (xC (.int 1))) aNil))))) (xTest (xOp (blR gEq) (xVar 3) (xC (.int 0)))))) (sRet (xC (.bl false))) sNext) (sSeq (sIf (xOr (xNot (xTru (xCB gIsi (aCons (xVar 4) (aCons (xC (.ty "tuple")) aNil))))) (xOr (xTest (xOp (blR gNe) (xCB gLen (aCons (xVar 4) aNil)) (xCB gLen (aCons (xVar 2) aNil)))) (xNot (xTru (xCall [false, false] F_are_states (aCons (xVar 5) (aCons (xVar 3) aNil))))))) (sRet (xC (.bl false))) sNext) (sSeq (sIf (xTest (xOp (blR gGt) (xCall [false, false] F_goals_of (aCons (xVar 2) (aCons (xVar 3) aNil))) (xC (.int 4000)))) (sRet (xC (.bl false))) sNext) (sRet (xCB gAll (aCons x_is_set_1 aNil))))))))
def F_is_set : Fn := runF (fun i => decide (i ∈ ([0] : List Nat))) 1 7 m_is_set
theorem ok_is_set (T : Tx K mg) : FnOk P w K mg base (L2.CX P w) 4 T.a_is_set T.fd_is_set ["thing"] (spM K T.ct F_is_set) := by
  refine T.f_is_set.okX sc_is_set (fun vs H Q E h => sp_len runF_len h) (fun cdv A outer s H vs Q E hr h => ?_)
  have I : ImpS K T.ct E (fun i => decide (i ∈ ([0] : List Nat))) _ m_is_set := (is_seq (is_if (it_or (it_not (it_tru (im_cb gc_isi (ia_cons (im_var (i := 0)) (ia_cons im_ty ia_nil))))) (it_or (it_test (im_op (CmpI.op ci_ne) (im_cb gc_len (ia_cons (im_var (i := 0)) ia_nil)) im_int)) (it_or (it_not (it_tru (im_cb gc_isi (ia_cons (im_op gi_ix (im_var (i := 0)) im_int) (ia_cons im_ty ia_nil))))) (it_test (im_op (CmpI.op ci_ne) (im_op gi_ix (im_var (i := 0)) im_int) im_str))))) (is_ret im_bl) is_next) (is_seq (is_asgG (ig_tup (igs_cons (ig_name (i := 1)) (igs_cons (ig_name (i := 2)) (igs_cons (ig_name (i := 3)) (igs_cons (ig_name (i := 4)) (igs_cons (ig_name (i := 5)) igs_nil)))))) (im_var (i := 0)) (by decide)) (is_seq (is_if (it_or (it_not (it_tru (im_call (bs := [false]) (ia_cons (im_var (i := 2)) ia_nil)))) (it_or (it_not (it_tru (im_call (bs := [false, false]) (ia_cons (im_var (i := 3)) (ia_cons (im_op gi_add im_int im_int) ia_nil))))) (it_test (im_op (CmpI.op ci_eq) (im_var (i := 3)) im_int)))) (is_ret im_bl) is_next) (is_seq (is_if (it_or (it_not (it_tru (im_cb gc_isi (ia_cons (im_var (i := 4)) (ia_cons im_ty ia_nil))))) (it_or (it_test (im_op (CmpI.op ci_ne) (im_cb gc_len (ia_cons (im_var (i := 4)) ia_nil)) (im_cb gc_len (ia_cons (im_var (i := 2)) ia_nil)))) (it_not (it_tru (im_call (bs := [false, false]) (ia_cons (im_var (i := 5)) (ia_cons (im_var (i := 3)) ia_nil))))))) (is_ret im_bl) is_next) (is_seq (is_if (it_test (im_op (CmpI.op ci_gt) (im_call (bs := [false, false]) (ia_cons (im_var (i := 2)) (ia_cons (im_var (i := 3)) ia_nil))) im_int)) (is_ret im_bl) is_next) (is_ret (im_cb gc_all (ia_cons (im_lc (vs := [6, 7]) (ii_zip (ia_cons (im_var (i := 4)) (ia_cons (im_var (i := 2)) ia_nil))) (ig_tup (igs_cons (ig_name (i := 6)) (igs_cons (ig_name (i := 7)) igs_nil))) it_yes (im_call (bs := [false, false, false]) (ia_cons (im_var (i := 6)) (ia_cons (im_var (i := 3)) (ia_cons (im_op gi_ix (im_var (i := 7)) im_int) ia_nil)))) (by decide)) ia_nil))))))))
  exact ⟨_, (pss_cons (ps_if (PW.pt (pw_or (pt_not (pt_truth (pe_callB call_isi (by rfl) T.b_isinstance (by decide +kernel) (pa_cons (pv 0) (pa_cons (pe_bltn (v := .ty "tuple") (by rfl) T.b_tuple (by decide +kernel) rfl) pa_nil))) (by intro _; rfl))) (pw_or (pt_cmpR (op_nes hr.units) (pe_callB call_len (by rfl) T.b_len (by decide +kernel) (pa_cons (pv 0) pa_nil)) pe_int (nomark _)) (pw_or (pt_not (pt_truth (pe_callB call_isi (by rfl) T.b_isinstance (by decide +kernel) (pa_cons (pe_ix ix_seq (pv 0) pe_int (fun _ _ => rfl)) (pa_cons (pe_bltn (v := .ty "str") (by rfl) T.b_str (by decide +kernel) rfl) pa_nil))) (by intro _; rfl))) (pw_or1 (pt_cmpR (op_nes hr.units) (pe_ix ix_seq (pv 0) pe_int (fun _ _ => rfl)) pe_str (nomark _))))))) (pss_one (ps_ret pe_bl)) pss_nil) (pss_cons (ps_asg (pv 0) (pg_tup rfl (pgs_cons (pg_name (i := 1) sc_is_set.nd rfl (by first | exact Or.inl rfl | exact Or.inr rfl)) (pgs_cons (pg_name (i := 2) sc_is_set.nd rfl (by first | exact Or.inl rfl | exact Or.inr rfl)) (pgs_cons (pg_name (i := 3) sc_is_set.nd rfl (by first | exact Or.inl rfl | exact Or.inr rfl)) (pgs_cons (pg_name (i := 4) sc_is_set.nd rfl (by first | exact Or.inl rfl | exact Or.inr rfl)) (pgs_cons (pg_name (i := 5) sc_is_set.nd rfl (by first | exact Or.inl rfl | exact Or.inr rfl)) pgs_nil))))))) (pss_cons (ps_if (PW.pt (pw_or (pt_not (pt_truth (pe_fn (CanC.ok (ok_is_kinds T) (hr.mono (by decide)) hxE) (by rfl) T.g_is_kinds T.f_is_kinds.kp T.bi_is_kinds (pa_cons (pv 2) pa_nil)) (by intro _; rfl))) (pw_or (pt_not (pt_truth (pe_fn (CanC.ok (ok_is_number T) (hr.mono (by decide)) hxE) (by rfl) T.g_is_number T.f_is_number.kp T.bi_is_number (pa_cons (pv 3) (pa_cons (pe_op op_adds (pe_glob (v := (.int 60)) rfl T.k_MOST_STATES ⟨_, rfl⟩) pe_int) pa_nil))) (by intro _; rfl))) (pw_or1 (pt_cmpR (op_eqs hr.units) (pv 3) pe_int (nomark _)))))) (pss_one (ps_ret pe_bl)) pss_nil) (pss_cons (ps_if (PW.pt (pw_or (pt_not (pt_truth (pe_callB call_isi (by rfl) T.b_isinstance (by decide +kernel) (pa_cons (pv 4) (pa_cons (pe_bltn (v := .ty "tuple") (by rfl) T.b_tuple (by decide +kernel) rfl) pa_nil))) (by intro _; rfl))) (pw_or (pt_cmpR (op_nes hr.units) (pe_callB call_len (by rfl) T.b_len (by decide +kernel) (pa_cons (pv 4) pa_nil)) (pe_callB call_len (by rfl) T.b_len (by decide +kernel) (pa_cons (pv 2) pa_nil)) (nomark _)) (pw_or1 (pt_not (pt_truth (pe_fn (CanC.ok (ok_are_states T) (hr.mono (by decide)) hxE) (by rfl) T.g_are_states T.f_are_states.kp T.bi_are_states (pa_cons (pv 5) (pa_cons (pv 3) pa_nil))) (by intro _; rfl))))))) (pss_one (ps_ret pe_bl)) pss_nil) (pss_cons (ps_if (pt_cmpR op_gts (pe_fn (CanC.ok (ok_goals_of T) (hr.mono (by decide)) hxE) (by rfl) T.g_goals_of T.f_goals_of.kp T.bi_goals_of (pa_cons (pv 2) (pa_cons (pv 3) pa_nil))) (pe_glob (v := (.int 4000)) rfl T.k_MOST_GOALS ⟨_, rfl⟩) (nomark _)) (pss_one (ps_ret pe_bl)) pss_nil) (pss_one (ps_ret (pe_callB (cr_all rfl) (by rfl) T.b_all (by decide +kernel) (pa_cons (pe_lc (own := [("row", 6), ("pair", 7)]) rfl sc_is_set.nd (pi_zipK (by rfl) T.b_zip (pa_cons (pv 4) (pa_cons (pv 2) pa_nil))) (blkOk_by (N := ["thing", "word", "kinds", "many", "rows", "takes", "row", "pair"]) (sc := defScope s_is_set) (by first | decide +kernel | rfl)) (fun _ _ _ _ _ => (pg_tup rfl (pgs_cons (pg_name (i := 6) sc_is_set.nd rfl (by first | exact Or.inl rfl | exact Or.inr rfl)) (pgs_cons (pg_name (i := 7) sc_is_set.nd rfl (by first | exact Or.inl rfl | exact Or.inr rfl)) pgs_nil)))) (fun _ _ _ _ _ => pts_nil) (fun _ _ _ _ _ => (pe_fn (CanC.ok (ok_is_row T) (hr.mono (by decide)) hxB) (by rfl) T.g_is_row T.f_is_row.kp T.bi_is_row (pa_cons (pv 6) (pa_cons (pv 3) (pa_cons (pe_ix ix_seq (pv 7) pe_int (fun _ _ => rfl)) pa_nil)))))) pa_nil))))))))), fn_body (np := 1) (nl := 7) I rfl h⟩
theorem sc_need_set : FnScope ["trees"] ["trees"] (defScope s_need_set) := ⟨rfl, rfl, rfl, by decide +kernel, rfl, by decide +kernel, by decide +kernel⟩
def m_need_set : MS := (sIf (xNot (xTru (xCall [false] F_is_set (aCons (xVar 0) aNil)))) (sRaise "BadSet") sNext)
def F_need_set : Fn := runF (fun i => decide (i ∈ ([0] : List Nat))) 1 0 m_need_set
theorem ok_need_set (T : Tx K mg) : FnOk P w K mg base (L2.CX P w) 5 T.a_need_set T.fd_need_set ["trees"] (spM K T.ct F_need_set) := by
  refine T.f_need_set.okX sc_need_set (fun vs H Q E h => sp_len runF_len h) (fun cdv A outer s H vs Q E hr h => ?_)
  have I : ImpS K T.ct E (fun i => decide (i ∈ ([0] : List Nat))) _ m_need_set := (is_if (it_not (it_tru (im_call (bs := [false]) (ia_cons (im_var (i := 0)) ia_nil)))) (is_raise (c := "BadSet")) is_next)
  exact ⟨_, (pss_one (ps_if (pt_not (pt_truth (pe_fn (CanC.ok (ok_is_set T) (hr.mono (by decide)) hxE) (by rfl) T.g_is_set T.f_is_set.kp T.bi_is_set (pa_cons (pv 0) pa_nil)) (by intro _; rfl))) (pss_one (ps_raise rfl tkE (pmk_own PySem.F.excBase_ValueError T.x_BadSet T.g_BadSet T.k_BadSet (raises_own T.e_BadSet T.t_BadSet) (by rfl)))) pss_nil)), fn_body (np := 1) (nl := 0) I rfl h⟩
theorem sc_rows_in : FnScope ["lists", "total", "found", "first"] ["lists", "total"] (defScope s_rows_in) := ⟨rfl, rfl, rfl, by decide +kernel, rfl, by decide +kernel, by decide +kernel⟩
def b_rows_in_1 (R : Fn) : MS := (sIf (xTest (xOp (blR gNe) (xOp gIx (xOp gIx (xVar 0) (xC (.int 0))) (xVar 3)) (xC (.int 0)))) (sAug 2 gAugAdd (xOp gMul (xOp gIx (xOp gIx (xVar 0) (xC (.int 0))) (xVar 3)) (xCall [false, false] R (aCons (xSl gSl (xVar 0) (oPart (xC (.int 1))) oNone) (aCons (xOp gSub (xVar 1) (xVar 3)) aNil))))) sNext)
def m_rows_in (R : Fn) : MS := (sSeq (sIf (xTest (xOp (blR gEq) (xVar 0) (xLst aNil))) (sRet (xIf (xTest (xOp (blR gEq) (xVar 1) (xC (.int 0)))) (xC (.int 1)) (xC (.int 0)))) sNext) (sSeq (sIf (xTest (xOp (blR gEq) (xCB gLen (aCons (xVar 0) aNil)) (xC (.int 1)))) (sRet (xIf (xTest (xOp (blR gGt) (xVar 1) (xC (.int 0)))) (xOp gIx (xOp gIx (xVar 0) (xC (.int 0))) (xVar 1)) (xC (.int 0)))) sNext) (sSeq (sAsg 2 (xC (.int 0))) (sSeq (sFor (xIRng2 (aCons (xC (.int 1)) (aCons (xVar 1) aNil))) (mName 3) (b_rows_in_1 R)) (sRet (xVar 2))))))
def F_rows_in : Nat → Fn
  | 0 => fun _ => .bad
  | k + 1 => runF (fun i => decide (i ∈ ([0, 1] : List Nat))) 2 2 (m_rows_in (F_rows_in k))
theorem ok_rows_in (T : Tx K mg) : ∀ n : Nat, FnOk P w K mg base (L2.CX P w) (1 + n) T.a_rows_in T.fd_rows_in ["lists", "total"] (spM K T.ct (F_rows_in n))
  | 0 => okBad
  | n + 1 => by
    have G := ok_rows_in T n
    refine T.f_rows_in.okX sc_rows_in (fun vs H Q E h => sp_len runF_len h) (fun cdv A outer s H vs Q E hr h => ?_)
    have I : ImpS K T.ct E (fun i => decide (i ∈ ([0, 1] : List Nat))) _ (m_rows_in (F_rows_in n)) := (is_seq (is_if (it_test (im_op (CmpI.op ci_eq) (im_var (i := 0)) (im_lst ia_nil))) (is_ret (im_if (it_test (im_op (CmpI.op ci_eq) (im_var (i := 1)) im_int)) im_int im_int)) is_next) (is_seq (is_if (it_test (im_op (CmpI.op ci_eq) (im_cb gc_len (ia_cons (im_var (i := 0)) ia_nil)) im_int)) (is_ret (im_if (it_test (im_op (CmpI.op ci_gt) (im_var (i := 1)) im_int)) (im_op gi_ix (im_op gi_ix (im_var (i := 0)) im_int) (im_var (i := 1))) im_int)) is_next) (is_seq (is_asg (i := 2) im_int (by decide)) (is_seq (is_for (ii_rng2 (ia_cons im_int (ia_cons (im_var (i := 1)) ia_nil))) (ig_name (i := 3)) (is_if (it_test (im_op (CmpI.op ci_ne) (im_op gi_ix (im_op gi_ix (im_var (i := 0)) im_int) (im_var (i := 3))) im_int)) (is_aug (i := 2) gi_augAdd (im_op gi_mul (im_op gi_ix (im_op gi_ix (im_var (i := 0)) im_int) (im_var (i := 3))) (im_call (bs := [false, false]) (ia_cons (im_sl si_all (im_var (i := 0)) (io_part im_int) io_none) (ia_cons (im_op gi_sub (im_var (i := 1)) (im_var (i := 3))) ia_nil)))) (by decide)) is_next) (by decide)) (is_ret (im_var (i := 2)))))))
    exact ⟨_, (pss_cons (ps_if (pt_cmpR (op_eqs hr.units) (pv 0) (pe_lst pa_nil) (nomark _)) (pss_one (ps_ret (pe_ifExp (pt_cmpR (op_eqs hr.units) (pv 1) pe_int (nomark _)) pe_int pe_int))) pss_nil) (pss_cons (ps_if (pt_cmpR (op_eqs hr.units) (pe_callB call_len (by rfl) T.b_len (by decide +kernel) (pa_cons (pv 0) pa_nil)) pe_int (nomark _)) (pss_one (ps_ret (pe_ifExp (pt_cmpR op_gts (pv 1) pe_int (nomark _)) (pe_ix ix_seq (pe_ix ix_seq (pv 0) pe_int (fun _ _ => rfl)) (pv 1) (fun _ _ => rfl)) pe_int))) pss_nil) (pss_cons (ps_set (i := 2) sc_rows_in.nd rfl (by first | exact Or.inl rfl | exact Or.inr rfl) pe_int) (pss_cons (ps_for (passes_of rfl) rfl (pi_range2 (by rfl) T.b_range (pa_cons pe_int (pa_cons (pv 1) pa_nil))) (pg_name (i := 3) sc_rows_in.nd rfl (by first | exact Or.inl rfl | exact Or.inr rfl)) (pss_one (ps_if (pt_cmpR (op_nes hr.units) (pe_ix ix_seq (pe_ix ix_seq (pv 0) pe_int (fun _ _ => rfl)) (pv 3) (fun _ _ => rfl)) pe_int (nomark _)) (pss_one (ps_aug (i := 2) sc_rows_in.nd rfl (by first | exact Or.inl rfl | exact Or.inr rfl) (pe_op op_muls (pe_ix ix_seq (pe_ix ix_seq (pv 0) pe_int (fun _ _ => rfl)) (pv 3) (fun _ _ => rfl)) (pe_fn (CanC.ok G hr hxE) (by rfl) T.g_rows_in T.f_rows_in.kp T.bi_rows_in (pa_cons (pe_slice sl_all (pv 0) (po_some pe_int) po_none) (pa_cons (pe_op op_subs (pv 1) (pv 3)) pa_nil)))) ip_add)) pss_nil))) (pss_one (ps_ret (pv 2))))))), fn_body (np := 2) (nl := 2) I rfl h⟩
theorem sc_number_in : FnScope ["trees", "many", "counts", "total", "pair", "row", "states", "goal", "state"] ["trees", "many"] (defScope s_number_in) := ⟨rfl, rfl, rfl, by decide +kernel, rfl, by decide +kernel, by decide +kernel⟩
def e_number_in_1 : MX := (xOp gIx (xVar 2) (xVar 8))
def x_number_in_1 : MX := (xLc (xISeq (xVar 6)) (mName 8) xYes e_number_in_1 [8])
def b_number_in_1 : MS := (sRowAug 2 7 3 (xCall [false, false] (F_rows_in 8) (aCons x_number_in_1 (aCons (xOp gSub (xVar 3) (xC (.int 1))) aNil))))
def b_number_in_2 : MS := (sFor (xIZip (aCons (xCall [false, false] F_tuples_of (aCons (xOp gIx (xVar 0) (xC (.int 2))) (aCons (xOp gIx (xVar 4) (xC (.int 1))) aNil))) (aCons (xVar 5) aNil))) (mTup 2 (mgCons (mName 6) (mgCons (mName 7) mgNil))) b_number_in_1)
def b_number_in_3 : MS := (sFor (xIZip (aCons (xOp gIx (xVar 0) (xC (.int 1))) (aCons (xOp gIx (xVar 0) (xC (.int 3))) aNil))) (mTup 2 (mgCons (mName 4) (mgCons (mName 5) mgNil))) b_number_in_2)
def e_number_in_2 : MX := (xOp gIx (xOp gIx (xVar 2) (xVar 8)) (xVar 1))
def x_number_in_2 : MX := (xLc (xISeq (xOp gIx (xVar 0) (xC (.int 4)))) (mName 8) xYes e_number_in_2 [8])
def m_number_in : MS := (sSeq (sDrop (xCall [false] F_need_set (aCons (xVar 0) aNil))) (sSeq (sIf (xOr (xNot (xTru (xCall [false, false] F_is_number (aCons (xVar 1) (aCons (xC (.int 61)) aNil))))) (xTest (xOp (blR gEq) (xVar 1) (xC (.int 0))))) (sRaise "BadNumber") sNext) (sSeq (sAsgR 2 (xIRng1 (aCons (xOp gIx (xVar 0) (xC (.int 2))) aNil)) (mName 8) (xOp gMul (xLst (aCons (xC (.int 0)) aNil)) (xOp gAdd (xVar 1) (xC (.int 1)))) [8]) (sSeq (sFor (xIRng2 (aCons (xC (.int 1)) (aCons (xOp gAdd (xVar 1) (xC (.int 1))) aNil))) (mName 3) b_number_in_3) (sRet (xFrz (xCB gSum (aCons x_number_in_2 aNil))))))))
def F_number_in : Fn := runF (fun i => decide (i ∈ ([0, 1] : List Nat))) 2 7 m_number_in
theorem ok_number_in (T : Tx K mg) : FnOk P w K mg base (L2.CX P w) 10 T.a_number_in T.fd_number_in ["trees", "many"] (spM K T.ct F_number_in) := by
  refine T.f_number_in.okX sc_number_in (fun vs H Q E h => sp_len runF_len h) (fun cdv A outer s H vs Q E hr h => ?_)
  have I : ImpS K T.ct E (fun i => decide (i ∈ ([0, 1] : List Nat))) _ m_number_in := (is_seq (is_drop (im_call (bs := [false]) (ia_cons (im_var (i := 0)) ia_nil))) (is_seq (is_if (it_or (it_not (it_tru (im_call (bs := [false, false]) (ia_cons (im_var (i := 1)) (ia_cons im_int ia_nil))))) (it_test (im_op (CmpI.op ci_eq) (im_var (i := 1)) im_int))) (is_raise (c := "BadNumber")) is_next) (is_seq (is_asgR (i0 := 2) (vs := [8]) (ii_rng1 (ia_cons (im_op gi_ix (im_var (i := 0)) im_int) ia_nil)) (ig_name (i := 8)) (im_op gi_mul (im_lst (ia_cons im_int ia_nil)) (im_op gi_add (im_var (i := 1)) im_int)) (by decide) rfl) (is_seq (is_for (ii_rng2 (ia_cons im_int (ia_cons (im_op gi_add (im_var (i := 1)) im_int) ia_nil))) (ig_name (i := 3)) (is_for (ii_zip (ia_cons (im_op gi_ix (im_var (i := 0)) im_int) (ia_cons (im_op gi_ix (im_var (i := 0)) im_int) ia_nil))) (ig_tup (igs_cons (ig_name (i := 4)) (igs_cons (ig_name (i := 5)) igs_nil))) (is_for (ii_zip (ia_cons (im_call (bs := [false, false]) (ia_cons (im_op gi_ix (im_var (i := 0)) im_int) (ia_cons (im_op gi_ix (im_var (i := 4)) im_int) ia_nil))) (ia_cons (im_var (i := 5)) ia_nil))) (ig_tup (igs_cons (ig_name (i := 6)) (igs_cons (ig_name (i := 7)) igs_nil))) (is_rowAug (c := 2) (g := 7) (t := 3) (im_call (bs := [false, false]) (ia_cons (im_lc (vs := [8]) (ii_seq (im_var (i := 6))) (ig_name (i := 8)) it_yes (im_op gi_ix (im_var (i := 2)) (im_var (i := 8))) (by decide)) (ia_cons (im_op gi_sub (im_var (i := 3)) im_int) ia_nil)))) (by decide)) (by decide)) (by decide)) (is_ret (im_frz (im_cb gc_sum (ia_cons (im_lc (vs := [8]) (ii_seq (im_op gi_ix (im_var (i := 0)) im_int)) (ig_name (i := 8)) it_yes (im_op gi_ix (im_op gi_ix (im_var (i := 2)) (im_var (i := 8))) (im_var (i := 1))) (by decide)) ia_nil))))))))
  exact ⟨_, (pss_cons (ps_expr (pe_fn (CanC.ok (ok_need_set T) (hr.mono (by decide)) hxE) (by rfl) T.g_need_set T.f_need_set.kp T.bi_need_set (pa_cons (pv 0) pa_nil))) (pss_cons (ps_if (PW.pt (pw_or (pt_not (pt_truth (pe_fn (CanC.ok (ok_is_number T) (hr.mono (by decide)) hxE) (by rfl) T.g_is_number T.f_is_number.kp T.bi_is_number (pa_cons (pv 1) (pa_cons pe_int pa_nil))) (by intro _; rfl))) (pw_or1 (pt_cmpR (op_eqs hr.units) (pv 1) pe_int (nomark _))))) (pss_one (ps_raise rfl tkE (pmk_own PySem.F.excBase_ValueError T.x_BadNumber T.g_BadNumber T.k_BadNumber (raises_own T.e_BadNumber T.t_BadNumber) (by rfl)))) pss_nil) (pss_cons (ps_set (i := 2) sc_number_in.nd rfl (by first | exact Or.inl rfl | exact Or.inr rfl) (pe_lc (own := [("state", 8)]) rfl sc_number_in.nd (pi_range1 (by rfl) T.b_range (pa_cons (pe_ix ix_seq (pv 0) pe_int (fun _ _ => rfl)) pa_nil)) (blkOk_by (N := ["trees", "many", "counts", "total", "pair", "row", "states", "goal", "state"]) (sc := defScope s_number_in) (by first | decide +kernel | rfl)) (fun _ _ _ _ _ => (pg_name (i := 8) sc_number_in.nd rfl (by first | exact Or.inl rfl | exact Or.inr rfl))) (fun _ _ _ _ _ => pts_nil) (fun _ _ _ _ _ => (pe_op op_muls (pe_lst (pa_cons pe_int pa_nil)) (pe_op op_adds (pv 1) pe_int))))) (pss_cons (ps_for (passes_of rfl) rfl (pi_range2 (by rfl) T.b_range (pa_cons pe_int (pa_cons (pe_op op_adds (pv 1) pe_int) pa_nil))) (pg_name (i := 3) sc_number_in.nd rfl (by first | exact Or.inl rfl | exact Or.inr rfl)) (pss_one (ps_for (passes_of rfl) rfl (pi_zipK (by rfl) T.b_zip (pa_cons (pe_ix ix_seq (pv 0) pe_int (fun _ _ => rfl)) (pa_cons (pe_ix ix_seq (pv 0) pe_int (fun _ _ => rfl)) pa_nil))) (pg_tup rfl (pgs_cons (pg_name (i := 4) sc_number_in.nd rfl (by first | exact Or.inl rfl | exact Or.inr rfl)) (pgs_cons (pg_name (i := 5) sc_number_in.nd rfl (by first | exact Or.inl rfl | exact Or.inr rfl)) pgs_nil))) (pss_one (ps_for (passes_of rfl) rfl (pi_zipK (by rfl) T.b_zip (pa_cons (pe_fn (CanC.ok (ok_tuples_of T) (hr.mono (by decide)) hxE) (by rfl) T.g_tuples_of T.f_tuples_of.kp T.bi_tuples_of (pa_cons (pe_ix ix_seq (pv 0) pe_int (fun _ _ => rfl)) (pa_cons (pe_ix ix_seq (pv 4) pe_int (fun _ _ => rfl)) pa_nil))) (pa_cons (pv 5) pa_nil))) (pg_tup rfl (pgs_cons (pg_name (i := 6) sc_number_in.nd rfl (by first | exact Or.inl rfl | exact Or.inr rfl)) (pgs_cons (pg_name (i := 7) sc_number_in.nd rfl (by first | exact Or.inl rfl | exact Or.inr rfl)) pgs_nil))) (pss_one (ps_augS (pe_ix ix_seq (pv 2) (pv 7) (fun _ _ => rfl)) (pv 3) get_list (pe_fn (CanC.ok (ok_rows_in T 8) (hr.mono (by decide)) hxE) (by rfl) T.g_rows_in T.f_rows_in.kp T.bi_rows_in (pa_cons (pe_lc (own := [("state", 8)]) rfl sc_number_in.nd (pi_seq (pv 6)) (blkOk_by (N := ["trees", "many", "counts", "total", "pair", "row", "states", "goal", "state"]) (sc := defScope s_number_in) (by first | decide +kernel | rfl)) (fun _ _ _ _ _ => (pg_name (i := 8) sc_number_in.nd rfl (by first | exact Or.inl rfl | exact Or.inr rfl))) (fun _ _ _ _ _ => pts_nil) (fun _ _ _ _ _ => (pe_ix ix_seq (pv 2) (pv 8) (fun _ _ => rfl)))) (pa_cons (pe_op op_subs (pv 3) pe_int) pa_nil))) ip_add set_list))))))) (pss_one (ps_ret (pe_callB (cr_sum rfl) (by rfl) T.b_sum (by decide +kernel) (pa_cons (pe_lc (own := [("state", 8)]) rfl sc_number_in.nd (pi_seq (pe_ix ix_seq (pv 0) pe_int (fun _ _ => rfl))) (blkOk_by (N := ["trees", "many", "counts", "total", "pair", "row", "states", "goal", "state"]) (sc := defScope s_number_in) (by first | decide +kernel | rfl)) (fun _ _ _ _ _ => (pg_name (i := 8) sc_number_in.nd rfl (by first | exact Or.inl rfl | exact Or.inr rfl))) (fun _ _ _ _ _ => pts_nil) (fun _ _ _ _ _ => (pe_ix ix_seq (pe_ix ix_seq (pv 2) (pv 8) (fun _ _ => rfl)) (pv 1) (fun _ _ => rfl)))) pa_nil)))))))), fn_body (np := 2) (nl := 7) I rfl h⟩
theorem sc__law_begun : FnScope ["script", "wide", "grain"] ["script"] (defScope s__law_begun) := ⟨rfl, rfl, rfl, by decide +kernel, rfl, by decide +kernel, by decide +kernel⟩
def e__law_begun_1 : MX := (xOp gSub (xCB gAbs (aCons (xVar 2) aNil)) (xOp gPow (xC (.int 10)) (xC (.int 18))))
def x__law_begun_1 : MX := (xLc (xISeq (xVar 0)) (mName 2) (xTest (xOp (blR gGe) (xCB gAbs (aCons (xVar 2) aNil)) (xOp gPow (xC (.int 10)) (xC (.int 18))))) e__law_begun_1 [2])
def e__law_begun_2 : MX := (xOp gMod (xCB gToInt (aCons (xCB gAbs (aCons (xVar 2) aNil)) aNil)) (xC (.int 2147483629)))
def x__law_begun_2 : MX := (xLc (xISeq (xVar 0)) (mName 2) xYes e__law_begun_2 [2])
def m__law_begun : MS := (sSeq (sAsg 1 x__law_begun_1) (sRet (xDraw 1 x__law_begun_2)))
def F__law_begun : Fn := runF (fun i => decide (i ∈ ([0] : List Nat))) 1 2 m__law_begun
theorem ok__law_begun (T : Tx K mg) : FnOk P w K mg base (L2.CX P w) 1 T.a__law_begun T.fd__law_begun ["script"] (spM K T.ct F__law_begun) := by
  refine T.f__law_begun.okX sc__law_begun (fun vs H Q E h => sp_len runF_len h) (fun cdv A outer s H vs Q E hr h => ?_)
  have I : ImpS K T.ct E (fun i => decide (i ∈ ([0] : List Nat))) _ m__law_begun := (is_seq (is_asg (i := 1) (im_lc (vs := [2]) (ii_seq (im_var (i := 0))) (ig_name (i := 2)) (it_test (im_op (CmpI.op ci_ge) (im_cb gc_abs (ia_cons (im_var (i := 2)) ia_nil)) (im_op gi_pow im_int im_int))) (im_op gi_sub (im_cb gc_abs (ia_cons (im_var (i := 2)) ia_nil)) (im_op gi_pow im_int im_int)) (by decide)) (by decide)) (is_ret (im_draw (i := 1) (im_lc (vs := [2]) (ii_seq (im_var (i := 0))) (ig_name (i := 2)) it_yes (im_op gi_mod (im_cb gc_toInt (ia_cons (im_cb gc_abs (ia_cons (im_var (i := 2)) ia_nil)) ia_nil)) im_int) (by decide)))))
  exact ⟨_, (pss_cons (ps_setLc (i := 1) rfl sc__law_begun.nd rfl rfl (sw_true rfl rfl rfl (by decide +kernel)) (own := [("grain", 2)]) (pi_seq (pv 0)) (blkOk_by (N := ["script", "wide", "grain"]) (sc := defScope s__law_begun) (by first | decide +kernel | rfl)) (fun _ _ _ _ _ => (pg_name (i := 2) sc__law_begun.nd rfl (by first | exact Or.inl rfl | exact Or.inr rfl))) (fun _ _ _ _ _ => (pts_one (pt_cmpR op_ges (pe_callB call_abs (by rfl) T.b_abs (by decide +kernel) (pa_cons (pv 2) pa_nil)) (pe_op op_pow pe_int pe_int) (nomark _)))) (fun _ _ _ _ _ => (pe_op op_subs (pe_callB call_abs (by rfl) T.b_abs (by decide +kernel) (pa_cons (pv 2) pa_nil)) (pe_op op_pow pe_int pe_int)))) (pss_one (ps_ret (pe_disp (pps_cons pe_str (pv 1) (pps_cons pe_str (pe_lc (own := [("grain", 2)]) rfl sc__law_begun.nd (pi_seq (pv 0)) (blkOk_by (N := ["script", "wide", "grain"]) (sc := defScope s__law_begun) (by first | decide +kernel | rfl)) (fun _ _ _ _ _ => (pg_name (i := 2) sc__law_begun.nd rfl (by first | exact Or.inl rfl | exact Or.inr rfl))) (fun _ _ _ _ _ => pts_nil) (fun _ _ _ _ _ => (pe_op op_mod (pe_callTy call_int1 (by rfl) T.b_int (by decide +kernel) (pa_cons (pe_callB call_abs (by rfl) T.b_abs (by decide +kernel) (pa_cons (pv 2) pa_nil)) pa_nil)) pe_int))) (pps_cons pe_str pe_int (pps_cons pe_str pe_int pps_nil)))) (by rfl) (by rfl) (fun z => by cases z) (by decide))))), fn_body (np := 1) (nl := 2) I rfl h⟩
theorem sc__law_mixed : FnScope ["draw", "turn", "found", "prime", "blend", "grain"] ["draw"] (defScope s__law_mixed) := ⟨rfl, rfl, rfl, by decide +kernel, rfl, by decide +kernel, by decide +kernel⟩
def b__law_mixed_1 : MS := (sAsg 4 (xOp gMod (xCB gToInt (aCons (xOp gAdd (xOp gAdd (xOp gMul (xVar 4) (xC (.int 69621))) (xVar 5)) (xVar 1)) aNil)) (xVar 3)))
def b__law_mixed_2 : MS := (sSeq (sAsg 4 (xOp gAdd (xOp gMul (xC (.int 48271)) (xVar 1)) (xOp gFdiv (xVar 3) (xC (.int 37))))) (sSeq (sFor (xISeq (xDrw (fun st => .sh (.scr st.cells)) 0)) (mName 5) b__law_mixed_1) (sAsg 2 (xOp gAdd (xOp gMul (xVar 2) (xC (.int 2147483647))) (xOp gMod (xCB gToInt (aCons (xOp gPow (xVar 4) (xC (.int 5))) aNil)) (xVar 3))))))
def m__law_mixed : MS := (sSeq (sPars [1, 2] (aCons (xOp gAdd (xDrw (fun st => .sh (.int st.turn)) 0) (xC (.int 1))) (aCons (xC (.int 0)) aNil))) (sSeq (sDPut (fun st k => { st with turn := k }) 0 (xVar 1)) (sSeq (sFor (xISeq (xLst (aCons (xC (.int 2147483647)) (aCons (xC (.int 2147483629)) (aCons (xC (.int 2147483587)) (aCons (xC (.int 2147483579)) aNil)))))) (mName 3) b__law_mixed_2) (sRet (xVar 2)))))
def F__law_mixed : Fn := runF (fun i => decide (i ∈ ([0] : List Nat))) 1 5 m__law_mixed
theorem ok__law_mixed (T : Tx K mg) : FnOk P w K mg base (L2.CX P w) 1 T.a__law_mixed T.fd__law_mixed ["draw"] (spM K T.ct F__law_mixed) := by
  refine T.f__law_mixed.okX sc__law_mixed (fun vs H Q E h => sp_len runF_len h) (fun cdv A outer s H vs Q E hr h => ?_)
  have I : ImpS K T.ct E (fun i => decide (i ∈ ([0] : List Nat))) _ m__law_mixed := (is_seq (is_par (ia_cons (im_op gi_add (im_dturn (i := 0)) im_int) (ia_cons im_int ia_nil)) (by decide)) (is_seq (is_dturn (i := 0) (im_var (i := 1))) (is_seq (is_for (ii_seq (im_lst (ia_cons im_int (ia_cons im_int (ia_cons im_int (ia_cons im_int ia_nil)))))) (ig_name (i := 3)) (is_seq (is_asg (i := 4) (im_op gi_add (im_op gi_mul im_int (im_var (i := 1))) (im_op gi_fdiv (im_var (i := 3)) im_int)) (by decide)) (is_seq (is_for (ii_seq (im_dcells (i := 0))) (ig_name (i := 5)) (is_asg (i := 4) (im_op gi_mod (im_cb gc_toInt (ia_cons (im_op gi_add (im_op gi_add (im_op gi_mul (im_var (i := 4)) im_int) (im_var (i := 5))) (im_var (i := 1))) ia_nil)) (im_var (i := 3))) (by decide)) (by decide)) (is_asg (i := 2) (im_op gi_add (im_op gi_mul (im_var (i := 2)) im_int) (im_op gi_mod (im_cb gc_toInt (ia_cons (im_op gi_pow (im_var (i := 4)) im_int) ia_nil)) (im_var (i := 3)))) (by decide)))) (by decide)) (is_ret (im_var (i := 2))))))
  exact ⟨_, (pss_cons (ps_par (i := 1) (j := 2) rfl sc__law_mixed.nd rfl rfl (by decide) rfl rfl (pa_cons (pe_op op_adds (pe_dget (hu_of hr) (pv 0) pe_str (fun _ _ => rfl)) pe_int) (pa_cons pe_int pa_nil)) (by rfl)) (pss_cons (ps_dput (hu_of hr) (pv 0) pe_str (pv 1) (by rfl)) (pss_cons (ps_for (passes_of rfl) rfl (pi_seq (pe_lst (pa_cons pe_int (pa_cons pe_int (pa_cons pe_int (pa_cons pe_int pa_nil)))))) (pg_name (i := 3) sc__law_mixed.nd rfl (by first | exact Or.inl rfl | exact Or.inr rfl)) (pss_cons (ps_set (i := 4) sc__law_mixed.nd rfl (by first | exact Or.inl rfl | exact Or.inr rfl) (pe_op op_adds (pe_op op_muls pe_int (pv 1)) (pe_op op_fdiv (pv 3) pe_int))) (pss_cons (ps_for (passes_of rfl) rfl (pi_seq (pe_dget (hu_of hr) (pv 0) pe_str (fun _ _ => rfl))) (pg_name (i := 5) sc__law_mixed.nd rfl (by first | exact Or.inl rfl | exact Or.inr rfl)) (pss_one (ps_set (i := 4) sc__law_mixed.nd rfl (by first | exact Or.inl rfl | exact Or.inr rfl) (pe_op op_mod (pe_callTy call_int1 (by rfl) T.b_int (by decide +kernel) (pa_cons (pe_op op_adds (pe_op op_adds (pe_op op_muls (pv 4) pe_int) (pv 5)) (pv 1)) pa_nil)) (pv 3))))) (pss_one (ps_set (i := 2) sc__law_mixed.nd rfl (by first | exact Or.inl rfl | exact Or.inr rfl) (pe_op op_adds (pe_op op_muls (pv 2) pe_int) (pe_op op_mod (pe_callTy call_int1 (by rfl) T.b_int (by decide +kernel) (pa_cons (pe_op op_pow (pv 4) pe_int) pa_nil)) (pv 3)))))))) (pss_one (ps_ret (pv 2)))))), fn_body (np := 1) (nl := 5) I rfl h⟩
theorem sc__law_take : FnScope ["draw", "many", "found"] ["draw", "many"] (defScope s__law_take) := ⟨rfl, rfl, rfl, by decide +kernel, rfl, by decide +kernel, by decide +kernel⟩
def m__law_take : MS := (sSeq (sIf (xTest (xOp (blR gEq) (xDrw (fun st => .sh (.int st.rest)) 0) (xC (.int 0)))) (sDPut (fun st k => { st with rest := k }) 0 (xIf (xTest (xDrw (fun st => .sh (.bl (!st.wide.isEmpty))) 0)) (xDPop 0) (xCall [true] F__law_mixed (aCons (xVar 0) aNil)))) sNext) (sSeq (sAsg 2 (xOp gMod (xCB gToInt (aCons (xDrw (fun st => .sh (.int st.rest)) 0) aNil)) (xVar 1))) (sSeq (sDPut (fun st k => { st with rest := k }) 0 (xOp gFdiv (xDrw (fun st => .sh (.int st.rest)) 0) (xVar 1))) (sRet (xVar 2)))))
def F__law_take : Fn := runF (fun i => decide (i ∈ ([0, 1] : List Nat))) 2 1 m__law_take
theorem ok__law_take (T : Tx K mg) : FnOk P w K mg base (L2.CX P w) 2 T.a__law_take T.fd__law_take ["draw", "many"] (spM K T.ct F__law_take) := by
  refine T.f__law_take.okX sc__law_take (fun vs H Q E h => sp_len runF_len h) (fun cdv A outer s H vs Q E hr h => ?_)
  have I : ImpS K T.ct E (fun i => decide (i ∈ ([0, 1] : List Nat))) _ m__law_take := (is_seq (is_if (it_test (im_op (CmpI.op ci_eq) (im_drest (i := 0)) im_int)) (is_drest (i := 0) (im_if (it_test (im_dwide (i := 0))) (im_dpop (i := 0)) (im_call (bs := [true]) (ia_cons (im_var (i := 0)) ia_nil)))) is_next) (is_seq (is_asg (i := 2) (im_op gi_mod (im_cb gc_toInt (ia_cons (im_drest (i := 0)) ia_nil)) (im_var (i := 1))) (by decide)) (is_seq (is_drest (i := 0) (im_op gi_fdiv (im_drest (i := 0)) (im_var (i := 1)))) (is_ret (im_var (i := 2))))))
  exact ⟨_, (pss_cons (ps_if (pt_cmpR (op_eqs hr.units) (pe_dget (hu_of hr) (pv 0) pe_str (fun _ _ => rfl)) pe_int (nomark _)) (pss_one (ps_dput (hu_of hr) (pv 0) pe_str (pe_ifExp (pt_cmpR (op_nes hr.units) (pe_dget (hu_of hr) (pv 0) pe_str (fun _ _ => rfl)) (pe_lst pa_nil) (nomark _)) (pe_bm PySem.F.plainAttrs_list PySem.F.slot_list_pop PySem.F.type_list_pop mt_popAt (pe_dget (hu_of hr) (pv 0) pe_str (fun _ _ => rfl)) (pa_cons pe_int pa_nil)) (pe_fn (CanC.ok (ok__law_mixed T) (hr.mono (by decide)) hxE) (by rfl) T.g__law_mixed T.f__law_mixed.kp T.bi__law_mixed (pa_cons (pv 0) pa_nil))) (by rfl))) pss_nil) (pss_cons (ps_set (i := 2) sc__law_take.nd rfl (by first | exact Or.inl rfl | exact Or.inr rfl) (pe_op op_mod (pe_callTy call_int1 (by rfl) T.b_int (by decide +kernel) (pa_cons (pe_dget (hu_of hr) (pv 0) pe_str (fun _ _ => rfl)) pa_nil)) (pv 1))) (pss_cons (ps_dput (hu_of hr) (pv 0) pe_str (pe_op op_fdiv (pe_dget (hu_of hr) (pv 0) pe_str (fun _ _ => rfl)) (pv 1)) (by rfl)) (pss_one (ps_ret (pv 2)))))), fn_body (np := 2) (nl := 1) I rfl h⟩
theorem sc__law_pick : FnScope ["draw", "some"] ["draw", "some"] (defScope s__law_pick) := ⟨rfl, rfl, rfl, by decide +kernel, rfl, by decide +kernel, by decide +kernel⟩
def m__law_pick : MS := (sRet (xOp gIx (xVar 1) (xCall [true, false] F__law_take (aCons (xVar 0) (aCons (xCB gLen (aCons (xVar 1) aNil)) aNil)))))
def F__law_pick : Fn := runF (fun i => decide (i ∈ ([0, 1] : List Nat))) 2 0 m__law_pick
theorem ok__law_pick (T : Tx K mg) : FnOk P w K mg base (L2.CX P w) 3 T.a__law_pick T.fd__law_pick ["draw", "some"] (spM K T.ct F__law_pick) := by
  refine T.f__law_pick.okX sc__law_pick (fun vs H Q E h => sp_len runF_len h) (fun cdv A outer s H vs Q E hr h => ?_)
  have I : ImpS K T.ct E (fun i => decide (i ∈ ([0, 1] : List Nat))) _ m__law_pick := (is_ret (im_op gi_ix (im_var (i := 1)) (im_call (bs := [true, false]) (ia_cons (im_var (i := 0)) (ia_cons (im_cb gc_len (ia_cons (im_var (i := 1)) ia_nil)) ia_nil)))))
  exact ⟨_, (pss_one (ps_ret (pe_ix ix_seq (pv 1) (pe_fn (CanC.ok (ok__law_take T) (hr.mono (by decide)) hxE) (by rfl) T.g__law_take T.f__law_take.kp T.bi__law_take (pa_cons (pv 0) (pa_cons (pe_callB call_len (by rfl) T.b_len (by decide +kernel) (pa_cons (pv 1) pa_nil)) pa_nil))) (fun _ _ => rfl)))), fn_body (np := 2) (nl := 0) I rfl h⟩
theorem sc__law_shuffled : FnScope ["draw", "some", "left", "found"] ["draw", "some"] (defScope s__law_shuffled) := ⟨rfl, rfl, rfl, by decide +kernel, rfl, by decide +kernel, by decide +kernel⟩
def b__law_shuffled_1 : MS := (sDrop (xApp 3 (xPopAt 2 (xCall [true, false] F__law_take (aCons (xVar 0) (aCons (xCB gLen (aCons (xVar 2) aNil)) aNil))))))
def m__law_shuffled : MS := (sSeq (sPars [2, 3] (aCons (xCB gList (aCons (xVar 1) aNil)) (aCons (xLst aNil) aNil))) (sSeq (whLoop (xTest (xOp (blR gNe) (xVar 2) (xLst aNil))) b__law_shuffled_1 1000) (sRet (xVar 3))))
def F__law_shuffled : Fn := runF (fun i => decide (i ∈ ([0, 1] : List Nat))) 2 2 m__law_shuffled
theorem ok__law_shuffled (T : Tx K mg) : FnOk P w K mg base (L2.CX P w) 3 T.a__law_shuffled T.fd__law_shuffled ["draw", "some"] (spM K T.ct F__law_shuffled) := by
  refine T.f__law_shuffled.okX sc__law_shuffled (fun vs H Q E h => sp_len runF_len h) (fun cdv A outer s H vs Q E hr h => ?_)
  have I : ImpS K T.ct E (fun i => decide (i ∈ ([0, 1] : List Nat))) _ m__law_shuffled := (is_seq (is_par (ia_cons (im_cb gc_list (ia_cons (im_var (i := 1)) ia_nil)) (ia_cons (im_lst ia_nil) ia_nil)) (by decide)) (is_seq (is_while (n := 1000) (it_test (im_op (CmpI.op ci_ne) (im_var (i := 2)) (im_lst ia_nil))) (is_drop (im_app (i := 3) (im_popAt (i := 2) (im_call (bs := [true, false]) (ia_cons (im_var (i := 0)) (ia_cons (im_cb gc_len (ia_cons (im_var (i := 2)) ia_nil)) ia_nil))))))) (is_ret (im_var (i := 3)))))
  exact ⟨_, (pss_cons (ps_par (i := 2) (j := 3) rfl sc__law_shuffled.nd rfl rfl (by decide) rfl rfl (pa_cons (pe_callTy call_list_of (by rfl) T.b_list (by decide +kernel) (pa_cons (pv 1) pa_nil)) (pa_cons (pe_lst pa_nil) pa_nil)) (by rfl)) (pss_cons (ps_while (passes_of rfl) (pt_cmpR (op_nes hr.units) (pv 2) (pe_lst pa_nil) (nomark _)) (pss_one (ps_expr (pe_bm PySem.F.plainAttrs_list PySem.F.slot_list_append PySem.F.type_list_append mt_append (pv 3) (pa_cons (pe_bm PySem.F.plainAttrs_list PySem.F.slot_list_pop PySem.F.type_list_pop mt_popAt (pv 2) (pa_cons (pe_fn (CanC.ok (ok__law_take T) (hr.mono (by decide)) hxE) (by rfl) T.g__law_take T.f__law_take.kp T.bi__law_take (pa_cons (pv 0) (pa_cons (pe_callB call_len (by rfl) T.b_len (by decide +kernel) (pa_cons (pv 2) pa_nil)) pa_nil))) pa_nil)) pa_nil))))) (pss_one (ps_ret (pv 3))))), fn_body (np := 2) (nl := 2) I rfl h⟩
theorem sc__law_names : FnScope ["draw", "many", "some", "one", "other", "stem"] ["draw", "many"] (defScope s__law_names) := ⟨rfl, rfl, rfl, by decide +kernel, rfl, by decide +kernel, by decide +kernel⟩
def e__law_names_1 : MX := (xOp gAdd (xVar 3) (xVar 4))
def x__law_names_1 : MX := (xLc (xISeq (xC (.str "aeiou"))) (mName 4) xYes e__law_names_1 [4])
def b__law_names_1 : MS := (sAsg 2 (xOp gAdd (xVar 2) x__law_names_1))
def e__law_names_2 : MX := (xOp gAdd (xVar 5) (xCall [true, false] F__law_pick (aCons (xVar 0) (aCons (xLst (aCons (xC (.str "q")) (aCons (xC (.str "k")) (aCons (xC (.str "x")) (aCons (xC (.str "mu")) aNil))))) aNil))))
def x__law_names_2 : MX := (xLc (xISeq (xSl gSl (xCall [true, false] F__law_shuffled (aCons (xVar 0) (aCons (xVar 2) aNil))) oNone (oPart (xVar 1)))) (mName 5) xYes e__law_names_2 [5])
def m__law_names : MS := (sSeq (sAsg 2 (xLst aNil)) (sSeq (sFor (xISeq (xC (.str "bcdfghklmnprstvwxz"))) (mName 3) b__law_names_1) (sRet x__law_names_2)))
def F__law_names : Fn := runF (fun i => decide (i ∈ ([0, 1] : List Nat))) 2 4 m__law_names
theorem ok__law_names (T : Tx K mg) : FnOk P w K mg base (L2.CX P w) 4 T.a__law_names T.fd__law_names ["draw", "many"] (spM K T.ct F__law_names) := by
  refine T.f__law_names.okX sc__law_names (fun vs H Q E h => sp_len runF_len h) (fun cdv A outer s H vs Q E hr h => ?_)
  have I : ImpS K T.ct E (fun i => decide (i ∈ ([0, 1] : List Nat))) _ m__law_names := (is_seq (is_asg (i := 2) (im_lst ia_nil) (by decide)) (is_seq (is_for (ii_seq im_str) (ig_name (i := 3)) (is_asg (i := 2) (im_op gi_add (im_var (i := 2)) (im_lc (vs := [4]) (ii_seq im_str) (ig_name (i := 4)) it_yes (im_op gi_add (im_var (i := 3)) (im_var (i := 4))) (by decide))) (by decide)) (by decide)) (is_ret (im_lc (vs := [5]) (ii_seq (im_sl si_all (im_call (bs := [true, false]) (ia_cons (im_var (i := 0)) (ia_cons (im_var (i := 2)) ia_nil))) io_none (io_part (im_var (i := 1))))) (ig_name (i := 5)) it_yes (im_op gi_add (im_var (i := 5)) (im_call (bs := [true, false]) (ia_cons (im_var (i := 0)) (ia_cons (im_lst (ia_cons im_str (ia_cons im_str (ia_cons im_str (ia_cons im_str ia_nil))))) ia_nil)))) (by decide)))))
  exact ⟨_, (pss_cons (ps_set (i := 2) sc__law_names.nd rfl (by first | exact Or.inl rfl | exact Or.inr rfl) (pe_lst pa_nil)) (pss_cons (ps_for (passes_of rfl) rfl (pi_seq pe_str) (pg_name (i := 3) sc__law_names.nd rfl (by first | exact Or.inl rfl | exact Or.inr rfl)) (pss_one (ps_set (i := 2) sc__law_names.nd rfl (by first | exact Or.inl rfl | exact Or.inr rfl) (pe_op op_adds (pv 2) (pe_lc (own := [("other", 4)]) rfl sc__law_names.nd (pi_seq pe_str) (blkOk_by (N := ["draw", "many", "some", "one", "other", "stem"]) (sc := defScope s__law_names) (by first | decide +kernel | rfl)) (fun _ _ _ _ _ => (pg_name (i := 4) sc__law_names.nd rfl (by first | exact Or.inl rfl | exact Or.inr rfl))) (fun _ _ _ _ _ => pts_nil) (fun _ _ _ _ _ => (pe_op op_adds (pv 3) (pv 4)))))))) (pss_one (ps_ret (pe_lc (own := [("stem", 5)]) rfl sc__law_names.nd (pi_seq (pe_slice sl_all (pe_fn (CanC.ok (ok__law_shuffled T) (hr.mono (by decide)) hxE) (by rfl) T.g__law_shuffled T.f__law_shuffled.kp T.bi__law_shuffled (pa_cons (pv 0) (pa_cons (pv 2) pa_nil))) po_none (po_some (pv 1)))) (blkOk_by (N := ["draw", "many", "some", "one", "other", "stem"]) (sc := defScope s__law_names) (by first | decide +kernel | rfl)) (fun _ _ _ _ _ => (pg_name (i := 5) sc__law_names.nd rfl (by first | exact Or.inl rfl | exact Or.inr rfl))) (fun _ _ _ _ _ => pts_nil) (fun _ _ _ _ _ => (pe_op op_adds (pv 5) (pe_fn (CanC.ok (ok__law_pick T) (hr.mono (by decide)) hxB) (by rfl) T.g__law_pick T.f__law_pick.kp T.bi__law_pick (pa_cons (pv 0) (pa_cons (pe_lst (pa_cons pe_str (pa_cons pe_str (pa_cons pe_str (pa_cons pe_str pa_nil))))) pa_nil)))))))))), fn_body (np := 2) (nl := 4) I rfl h⟩
theorem sc__law_all_of : FnScope ["kinds", "pair"] ["kinds"] (defScope s__law_all_of) := ⟨rfl, rfl, rfl, by decide +kernel, rfl, by decide +kernel, by decide +kernel⟩
def e__law_all_of_1 : MX := (xTup (aCons (xC (.int 0)) aNil))
def x__law_all_of_1 : MX := (xLc (xISeq (xVar 0)) (mName 1) xYes e__law_all_of_1 [1])
def m__law_all_of : MS := (sRet (xTup (aCons (xC (.str "set")) (aCons (xVar 0) (aCons (xC (.int 1)) (aCons (xCB gTuple (aCons x__law_all_of_1 aNil)) (aCons (xTup (aCons (xC (.int 0)) aNil)) aNil)))))))
def F__law_all_of : Fn := runF (fun i => decide (i ∈ ([0] : List Nat))) 1 1 m__law_all_of
theorem ok__law_all_of (T : Tx K mg) : FnOk P w K mg base (L2.CX P w) 1 T.a__law_all_of T.fd__law_all_of ["kinds"] (spM K T.ct F__law_all_of) := by
  refine T.f__law_all_of.okX sc__law_all_of (fun vs H Q E h => sp_len runF_len h) (fun cdv A outer s H vs Q E hr h => ?_)
  have I : ImpS K T.ct E (fun i => decide (i ∈ ([0] : List Nat))) _ m__law_all_of := (is_ret (im_tup (ia_cons im_str (ia_cons (im_var (i := 0)) (ia_cons im_int (ia_cons (im_cb gc_tuple (ia_cons (im_lc (vs := [1]) (ii_seq (im_var (i := 0))) (ig_name (i := 1)) it_yes (im_tup (ia_cons im_int ia_nil)) (by decide)) ia_nil)) (ia_cons (im_tup (ia_cons im_int ia_nil)) ia_nil)))))))
  exact ⟨_, (pss_one (ps_ret (pe_tup (pa_cons pe_str (pa_cons (pv 0) (pa_cons pe_int (pa_cons (pe_callTy call_tuple_of (by rfl) T.b_tuple (by decide +kernel) (pa_cons (pe_lc (own := [("pair", 1)]) rfl sc__law_all_of.nd (pi_seq (pv 0)) (blkOk_by (N := ["kinds", "pair"]) (sc := defScope s__law_all_of) (by first | decide +kernel | rfl)) (fun _ _ _ _ _ => (pg_name (i := 1) sc__law_all_of.nd rfl (by first | exact Or.inl rfl | exact Or.inr rfl))) (fun _ _ _ _ _ => pts_nil) (fun _ _ _ _ _ => (pe_tup (pa_cons pe_int pa_nil)))) pa_nil)) (pa_cons (pe_tup (pa_cons pe_int pa_nil)) pa_nil)))))))), fn_body (np := 1) (nl := 1) I rfl h⟩
theorem sc__law_counts : FnScope ["kinds", "most", "found", "total", "many", "name", "rank", "line", "lap", "at", "k"] ["kinds", "most"] (defScope s__law_counts) := ⟨rfl, rfl, rfl, by decide +kernel, rfl, by decide +kernel, by decide +kernel⟩
def e__law_counts_1 : MX := (xOp gMul (xOp gIx (xVar 2) (xVar 10)) (xOp gIx (xVar 7) (xOp gSub (xVar 9) (xVar 10))))
def x__law_counts_1 : MX := (xLc (xIRng1 (aCons (xOp gAdd (xVar 9) (xC (.int 1))) aNil)) (mName 10) xYes e__law_counts_1 [10])
def e__law_counts_2 : MX := (xIf (xTest (xOp (blR gLt) (xVar 9) (xVar 3))) (xCB gSum (aCons x__law_counts_1 aNil)) (xC (.int 0)))
def x__law_counts_2 : MX := (xLc (xIRng1 (aCons (xOp gAdd (xVar 3) (xC (.int 1))) aNil)) (mName 9) xYes e__law_counts_2 [9])
def b__law_counts_1 : MS := (sAsg 7 x__law_counts_2)
def e__law_counts_3 : MX := (xOp gMul (xOp gIx (xVar 2) (xVar 10)) (xOp gIx (xVar 7) (xOp gSub (xOp gSub (xVar 3) (xC (.int 1))) (xVar 10))))
def x__law_counts_3 : MX := (xLc (xIRng1 (aCons (xVar 3) aNil)) (mName 10) xYes e__law_counts_3 [10])
def b__law_counts_2 : MS := (sIf (xTest (xOp (blR gLt) (xVar 6) (xC (.int 2)))) (sAsg 4 (xOp gAdd (xVar 4) (xIf (xTest (xOp (blR gEq) (xVar 6) (xC (.int 1)))) (xOp gIx (xVar 2) (xOp gSub (xVar 3) (xC (.int 1)))) (xCB gToInt (aCons (xOp (blR gEq) (xVar 3) (xC (.int 1))) aNil))))) (sSeq (sAsg 7 (xOp gAdd (xVar 2) (xLst (aCons (xC (.int 0)) aNil)))) (sSeq (sFor (xIRng1 (aCons (xOp gSub (xVar 6) (xC (.int 2))) aNil)) (mName 8) b__law_counts_1) (sAsg 4 (xOp gAdd (xVar 4) (xCB gSum (aCons x__law_counts_3 aNil)))))))
def b__law_counts_3 : MS := (sSeq (sAsg 4 (xC (.int 0))) (sSeq (sFor (xISeq (xVar 0)) (mTup 2 (mgCons (mName 5) (mgCons (mName 6) mgNil))) b__law_counts_2) (sDrop (xApp 2 (xVar 4)))))
def m__law_counts : MS := (sSeq (sAsg 2 (xLst (aCons (xC (.int 0)) aNil))) (sSeq (sFor (xIRng2 (aCons (xC (.int 1)) (aCons (xOp gAdd (xVar 1) (xC (.int 1))) aNil))) (mName 3) b__law_counts_3) (sRet (xVar 2))))
def F__law_counts : Fn := runF (fun i => decide (i ∈ ([0, 1] : List Nat))) 2 9 m__law_counts
theorem ok__law_counts (T : Tx K mg) : FnOk P w K mg base (L2.CX P w) 1 T.a__law_counts T.fd__law_counts ["kinds", "most"] (spM K T.ct F__law_counts) := by
  refine T.f__law_counts.okX sc__law_counts (fun vs H Q E h => sp_len runF_len h) (fun cdv A outer s H vs Q E hr h => ?_)
  have I : ImpS K T.ct E (fun i => decide (i ∈ ([0, 1] : List Nat))) _ m__law_counts := (is_seq (is_asg (i := 2) (im_lst (ia_cons im_int ia_nil)) (by decide)) (is_seq (is_for (ii_rng2 (ia_cons im_int (ia_cons (im_op gi_add (im_var (i := 1)) im_int) ia_nil))) (ig_name (i := 3)) (is_seq (is_asg (i := 4) im_int (by decide)) (is_seq (is_for (ii_seq (im_var (i := 0))) (ig_tup (igs_cons (ig_name (i := 5)) (igs_cons (ig_name (i := 6)) igs_nil))) (is_if (it_test (im_op (CmpI.op ci_lt) (im_var (i := 6)) im_int)) (is_asg (i := 4) (im_op gi_add (im_var (i := 4)) (im_if (it_test (im_op (CmpI.op ci_eq) (im_var (i := 6)) im_int)) (im_op gi_ix (im_var (i := 2)) (im_op gi_sub (im_var (i := 3)) im_int)) (im_cb gc_toInt (ia_cons (im_op (CmpI.op ci_eq) (im_var (i := 3)) im_int) ia_nil)))) (by decide)) (is_seq (is_asg (i := 7) (im_op gi_add (im_var (i := 2)) (im_lst (ia_cons im_int ia_nil))) (by decide)) (is_seq (is_for (ii_rng1 (ia_cons (im_op gi_sub (im_var (i := 6)) im_int) ia_nil)) (ig_name (i := 8)) (is_asg (i := 7) (im_lc (vs := [9]) (ii_rng1 (ia_cons (im_op gi_add (im_var (i := 3)) im_int) ia_nil)) (ig_name (i := 9)) it_yes (im_if (it_test (im_op (CmpI.op ci_lt) (im_var (i := 9)) (im_var (i := 3)))) (im_cb gc_sum (ia_cons (im_lc (vs := [10]) (ii_rng1 (ia_cons (im_op gi_add (im_var (i := 9)) im_int) ia_nil)) (ig_name (i := 10)) it_yes (im_op gi_mul (im_op gi_ix (im_var (i := 2)) (im_var (i := 10))) (im_op gi_ix (im_var (i := 7)) (im_op gi_sub (im_var (i := 9)) (im_var (i := 10))))) (by decide)) ia_nil)) im_int) (by decide)) (by decide)) (by decide)) (is_asg (i := 4) (im_op gi_add (im_var (i := 4)) (im_cb gc_sum (ia_cons (im_lc (vs := [10]) (ii_rng1 (ia_cons (im_var (i := 3)) ia_nil)) (ig_name (i := 10)) it_yes (im_op gi_mul (im_op gi_ix (im_var (i := 2)) (im_var (i := 10))) (im_op gi_ix (im_var (i := 7)) (im_op gi_sub (im_op gi_sub (im_var (i := 3)) im_int) (im_var (i := 10))))) (by decide)) ia_nil))) (by decide))))) (by decide)) (is_drop (im_app (i := 2) (im_var (i := 4)))))) (by decide)) (is_ret (im_var (i := 2)))))
  exact ⟨_, (pss_cons (ps_set (i := 2) sc__law_counts.nd rfl (by first | exact Or.inl rfl | exact Or.inr rfl) (pe_lst (pa_cons pe_int pa_nil))) (pss_cons (ps_for (passes_of rfl) rfl (pi_range2 (by rfl) T.b_range (pa_cons pe_int (pa_cons (pe_op op_adds (pv 1) pe_int) pa_nil))) (pg_name (i := 3) sc__law_counts.nd rfl (by first | exact Or.inl rfl | exact Or.inr rfl)) (pss_cons (ps_set (i := 4) sc__law_counts.nd rfl (by first | exact Or.inl rfl | exact Or.inr rfl) pe_int) (pss_cons (ps_for (passes_of rfl) rfl (pi_seq (pv 0)) (pg_tup rfl (pgs_cons (pg_name (i := 5) sc__law_counts.nd rfl (by first | exact Or.inl rfl | exact Or.inr rfl)) (pgs_cons (pg_name (i := 6) sc__law_counts.nd rfl (by first | exact Or.inl rfl | exact Or.inr rfl)) pgs_nil))) (pss_one (ps_if (pt_cmpR op_lts (pv 6) pe_int (nomark _)) (pss_one (ps_set (i := 4) sc__law_counts.nd rfl (by first | exact Or.inl rfl | exact Or.inr rfl) (pe_op op_adds (pv 4) (pe_ifExp (pt_cmpR (op_eqs hr.units) (pv 6) pe_int (nomark _)) (pe_ix ix_seq (pv 2) (pe_op op_subs (pv 3) pe_int) (fun _ _ => rfl)) (pe_callTy call_int1 (by rfl) T.b_int (by decide +kernel) (pa_cons (pe_cmpR (op_eqs hr.units) (pv 3) pe_int (nomark _)) pa_nil)))))) (pss_cons (ps_set (i := 7) sc__law_counts.nd rfl (by first | exact Or.inl rfl | exact Or.inr rfl) (pe_op op_adds (pv 2) (pe_lst (pa_cons pe_int pa_nil)))) (pss_cons (ps_for (passes_of rfl) rfl (pi_range1 (by rfl) T.b_range (pa_cons (pe_op op_subs (pv 6) pe_int) pa_nil)) (pg_name (i := 8) sc__law_counts.nd rfl (by first | exact Or.inl rfl | exact Or.inr rfl)) (pss_one (ps_set (i := 7) sc__law_counts.nd rfl (by first | exact Or.inl rfl | exact Or.inr rfl) (pe_lc (own := [("at", 9)]) rfl sc__law_counts.nd (pi_range1 (by rfl) T.b_range (pa_cons (pe_op op_adds (pv 3) pe_int) pa_nil)) (blkOk_by (N := ["kinds", "most", "found", "total", "many", "name", "rank", "line", "lap", "at", "k"]) (sc := defScope s__law_counts) (by first | decide +kernel | rfl)) (fun _ _ _ _ _ => (pg_name (i := 9) sc__law_counts.nd rfl (by first | exact Or.inl rfl | exact Or.inr rfl))) (fun _ _ _ _ _ => pts_nil) (fun _ _ _ _ _ => (pe_ifExp (pt_cmpR op_lts (pv 9) (pv 3) (nomark _)) (pe_callB (cr_sum rfl) (by rfl) T.b_sum (by decide +kernel) (pa_cons (pe_lc (own := [("k", 10)]) rfl sc__law_counts.nd (pi_range1 (by rfl) T.b_range (pa_cons (pe_op op_adds (pv 9) pe_int) pa_nil)) (blkOk_by (N := ["kinds", "most", "found", "total", "many", "name", "rank", "line", "lap", "at", "k"]) (sc := relS _ (defScope s__law_counts)) (by first | decide +kernel | rfl)) (fun _ _ _ _ _ => (pg_name (i := 10) sc__law_counts.nd rfl (by first | exact Or.inl rfl | exact Or.inr rfl))) (fun _ _ _ _ _ => pts_nil) (fun _ _ _ _ _ => (pe_op op_muls (pe_ix ix_seq (pv 2) (pv 10) (fun _ _ => rfl)) (pe_ix ix_seq (pv 7) (pe_op op_subs (pv 9) (pv 10)) (fun _ _ => rfl))))) pa_nil)) pe_int)))))) (pss_one (ps_set (i := 4) sc__law_counts.nd rfl (by first | exact Or.inl rfl | exact Or.inr rfl) (pe_op op_adds (pv 4) (pe_callB (cr_sum rfl) (by rfl) T.b_sum (by decide +kernel) (pa_cons (pe_lc (own := [("k", 10)]) rfl sc__law_counts.nd (pi_range1 (by rfl) T.b_range (pa_cons (pv 3) pa_nil)) (blkOk_by (N := ["kinds", "most", "found", "total", "many", "name", "rank", "line", "lap", "at", "k"]) (sc := defScope s__law_counts) (by first | decide +kernel | rfl)) (fun _ _ _ _ _ => (pg_name (i := 10) sc__law_counts.nd rfl (by first | exact Or.inl rfl | exact Or.inr rfl))) (fun _ _ _ _ _ => pts_nil) (fun _ _ _ _ _ => (pe_op op_muls (pe_ix ix_seq (pv 2) (pv 10) (fun _ _ => rfl)) (pe_ix ix_seq (pv 7) (pe_op op_subs (pe_op op_subs (pv 3) pe_int) (pv 10)) (fun _ _ => rfl))))) pa_nil)))))))))) (pss_one (ps_expr (pe_bm PySem.F.plainAttrs_list PySem.F.slot_list_append PySem.F.type_list_append mt_append (pv 2) (pa_cons (pv 4) pa_nil))))))) (pss_one (ps_ret (pv 2))))), fn_body (np := 2) (nl := 9) I rfl h⟩
theorem sc__law_caught : FnScope ["work", "error", "caught"] ["work"] (defScope s__law_caught) := ⟨rfl, rfl, rfl, by decide +kernel, rfl, by decide +kernel, by decide +kernel⟩
theorem caught_gives {X : Cx} {g CW : Addr} {cdg : Value} {q : Str} (hme : X.mg "WritingError" = some (.ref CW)) :
    LamX.GivesTo X ["work", "error", "caught"] "_law_caught" (defScope s__law_caught) g cdg (defBody s__law_caught) "work" q (TCaught X.K CW) := by
  intro f c' s H Q tl act hc h
  refine ⟨_, pss_cons (ps_set (i := 1) sc__law_caught.nd rfl (.inl rfl) pe_non) (pss_cons
    (ps_keep (i := 2) (c := .ref CW) rfl rfl sc__law_caught.nd rfl rfl ⟨rfl, by decide, .inl hme⟩ rfl
      (tb := fun W D σ H => ∃ Ech : XK, (∀ cls d σ' H', Ech cls d H' → W cls d σ' H') ∧ σ[0]? = some (some (.ref f)) ∧ H c' = some (LamX.CodeO c' q) ∧ tl Ech H fun _ H' => D.nx σ H')
      (ts := fun _ _ _ => tAsg (tVar 2) (gName 1)) (fun W pn xe tk _ => ?_) (fun a oe cls d pn _ _ => pss_one (ps_set (i := 1) sc__law_caught.nd rfl (.inl rfl) (pv 2)))) (pss_one (ps_ret (pv 1)))), ?_⟩
  · refine ⟨fun pins s' σ H' D I h' => ?_⟩
    obtain ⟨Ech, hW, h1, h2, h3⟩ := h'
    exact (pss_one (ps_expr (act W pn xe Ech _ _ tk hW))).run pins s' σ H' D I ⟨h1, h2, h3⟩
  · refine ⟨fun cls d H' => PySem.W.exmOne X.K cls (.ref CW) = some true ∧ ∀ a, H' a = none → Q (.ref a) (upd H' a (HeldX cls d a)), fun cls d σ' H' hE => ⟨hE.1, fun a ha hl => ?_⟩, rfl, hc, ?_⟩
    · have hl : σ'.length = 3 := hl
      match σ', hl with
      | [u, v, w], _ => exact ⟨_, rfl, ha, _, rfl, hE.2 a ha⟩
    · exact h
end K82
end
section
set_option maxRecDepth 100000
set_option maxHeartbeats 2000000
namespace K82
open PySem PySem.Spec PyProof.Rows L2 DL
variable {P : Program} {w : World} {K : PySem.W.Frag} {mg : Str → Option Value} {base : Heap}
theorem sc_law : FnScope ["script", "draw", "turn", "names", "ranks", "kinds", "most", "dues", "sizes", "odd", "name", "many"] ["script"] (defScope s_law) := ⟨rfl, rfl, rfl, by decide +kernel, rfl, by decide +kernel, by decide +kernel⟩
def e_law_1 : MX := (xCall [true, false] F__law_pick (aCons (xVar 1) (aCons (xLst (aCons (xC (.int 0)) (aCons (xC (.int 1)) (aCons (xC (.int 1)) (aCons (xC (.int 2)) (aCons (xIf (xTest (xOp (blR gEq) (xVar 2) (xC (.int 0)))) (xC (.int 3)) (xC (.int 2))) aNil)))))) aNil)))
def x_law_1 : MX := (xLc (xISeq (xVar 3)) (mName 10) xYes e_law_1 [10])
def e_law_2 : MX := (xCallK 0 2 [1, 0] F_count aNil (aCons (xVar 11) (aCons (xVar 5) aNil)))
def x_law_2 : MX := (xLc (xISeq (xVar 8)) (mName 11) xYes e_law_2 [11])
def e_law_3 : MX := (xOp gIx (xVar 7) (xVar 11))
def x_law_3 : MX := (xLc (xISeq (xVar 8)) (mName 11) xYes e_law_3 [11])
def e_law_4 : MX := (xCall [false, false] F_number_in (aCons (xCall [false] F__law_all_of (aCons (xVar 5) aNil)) (aCons (xVar 11) aNil)))
def x_law_4 : MX := (xLc (xISeq (xVar 8)) (mName 11) xYes e_law_4 [11])
def e_law_5 : MX := (xOp gIx (xVar 7) (xVar 11))
def x_law_5 : MX := (xLc (xISeq (xVar 8)) (mName 11) xYes e_law_5 [11])
def b_law_1 (TT : List (Addr × Str)) : MS := (sSeq (sAsg 3 (xCB gSorted (aCons (xCall [true, false] F__law_names (aCons (xVar 1) (aCons (xOp gAdd (xC (.int 1)) (xCall [true, false] F__law_take (aCons (xVar 1) (aCons (xC (.int 6)) aNil)))) aNil))) aNil))) (sSeq (sAsg 4 x_law_1) (sSeq (sSetI 4 (xC (.int 0)) (xCall [true, false] F__law_take (aCons (xVar 1) (aCons (xCB gLen (aCons (xVar 3) aNil)) aNil)))) (sSeq (sAsg 5 (xTupZip (aCons (xVar 3) (aCons (xVar 4) aNil)))) (sSeq (sAsg 6 (xIf (xTest (xOp (blR (gIn false)) (xC (.int 3)) (xVar 4))) (xC (.int 50)) (xC (.int 200)))) (sSeq (sAsg 7 (xCall [false, false] F__law_counts (aCons (xVar 5) (aCons (xVar 6) aNil)))) (sSeq (sAsg 8 (xLst (aCons (xVar 6) (aCons (xC (.int 1)) (aCons (xOp gAdd (xC (.int 1)) (xCall [true, false] F__law_take (aCons (xVar 1) (aCons (xVar 6) aNil)))) (aCons (xOp gAdd (xC (.int 1)) (xCall [true, false] F__law_take (aCons (xVar 1) (aCons (xVar 6) aNil)))) aNil)))))) (sSeq (sIf (xTest (xOp (blR gNe) (xCB gRepr (aCons x_law_2 aNil)) (xCB gRepr (aCons x_law_3 aNil)))) (sRet (xC (.bl false))) sNext) (sSeq (sAsg 8 (xLst (aCons (xC (.int 1)) (aCons (xOp gAdd (xC (.int 1)) (xCall [true, false] F__law_take (aCons (xVar 1) (aCons (xCB gMin2 (aCons (xVar 6) (aCons (xC (.int 60)) aNil))) aNil)))) (aCons (xCB gMin2 (aCons (xVar 6) (aCons (xC (.int 60)) aNil))) aNil))))) (sSeq (sIf (xTest (xOp (blR gNe) (xCB gRepr (aCons x_law_4 aNil)) (xCB gRepr (aCons x_law_5 aNil)))) (sRet (xC (.bl false))) sNext) (sSeq (sAsg 9 (xCall [true, false] F__law_pick (aCons (xVar 1) (aCons (xLst (aCons (xC (.int 0)) (aCons (xC (.int 201)) (aCons (xUn gNeg (xC (.int 1))) (aCons (xC .non) (aCons (xC (.str "5")) (aCons (xC (.bl true)) aNil))))))) aNil)))) (sSeq (sIf (xNot (xTru (xCaught TT 0 (isaOf "BadNumber") (xCall [false, false] F_count (aCons (xVar 5) (aCons (xVar 9) aNil)))))) (sRet (xC (.bl false))) sNext) (sSeq (sAsg 9 (xCall [true, false] F__law_pick (aCons (xVar 1) (aCons (xLst (aCons (xC (.int 0)) (aCons (xC (.int 61)) (aCons (xC (.int 200)) (aCons (xC .non) (aCons (xC (.str "5")) (aCons (xC (.bl true)) aNil))))))) aNil)))) (sIf (xNot (xTru (xCaught TT 0 (isaOf "BadNumber") (xCall [false, false] F_number_in (aCons (xCall [false] F__law_all_of (aCons (xVar 5) aNil)) (aCons (xVar 9) aNil)))))) (sRet (xC (.bl false))) sNext))))))))))))))
def m_law (TT : List (Addr × Str)) : MS := (sSeq (sAsg 1 (xCall [false] F__law_begun (aCons (xVar 0) aNil))) (sSeq (sFor (xIRng1 (aCons (xOp gAdd (xC (.int 1)) (xCB gMin2 (aCons (xCB gLen (aCons (xVar 0) aNil)) (aCons (xC (.int 2)) aNil)))) aNil)) (mName 2) (b_law_1 TT)) (sRet (xC (.bl true)))))
def F_law (TT : List (Addr × Str)) : Fn := runF (fun i => decide (i ∈ ([0] : List Nat))) 1 11 (m_law TT)
def TTof (Pt : Addr) : List (Addr × Str) := [(Pt, (envOfC "law" (defScope s_law) 0 0 .none).qual ++ "<lambda>")]
theorem ok_law (T : Tx K mg) {oc kV doc pm ctv : Value} {od an : Option Addr} {osl : Array (Option Value)} {c Pt : Addr} (lk : K.lookup T.a_law = some ⟨oc, od, .func (PySem.W.fnOf "law" "law" (defArgs s_law) (defBody s_law) (defScope s_law) .none kV doc pm an (.ref c) ctv), osl⟩)
    (hcd : PySem.W.codeIn K (.ref c) "law" = true) (tb : LamX.TabB base mg c Pt) : FnG P w K mg base 14 T.a_law (PySem.W.fnOf "law" "law" (defArgs s_law) (defBody s_law) (defScope s_law) .none kV doc pm an (.ref c) ctv) ["script"] (spM K T.ct (F_law (TTof Pt))) := by
  obtain ⟨ocC, odC, kVC, docC, pmC, anC, cdvC, ctC, oslC, efd, lkC, hcC⟩ := T.f__law_caught.ex
  have biC := T.bi__law_caught
  rw [efd] at lkC biC
  refine fnC_of lk hcd sc_law (fun vs H Q E h => sp_len runF_len h) (fun A outer s H vs Q E hr hg h => ?_)
  have I : ImpS K T.ct E (fun i => decide (i ∈ ([0] : List Nat))) _ (m_law (TTof Pt)) := (is_seq (is_asg (i := 1) (im_call (bs := [false]) (ia_cons (im_var (i := 0)) ia_nil)) (by decide)) (is_seq (is_for (ii_rng1 (ia_cons (im_op gi_add im_int (im_cb gc_min2 (ia_cons (im_cb gc_len (ia_cons (im_var (i := 0)) ia_nil)) (ia_cons im_int ia_nil)))) ia_nil)) (ig_name (i := 2)) (is_seq (is_asg (i := 3) (im_cb gc_sorted (ia_cons (im_call (bs := [true, false]) (ia_cons (im_var (i := 1)) (ia_cons (im_op gi_add im_int (im_call (bs := [true, false]) (ia_cons (im_var (i := 1)) (ia_cons im_int ia_nil)))) ia_nil))) ia_nil)) (by decide)) (is_seq (is_asg (i := 4) (im_lc (vs := [10]) (ii_seq (im_var (i := 3))) (ig_name (i := 10)) it_yes (im_call (bs := [true, false]) (ia_cons (im_var (i := 1)) (ia_cons (im_lst (ia_cons im_int (ia_cons im_int (ia_cons im_int (ia_cons im_int (ia_cons (im_if (it_test (im_op (CmpI.op ci_eq) (im_var (i := 2)) im_int)) im_int im_int) ia_nil)))))) ia_nil))) (by decide)) (by decide)) (is_seq (is_setI (i := 4) im_int (im_call (bs := [true, false]) (ia_cons (im_var (i := 1)) (ia_cons (im_cb gc_len (ia_cons (im_var (i := 3)) ia_nil)) ia_nil)))) (is_seq (is_asg (i := 5) (im_tupZip (ia_cons (im_var (i := 3)) (ia_cons (im_var (i := 4)) ia_nil))) (by decide)) (is_seq (is_asg (i := 6) (im_if (it_test (im_op (CmpI.op ci_in) im_int (im_var (i := 4)))) im_int im_int) (by decide)) (is_seq (is_asg (i := 7) (im_call (bs := [false, false]) (ia_cons (im_var (i := 5)) (ia_cons (im_var (i := 6)) ia_nil))) (by decide)) (is_seq (is_asg (i := 8) (im_lst (ia_cons (im_var (i := 6)) (ia_cons im_int (ia_cons (im_op gi_add im_int (im_call (bs := [true, false]) (ia_cons (im_var (i := 1)) (ia_cons (im_var (i := 6)) ia_nil)))) (ia_cons (im_op gi_add im_int (im_call (bs := [true, false]) (ia_cons (im_var (i := 1)) (ia_cons (im_var (i := 6)) ia_nil)))) ia_nil))))) (by decide)) (is_seq (is_if (it_test (im_op (CmpI.op ci_ne) (im_cb gc_repr (ia_cons (im_lc (vs := [11]) (ii_seq (im_var (i := 8))) (ig_name (i := 11)) it_yes (im_callK ia_nil (ia_cons (im_var (i := 11)) (ia_cons (im_var (i := 5)) ia_nil))) (by decide)) ia_nil)) (im_cb gc_repr (ia_cons (im_lc (vs := [11]) (ii_seq (im_var (i := 8))) (ig_name (i := 11)) it_yes (im_op gi_ix (im_var (i := 7)) (im_var (i := 11))) (by decide)) ia_nil)))) (is_ret im_bl) is_next) (is_seq (is_asg (i := 8) (im_lst (ia_cons im_int (ia_cons (im_op gi_add im_int (im_call (bs := [true, false]) (ia_cons (im_var (i := 1)) (ia_cons (im_cb gc_min2 (ia_cons (im_var (i := 6)) (ia_cons im_int ia_nil))) ia_nil)))) (ia_cons (im_cb gc_min2 (ia_cons (im_var (i := 6)) (ia_cons im_int ia_nil))) ia_nil)))) (by decide)) (is_seq (is_if (it_test (im_op (CmpI.op ci_ne) (im_cb gc_repr (ia_cons (im_lc (vs := [11]) (ii_seq (im_var (i := 8))) (ig_name (i := 11)) it_yes (im_call (bs := [false, false]) (ia_cons (im_call (bs := [false]) (ia_cons (im_var (i := 5)) ia_nil)) (ia_cons (im_var (i := 11)) ia_nil))) (by decide)) ia_nil)) (im_cb gc_repr (ia_cons (im_lc (vs := [11]) (ii_seq (im_var (i := 8))) (ig_name (i := 11)) it_yes (im_op gi_ix (im_var (i := 7)) (im_var (i := 11))) (by decide)) ia_nil)))) (is_ret im_bl) is_next) (is_seq (is_asg (i := 9) (im_call (bs := [true, false]) (ia_cons (im_var (i := 1)) (ia_cons (im_lst (ia_cons im_int (ia_cons im_int (ia_cons (im_un gi_neg im_int) (ia_cons im_non (ia_cons im_str (ia_cons im_bl ia_nil))))))) ia_nil))) (by decide)) (is_seq (is_if (it_not (it_tru (im_caught (T := TTof Pt) (it := 0) T.w_BadNumber (fun _ => (im_call (bs := [false, false]) (ia_cons (im_var (i := 5)) (ia_cons (im_var (i := 9)) ia_nil))))))) (is_ret im_bl) is_next) (is_seq (is_asg (i := 9) (im_call (bs := [true, false]) (ia_cons (im_var (i := 1)) (ia_cons (im_lst (ia_cons im_int (ia_cons im_int (ia_cons im_int (ia_cons im_non (ia_cons im_str (ia_cons im_bl ia_nil))))))) ia_nil))) (by decide)) (is_if (it_not (it_tru (im_caught (T := TTof Pt) (it := 0) T.w_BadNumber (fun _ => (im_call (bs := [false, false]) (ia_cons (im_call (bs := [false]) (ia_cons (im_var (i := 5)) ia_nil)) (ia_cons (im_var (i := 9)) ia_nil))))))) (is_ret im_bl) is_next)))))))))))))) (by decide)) (is_ret im_bl)))
  exact ⟨_, (pss_cons (ps_set (i := 1) sc_law.nd rfl (by first | exact Or.inl rfl | exact Or.inr rfl) (pe_fn (CanC.ok (ok__law_begun T) (hr.mono (by decide)) hxE) (by rfl) T.g__law_begun T.f__law_begun.kp T.bi__law_begun (pa_cons (pv 0) pa_nil))) (pss_cons (ps_for (passes_of rfl) rfl (pi_range1 (by rfl) T.b_range (pa_cons (pe_op op_adds pe_int (pe_callB (call_min2 rfl) (by rfl) T.b_min (by decide +kernel) (pa_cons (pe_callB call_len (by rfl) T.b_len (by decide +kernel) (pa_cons (pv 0) pa_nil)) (pa_cons pe_int pa_nil)))) pa_nil)) (pg_name (i := 2) sc_law.nd rfl (by first | exact Or.inl rfl | exact Or.inr rfl)) (pss_cons (ps_set (i := 3) sc_law.nd rfl (by first | exact Or.inl rfl | exact Or.inr rfl) (pe_callB (call_sorteds rfl) (by rfl) T.b_sorted (by decide +kernel) (pa_cons (pe_fn (CanC.ok (ok__law_names T) (hr.mono (by decide)) hxE) (by rfl) T.g__law_names T.f__law_names.kp T.bi__law_names (pa_cons (pv 1) (pa_cons (pe_op op_adds pe_int (pe_fn (CanC.ok (ok__law_take T) (hr.mono (by decide)) hxE) (by rfl) T.g__law_take T.f__law_take.kp T.bi__law_take (pa_cons (pv 1) (pa_cons pe_int pa_nil)))) pa_nil))) pa_nil))) (pss_cons (ps_setLc (i := 4) rfl sc_law.nd rfl rfl (sw_true rfl rfl rfl (by decide +kernel)) (own := [("name", 10)]) (pi_seq (pv 3)) (blkOk_by (N := ["script", "draw", "turn", "names", "ranks", "kinds", "most", "dues", "sizes", "odd", "name", "many"]) (sc := defScope s_law) (by first | decide +kernel | rfl)) (fun _ _ _ _ _ => (pg_name (i := 10) sc_law.nd rfl (by first | exact Or.inl rfl | exact Or.inr rfl))) (fun _ _ _ _ _ => pts_nil) (fun _ _ _ _ _ => (pe_fn (CanC.ok (ok__law_pick T) (hr.mono (by decide)) hxB) (by rfl) T.g__law_pick T.f__law_pick.kp T.bi__law_pick (pa_cons (pv 1) (pa_cons (pe_lst (pa_cons pe_int (pa_cons pe_int (pa_cons pe_int (pa_cons pe_int (pa_cons (pe_ifExp (pt_cmpR (op_eqs hr.units) (pv 2) pe_int (nomark _)) pe_int pe_int) pa_nil)))))) pa_nil))))) (pss_cons (ps_asg pe_int (pg_sub (pv 4) (pe_fn (CanC.ok (ok__law_take T) (hr.mono (by decide)) hxE) (by rfl) T.g__law_take T.f__law_take.kp T.bi__law_take (pa_cons (pv 1) (pa_cons (pe_callB call_len (by rfl) T.b_len (by decide +kernel) (pa_cons (pv 3) pa_nil)) pa_nil))) set_list)) (pss_cons (ps_set (i := 5) sc_law.nd rfl (by first | exact Or.inl rfl | exact Or.inr rfl) (pe_tupZip rfl (by rfl) T.b_tuple (by rfl) T.b_zip (pa_cons (pv 3) (pa_cons (pv 4) pa_nil)))) (pss_cons (ps_set (i := 6) sc_law.nd rfl (by first | exact Or.inl rfl | exact Or.inr rfl) (pe_ifExp (pt_cmpR op_in_seq pe_int (pv 4) (by rfl)) pe_int pe_int)) (pss_cons (ps_set (i := 7) sc_law.nd rfl (by first | exact Or.inl rfl | exact Or.inr rfl) (pe_fn (CanC.ok (ok__law_counts T) (hr.mono (by decide)) hxE) (by rfl) T.g__law_counts T.f__law_counts.kp T.bi__law_counts (pa_cons (pv 5) (pa_cons (pv 6) pa_nil)))) (pss_cons (ps_set (i := 8) sc_law.nd rfl (by first | exact Or.inl rfl | exact Or.inr rfl) (pe_lst (pa_cons (pv 6) (pa_cons pe_int (pa_cons (pe_op op_adds pe_int (pe_fn (CanC.ok (ok__law_take T) (hr.mono (by decide)) hxE) (by rfl) T.g__law_take T.f__law_take.kp T.bi__law_take (pa_cons (pv 1) (pa_cons (pv 6) pa_nil)))) (pa_cons (pe_op op_adds pe_int (pe_fn (CanC.ok (ok__law_take T) (hr.mono (by decide)) hxE) (by rfl) T.g__law_take T.f__law_take.kp T.bi__law_take (pa_cons (pv 1) (pa_cons (pv 6) pa_nil)))) pa_nil)))))) (pss_cons (ps_if (pt_cmpR (op_nes hr.units) (pe_callB (call_reprD hg hr.units) (by rfl) T.b_repr (by decide +kernel) (pa_cons (pe_lc (own := [("many", 11)]) rfl sc_law.nd (pi_seq (pv 8)) (blkOk_by (N := ["script", "draw", "turn", "names", "ranks", "kinds", "most", "dues", "sizes", "odd", "name", "many"]) (sc := defScope s_law) (by first | decide +kernel | rfl)) (fun _ _ _ _ _ => (pg_name (i := 11) sc_law.nd rfl (by first | exact Or.inl rfl | exact Or.inr rfl))) (fun _ _ _ _ _ => pts_nil) (fun _ _ _ _ _ => (pe_fnK0 (idx := [1, 0]) (CanC.ok (ok_count T) (hr.mono (by decide)) hxB) (by rfl) T.g_count T.f_count.kp T.kb_count_0_many_kinds (pk_cons (pv 11) (pk_cons (pv 5) pk_nil))))) pa_nil)) (pe_callB (call_reprD hg hr.units) (by rfl) T.b_repr (by decide +kernel) (pa_cons (pe_lc (own := [("many", 11)]) rfl sc_law.nd (pi_seq (pv 8)) (blkOk_by (N := ["script", "draw", "turn", "names", "ranks", "kinds", "most", "dues", "sizes", "odd", "name", "many"]) (sc := defScope s_law) (by first | decide +kernel | rfl)) (fun _ _ _ _ _ => (pg_name (i := 11) sc_law.nd rfl (by first | exact Or.inl rfl | exact Or.inr rfl))) (fun _ _ _ _ _ => pts_nil) (fun _ _ _ _ _ => (pe_ix ix_seq (pv 7) (pv 11) (fun _ _ => rfl)))) pa_nil)) (nomark _)) (pss_one (ps_ret pe_bl)) pss_nil) (pss_cons (ps_set (i := 8) sc_law.nd rfl (by first | exact Or.inl rfl | exact Or.inr rfl) (pe_lst (pa_cons pe_int (pa_cons (pe_op op_adds pe_int (pe_fn (CanC.ok (ok__law_take T) (hr.mono (by decide)) hxE) (by rfl) T.g__law_take T.f__law_take.kp T.bi__law_take (pa_cons (pv 1) (pa_cons (pe_callB (call_min2 rfl) (by rfl) T.b_min (by decide +kernel) (pa_cons (pv 6) (pa_cons pe_int pa_nil))) pa_nil)))) (pa_cons (pe_callB (call_min2 rfl) (by rfl) T.b_min (by decide +kernel) (pa_cons (pv 6) (pa_cons pe_int pa_nil))) pa_nil))))) (pss_cons (ps_if (pt_cmpR (op_nes hr.units) (pe_callB (call_reprD hg hr.units) (by rfl) T.b_repr (by decide +kernel) (pa_cons (pe_lc (own := [("many", 11)]) rfl sc_law.nd (pi_seq (pv 8)) (blkOk_by (N := ["script", "draw", "turn", "names", "ranks", "kinds", "most", "dues", "sizes", "odd", "name", "many"]) (sc := defScope s_law) (by first | decide +kernel | rfl)) (fun _ _ _ _ _ => (pg_name (i := 11) sc_law.nd rfl (by first | exact Or.inl rfl | exact Or.inr rfl))) (fun _ _ _ _ _ => pts_nil) (fun _ _ _ _ _ => (pe_fn (CanC.ok (ok_number_in T) (hr.mono (by decide)) hxB) (by rfl) T.g_number_in T.f_number_in.kp T.bi_number_in (pa_cons (pe_fn (CanC.ok (ok__law_all_of T) (hr.mono (by decide)) hxB) (by rfl) T.g__law_all_of T.f__law_all_of.kp T.bi__law_all_of (pa_cons (pv 5) pa_nil)) (pa_cons (pv 11) pa_nil))))) pa_nil)) (pe_callB (call_reprD hg hr.units) (by rfl) T.b_repr (by decide +kernel) (pa_cons (pe_lc (own := [("many", 11)]) rfl sc_law.nd (pi_seq (pv 8)) (blkOk_by (N := ["script", "draw", "turn", "names", "ranks", "kinds", "most", "dues", "sizes", "odd", "name", "many"]) (sc := defScope s_law) (by first | decide +kernel | rfl)) (fun _ _ _ _ _ => (pg_name (i := 11) sc_law.nd rfl (by first | exact Or.inl rfl | exact Or.inr rfl))) (fun _ _ _ _ _ => pts_nil) (fun _ _ _ _ _ => (pe_ix ix_seq (pv 7) (pv 11) (fun _ _ => rfl)))) pa_nil)) (nomark _)) (pss_one (ps_ret pe_bl)) pss_nil) (pss_cons (ps_set (i := 9) sc_law.nd rfl (by first | exact Or.inl rfl | exact Or.inr rfl) (pe_fn (CanC.ok (ok__law_pick T) (hr.mono (by decide)) hxE) (by rfl) T.g__law_pick T.f__law_pick.kp T.bi__law_pick (pa_cons (pv 1) (pa_cons (pe_lst (pa_cons pe_int (pa_cons pe_int (pa_cons (pe_un un_neg pe_int) (pa_cons pe_non (pa_cons pe_str (pa_cons pe_bl pa_nil))))))) pa_nil)))) (pss_cons (ps_if (pt_not (pt_truth (pe_callB call_isH (by rfl) T.b_isinstance (by decide +kernel) (pa_cons (pe_lamT (T := TTof Pt) (by rfl) T.g__law_caught T.f__law_caught.kp lkC hcC biC sc__law_caught rfl (Or.inl rfl) (caught_gives T.g_WritingError) tb rfl (List.mem_singleton.mpr rfl) (fun p hp _ => by have e := List.mem_singleton.mp hp; rw [e]; rfl) hr (LamX.lamS_by (by show LamX.lamSB (defScope s_law) _ = true; decide +kernel)) rfl (fun _ _ _ _ _ => rfl) (fun _ _ _ _ _ _ _ hr => (pe_fn (CanC.ok (ok_count T) (hr.mono (by decide)) (hxL rfl rfl)) (by rfl) T.g_count T.f_count.kp T.bi_count (pa_cons (pv 5) (pa_cons (pv 9) pa_nil))))) (pa_cons (pe_glob (v := .ref (T.ct "BadNumber")) rfl T.g_BadNumber rfl) pa_nil))) (by intro _; rfl))) (pss_one (ps_ret pe_bl)) pss_nil) (pss_cons (ps_set (i := 9) sc_law.nd rfl (by first | exact Or.inl rfl | exact Or.inr rfl) (pe_fn (CanC.ok (ok__law_pick T) (hr.mono (by decide)) hxE) (by rfl) T.g__law_pick T.f__law_pick.kp T.bi__law_pick (pa_cons (pv 1) (pa_cons (pe_lst (pa_cons pe_int (pa_cons pe_int (pa_cons pe_int (pa_cons pe_non (pa_cons pe_str (pa_cons pe_bl pa_nil))))))) pa_nil)))) (pss_one (ps_if (pt_not (pt_truth (pe_callB call_isH (by rfl) T.b_isinstance (by decide +kernel) (pa_cons (pe_lamT (T := TTof Pt) (by rfl) T.g__law_caught T.f__law_caught.kp lkC hcC biC sc__law_caught rfl (Or.inl rfl) (caught_gives T.g_WritingError) tb rfl (List.mem_singleton.mpr rfl) (fun p hp _ => by have e := List.mem_singleton.mp hp; rw [e]; rfl) hr (LamX.lamS_by (by show LamX.lamSB (defScope s_law) _ = true; decide +kernel)) rfl (fun _ _ _ _ _ => rfl) (fun _ _ _ _ _ _ _ hr => (pe_fn (CanC.ok (ok_number_in T) (hr.mono (by decide)) (hxL rfl rfl)) (by rfl) T.g_number_in T.f_number_in.kp T.bi_number_in (pa_cons (pe_fn (CanC.ok (ok__law_all_of T) (hr.mono (by decide)) (hxL rfl rfl)) (by rfl) T.g__law_all_of T.f__law_all_of.kp T.bi__law_all_of (pa_cons (pv 5) pa_nil)) (pa_cons (pv 9) pa_nil))))) (pa_cons (pe_glob (v := .ref (T.ct "BadNumber")) rfl T.g_BadNumber rfl) pa_nil))) (by intro _; rfl))) (pss_one (ps_ret pe_bl)) pss_nil)))))))))))))))) (pss_one (ps_ret pe_bl)))), fn_body (np := 1) (nl := 11) I rfl h⟩
end K82
end
section
set_option maxRecDepth 100000
set_option maxHeartbeats 1000000
namespace K82
open PySem DL L2
def Is (F : Fn) (as : List Sl) (v : Vl) : Prop := ∃ l, F as = .ok (v, l)
theorem run_is {fix : Nat → Bool} {np nl : Nat} {m : MS} {as : List Sl} {v : Vl} (h : as.length = np) (e : ∃ ρ, m (as ++ List.replicate nl .emp) = .ok (.rt v ρ)) : Is (runF fix np nl m) as v := by
  obtain ⟨ρ, e⟩ := e
  refine ⟨maskA fix as.length ρ, ?_⟩
  unfold runF runB
  rw [if_pos h, e]
  exact R_bind_ok _ _
theorem call_is {bs : List Bool} {F : Fn} {ma : MA} {ρ ρ1 ρ2 : DL.Env} {vs : List Vl} {as : List Sl} {v : Vl} (h : Is F as v) (e1 : ma ρ = .ok (vs, ρ1)) (e2 : takeArgs bs vs ρ1 [] = some (as, ρ2, [])) : xCall bs F ma ρ = .ok (v, ρ2) := by
  obtain ⟨l, h⟩ := h
  unfold xCall
  simp only [e1, R_bind_ok, e2, rdO_some, h]
  rfl
theorem number_int (i e : Int) : Is F_is_number [.sh (.int i), .sh (.int e)] (.sh (.bl (decide (0 ≤ i) && decide (i < e)))) := by
  refine run_is rfl ?_
  unfold m_is_number
  by_cases h : 0 ≤ i <;> by_cases h2 : i < e <;> simp [runF, runB, sSeq, sIf, sAsg, sRet, sNext, sDrop, sRaise, xVar, xC, xOp, xCB, xUn, aCons, aNil, rdv, rdvs, rdS, rdO_some, rdO_none, R_bind_ok, R_bind_bad, R_bind_exc, xTest, xTru, xAnd, xOr, xNot, xIf, xAndV, xOrV, xNotV, xChain, blOf, truO, blR, mv, put, maskA, List.range, List.range.loop, gIsi, tyD, instO, instTab, gLe, gLt, gGt, gGe, gEq, gNe, eqS, cmpI, cmpS, gLen, gIx, gAdd, DL.gSub, gInt, yes2, xCall, takeArgs, take1, giveBack, bkAdd, share, shares, xTup, xLst, sAug, shS, emps, mName, mTup, mgCons, mgNil, xLc, xISeq, xIZip, kindOf, xSl, oPart, oNone, intOf, itemsOf, back, at0, at1, h, h2]
theorem number_non (e : Int) : Is F_is_number [.sh .non, .sh (.int e)] (.sh (.bl false)) := by
  refine run_is rfl ?_
  unfold m_is_number
  simp [runF, runB, sSeq, sIf, sAsg, sRet, sNext, sDrop, sRaise, xVar, xC, xOp, xCB, xUn, aCons, aNil, rdv, rdvs, rdS, rdO_some, rdO_none, R_bind_ok, R_bind_bad, R_bind_exc, xTest, xTru, xAnd, xOr, xNot, xIf, xAndV, xOrV, xNotV, xChain, blOf, truO, blR, mv, put, maskA, List.range, List.range.loop, gIsi, tyD, instO, instTab, gLe, gLt, gGt, gGe, gEq, gNe, eqS, cmpI, cmpS, gLen, gIx, gAdd, DL.gSub, gInt, yes2, xCall, takeArgs, take1, giveBack, bkAdd, share, shares, xTup, xLst, sAug, shS, emps, mName, mTup, mgCons, mgNil]
theorem number_str (s : Str) (e : Int) : Is F_is_number [.sh (.str s), .sh (.int e)] (.sh (.bl false)) := by
  refine run_is rfl ?_
  unfold m_is_number
  simp [runF, runB, sSeq, sIf, sAsg, sRet, sNext, sDrop, sRaise, xVar, xC, xOp, xCB, xUn, aCons, aNil, rdv, rdvs, rdS, rdO_some, rdO_none, R_bind_ok, R_bind_bad, R_bind_exc, xTest, xTru, xAnd, xOr, xNot, xIf, xAndV, xOrV, xNotV, xChain, blOf, truO, blR, mv, put, maskA, List.range, List.range.loop, gIsi, tyD, instO, instTab, gLe, gLt, gGt, gGe, gEq, gNe, eqS, cmpI, cmpS, gLen, gIx, gAdd, DL.gSub, gInt, yes2, xCall, takeArgs, take1, giveBack, bkAdd, share, shares, xTup, xLst, sAug, shS, emps, mName, mTup, mgCons, mgNil]
theorem number_bl (b : Bool) (e : Int) : Is F_is_number [.sh (.bl b), .sh (.int e)] (.sh (.bl false)) := by
  refine run_is rfl ?_
  unfold m_is_number
  simp [runF, runB, sSeq, sIf, sAsg, sRet, sNext, sDrop, sRaise, xVar, xC, xOp, xCB, xUn, aCons, aNil, rdv, rdvs, rdS, rdO_some, rdO_none, R_bind_ok, R_bind_bad, R_bind_exc, xTest, xTru, xAnd, xOr, xNot, xIf, xAndV, xOrV, xNotV, xChain, blOf, truO, blR, mv, put, maskA, List.range, List.range.loop, gIsi, tyD, instO, instTab, gLe, gLt, gGt, gGe, gEq, gNe, eqS, cmpI, cmpS, gLen, gIx, gAdd, DL.gSub, gInt, yes2, xCall, takeArgs, take1, giveBack, bkAdd, share, shares, xTup, xLst, sAug, shS, emps, mName, mTup, mgCons, mgNil]
def nameB (s : Str) : Bool := match F_is_name [.sh (.str s)] with
  | .ok (.sh (.bl b), _) => b
  | _ => false
theorem name_ok {s : Str} (h : nameB s = true) : Is F_is_name [.sh (.str s)] (.sh (.bl true)) := by
  unfold nameB at h
  split at h
  · rename_i b ρ e
    subst h
    exact ⟨ρ, e⟩
  · cases h
abbrev Ks := List (Str × Nat)
def kp (p : Str × Nat) : D := D.tup [.str p.1, .int p.2]
def kD (ks : Ks) : List D := ks.map kp
structure Good (ks : Ks) : Prop where
  pos : 1 ≤ ks.length
  six : ks.length ≤ 6
  nm : ∀ p ∈ ks, nameB p.1 = true
  rk : ∀ p ∈ ks, p.2 ≤ 3
  srt : ks.Pairwise fun p q => p.1.cps.toList < q.1.cps.toList
  zero : ∃ p ∈ ks, p.2 = 0
theorem kind_ok {s : Str} {r : Nat} (h : nameB s = true) (hr : r ≤ 3) : Is F_is_kind [.sh (.tup [.str s, .int r])] (.sh (.bl true)) := by
  obtain ⟨l, e⟩ := name_ok h
  obtain ⟨l2, e2⟩ := number_int r 4
  have hd : (decide ((r : Int) < 4)) = true := by simp; omega
  refine run_is rfl ?_
  unfold m_is_kind
  simp [runF, runB, sSeq, sIf, sAsg, sRet, sNext, sDrop, sRaise, xVar, xC, xOp, xCB, xUn, aCons, aNil, rdv, rdvs, rdS, rdO_some, rdO_none, R_bind_ok, R_bind_bad, R_bind_exc, xTest, xTru, xAnd, xOr, xNot, xIf, xAndV, xOrV, xNotV, xChain, blOf, truO, blR, mv, put, maskA, List.range, List.range.loop, gIsi, tyD, instO, instTab, gLe, gLt, gGt, gGe, gEq, gNe, eqS, cmpI, cmpS, gLen, gIx, gAdd, DL.gSub, gInt, yes2, xCall, takeArgs, take1, giveBack, bkAdd, share, shares, xTup, xLst, sAug, shS, emps, mName, mTup, mgCons, mgNil, xLc, xISeq, xIZip, kindOf, xSl, oPart, oNone, intOf, itemsOf, back, at0, at1, e, e2, hd]

theorem bls_all {l : List D} (h : ∀ d ∈ l, d = .bl true) : blsOf l = some (List.replicate l.length true) := by
  induction l with
  | nil => rfl
  | cons d l ih =>
    rw [h d (by simp)]
    unfold blsOf
    rw [ih fun e he => h e (List.mem_cons_of_mem _ he)]
    rfl
theorem gAll_yes {l : List D} (h : ∀ d ∈ l, d = .bl true) : gAll [.lst l] = some (.sh (.bl true)) := by
  show (blsOf l).bind _ = _
  rw [bls_all h]
  simp
theorem kinds1 {ks : Ks} (g : Good ks) (a b c d e : Sl) : lcLoop (mName 1) xYes e_is_kinds_1 [1] (kD ks) [.sh (.tup (kD ks)), .emp, b, c, d, e] [] = .ok ((kD ks).map fun _ => .bl true, [.sh (.tup (kD ks)), .emp, b, c, d, e]) := by
  refine lc_pure (f := fun _ => .bl true) (fun x hx => ?_) (by simp [kD]; have := g.six; omega)
  obtain ⟨p, hp, rfl⟩ := List.mem_map.mp hx
  refine ⟨_, .sh (.bl true), [.sh (.tup (kD ks)), .sh (kp p), b, c, d, e], _, rfl, ?_, rfl, rfl⟩
  refine call_is (kind_ok (g.nm p hp) (g.rk p hp)) (vs := [.sh (kp p)]) (ρ1 := [.sh (.tup (kD ks)), .sh (kp p), b, c, d, e]) ?_ rfl
  simp [runF, runB, sSeq, sIf, sAsg, sRet, sNext, sDrop, sRaise, xVar, xC, xOp, xCB, xUn, aCons, aNil, rdv, rdvs, rdS, rdO_some, rdO_none, R_bind_ok, R_bind_bad, R_bind_exc, xTest, xTru, xAnd, xOr, xNot, xIf, xAndV, xOrV, xNotV, xChain, blOf, truO, blR, mv, put, maskA, List.range, List.range.loop, gIsi, tyD, instO, instTab, gLe, gLt, gGt, gGe, gEq, gNe, eqS, cmpI, cmpS, gLen, gIx, gAdd, DL.gSub, gInt, yes2, xCall, takeArgs, take1, giveBack, bkAdd, share, shares, xTup, xLst, sAug, shS, emps, mName, mTup, mgCons, mgNil, xLc, xISeq, xIZip, kindOf, xSl, oPart, oNone, intOf, itemsOf, back, at0, at1]
theorem zip_mem {ks : Ks} (g : Good ks) : ∀ x ∈ zipD (kD ks) ((kD ks.tail)), ∃ p q : Str × Nat, x = .tup [kp p, kp q] ∧ p.1.cps.toList < q.1.cps.toList := by
  have h := g.srt
  clear g
  induction ks with
  | nil => intro x hx; simp [kD, zipD] at hx
  | cons p ks ih =>
    intro x hx
    cases ks with
    | nil => simp [kD, zipD] at hx
    | cons q r =>
      have hx : x ∈ D.tup [kp p, kp q] :: zipD (kD (q :: r)) (kD r) := hx
      rcases List.mem_cons.mp hx with e | hx
      · exact ⟨p, q, e, (List.pairwise_cons.mp h).1 q (by simp)⟩
      · exact ih (List.pairwise_cons.mp h).2 x hx
theorem kinds2 {ks : Ks} (g : Good ks) (a b e f : Sl) : lcLoop (mTup 2 (mgCons (mName 2) (mgCons (mName 3) mgNil))) xYes e_is_kinds_2 [2, 3] (zipD (kD ks) ((kD ks.tail))) [a, b, .emp, .emp, e, f] [] = .ok ((zipD (kD ks) ((kD ks.tail))).map fun _ => .bl true, [a, b, .emp, .emp, e, f]) := by
  refine lc_pure (f := fun _ => .bl true) (fun x hx => ?_) (by rw [zipD_len]; simp [kD]; have := g.six; omega)
  obtain ⟨p, q, rfl, h⟩ := zip_mem g x hx
  refine ⟨_, .sh (.bl true), [a, b, .sh (kp p), .sh (kp q), e, f], _, rfl, ?_, rfl, rfl⟩
  have h : p.1.cps < q.1.cps := by simpa using h
  unfold e_is_kinds_2
  simp [runF, runB, sSeq, sIf, sAsg, sRet, sNext, sDrop, sRaise, xVar, xC, xOp, xCB, xUn, aCons, aNil, rdv, rdvs, rdS, rdO_some, rdO_none, R_bind_ok, R_bind_bad, R_bind_exc, xTest, xTru, xAnd, xOr, xNot, xIf, xAndV, xOrV, xNotV, xChain, blOf, truO, blR, mv, put, maskA, List.range, List.range.loop, gIsi, tyD, instO, instTab, gLe, gLt, gGt, gGe, gEq, gNe, eqS, cmpI, cmpS, gLen, gIx, gAdd, DL.gSub, gInt, yes2, xCall, takeArgs, take1, giveBack, bkAdd, share, shares, xTup, xLst, sAug, shS, emps, mName, mTup, mgCons, mgNil, xLc, xISeq, xIZip, kindOf, xSl, oPart, oNone, intOf, itemsOf, back, at0, at1, kp, h]
theorem kinds3 {ks : Ks} (hz : ks.length ≤ 1000000) (a b c d : Sl) : lcLoop (mTup 2 (mgCons (mName 4) (mgCons (mName 5) mgNil))) xYes e_is_kinds_3 [4, 5] (kD ks) [a, b, c, d, .emp, .emp] [] = .ok (ks.map fun p => .bl (decide (p.2 = 0)), [a, b, c, d, .emp, .emp]) := by
  have := lc_pure (mg := mTup 2 (mgCons (mName 4) (mgCons (mName 5) mgNil))) (me := e_is_kinds_3) (vs := [4, 5]) (ρ := [a, b, c, d, .emp, .emp]) (f := fun x => match x with | .tup [_, .int r] => .bl (decide (r = 0)) | _ => .non) (ds := kD ks) (acc := []) (fun x hx => ?_) (by simp [kD]; omega)
  · rw [this]
    congr 1
    congr 1
    unfold kD
    rw [List.map_map]
    simp only [List.nil_append]
    apply List.map_congr_left
    intro p _
    simp [kp]
  · obtain ⟨p, hp, rfl⟩ := List.mem_map.mp hx
    refine ⟨_, .sh (.bl (decide ((p.2 : Int) = 0))), [a, b, c, d, .sh (.str p.1), .sh (.int p.2)], _, rfl, ?_, rfl, rfl⟩
    unfold e_is_kinds_3
    simp [runF, runB, sSeq, sIf, sAsg, sRet, sNext, sDrop, sRaise, xVar, xC, xOp, xCB, xUn, aCons, aNil, rdv, rdvs, rdS, rdO_some, rdO_none, R_bind_ok, R_bind_bad, R_bind_exc, xTest, xTru, xAnd, xOr, xNot, xIf, xAndV, xOrV, xNotV, xChain, blOf, truO, blR, mv, put, maskA, List.range, List.range.loop, gIsi, tyD, instO, instTab, gLe, gLt, gGt, gGe, gEq, gNe, eqS, cmpI, cmpS, gLen, gIx, gAdd, DL.gSub, gInt, yes2, xCall, takeArgs, take1, giveBack, bkAdd, share, shares, xTup, xLst, sAug, shS, emps, mName, mTup, mgCons, mgNil]
theorem gAny_map {α : Type} (l : List α) (f : α → Bool) : gAny [.lst (l.map fun p => .bl (f p))] = some (.sh (.bl (l.any f))) := by
  have : (l.map fun p => D.bl (f p)) = (l.map f).map D.bl := by simp
  show (blsOf (l.map fun p => D.bl (f p))).bind _ = _
  rw [this, blsOf_of]
  simp
theorem cut1 {α : Type} (l : List α) : cutD l (some 1) none = l.tail := by
  unfold cutD
  rw [show (some (1 : Int)) = some ((1 : Nat) : Int) from rfl, HT.sIx_nat, HT.sIx_none]
  cases l with
  | nil => rfl
  | cons a l => simp
theorem kinds_ok {ks : Ks} (g : Good ks) : Is F_is_kinds [.sh (.tup (kD ks))] (.sh (.bl true)) := by
  have hl : (kD ks).length = ks.length := by simp [kD]
  have l1 := g.pos
  have l6 := g.six
  have i1 : (1 : Int) ≤ (ks.length : Int) := by omega
  have i6 : (ks.length : Int) ≤ 6 := by omega
  have ht : (kD ks).tail = kD ks.tail := by simp [kD]
  have k1 := kinds1 g .emp .emp .emp .emp .emp
  have k2 := kinds2 g (.sh (.tup (kD ks))) .emp .emp .emp
  have k3 := kinds3 (ks := ks) (by omega) (.sh (.tup (kD ks))) .emp .emp .emp
  have ga1 : gAll [.lst ((kD ks).map fun _ => .bl true)] = some (.sh (.bl true)) := gAll_yes (by simp)
  have ga2 : gAll [.lst ((zipD (kD ks) ((kD ks.tail))).map fun _ => .bl true)] = some (.sh (.bl true)) := gAll_yes (by simp)
  have ga3 : gAny [.lst (ks.map fun p => .bl (decide (p.2 = 0)))] = some (.sh (.bl true)) := by
    rw [gAny_map ks fun p => decide (p.2 = 0)]
    have : (ks.any fun p => decide (p.2 = 0)) = true := by
      obtain ⟨p, h1, h2⟩ := g.zero
      exact List.any_eq_true.mpr ⟨p, h1, by simpa using h2⟩
    rw [this]
  refine run_is rfl ?_
  unfold m_is_kinds x_is_kinds_1 x_is_kinds_2 x_is_kinds_3
  simp [runF, runB, sSeq, sIf, sAsg, sRet, sNext, sDrop, sRaise, xVar, xC, xOp, xCB, xUn, aCons, aNil, rdv, rdvs, rdS, rdO_some, rdO_none, R_bind_ok, R_bind_bad, R_bind_exc, xTest, xTru, xAnd, xOr, xNot, xIf, xAndV, xOrV, xNotV, xChain, blOf, truO, blR, mv, put, maskA, List.range, List.range.loop, gIsi, tyD, instO, instTab, gLe, gLt, gGt, gGe, gEq, gNe, eqS, cmpI, cmpS, gLen, gIx, gAdd, DL.gSub, gInt, yes2, xCall, takeArgs, take1, giveBack, bkAdd, share, shares, xTup, xLst, sAug, shS, emps, mName, mTup, mgCons, mgNil, xLc, xISeq, xIZip, kindOf, xSl, oPart, oNone, intOf, itemsOf, back, at0, at1, k1, k2, k3, ga1, ga2, ga3, hl, gSl, gSlL, gSlT, cut1, ht, i1, i6]
  done
end K82
end
section
set_option maxRecDepth 100000
set_option maxHeartbeats 1000000
namespace K82
open PySem DL L2
theorem atN {α : Type} {l : List α} {n : Nat} {x : α} (h : l[n]? = some x) : atI l (n : Int) = some x := by
  have hn : n < l.length := (List.getElem?_eq_some_iff.mp h).1
  unfold atI ixN
  rw [if_pos (by omega), if_pos (by omega)]
  simpa using h
def cD (c : Nat → Nat) (n : Nat) : List D := (List.range n).map fun i => .int (c i)
theorem cD_len (c : Nat → Nat) (n : Nat) : (cD c n).length = n := by simp [cD]
theorem cD_at {c : Nat → Nat} {n i : Nat} (h : i < n) : atI (cD c n) (i : Int) = some (.int (c i)) := by
  refine atN ?_
  simp [cD, h]
theorem cD_snoc (c : Nat → Nat) (n : Nat) : cD c n ++ [.int (c n)] = cD c (n + 1) := by
  unfold cD
  rw [List.range_succ, List.map_append]
  rfl
def rowsF (c : Nat → Nat) : Nat → Nat → Nat
  | 0, t => if t = 0 then 1 else 0
  | 1, t => if 0 < t then c t else 0
  | r + 2, t => ((List.range (t - 1)).map fun i => c (i + 1) * rowsF c (r + 1) (t - (i + 1))).sum
theorem rowsF_congr {c d : Nat → Nat} : ∀ (r t : Nat), (∀ i, i ≤ t → c i = d i) → rowsF c r t = rowsF d r t
  | 0, t, h => rfl
  | 1, t, h => by unfold rowsF; rw [h t (Nat.le_refl _)]
  | r + 2, t, h => by
    unfold rowsF
    congr 1
    refine List.map_congr_left fun i hi => ?_
    have hi : i < t - 1 := List.mem_range.mp hi
    rw [h (i + 1) (by omega), rowsF_congr (r + 1) (t - (i + 1)) fun j hj => h j (by omega)]
theorem gSum_nat {α : Type} (l : List α) (f : α → Nat) : gSum [.lst (l.map fun x => .int ((f x : Nat) : Int))] = some (.sh (.int ((l.map f).sum : Nat))) := by
  have e : (l.map fun x => D.int ((f x : Nat) : Int)) = (l.map fun x => ((f x : Nat) : Int)).map D.int := by simp
  have e2 : (l.map fun x => ((f x : Nat) : Int)).sum = ((l.map f).sum : Nat) := by
    clear e
    induction l with
    | nil => rfl
    | cons a l ih => simp [ih]
  show (intsOf _).bind _ = _
  rw [e, intsOf_of]
  simp [e2]
abbrev Tiny (x : Nat) : Prop := x < 2 ^ 2000
theorem tiny_log {x : Nat} (h : Tiny x) : x.log2 ≤ 2000 := by
  by_cases z : x = 0
  · subst z; simp
  · have := (Nat.log2_lt z).mpr h
    omega
theorem mul_tiny {x y : Nat} (hx : Tiny x) (hy : Tiny y) : gMul (.int x) (.int y) = some (.sh (.int ((x * y : Nat) : Int))) := by
  have h1 := tiny_log hx
  have h2 := tiny_log hy
  have : cMul (x : Int) (y : Int) = true := by
    unfold cMul
    simp
    omega
  unfold gMul gInt
  simp [this]
structure Sm (c : Nat → Nat) (n : Nat) : Prop where
  a : ∀ i, i < n → Tiny (c i)
  b : ∀ r t, r ≤ 3 → t < n → Tiny (rowsF c r t)
theorem rows_spec {c : Nat → Nat} {n : Nat} (s : Sm c n) (hn : n ≤ 1000) : ∀ (r k t : Nat), r < k → r ≤ 3 → t < n → F_rows_of k [.own (cD c n), .sh (.int t), .sh (.int r)] = .ok (.sh (.int (rowsF c r t)), [.own (cD c n), .sh (.int t), .sh (.int r)])
  | 0, 0, _, h, _, _ => absurd h (by omega)
  | 0, k + 1, t, h, _, ht => by
    show runF _ _ _ (m_rows_of (F_rows_of k)) _ = _
    unfold m_rows_of
    unfold rowsF
    by_cases z : t = 0
    · subst z
      simp [runF, runB, sSeq, sIf, sAsg, sRet, sNext, sDrop, sRaise, xVar, xC, xOp, xCB, xUn, aCons, aNil, rdv, rdvs, rdS, rdO_some, rdO_none, R_bind_ok, R_bind_bad, R_bind_exc, xTest, xTru, xAnd, xOr, xNot, xIf, xAndV, xOrV, xNotV, xChain, blOf, truO, blR, mv, put, maskA, List.range, List.range.loop, gIsi, tyD, instO, instTab, gLe, gLt, gGt, gGe, gEq, gNe, eqS, cmpI, cmpS, gLen, gIx, gAdd, DL.gSub, gInt, yes2, xCall, takeArgs, take1, giveBack, bkAdd, share, shares, xTup, xLst, sAug, shS, emps, mName, mTup, mgCons, mgNil, xLc, xISeq, xIZip, kindOf, xSl, oPart, oNone, intOf, itemsOf, back, at0, at1]
    · simp [runF, runB, sSeq, sIf, sAsg, sRet, sNext, sDrop, sRaise, xVar, xC, xOp, xCB, xUn, aCons, aNil, rdv, rdvs, rdS, rdO_some, rdO_none, R_bind_ok, R_bind_bad, R_bind_exc, xTest, xTru, xAnd, xOr, xNot, xIf, xAndV, xOrV, xNotV, xChain, blOf, truO, blR, mv, put, maskA, List.range, List.range.loop, gIsi, tyD, instO, instTab, gLe, gLt, gGt, gGe, gEq, gNe, eqS, cmpI, cmpS, gLen, gIx, gAdd, DL.gSub, gInt, yes2, xCall, takeArgs, take1, giveBack, bkAdd, share, shares, xTup, xLst, sAug, shS, emps, mName, mTup, mgCons, mgNil, xLc, xISeq, xIZip, kindOf, xSl, oPart, oNone, intOf, itemsOf, back, at0, at1, z]
  | 1, 0, _, h, _, _ => absurd h (by omega)
  | 1, k + 1, t, h, _, ht => by
    show runF _ _ _ (m_rows_of (F_rows_of k)) _ = _
    unfold m_rows_of
    unfold rowsF
    have := cD_at (c := c) ht
    by_cases z : t = 0
    · subst z
      simp [runF, runB, sSeq, sIf, sAsg, sRet, sNext, sDrop, sRaise, xVar, xC, xOp, xCB, xUn, aCons, aNil, rdv, rdvs, rdS, rdO_some, rdO_none, R_bind_ok, R_bind_bad, R_bind_exc, xTest, xTru, xAnd, xOr, xNot, xIf, xAndV, xOrV, xNotV, xChain, blOf, truO, blR, mv, put, maskA, List.range, List.range.loop, gIsi, tyD, instO, instTab, gLe, gLt, gGt, gGe, gEq, gNe, eqS, cmpI, cmpS, gLen, gIx, gAdd, DL.gSub, gInt, yes2, xCall, takeArgs, take1, giveBack, bkAdd, share, shares, xTup, xLst, sAug, shS, emps, mName, mTup, mgCons, mgNil, xLc, xISeq, xIZip, kindOf, xSl, oPart, oNone, intOf, itemsOf, back, at0, at1]
    · have z1 : 0 < t := by omega
      simp [runF, runB, sSeq, sIf, sAsg, sRet, sNext, sDrop, sRaise, xVar, xC, xOp, xCB, xUn, aCons, aNil, rdv, rdvs, rdS, rdO_some, rdO_none, R_bind_ok, R_bind_bad, R_bind_exc, xTest, xTru, xAnd, xOr, xNot, xIf, xAndV, xOrV, xNotV, xChain, blOf, truO, blR, mv, put, maskA, List.range, List.range.loop, gIsi, tyD, instO, instTab, gLe, gLt, gGt, gGe, gEq, gNe, eqS, cmpI, cmpS, gLen, gIx, gAdd, DL.gSub, gInt, yes2, xCall, takeArgs, take1, giveBack, bkAdd, share, shares, xTup, xLst, sAug, shS, emps, mName, mTup, mgCons, mgNil, xLc, xISeq, xIZip, kindOf, xSl, oPart, oNone, intOf, itemsOf, back, at0, at1, z1, this]
  | r + 2, 0, _, h, _, _ => absurd h (by omega)
  | r + 2, k + 1, t, h, h3, ht => by
    have ih := fun t' (ht' : t' < n) => rows_spec s hn (r + 1) k t' (by omega) (by omega) ht'
    show runF _ _ _ (m_rows_of (F_rows_of k)) _ = _
    have hlen : ((List.range ((t : Int) - 1).toNat).map fun (k : Nat) => D.int (1 + (k : Int))) = (List.range (t - 1)).map fun (k : Nat) => D.int (1 + (k : Int)) := by
      congr 2
      omega
    have hl : lcLoop (mName 3) xYes (e_rows_of_1 (F_rows_of k)) [3] ((List.range (t - 1)).map fun (k : Nat) => D.int (1 + (k : Int))) [.own (cD c n), .sh (.int t), .sh (.int ((r + 2 : Nat) : Int)), .emp] [] = .ok ((List.range (t - 1)).map fun (i : Nat) => .int ((c (i + 1) * rowsF c (r + 1) (t - (i + 1)) : Nat) : Int), [.own (cD c n), .sh (.int t), .sh (.int ((r + 2 : Nat) : Int)), .emp]) := by
      rw [lc_pure (f := fun d => match d with | .int x => .int ((c x.toNat * rowsF c (r + 1) (t - x.toNat) : Nat) : Int) | _ => .non) (fun d hd => ?_) (by simp; omega)]
      · congr 1
        congr 1
        simp only [List.nil_append, List.map_map]
        refine List.map_congr_left fun i _ => ?_
        show D.int _ = _
        rw [show (1 + (i : Int)).toNat = i + 1 by omega]
      · obtain ⟨i, hi, rfl⟩ := List.mem_map.mp hd
        have hi : i < t - 1 := List.mem_range.mp hi
        have e1 : (1 + (i : Int)) = ((i + 1 : Nat) : Int) := by omega
        have e2 : (t : Int) - ((i + 1 : Nat) : Int) = ((t - (i + 1) : Nat) : Int) := by omega
        have e3 : (((r + 2 : Nat) : Int) - 1) = ((r + 1 : Nat) : Int) := by omega
        rw [e1]
        have a1 := cD_at (c := c) (n := n) (i := i + 1) (by omega)
        have a2 := ih (t - (i + 1)) (by omega)
        have a3 := mul_tiny (s.a (i + 1) (by omega)) (s.b (r + 1) (t - (i + 1)) (by omega) (by omega))
        refine ⟨[.own (cD c n), .sh (.int t), .sh (.int ((r + 2 : Nat) : Int)), .sh (.int ((i + 1 : Nat) : Int))], .sh (.int ((c (i + 1) * rowsF c (r + 1) (t - (i + 1)) : Nat) : Int)), [.own (cD c n), .sh (.int t), .sh (.int ((r + 2 : Nat) : Int)), .sh (.int ((i + 1 : Nat) : Int))], _, rfl, ?_, rfl, rfl⟩
        unfold e_rows_of_1
        simp only [runF, runB, sSeq, sIf, sAsg, sRet, sNext, sDrop, sRaise, xVar, xC, xOp, xCB, xUn, aCons, aNil, rdv, rdvs, rdS, rdO_some, rdO_none, R_bind_ok, R_bind_bad, R_bind_exc, xTest, xTru, xAnd, xOr, xNot, xIf, xAndV, xOrV, xNotV, xChain, blOf, truO, blR, mv, put, maskA1, maskA2, maskA3, List.mem_cons, List.not_mem_nil, true_or, or_true, or_false, false_or, Bool.and_self, isi_tt, isi_ss, lc_nil, gEq_int, gNe_int, gLt_int, gLe_int, gGt_int, gGe_int, gLen, gIx, gAdd_int, gSub_int, gAug_int, xCall, takeArgs, take1, giveBack, bkAdd, share, shares, xTup, xLst, sAug, shS, emps, mName, mTup, mgCons, mgNil, xLc, xISeq, xIZip, xIRng1_eq, xIRng2_eq, rngV_ints, rngU_ints, rng1C_ok, rng2C_ok, kindOf, xSl, oPart, oNone, intOf, itemsOf, back, at0, at1, xApp, xExt, xPopAt, ownS, sz_0, sz_1, sz_2, sz_3, sz_4, sz_5, sz_6, sz_7, sz_8, List.getElem?_cons_zero, List.getElem?_cons_succ, List.getElem?_nil, List.set_cons_zero, List.set_cons_succ, List.length_cons, List.length_nil, List.cons_append, List.nil_append, List.append_nil, List.replicate, Option.bind_some, Option.bind_none, Option.map_some, Option.map_none, Option.some_or, Option.none_or, Option.or_some, Option.or_none, Option.getD_some, Option.getD_none, if_true, if_false, Bool.false_eq_true, Bool.not_true, Bool.not_false, decide_true, decide_false, List.map_cons, List.map_nil, reduceIte, Nat.reduceAdd, Nat.reduceLT, Nat.reduceEqDiff, Nat.zero_add, Int.reduceSub, Int.reduceAdd, Int.reduceLT, Int.reduceLE, Int.reduceEq, a1, a2, a3, e2, e3]
    unfold m_rows_of x_rows_of_1
    have d0 : decide (((r + 2 : Nat) : Int) = 0) = false := by simp; omega
    have d1 : decide (((r + 2 : Nat) : Int) = 1) = false := by simp; omega
    have s1 : smallI 1 = true := by decide
    have st : smallI (t : Int) = true := by unfold smallI; simp; omega
    have g1 := gSum_nat (List.range (t - 1)) fun i => c (i + 1) * rowsF c (r + 1) (t - (i + 1))
    simp only [runF, runB, sSeq, sIf, sAsg, sRet, sNext, sDrop, sRaise, xVar, xC, xOp, xCB, xUn, aCons, aNil, rdv, rdvs, rdS, rdO_some, rdO_none, R_bind_ok, R_bind_bad, R_bind_exc, xTest, xTru, xAnd, xOr, xNot, xIf, xAndV, xOrV, xNotV, xChain, blOf, truO, blR, mv, put, maskA1, maskA2, maskA3, List.mem_cons, List.not_mem_nil, true_or, or_true, or_false, false_or, Bool.and_self, isi_tt, isi_ss, lc_nil, gEq_int, gNe_int, gLt_int, gLe_int, gGt_int, gGe_int, gLen, gIx, gAdd_int, gSub_int, gAug_int, xCall, takeArgs, take1, giveBack, bkAdd, share, shares, xTup, xLst, sAug, shS, emps, mName, mTup, mgCons, mgNil, xLc, xISeq, xIZip, xIRng1_eq, xIRng2_eq, rngV_ints, rngU_ints, rng1C_ok, rng2C_ok, kindOf, xSl, oPart, oNone, intOf, itemsOf, back, at0, at1, xApp, xExt, xPopAt, ownS, sz_0, sz_1, sz_2, sz_3, sz_4, sz_5, sz_6, sz_7, sz_8, List.getElem?_cons_zero, List.getElem?_cons_succ, List.getElem?_nil, List.set_cons_zero, List.set_cons_succ, List.length_cons, List.length_nil, List.cons_append, List.nil_append, List.append_nil, List.replicate, Option.bind_some, Option.bind_none, Option.map_some, Option.map_none, Option.some_or, Option.none_or, Option.or_some, Option.or_none, Option.getD_some, Option.getD_none, if_true, if_false, Bool.false_eq_true, Bool.not_true, Bool.not_false, decide_true, decide_false, List.map_cons, List.map_nil, reduceIte, Nat.reduceAdd, Nat.reduceLT, Nat.reduceEqDiff, Nat.zero_add, Int.reduceSub, Int.reduceAdd, Int.reduceLT, Int.reduceLE, Int.reduceEq, hlen, d0, d1, s1, st, hl, g1, Bool.and_self]
    rw [rowsF]
    done
end K82
end
section
set_option maxRecDepth 100000
set_option maxHeartbeats 1000000
namespace K82
open PySem DL L2
def cs (ks : Ks) : Nat → List Nat
  | 0 => [0]
  | n + 1 => cs ks n ++ [(ks.map fun p => rowsF (fun i => (cs ks n).getD i 0) p.2 n).sum]
def cK (ks : Ks) (n : Nat) : Nat := (cs ks n).getD n 0
theorem cs_len (ks : Ks) : ∀ n, (cs ks n).length = n + 1
  | 0 => rfl
  | n + 1 => by unfold cs; simp [cs_len ks n]
theorem cs_get (ks : Ks) {i : Nat} : ∀ n, i ≤ n → (cs ks n).getD i 0 = cK ks i
  | 0, h => by
    have : i = 0 := by omega
    subst this
    rfl
  | n + 1, h => by
    by_cases e : i = n + 1
    · subst e; rfl
    · rw [← cs_get ks n (by omega)]
      conv => lhs; unfold cs
      rw [List.getD_eq_getElem?_getD, List.getD_eq_getElem?_getD, List.getElem?_append_left (by rw [cs_len]; omega)]
def sumK (ks : Ks) (c : Nat → Nat) (n : Nat) : Nat := (ks.map fun p => rowsF c p.2 n).sum
theorem cK_succ (ks : Ks) (n : Nat) : cK ks (n + 1) = sumK ks (cK ks) n := by
  unfold cK sumK
  rw [cs]
  rw [List.getD_eq_getElem?_getD, List.getElem?_append_right (by rw [cs_len]; omega), cs_len]
  simp
  congr 1
  refine List.map_congr_left fun p _ => ?_
  apply rowsF_congr
  intro i hi
  have := cs_get ks n hi
  rw [List.getD_eq_getElem?_getD] at this
  exact this
theorem cK_zero (ks : Ks) : cK ks 0 = 0 := rfl
theorem Sm.to {c : Nat → Nat} {n m : Nat} (s : Sm c n) (h : m ≤ n) : Sm c m := ⟨fun i hi => s.a i (by omega), fun r t hr ht => s.b r t hr (by omega)⟩
theorem take_sum {α : Type} {l : List α} {i : Nat} {p : α} (f : α → Nat) (h : l[i]? = some p) : ((l.take (i + 1)).map f).sum = ((l.take i).map f).sum + f p := by
  rw [List.take_succ, h]
  simp
theorem augN (a b : Nat) : gAugAdd (.int a) (.int b) = some (.sh (.int ((a + b : Nat) : Int))) := by
  unfold gAugAdd gInt yes2
  simp
theorem kD_get {ks : Ks} {i : Nat} {d : D} (h : (kD ks)[i]? = some d) : ∃ p, ks[i]? = some p ∧ d = kp p := by
  unfold kD at h
  rw [List.getElem?_map] at h
  cases e : ks[i]? with
  | none => rw [e] at h; cases h
  | some p => rw [e] at h; cases h; exact ⟨p, rfl, rfl⟩
theorem mem_get {α : Type} {l : List α} {i : Nat} {p : α} (h : l[i]? = some p) : p ∈ l := List.mem_of_getElem? h
theorem ct_in {ks : Ks} (g : Good ks) {c : Nat → Nat} {n : Nat} (s : Sm c (n + 1)) (hn : n < 1000) (mn a b : Sl) : ∃ a' b', forLoop (mTup 2 (mgCons (mName 5) (mgCons (mName 6) mgNil))) b_counts_to_1 (kD ks) [.sh (.tup (kD ks)), mn, .own (cD c (n + 1)), .sh (.int ((n + 1 : Nat) : Int)), .sh (.int 0), a, b] = .ok (.nx [.sh (.tup (kD ks)), mn, .own (cD c (n + 1)), .sh (.int ((n + 1 : Nat) : Int)), .sh (.int (sumK ks c n)), a', b']) := by
  obtain ⟨ρ, h, a', b', e⟩ := for_inv0 (mg := mTup 2 (mgCons (mName 5) (mgCons (mName 6) mgNil))) (mb := b_counts_to_1) (ds := kD ks) (ρ := [.sh (.tup (kD ks)), mn, .own (cD c (n + 1)), .sh (.int ((n + 1 : Nat) : Int)), .sh (.int 0), a, b]) ( fun i ρ => ∃ a b, ρ = [.sh (.tup (kD ks)), mn, .own (cD c (n + 1)), .sh (.int ((n + 1 : Nat) : Int)), .sh (.int ((((ks.take i).map fun p => rowsF c p.2 n).sum : Nat) : Int)), a, b]) ⟨a, b, rfl⟩ fun i d ρ hd hi => by
    obtain ⟨a, b, rfl⟩ := hi
    obtain ⟨p, hp, rfl⟩ := kD_get hd
    have r := rows_spec s (by omega) p.2 8 n (by have := g.rk p (mem_get hp); omega) (g.rk p (mem_get hp)) (by omega)
    refine ⟨_, _, rfl, ?_, .sh (.str p.1), .sh (.int p.2), rfl⟩
    rw [take_sum _ hp]
    have e1 : ((n + 1 : Nat) : Int) - 1 = (n : Int) := by omega
    unfold b_counts_to_1
    have := augN (((ks.take i).map fun p => rowsF c p.2 n).sum) (rowsF c p.2 n)
    simp only [runF, runB, sSeq, sIf, sAsg, sRet, sNext, sDrop, sRaise, xVar, xC, xOp, xCB, xUn, aCons, aNil, rdv, rdvs, rdS, rdO_some, rdO_none, R_bind_ok, R_bind_bad, R_bind_exc, xTest, xTru, xAnd, xOr, xNot, xIf, xAndV, xOrV, xNotV, xChain, blOf, truO, blR, mv, put, maskA1, maskA2, maskA3, List.mem_cons, List.not_mem_nil, true_or, or_true, or_false, false_or, Bool.and_self, isi_tt, isi_ss, lc_nil, gEq_int, gNe_int, gLt_int, gLe_int, gGt_int, gGe_int, gLen, gIx, gAdd_int, gSub_int, gAug_int, xCall, takeArgs, take1, giveBack, bkAdd, share, shares, xTup, xLst, sAug, shS, emps, mName, mTup, mgCons, mgNil, xLc, xISeq, xIZip, xIRng1_eq, xIRng2_eq, rngV_ints, rngU_ints, rng1C_ok, rng2C_ok, kindOf, xSl, oPart, oNone, intOf, itemsOf, back, at0, at1, xApp, xExt, xPopAt, ownS, sz_0, sz_1, sz_2, sz_3, sz_4, sz_5, sz_6, sz_7, sz_8, List.getElem?_cons_zero, List.getElem?_cons_succ, List.getElem?_nil, List.set_cons_zero, List.set_cons_succ, List.length_cons, List.length_nil, List.cons_append, List.nil_append, List.append_nil, List.replicate, Option.bind_some, Option.bind_none, Option.map_some, Option.map_none, Option.some_or, Option.none_or, Option.or_some, Option.or_none, Option.getD_some, Option.getD_none, if_true, if_false, Bool.false_eq_true, Bool.not_true, Bool.not_false, decide_true, decide_false, List.map_cons, List.map_nil, reduceIte, Nat.reduceAdd, Nat.reduceLT, Nat.reduceEqDiff, Nat.zero_add, Int.reduceSub, Int.reduceAdd, Int.reduceLT, Int.reduceLE, Int.reduceEq, kp, e1, r, this]
    done
  refine ⟨a', b', ?_⟩
  rw [h, e]
  rw [show (kD ks).length = ks.length by simp [kD], List.take_length]
  rfl
theorem ct_mid {ks : Ks} (g : Good ks) {m : Nat} (s : Sm (cK ks) (m + 1)) (hm : m < 1000) {i : Nat} (hi : i < m) (y z w : Sl) : ∃ y' z' w', b_counts_to_2 [.sh (.tup (kD ks)), .sh (.int m), .own (cD (cK ks) (i + 1)), .sh (.int (1 + (i : Int))), y, z, w] = .ok (.nx [.sh (.tup (kD ks)), .sh (.int m), .own (cD (cK ks) (i + 1 + 1)), .sh (.int ((i + 1 : Nat) : Int)), y', z', w']) := by
  obtain ⟨a', b', h⟩ := ct_in g (n := i) (s.to (by omega)) (by omega) (.sh (.int m)) z w
  refine ⟨.sh (.int (sumK ks (cK ks) i)), a', b', ?_⟩
  rw [← cD_snoc _ (i + 1), cK_succ]
  have e1 : (1 + (i : Int)) = ((i + 1 : Nat) : Int) := by omega
  have hz : szOk (i + 1 + 1) = true := by unfold szOk; simp; omega
  unfold b_counts_to_2
  simp only [runF, runB, sSeq, sIf, sAsg, sRet, sNext, sDrop, sRaise, xVar, xC, xOp, xCB, xUn, aCons, aNil, rdv, rdvs, rdS, rdO_some, rdO_none, R_bind_ok, R_bind_bad, R_bind_exc, xTest, xTru, xAnd, xOr, xNot, xIf, xAndV, xOrV, xNotV, xChain, blOf, truO, blR, mv, put, maskA1, maskA2, maskA3, List.mem_cons, List.not_mem_nil, true_or, or_true, or_false, false_or, Bool.and_self, isi_tt, isi_ss, lc_nil, gEq_int, gNe_int, gLt_int, gLe_int, gGt_int, gGe_int, gLen, gIx, gAdd_int, gSub_int, gAug_int, xCall, takeArgs, take1, giveBack, bkAdd, share, shares, xTup, xLst, sAug, shS, emps, mName, mTup, mgCons, mgNil, xLc, xISeq, xIZip, xIRng1_eq, xIRng2_eq, rngV_ints, rngU_ints, rng1C_ok, rng2C_ok, kindOf, xSl, oPart, oNone, intOf, itemsOf, back, at0, at1, xApp, xExt, xPopAt, ownS, sz_0, sz_1, sz_2, sz_3, sz_4, sz_5, sz_6, sz_7, sz_8, List.getElem?_cons_zero, List.getElem?_cons_succ, List.getElem?_nil, List.set_cons_zero, List.set_cons_succ, List.length_cons, List.length_nil, List.cons_append, List.nil_append, List.append_nil, List.replicate, Option.bind_some, Option.bind_none, Option.map_some, Option.map_none, Option.some_or, Option.none_or, Option.or_some, Option.or_none, Option.getD_some, Option.getD_none, if_true, if_false, Bool.false_eq_true, Bool.not_true, Bool.not_false, decide_true, decide_false, List.map_cons, List.map_nil, reduceIte, Nat.reduceAdd, Nat.reduceLT, Nat.reduceEqDiff, Nat.zero_add, Int.reduceSub, Int.reduceAdd, Int.reduceLT, Int.reduceLE, Int.reduceEq, sFor, e1, h, hz, cD_len]
theorem range_get {m i : Nat} {f : Nat → D} {d : D} (h : ((List.range m).map f)[i]? = some d) : i < m ∧ d = f i := by
  rw [List.getElem?_map] at h
  have hi : i < m := by
    apply Classical.byContradiction
    intro hc
    rw [List.getElem?_eq_none (by simp; omega)] at h
    cases h
  rw [List.getElem?_range hi] at h
  cases h
  exact ⟨hi, rfl⟩
theorem ct_loop {ks : Ks} (g : Good ks) {m : Nat} (s : Sm (cK ks) (m + 1)) (hm : m < 1000) : ∃ x y z w, forLoop (mName 3) b_counts_to_2 ((List.range m).map fun (k : Nat) => D.int (1 + (k : Int))) [.sh (.tup (kD ks)), .sh (.int m), .own [.int 0], .emp, .emp, .emp, .emp] = .ok (.nx [.sh (.tup (kD ks)), .sh (.int m), .own (cD (cK ks) (m + 1)), x, y, z, w]) := by
  obtain ⟨ρ, h, x, y, z, w, e⟩ := for_inv0 (mg := mName 3) (mb := b_counts_to_2) (ds := (List.range m).map fun (k : Nat) => D.int (1 + (k : Int))) (ρ := [.sh (.tup (kD ks)), .sh (.int m), .own [.int 0], .emp, .emp, .emp, .emp]) (fun i ρ => ∃ x y z w, ρ = [.sh (.tup (kD ks)), .sh (.int m), .own (cD (cK ks) (i + 1)), x, y, z, w]) ⟨_, _, _, _, rfl⟩ fun i d ρ hd hi => by
    obtain ⟨x, y, z, w, rfl⟩ := hi
    obtain ⟨hi, rfl⟩ := range_get hd
    obtain ⟨y', z', w', h⟩ := ct_mid g s hm hi y z w
    exact ⟨_, _, rfl, h, _, _, _, _, rfl⟩
  rw [List.length_map, List.length_range] at e
  subst e
  exact ⟨x, y, z, w, h⟩
theorem ct_out {ks : Ks} (g : Good ks) {m : Nat} (s : Sm (cK ks) (m + 1)) (hm : m < 1000) : Is F_counts_to [.sh (.tup (kD ks)), .sh (.int m)] (.own (cD (cK ks) (m + 1))) := by
  have s1 : smallI 1 = true := by unfold smallI; simp
  have st : smallI ((m : Int) + 1) = true := by unfold smallI; simp; omega
  have hlen : ((m : Int) + 1 - 1).toNat = m := by omega
  obtain ⟨x, y, z, w, h⟩ := ct_loop g s hm
  refine run_is rfl ⟨[.sh (.tup (kD ks)), .sh (.int m), .emp, x, y, z, w], ?_⟩
  unfold m_counts_to
  simp only [runF, runB, sSeq, sIf, sAsg, sRet, sNext, sDrop, sRaise, xVar, xC, xOp, xCB, xUn, aCons, aNil, rdv, rdvs, rdS, rdO_some, rdO_none, R_bind_ok, R_bind_bad, R_bind_exc, xTest, xTru, xAnd, xOr, xNot, xIf, xAndV, xOrV, xNotV, xChain, blOf, truO, blR, mv, put, maskA1, maskA2, maskA3, List.mem_cons, List.not_mem_nil, true_or, or_true, or_false, false_or, Bool.and_self, isi_tt, isi_ss, lc_nil, gEq_int, gNe_int, gLt_int, gLe_int, gGt_int, gGe_int, gLen, gIx, gAdd_int, gSub_int, gAug_int, xCall, takeArgs, take1, giveBack, bkAdd, share, shares, xTup, xLst, sAug, shS, emps, mName, mTup, mgCons, mgNil, xLc, xISeq, xIZip, xIRng1_eq, xIRng2_eq, rngV_ints, rngU_ints, rng1C_ok, rng2C_ok, kindOf, xSl, oPart, oNone, intOf, itemsOf, back, at0, at1, xApp, xExt, xPopAt, ownS, sz_0, sz_1, sz_2, sz_3, sz_4, sz_5, sz_6, sz_7, sz_8, List.getElem?_cons_zero, List.getElem?_cons_succ, List.getElem?_nil, List.set_cons_zero, List.set_cons_succ, List.length_cons, List.length_nil, List.cons_append, List.nil_append, List.append_nil, List.replicate, Option.bind_some, Option.bind_none, Option.map_some, Option.map_none, Option.some_or, Option.none_or, Option.or_some, Option.or_none, Option.getD_some, Option.getD_none, if_true, if_false, Bool.false_eq_true, Bool.not_true, Bool.not_false, decide_true, decide_false, List.map_cons, List.map_nil, reduceIte, Nat.reduceAdd, Nat.reduceLT, Nat.reduceEqDiff, Nat.zero_add, Int.reduceSub, Int.reduceAdd, Int.reduceLT, Int.reduceLE, Int.reduceEq, sFor, s1, st, hlen, h, Bool.and_self]
end K82
end
section
set_option maxRecDepth 100000
set_option maxHeartbeats 1000000
namespace K82
open PySem DL L2
theorem run_nx {fix : Nat → Bool} {np nl : Nat} {m : MS} {as : List Sl} (h : as.length = np) (e : ∃ ρ, m (as ++ List.replicate nl .emp) = .ok (.nx ρ)) : Is (runF fix np nl m) as (.sh .non) := by
  obtain ⟨ρ, e⟩ := e
  refine ⟨maskA fix as.length ρ, ?_⟩
  unfold runF runB
  rw [if_pos h, e]
  exact R_bind_ok _ _
theorem need_ok {ks : Ks} (g : Good ks) : Is F_need_kinds [.sh (.tup (kD ks))] (.sh .non) := by
  refine run_nx rfl ⟨[.sh (.tup (kD ks))], ?_⟩
  obtain ⟨l, e⟩ := kinds_ok g
  unfold m_need_kinds
  simp only [runF, runB, sSeq, sIf, sAsg, sRet, sNext, sDrop, sRaise, xVar, xC, xOp, xCB, xUn, aCons, aNil, rdv, rdvs, rdS, rdO_some, rdO_none, R_bind_ok, R_bind_bad, R_bind_exc, xTest, xTru, xAnd, xOr, xNot, xIf, xAndV, xOrV, xNotV, xChain, blOf, truO, blR, mv, put, maskA1, maskA2, maskA3, List.mem_cons, List.not_mem_nil, true_or, or_true, or_false, false_or, Bool.and_self, isi_tt, isi_ss, lc_nil, gEq_int, gNe_int, gLt_int, gLe_int, gGt_int, gGe_int, gLen, gIx, gAdd_int, gSub_int, gAug_int, xCall, takeArgs, take1, giveBack, bkAdd, share, shares, xTup, xLst, sAug, shS, emps, mName, mTup, mgCons, mgNil, xLc, xISeq, xIZip, xIRng1_eq, xIRng2_eq, rngV_ints, rngU_ints, rng1C_ok, rng2C_ok, kindOf, xSl, oPart, oNone, intOf, itemsOf, back, at0, at1, xApp, xExt, xPopAt, ownS, sz_0, sz_1, sz_2, sz_3, sz_4, sz_5, sz_6, sz_7, sz_8, List.getElem?_cons_zero, List.getElem?_cons_succ, List.getElem?_nil, List.set_cons_zero, List.set_cons_succ, List.length_cons, List.length_nil, List.cons_append, List.nil_append, List.append_nil, List.replicate, Option.bind_some, Option.bind_none, Option.map_some, Option.map_none, Option.some_or, Option.none_or, Option.or_some, Option.or_none, Option.getD_some, Option.getD_none, if_true, if_false, Bool.false_eq_true, Bool.not_true, Bool.not_false, decide_true, decide_false, List.map_cons, List.map_nil, reduceIte, Nat.reduceAdd, Nat.reduceLT, Nat.reduceEqDiff, Nat.zero_add, Int.reduceSub, Int.reduceAdd, Int.reduceLT, Int.reduceLE, Int.reduceEq, e]
theorem count_ok {ks : Ks} (g : Good ks) {m : Nat} (s : Sm (cK ks) (m + 1)) (h0 : 0 < m) (hm : m ≤ 200) : Is F_count [.sh (.tup (kD ks)), .sh (.int m)] (.sh (.int (cK ks m))) := by
  obtain ⟨l, e1⟩ := need_ok g
  obtain ⟨l2, e2⟩ := number_int m 201
  obtain ⟨l3, e3⟩ := ct_out g s (by omega)
  have h1 : decide (0 ≤ (m : Int)) = true := by simp
  have h2 : decide ((m : Int) < 201) = true := by simp; omega
  have h3 : decide ((m : Int) = 0) = false := by simp; omega
  have a := cD_at (c := cK ks) (n := m + 1) (i := m) (by omega)
  refine run_is rfl ⟨[.sh (.tup (kD ks)), .sh (.int m)], ?_⟩
  unfold m_count
  simp only [runF, runB, sSeq, sIf, sAsg, sRet, sNext, sDrop, sRaise, xVar, xC, xOp, xCB, xUn, aCons, aNil, rdv, rdvs, rdS, rdO_some, rdO_none, R_bind_ok, R_bind_bad, R_bind_exc, xTest, xTru, xAnd, xOr, xNot, xIf, xAndV, xOrV, xNotV, xChain, blOf, truO, blR, mv, put, maskA1, maskA2, maskA3, List.mem_cons, List.not_mem_nil, true_or, or_true, or_false, false_or, Bool.and_self, isi_tt, isi_ss, lc_nil, gEq_int, gNe_int, gLt_int, gLe_int, gGt_int, gGe_int, gLen, gIx, gAdd_int, gSub_int, gAug_int, xCall, takeArgs, take1, giveBack, bkAdd, share, shares, xTup, xLst, sAug, shS, emps, mName, mTup, mgCons, mgNil, xLc, xISeq, xIZip, xIRng1_eq, xIRng2_eq, rngV_ints, rngU_ints, rng1C_ok, rng2C_ok, kindOf, xSl, oPart, oNone, intOf, itemsOf, back, at0, at1, xApp, xExt, xPopAt, ownS, sz_0, sz_1, sz_2, sz_3, sz_4, sz_5, sz_6, sz_7, sz_8, List.getElem?_cons_zero, List.getElem?_cons_succ, List.getElem?_nil, List.set_cons_zero, List.set_cons_succ, List.length_cons, List.length_nil, List.cons_append, List.nil_append, List.append_nil, List.replicate, Option.bind_some, Option.bind_none, Option.map_some, Option.map_none, Option.some_or, Option.none_or, Option.or_some, Option.or_none, Option.getD_some, Option.getD_none, if_true, if_false, Bool.false_eq_true, Bool.not_true, Bool.not_false, decide_true, decide_false, List.map_cons, List.map_nil, reduceIte, Nat.reduceAdd, Nat.reduceLT, Nat.reduceEqDiff, Nat.zero_add, Int.reduceSub, Int.reduceAdd, Int.reduceLT, Int.reduceLE, Int.reduceEq, e1, e2, e3, h1, h2, h3, a, Bool.and_self]
theorem count_no {ks : Ks} (g : Good ks) {d : D} (h : Is F_is_number [.sh d, .sh (.int 201)] (.sh (.bl false)) ∨ Is F_is_number [.sh d, .sh (.int 201)] (.sh (.bl true)) ∧ d = .int 0) : F_count [.sh (.tup (kD ks)), .sh d] = .exc "BadNumber" none := by
  obtain ⟨l, e1⟩ := need_ok g
  unfold F_count m_count
  rcases h with ⟨l2, e2⟩ | ⟨⟨l2, e2⟩, rfl⟩
  · simp only [runF, runB, sSeq, sIf, sAsg, sRet, sNext, sDrop, sRaise, xVar, xC, xOp, xCB, xUn, aCons, aNil, rdv, rdvs, rdS, rdO_some, rdO_none, R_bind_ok, R_bind_bad, R_bind_exc, xTest, xTru, xAnd, xOr, xNot, xIf, xAndV, xOrV, xNotV, xChain, blOf, truO, blR, mv, put, maskA1, maskA2, maskA3, List.mem_cons, List.not_mem_nil, true_or, or_true, or_false, false_or, Bool.and_self, isi_tt, isi_ss, lc_nil, gEq_int, gNe_int, gLt_int, gLe_int, gGt_int, gGe_int, gLen, gIx, gAdd_int, gSub_int, gAug_int, xCall, takeArgs, take1, giveBack, bkAdd, share, shares, xTup, xLst, sAug, shS, emps, mName, mTup, mgCons, mgNil, xLc, xISeq, xIZip, xIRng1_eq, xIRng2_eq, rngV_ints, rngU_ints, rng1C_ok, rng2C_ok, kindOf, xSl, oPart, oNone, intOf, itemsOf, back, at0, at1, xApp, xExt, xPopAt, ownS, sz_0, sz_1, sz_2, sz_3, sz_4, sz_5, sz_6, sz_7, sz_8, List.getElem?_cons_zero, List.getElem?_cons_succ, List.getElem?_nil, List.set_cons_zero, List.set_cons_succ, List.length_cons, List.length_nil, List.cons_append, List.nil_append, List.append_nil, List.replicate, Option.bind_some, Option.bind_none, Option.map_some, Option.map_none, Option.some_or, Option.none_or, Option.or_some, Option.or_none, Option.getD_some, Option.getD_none, if_true, if_false, Bool.false_eq_true, Bool.not_true, Bool.not_false, decide_true, decide_false, List.map_cons, List.map_nil, reduceIte, Nat.reduceAdd, Nat.reduceLT, Nat.reduceEqDiff, Nat.zero_add, Int.reduceSub, Int.reduceAdd, Int.reduceLT, Int.reduceLE, Int.reduceEq, e1, e2]
  · simp only [runF, runB, sSeq, sIf, sAsg, sRet, sNext, sDrop, sRaise, xVar, xC, xOp, xCB, xUn, aCons, aNil, rdv, rdvs, rdS, rdO_some, rdO_none, R_bind_ok, R_bind_bad, R_bind_exc, xTest, xTru, xAnd, xOr, xNot, xIf, xAndV, xOrV, xNotV, xChain, blOf, truO, blR, mv, put, maskA1, maskA2, maskA3, List.mem_cons, List.not_mem_nil, true_or, or_true, or_false, false_or, Bool.and_self, isi_tt, isi_ss, lc_nil, gEq_int, gNe_int, gLt_int, gLe_int, gGt_int, gGe_int, gLen, gIx, gAdd_int, gSub_int, gAug_int, xCall, takeArgs, take1, giveBack, bkAdd, share, shares, xTup, xLst, sAug, shS, emps, mName, mTup, mgCons, mgNil, xLc, xISeq, xIZip, xIRng1_eq, xIRng2_eq, rngV_ints, rngU_ints, rng1C_ok, rng2C_ok, kindOf, xSl, oPart, oNone, intOf, itemsOf, back, at0, at1, xApp, xExt, xPopAt, ownS, sz_0, sz_1, sz_2, sz_3, sz_4, sz_5, sz_6, sz_7, sz_8, List.getElem?_cons_zero, List.getElem?_cons_succ, List.getElem?_nil, List.set_cons_zero, List.set_cons_succ, List.length_cons, List.length_nil, List.cons_append, List.nil_append, List.append_nil, List.replicate, Option.bind_some, Option.bind_none, Option.map_some, Option.map_none, Option.some_or, Option.none_or, Option.or_some, Option.or_none, Option.getD_some, Option.getD_none, if_true, if_false, Bool.false_eq_true, Bool.not_true, Bool.not_false, decide_true, decide_false, List.map_cons, List.map_nil, reduceIte, Nat.reduceAdd, Nat.reduceLT, Nat.reduceEqDiff, Nat.zero_add, Int.reduceSub, Int.reduceAdd, Int.reduceLT, Int.reduceLE, Int.reduceEq, e1, e2, gEq_int]
def conv (c f : Nat → Nat) (t : Nat) : Nat := ((List.range (t + 1)).map fun a => c a * f (t - a)).sum
theorem conv_eq {c f : Nat → Nat} (h0 : c 0 = 0) (h1 : f 0 = 0) (t : Nat) : conv c f t = ((List.range (t - 1)).map fun i => c (i + 1) * f (t - (i + 1))).sum := by
  unfold conv
  cases t with
  | zero => simp [h0]
  | succ k =>
    rw [List.range_succ_eq_map, List.map_cons, List.sum_cons, h0, Nat.zero_mul, Nat.zero_add, List.map_map]
    rw [List.range_succ, List.map_append, List.sum_append]
    simp [h1]
    congr 1
    refine List.map_congr_left fun i _ => ?_
    show c (i + 1) * f (k + 1 - (i + 1)) = _
    rw [Nat.add_sub_add_right]
theorem rowsF_0 {c : Nat → Nat} : ∀ r, 0 < r → rowsF c r 0 = 0
  | 0, h => absurd h (by omega)
  | 1, _ => rfl
  | r + 2, _ => rfl
theorem conv_rows {c : Nat → Nat} (h0 : c 0 = 0) {r : Nat} (hr : 0 < r) (t : Nat) : conv c (rowsF c r) t = rowsF c (r + 1) t := by
  obtain ⟨q, rfl⟩ : ∃ q, r = q + 1 := ⟨r - 1, by omega⟩
  rw [conv_eq h0 (rowsF_0 _ hr)]
  rfl
theorem rows_1 {c : Nat → Nat} (h0 : c 0 = 0) (t : Nat) : rowsF c 1 t = c t := by
  unfold rowsF
  by_cases h : t = 0
  · subst h; simp [h0]
  · rw [if_pos (by omega)]
theorem rng0 (k : Nat) : ((List.range k).map fun (i : Nat) => D.int (0 + (i : Int))) = (List.range k).map fun (i : Nat) => D.int (i : Int) := by simp
def rowD (f : Nat → Nat) (n : Nat) : List D := cD f n ++ [.int 0]
theorem rowD_at {f : Nat → Nat} {n i : Nat} (h : i < n) : atI (rowD f n) (i : Int) = some (.int (f i)) := by
  refine atN ?_
  unfold rowD
  rw [List.getElem?_append_left (by rw [cD_len]; exact h)]
  simp [cD, h]
theorem lcI1 {c f : Nat → Nat} {n t : Nat} (ht : t < n) (hn : n ≤ 1000) (sc : ∀ i, i < n → Tiny (c i)) (sf : ∀ i, i < n → Tiny (f i)) (k mo tt nu nm rk us : Sl) :
    lcLoop (mName 10) xYes e__law_counts_1 [10] ((List.range (t + 1)).map fun (i : Nat) => D.int (i : Int)) [k, mo, .own (cD c n), tt, nu, nm, rk, .own (rowD f n), us, .sh (.int (t : Int)), .emp] [] =
      .ok ((List.range (t + 1)).map fun (a : Nat) => .int ((c a * f (t - a) : Nat) : Int), [k, mo, .own (cD c n), tt, nu, nm, rk, .own (rowD f n), us, .sh (.int (t : Int)), .emp]) := by
  rw [lc_pure (f := fun d => match d with | .int x => .int ((c x.toNat * f (t - x.toNat) : Nat) : Int) | _ => .non) (fun d hd => ?_) (by simp; omega)]
  · congr 1
    congr 1
    simp only [List.nil_append, List.map_map]
    rfl
  · obtain ⟨a, ha, rfl⟩ := List.mem_map.mp hd
    have ha : a < t + 1 := List.mem_range.mp ha
    have a1 := cD_at (c := c) (n := n) (i := a) (by omega)
    have a2 := rowD_at (f := f) (n := n) (i := t - a) (by omega)
    have e2 : (t : Int) - (a : Int) = ((t - a : Nat) : Int) := by omega
    have a3 := mul_tiny (sc a (by omega)) (sf (t - a) (by omega))
    refine ⟨_, .sh (.int ((c a * f (t - a) : Nat) : Int)), [k, mo, .own (cD c n), tt, nu, nm, rk, .own (rowD f n), us, .sh (.int (t : Int)), .sh (.int (a : Int))], _, rfl, ?_, rfl, rfl⟩
    unfold e__law_counts_1
    simp only [runF, runB, sSeq, sIf, sAsg, sRet, sNext, sDrop, sRaise, xVar, xC, xOp, xCB, xUn, aCons, aNil, rdv, rdvs, rdS, rdO_some, rdO_none, R_bind_ok, R_bind_bad, R_bind_exc, xTest, xTru, xAnd, xOr, xNot, xIf, xAndV, xOrV, xNotV, xChain, blOf, truO, blR, mv, put, maskA1, maskA2, maskA3, List.mem_cons, List.not_mem_nil, true_or, or_true, or_false, false_or, Bool.and_self, isi_tt, isi_ss, lc_nil, gEq_int, gNe_int, gLt_int, gLe_int, gGt_int, gGe_int, gLen, gIx, gAdd_int, gSub_int, gAug_int, xCall, takeArgs, take1, giveBack, bkAdd, share, shares, xTup, xLst, sAug, shS, emps, mName, mTup, mgCons, mgNil, xLc, xISeq, xIZip, xIRng1_eq, xIRng2_eq, rngV_ints, rngU_ints, rng1C_ok, rng2C_ok, kindOf, xSl, oPart, oNone, intOf, itemsOf, back, at0, at1, xApp, xExt, xPopAt, ownS, sz_0, sz_1, sz_2, sz_3, sz_4, sz_5, sz_6, sz_7, sz_8, List.getElem?_cons_zero, List.getElem?_cons_succ, List.getElem?_nil, List.set_cons_zero, List.set_cons_succ, List.length_cons, List.length_nil, List.cons_append, List.nil_append, List.append_nil, List.replicate, Option.bind_some, Option.bind_none, Option.map_some, Option.map_none, Option.some_or, Option.none_or, Option.or_some, Option.or_none, Option.getD_some, Option.getD_none, if_true, if_false, Bool.false_eq_true, Bool.not_true, Bool.not_false, decide_true, decide_false, List.map_cons, List.map_nil, reduceIte, Nat.reduceAdd, Nat.reduceLT, Nat.reduceEqDiff, Nat.zero_add, Int.reduceSub, Int.reduceAdd, Int.reduceLT, Int.reduceLE, Int.reduceEq, a1, a2, a3, e2]
theorem lcI3 {c f : Nat → Nat} {n t : Nat} (ht : t < n) (hn : n ≤ 1000) (sc : ∀ i, i < n → Tiny (c i)) (sf : ∀ i, i < n → Tiny (f i)) (k mo nu nm rk us w : Sl) :
    lcLoop (mName 10) xYes e__law_counts_3 [10] ((List.range (t + 1)).map fun (i : Nat) => D.int (i : Int)) [k, mo, .own (cD c n), .sh (.int ((t + 1 : Nat) : Int)), nu, nm, rk, .own (rowD f n), us, w, .emp] [] =
      .ok ((List.range (t + 1)).map fun (a : Nat) => .int ((c a * f (t - a) : Nat) : Int), [k, mo, .own (cD c n), .sh (.int ((t + 1 : Nat) : Int)), nu, nm, rk, .own (rowD f n), us, w, .emp]) := by
  rw [lc_pure (f := fun d => match d with | .int x => .int ((c x.toNat * f (t - x.toNat) : Nat) : Int) | _ => .non) (fun d hd => ?_) (by simp; omega)]
  · congr 1
    congr 1
    simp only [List.nil_append, List.map_map]
    rfl
  · obtain ⟨a, ha, rfl⟩ := List.mem_map.mp hd
    have ha : a < t + 1 := List.mem_range.mp ha
    have a1 := cD_at (c := c) (n := n) (i := a) (by omega)
    have a2 := rowD_at (f := f) (n := n) (i := t - a) (by omega)
    have e2 : ((t + 1 : Nat) : Int) - 1 = (t : Int) := by omega
    have e3 : (t : Int) - (a : Int) = ((t - a : Nat) : Int) := by omega
    have a3 := mul_tiny (sc a (by omega)) (sf (t - a) (by omega))
    refine ⟨_, .sh (.int ((c a * f (t - a) : Nat) : Int)), [k, mo, .own (cD c n), .sh (.int ((t + 1 : Nat) : Int)), nu, nm, rk, .own (rowD f n), us, w, .sh (.int (a : Int))], _, rfl, ?_, rfl, rfl⟩
    unfold e__law_counts_3
    simp only [runF, runB, sSeq, sIf, sAsg, sRet, sNext, sDrop, sRaise, xVar, xC, xOp, xCB, xUn, aCons, aNil, rdv, rdvs, rdS, rdO_some, rdO_none, R_bind_ok, R_bind_bad, R_bind_exc, xTest, xTru, xAnd, xOr, xNot, xIf, xAndV, xOrV, xNotV, xChain, blOf, truO, blR, mv, put, maskA1, maskA2, maskA3, List.mem_cons, List.not_mem_nil, true_or, or_true, or_false, false_or, Bool.and_self, isi_tt, isi_ss, lc_nil, gEq_int, gNe_int, gLt_int, gLe_int, gGt_int, gGe_int, gLen, gIx, gAdd_int, gSub_int, gAug_int, xCall, takeArgs, take1, giveBack, bkAdd, share, shares, xTup, xLst, sAug, shS, emps, mName, mTup, mgCons, mgNil, xLc, xISeq, xIZip, xIRng1_eq, xIRng2_eq, rngV_ints, rngU_ints, rng1C_ok, rng2C_ok, kindOf, xSl, oPart, oNone, intOf, itemsOf, back, at0, at1, xApp, xExt, xPopAt, ownS, sz_0, sz_1, sz_2, sz_3, sz_4, sz_5, sz_6, sz_7, sz_8, List.getElem?_cons_zero, List.getElem?_cons_succ, List.getElem?_nil, List.set_cons_zero, List.set_cons_succ, List.length_cons, List.length_nil, List.cons_append, List.nil_append, List.append_nil, List.replicate, Option.bind_some, Option.bind_none, Option.map_some, Option.map_none, Option.some_or, Option.none_or, Option.or_some, Option.or_none, Option.getD_some, Option.getD_none, if_true, if_false, Bool.false_eq_true, Bool.not_true, Bool.not_false, decide_true, decide_false, List.map_cons, List.map_nil, reduceIte, Nat.reduceAdd, Nat.reduceLT, Nat.reduceEqDiff, Nat.zero_add, Int.reduceSub, Int.reduceAdd, Int.reduceLT, Int.reduceLE, Int.reduceEq, a1, a2, a3, e2, e3]
theorem lcI2 {c f : Nat → Nat} {n : Nat} (hn : n < 1000) (sc : ∀ i, i < n + 1 → Tiny (c i)) (sf : ∀ i, i < n + 1 → Tiny (f i)) (k mo nu nm rk us : Sl) :
    lcLoop (mName 9) xYes e__law_counts_2 [9] ((List.range (n + 2)).map fun (i : Nat) => D.int (i : Int)) [k, mo, .own (cD c (n + 1)), .sh (.int ((n + 1 : Nat) : Int)), nu, nm, rk, .own (rowD f (n + 1)), us, .emp, .emp] [] =
      .ok (rowD (conv c f) (n + 1), [k, mo, .own (cD c (n + 1)), .sh (.int ((n + 1 : Nat) : Int)), nu, nm, rk, .own (rowD f (n + 1)), us, .emp, .emp]) := by
  rw [lc_pure (f := fun d => match d with | .int x => if x.toNat < n + 1 then .int ((conv c f x.toNat : Nat) : Int) else .int 0 | _ => .non) (fun d hd => ?_) (by simp; omega)]
  · congr 1
    congr 1
    simp only [List.nil_append, List.map_map]
    rw [List.range_succ, List.map_append]
    unfold rowD cD
    congr 1
    · refine List.map_congr_left fun i hi => ?_
      have hi : i < n + 1 := List.mem_range.mp hi
      show (if i < n + 1 then _ else _) = _
      rw [if_pos hi]
      rfl
    · show [if n + 1 < n + 1 then _ else _] = _
      rw [if_neg (by omega)]
  · obtain ⟨t, ht, rfl⟩ := List.mem_map.mp hd
    have ht : t < n + 2 := List.mem_range.mp ht
    by_cases z : t < n + 1
    · have l := lcI1 z (by omega) sc sf k mo (.sh (.int ((n + 1 : Nat) : Int))) nu nm rk us
      have sm := gSum_nat (List.range (t + 1)) fun a => c a * f (t - a)
      have d1 : decide ((t : Int) < ((n + 1 : Nat) : Int)) = true := by simp; omega
      have s1 : smallI ((t : Int) + 1) = true := by unfold smallI; simp; omega
      have e1 : ((t : Int) + 1).toNat = t + 1 := by omega
      refine ⟨_, .sh (.int ((conv c f t : Nat) : Int)), [k, mo, .own (cD c (n + 1)), .sh (.int ((n + 1 : Nat) : Int)), nu, nm, rk, .own (rowD f (n + 1)), us, .sh (.int (t : Int)), .emp], [k, mo, .own (cD c (n + 1)), .sh (.int ((n + 1 : Nat) : Int)), nu, nm, rk, .own (rowD f (n + 1)), us, .sh (.int (t : Int)), .emp], rfl, ?_, ?_, rfl⟩
      · unfold e__law_counts_2 x__law_counts_1
        simp only [runF, runB, sSeq, sIf, sAsg, sRet, sNext, sDrop, sRaise, xVar, xC, xOp, xCB, xUn, aCons, aNil, rdv, rdvs, rdS, rdO_some, rdO_none, R_bind_ok, R_bind_bad, R_bind_exc, xTest, xTru, xAnd, xOr, xNot, xIf, xAndV, xOrV, xNotV, xChain, blOf, truO, blR, mv, put, maskA1, maskA2, maskA3, List.mem_cons, List.not_mem_nil, true_or, or_true, or_false, false_or, Bool.and_self, isi_tt, isi_ss, lc_nil, gEq_int, gNe_int, gLt_int, gLe_int, gGt_int, gGe_int, gLen, gIx, gAdd_int, gSub_int, gAug_int, xCall, takeArgs, take1, giveBack, bkAdd, share, shares, xTup, xLst, sAug, shS, emps, mName, mTup, mgCons, mgNil, xLc, xISeq, xIZip, xIRng1_eq, xIRng2_eq, rngV_ints, rngU_ints, rng1C_ok, rng2C_ok, kindOf, xSl, oPart, oNone, intOf, itemsOf, back, at0, at1, xApp, xExt, xPopAt, ownS, sz_0, sz_1, sz_2, sz_3, sz_4, sz_5, sz_6, sz_7, sz_8, List.getElem?_cons_zero, List.getElem?_cons_succ, List.getElem?_nil, List.set_cons_zero, List.set_cons_succ, List.length_cons, List.length_nil, List.cons_append, List.nil_append, List.append_nil, List.replicate, Option.bind_some, Option.bind_none, Option.map_some, Option.map_none, Option.some_or, Option.none_or, Option.or_some, Option.or_none, Option.getD_some, Option.getD_none, if_true, if_false, Bool.false_eq_true, Bool.not_true, Bool.not_false, decide_true, decide_false, List.map_cons, List.map_nil, reduceIte, Nat.reduceAdd, Nat.reduceLT, Nat.reduceEqDiff, Nat.zero_add, Int.reduceSub, Int.reduceAdd, Int.reduceLT, Int.reduceLE, Int.reduceEq, d1, s1, e1, rng0, l, sm]
        rfl
      · show some (_, _) = _
        simp only [Int.toNat_natCast, if_pos z]
    · have d1 : decide ((t : Int) < ((n + 1 : Nat) : Int)) = false := by simp; omega
      refine ⟨_, .sh (.int 0), [k, mo, .own (cD c (n + 1)), .sh (.int ((n + 1 : Nat) : Int)), nu, nm, rk, .own (rowD f (n + 1)), us, .sh (.int (t : Int)), .emp], [k, mo, .own (cD c (n + 1)), .sh (.int ((n + 1 : Nat) : Int)), nu, nm, rk, .own (rowD f (n + 1)), us, .sh (.int (t : Int)), .emp], rfl, ?_, ?_, rfl⟩
      · unfold e__law_counts_2
        simp only [runF, runB, sSeq, sIf, sAsg, sRet, sNext, sDrop, sRaise, xVar, xC, xOp, xCB, xUn, aCons, aNil, rdv, rdvs, rdS, rdO_some, rdO_none, R_bind_ok, R_bind_bad, R_bind_exc, xTest, xTru, xAnd, xOr, xNot, xIf, xAndV, xOrV, xNotV, xChain, blOf, truO, blR, mv, put, maskA1, maskA2, maskA3, List.mem_cons, List.not_mem_nil, true_or, or_true, or_false, false_or, Bool.and_self, isi_tt, isi_ss, lc_nil, gEq_int, gNe_int, gLt_int, gLe_int, gGt_int, gGe_int, gLen, gIx, gAdd_int, gSub_int, gAug_int, xCall, takeArgs, take1, giveBack, bkAdd, share, shares, xTup, xLst, sAug, shS, emps, mName, mTup, mgCons, mgNil, xLc, xISeq, xIZip, xIRng1_eq, xIRng2_eq, rngV_ints, rngU_ints, rng1C_ok, rng2C_ok, kindOf, xSl, oPart, oNone, intOf, itemsOf, back, at0, at1, xApp, xExt, xPopAt, ownS, sz_0, sz_1, sz_2, sz_3, sz_4, sz_5, sz_6, sz_7, sz_8, List.getElem?_cons_zero, List.getElem?_cons_succ, List.getElem?_nil, List.set_cons_zero, List.set_cons_succ, List.length_cons, List.length_nil, List.cons_append, List.nil_append, List.append_nil, List.replicate, Option.bind_some, Option.bind_none, Option.map_some, Option.map_none, Option.some_or, Option.none_or, Option.or_some, Option.or_none, Option.getD_some, Option.getD_none, if_true, if_false, Bool.false_eq_true, Bool.not_true, Bool.not_false, decide_true, decide_false, List.map_cons, List.map_nil, reduceIte, Nat.reduceAdd, Nat.reduceLT, Nat.reduceEqDiff, Nat.zero_add, Int.reduceSub, Int.reduceAdd, Int.reduceLT, Int.reduceLE, Int.reduceEq, d1]
      · show some (_, _) = _
        simp only [Int.toNat_natCast, if_neg z]
end K82
end
section
set_option maxRecDepth 100000
set_option maxHeartbeats 1000000
namespace K82
open PySem DL L2
theorem conv2 {c : Nat → Nat} (h0 : c 0 = 0) (t : Nat) : conv c c t = rowsF c 2 t := by
  have : c = rowsF c 1 := by funext t; rw [rows_1 h0]
  conv => lhs; arg 2; rw [this]
  exact conv_rows h0 (by omega) t
theorem conv3 {c : Nat → Nat} (h0 : c 0 = 0) (t : Nat) : conv c (conv c c) t = rowsF c 3 t := by
  rw [show conv c c = rowsF c 2 from funext (conv2 h0)]
  exact conv_rows h0 (by omega) t
theorem gAdd_row (f : Nat → Nat) (n : Nat) (h : n < 1000) : gAdd (.lst (cD f n)) (.lst [.int 0]) = some (.own (rowD f n)) := by
  have : n + 1 ≤ 1000000 := by omega
  simp [gAdd, gInt, gAddS, gAddT, gAddL, rowD, cD_len, szOk, this]
theorem toInt_dec (n : Nat) : gToInt [.bl (decide (((n + 1 : Nat) : Int) = 1))] = some (.sh (.int ((if n = 0 then 1 else 0 : Nat) : Int))) := by
  by_cases h : n = 0
  · subst h; rfl
  · have : decide (((n + 1 : Nat) : Int) = 1) = false := by simp; omega
    rw [this, if_neg h]
    rfl
theorem lk {c : Nat → Nat} {n : Nat} (hn : n < 999) (h0 : c 0 = 0) (s : Sm c (n + 1)) {r : Nat} (hr : r ≤ 3) (x : Nat) (k mo nm row us : Sl) : ∃ row' us', 
    b__law_counts_2 [k, mo, .own (cD c (n + 1)), .sh (.int ((n + 1 : Nat) : Int)), .sh (.int (x : Int)), nm, .sh (.int (r : Int)), row, us, .emp, .emp] = .ok (.nx [k, mo, .own (cD c (n + 1)), .sh (.int ((n + 1 : Nat) : Int)), .sh (.int ((x + rowsF c r n : Nat) : Int)), nm, .sh (.int (r : Int)), row', us', .emp, .emp]) := by
  have e1 : ((n + 1 : Nat) : Int) - 1 = (n : Int) := by omega
  have sm := fun f : Nat → Nat => gSum_nat (List.range (n + 1)) fun a => c a * f (n - a)
  have ex : ∀ y : Nat, (x : Int) + (y : Int) = ((x + y : Nat) : Int) := fun y => by omega
  have g0 : smallI ((n + 1 : Nat) : Int) = true := by unfold smallI; simp; omega
  have e4 : (((n + 1 : Nat) : Int)).toNat = n + 1 := by omega
  have tc : ∀ i, i < n + 1 → Tiny (c i) := s.a
  have t2 : ∀ i, i < n + 1 → Tiny (conv c c i) := fun i hi => by rw [conv2 h0]; exact s.b 2 i (by omega) hi
  have i3 := fun f (sf : ∀ i, i < n + 1 → Tiny (f i)) row us => lcI3 (c := c) (f := f) (n := n + 1) (t := n) (by omega) (by omega) s.a sf k mo (.sh (.int (x : Int))) nm row us .emp
  obtain h | h | h | h : r = 0 ∨ r = 1 ∨ r = 2 ∨ r = 3 := by omega
  · subst h
    rw [show ((0 : Nat) : Int) = 0 from rfl]
    refine ⟨row, us, ?_⟩
    unfold b__law_counts_2
    simp only [runF, runB, sSeq, sIf, sAsg, sRet, sNext, sDrop, sRaise, xVar, xC, xOp, xCB, xUn, aCons, aNil, rdv, rdvs, rdS, rdO_some, rdO_none, R_bind_ok, R_bind_bad, R_bind_exc, xTest, xTru, xAnd, xOr, xNot, xIf, xAndV, xOrV, xNotV, xChain, blOf, truO, blR, mv, put, maskA1, maskA2, maskA3, List.mem_cons, List.not_mem_nil, true_or, or_true, or_false, false_or, Bool.and_self, isi_tt, isi_ss, lc_nil, gEq_int, gNe_int, gLt_int, gLe_int, gGt_int, gGe_int, gLen, gIx, gAdd_int, gSub_int, gAug_int, xCall, takeArgs, take1, giveBack, bkAdd, share, shares, xTup, xLst, sAug, shS, emps, mName, mTup, mgCons, mgNil, xLc, xISeq, xIZip, xIRng1_eq, xIRng2_eq, rngV_ints, rngU_ints, rng1C_ok, rng2C_ok, kindOf, xSl, oPart, oNone, intOf, itemsOf, back, at0, at1, xApp, xExt, xPopAt, ownS, sz_0, sz_1, sz_2, sz_3, sz_4, sz_5, sz_6, sz_7, sz_8, List.getElem?_cons_zero, List.getElem?_cons_succ, List.getElem?_nil, List.set_cons_zero, List.set_cons_succ, List.length_cons, List.length_nil, List.cons_append, List.nil_append, List.append_nil, List.replicate, Option.bind_some, Option.bind_none, Option.map_some, Option.map_none, Option.some_or, Option.none_or, Option.or_some, Option.or_none, Option.getD_some, Option.getD_none, if_true, if_false, Bool.false_eq_true, Bool.not_true, Bool.not_false, decide_true, decide_false, List.map_cons, List.map_nil, reduceIte, Nat.reduceAdd, Nat.reduceLT, Nat.reduceEqDiff, Nat.zero_add, Int.reduceSub, Int.reduceAdd, Int.reduceLT, Int.reduceLE, Int.reduceEq, gLt_int, gEq_int, toInt_dec, ex, rowsF]
  · subst h
    rw [show ((1 : Nat) : Int) = 1 from rfl]
    refine ⟨row, us, ?_⟩
    have a := cD_at (c := c) (n := n + 1) (i := n) (by omega)
    rw [rows_1 h0]
    unfold b__law_counts_2
    simp only [runF, runB, sSeq, sIf, sAsg, sRet, sNext, sDrop, sRaise, xVar, xC, xOp, xCB, xUn, aCons, aNil, rdv, rdvs, rdS, rdO_some, rdO_none, R_bind_ok, R_bind_bad, R_bind_exc, xTest, xTru, xAnd, xOr, xNot, xIf, xAndV, xOrV, xNotV, xChain, blOf, truO, blR, mv, put, maskA1, maskA2, maskA3, List.mem_cons, List.not_mem_nil, true_or, or_true, or_false, false_or, Bool.and_self, isi_tt, isi_ss, lc_nil, gEq_int, gNe_int, gLt_int, gLe_int, gGt_int, gGe_int, gLen, gIx, gAdd_int, gSub_int, gAug_int, xCall, takeArgs, take1, giveBack, bkAdd, share, shares, xTup, xLst, sAug, shS, emps, mName, mTup, mgCons, mgNil, xLc, xISeq, xIZip, xIRng1_eq, xIRng2_eq, rngV_ints, rngU_ints, rng1C_ok, rng2C_ok, kindOf, xSl, oPart, oNone, intOf, itemsOf, back, at0, at1, xApp, xExt, xPopAt, ownS, sz_0, sz_1, sz_2, sz_3, sz_4, sz_5, sz_6, sz_7, sz_8, List.getElem?_cons_zero, List.getElem?_cons_succ, List.getElem?_nil, List.set_cons_zero, List.set_cons_succ, List.length_cons, List.length_nil, List.cons_append, List.nil_append, List.append_nil, List.replicate, Option.bind_some, Option.bind_none, Option.map_some, Option.map_none, Option.some_or, Option.none_or, Option.or_some, Option.or_none, Option.getD_some, Option.getD_none, if_true, if_false, Bool.false_eq_true, Bool.not_true, Bool.not_false, decide_true, decide_false, List.map_cons, List.map_nil, reduceIte, Nat.reduceAdd, Nat.reduceLT, Nat.reduceEqDiff, Nat.zero_add, Int.reduceSub, Int.reduceAdd, Int.reduceLT, Int.reduceLE, Int.reduceEq, gLt_int, gEq_int, e1, a, ex]
  · subst h
    rw [show ((2 : Nat) : Int) = 2 from rfl]
    refine ⟨.own (rowD c (n + 1)), us, ?_⟩
    have i3 := i3 c tc (.sh (.int 2)) us
    have sm := sm c
    have ga := gAdd_row c (n + 1) (by omega)
    have sz : smallI 0 = true := by unfold smallI; simp
    have z0 : (0 : Int).toNat = 0 := rfl
    have cv := conv2 h0 n
    unfold conv at cv
    unfold b__law_counts_2 x__law_counts_3
    simp only [runF, runB, sSeq, sIf, sAsg, sRet, sNext, sDrop, sRaise, xVar, xC, xOp, xCB, xUn, aCons, aNil, rdv, rdvs, rdS, rdO_some, rdO_none, R_bind_ok, R_bind_bad, R_bind_exc, xTest, xTru, xAnd, xOr, xNot, xIf, xAndV, xOrV, xNotV, xChain, blOf, truO, blR, mv, put, maskA1, maskA2, maskA3, List.mem_cons, List.not_mem_nil, true_or, or_true, or_false, false_or, Bool.and_self, isi_tt, isi_ss, lc_nil, gEq_int, gNe_int, gLt_int, gLe_int, gGt_int, gGe_int, gLen, gIx, gAdd_int, gSub_int, gAug_int, xCall, takeArgs, take1, giveBack, bkAdd, share, shares, xTup, xLst, sAug, shS, emps, mName, mTup, mgCons, mgNil, xLc, xISeq, xIZip, xIRng1_eq, xIRng2_eq, rngV_ints, rngU_ints, rng1C_ok, rng2C_ok, kindOf, xSl, oPart, oNone, intOf, itemsOf, back, at0, at1, xApp, xExt, xPopAt, ownS, sz_0, sz_1, sz_2, sz_3, sz_4, sz_5, sz_6, sz_7, sz_8, List.getElem?_cons_zero, List.getElem?_cons_succ, List.getElem?_nil, List.set_cons_zero, List.set_cons_succ, List.length_cons, List.length_nil, List.cons_append, List.nil_append, List.append_nil, List.replicate, Option.bind_some, Option.bind_none, Option.map_some, Option.map_none, Option.some_or, Option.none_or, Option.or_some, Option.or_none, Option.getD_some, Option.getD_none, if_true, if_false, Bool.false_eq_true, Bool.not_true, Bool.not_false, decide_true, decide_false, List.map_cons, List.map_nil, reduceIte, Nat.reduceAdd, Nat.reduceLT, Nat.reduceEqDiff, Nat.zero_add, Int.reduceSub, Int.reduceAdd, Int.reduceLT, Int.reduceLE, Int.reduceEq, gLt_int, gEq_int, e1, ga, sFor, forLoop, g0, e4, rng0, i3, sm, sz, z0, List.range_zero, ex, cv]
  · subst h
    rw [show ((3 : Nat) : Int) = 3 from rfl]
    refine ⟨.own (rowD (conv c c) (n + 1)), .sh (.int 0), ?_⟩
    have i2 := lcI2 (c := c) (f := c) (n := n) (by omega) s.a s.a k mo (.sh (.int (x : Int))) nm (.sh (.int 3)) (.sh (.int 0))
    have i3 := i3 (conv c c) t2 (.sh (.int 3)) (.sh (.int 0))
    have sm := sm (conv c c)
    have ga := gAdd_row c (n + 1) (by omega)
    have sz : smallI 1 = true := by unfold smallI; simp
    have z0 : (1 : Int).toNat = 1 := rfl
    have cv := conv3 h0 n
    have g2 : smallI (((n + 1 : Nat) : Int) + 1) = true := by unfold smallI; simp; omega
    have e5 : ((((n + 1 : Nat) : Int)) + 1).toNat = n + 2 := by omega
    have r1 : List.range 1 = [0] := rfl
    have o0 : ((0 : Nat) : Int) = 0 := rfl
    rw [conv] at cv
    unfold b__law_counts_2 x__law_counts_3 b__law_counts_1 x__law_counts_2
    simp only [runF, runB, sSeq, sIf, sAsg, sRet, sNext, sDrop, sRaise, xVar, xC, xOp, xCB, xUn, aCons, aNil, rdv, rdvs, rdS, rdO_some, rdO_none, R_bind_ok, R_bind_bad, R_bind_exc, xTest, xTru, xAnd, xOr, xNot, xIf, xAndV, xOrV, xNotV, xChain, blOf, truO, blR, mv, put, maskA1, maskA2, maskA3, List.mem_cons, List.not_mem_nil, true_or, or_true, or_false, false_or, Bool.and_self, isi_tt, isi_ss, lc_nil, gEq_int, gNe_int, gLt_int, gLe_int, gGt_int, gGe_int, gLen, gIx, gAdd_int, gSub_int, gAug_int, xCall, takeArgs, take1, giveBack, bkAdd, share, shares, xTup, xLst, sAug, shS, emps, mName, mTup, mgCons, mgNil, xLc, xISeq, xIZip, xIRng1_eq, xIRng2_eq, rngV_ints, rngU_ints, rng1C_ok, rng2C_ok, kindOf, xSl, oPart, oNone, intOf, itemsOf, back, at0, at1, xApp, xExt, xPopAt, ownS, sz_0, sz_1, sz_2, sz_3, sz_4, sz_5, sz_6, sz_7, sz_8, List.getElem?_cons_zero, List.getElem?_cons_succ, List.getElem?_nil, List.set_cons_zero, List.set_cons_succ, List.length_cons, List.length_nil, List.cons_append, List.nil_append, List.append_nil, List.replicate, Option.bind_some, Option.bind_none, Option.map_some, Option.map_none, Option.some_or, Option.none_or, Option.or_some, Option.or_none, Option.getD_some, Option.getD_none, if_true, if_false, Bool.false_eq_true, Bool.not_true, Bool.not_false, decide_true, decide_false, List.map_cons, List.map_nil, reduceIte, Nat.reduceAdd, Nat.reduceLT, Nat.reduceEqDiff, Nat.zero_add, Int.reduceSub, Int.reduceAdd, Int.reduceLT, Int.reduceLE, Int.reduceEq, gLt_int, gEq_int, e1, ga, sFor, forLoop, g0, e4, rng0, sz, z0, r1, o0, g2, e5, i2, i3, sm, ex, cv]
theorem lk_all {ks : Ks} (g : Good ks) {c : Nat → Nat} {n : Nat} (hn : n < 999) (h0 : c 0 = 0) (s : Sm c (n + 1)) (mo nm rk row us : Sl) : ∃ nm' rk' row' us',
    forLoop (mTup 2 (mgCons (mName 5) (mgCons (mName 6) mgNil))) b__law_counts_2 (kD ks) [.sh (.tup (kD ks)), mo, .own (cD c (n + 1)), .sh (.int ((n + 1 : Nat) : Int)), .sh (.int 0), nm, rk, row, us, .emp, .emp] = .ok (.nx [.sh (.tup (kD ks)), mo, .own (cD c (n + 1)), .sh (.int ((n + 1 : Nat) : Int)), .sh (.int (sumK ks c n)), nm', rk', row', us', .emp, .emp]) := by
  obtain ⟨ρ, h, a', b', c', d', e⟩ := for_inv0 (mg := mTup 2 (mgCons (mName 5) (mgCons (mName 6) mgNil))) (mb := b__law_counts_2) (ds := kD ks) (ρ := [.sh (.tup (kD ks)), mo, .own (cD c (n + 1)), .sh (.int ((n + 1 : Nat) : Int)), .sh (.int 0), nm, rk, row, us, .emp, .emp])
    (fun i ρ => ∃ nm rk row us, ρ = [.sh (.tup (kD ks)), mo, .own (cD c (n + 1)), .sh (.int ((n + 1 : Nat) : Int)), .sh (.int ((((ks.take i).map fun p => rowsF c p.2 n).sum : Nat) : Int)), nm, rk, row, us, .emp, .emp]) ⟨nm, rk, row, us, rfl⟩ fun i d ρ hd hi => by
    obtain ⟨nm, rk, row, us, rfl⟩ := hi
    obtain ⟨p, hp, rfl⟩ := kD_get hd
    obtain ⟨row', us', h⟩ := lk hn h0 s (g.rk p (mem_get hp)) (((ks.take i).map fun p => rowsF c p.2 n).sum) (.sh (.tup (kD ks))) mo (.sh (.str p.1)) row us
    rw [take_sum _ hp]
    exact ⟨_, _, rfl, h, .sh (.str p.1), .sh (.int p.2), row', us', rfl⟩
  refine ⟨a', b', c', d', ?_⟩
  rw [show (kD ks).length = ks.length by simp [kD], List.take_length] at e
  subst e
  exact h
theorem lw_mid {ks : Ks} (g : Good ks) {m : Nat} (s : Sm (cK ks) (m + 1)) (hm : m < 999) {i : Nat} (hi : i < m) (a b c d e : Sl) : ∃ a' b' c' d' e', b__law_counts_3 [.sh (.tup (kD ks)), .sh (.int m), .own (cD (cK ks) (i + 1)), .sh (.int (1 + (i : Int))), a, b, c, d, e, .emp, .emp] = .ok (.nx [.sh (.tup (kD ks)), .sh (.int m), .own (cD (cK ks) (i + 1 + 1)), .sh (.int ((i + 1 : Nat) : Int)), a', b', c', d', e', .emp, .emp]) := by
  obtain ⟨b', c', d', e', h⟩ := lk_all g (n := i) (by omega) (cK_zero ks) (s.to (by omega)) (.sh (.int m)) b c d e
  refine ⟨.sh (.int (sumK ks (cK ks) i)), b', c', d', e', ?_⟩
  rw [← cD_snoc _ (i + 1), cK_succ]
  have e1 : (1 + (i : Int)) = ((i + 1 : Nat) : Int) := by omega
  have hz : szOk (i + 1 + 1) = true := by unfold szOk; simp; omega
  unfold b__law_counts_3
  simp only [runF, runB, sSeq, sIf, sAsg, sRet, sNext, sDrop, sRaise, xVar, xC, xOp, xCB, xUn, aCons, aNil, rdv, rdvs, rdS, rdO_some, rdO_none, R_bind_ok, R_bind_bad, R_bind_exc, xTest, xTru, xAnd, xOr, xNot, xIf, xAndV, xOrV, xNotV, xChain, blOf, truO, blR, mv, put, maskA1, maskA2, maskA3, List.mem_cons, List.not_mem_nil, true_or, or_true, or_false, false_or, Bool.and_self, isi_tt, isi_ss, lc_nil, gEq_int, gNe_int, gLt_int, gLe_int, gGt_int, gGe_int, gLen, gIx, gAdd_int, gSub_int, gAug_int, xCall, takeArgs, take1, giveBack, bkAdd, share, shares, xTup, xLst, sAug, shS, emps, mName, mTup, mgCons, mgNil, xLc, xISeq, xIZip, xIRng1_eq, xIRng2_eq, rngV_ints, rngU_ints, rng1C_ok, rng2C_ok, kindOf, xSl, oPart, oNone, intOf, itemsOf, back, at0, at1, xApp, xExt, xPopAt, ownS, sz_0, sz_1, sz_2, sz_3, sz_4, sz_5, sz_6, sz_7, sz_8, List.getElem?_cons_zero, List.getElem?_cons_succ, List.getElem?_nil, List.set_cons_zero, List.set_cons_succ, List.length_cons, List.length_nil, List.cons_append, List.nil_append, List.append_nil, List.replicate, Option.bind_some, Option.bind_none, Option.map_some, Option.map_none, Option.some_or, Option.none_or, Option.or_some, Option.or_none, Option.getD_some, Option.getD_none, if_true, if_false, Bool.false_eq_true, Bool.not_true, Bool.not_false, decide_true, decide_false, List.map_cons, List.map_nil, reduceIte, Nat.reduceAdd, Nat.reduceLT, Nat.reduceEqDiff, Nat.zero_add, Int.reduceSub, Int.reduceAdd, Int.reduceLT, Int.reduceLE, Int.reduceEq, sFor, e1, h, hz, cD_len]
theorem lw_loop {ks : Ks} (g : Good ks) {m : Nat} (s : Sm (cK ks) (m + 1)) (hm : m < 999) : ∃ x a b c d e, forLoop (mName 3) b__law_counts_3 ((List.range m).map fun (k : Nat) => D.int (1 + (k : Int))) [.sh (.tup (kD ks)), .sh (.int m), .own [.int 0], .emp, .emp, .emp, .emp, .emp, .emp, .emp, .emp] = .ok (.nx [.sh (.tup (kD ks)), .sh (.int m), .own (cD (cK ks) (m + 1)), x, a, b, c, d, e, .emp, .emp]) := by
  obtain ⟨ρ, h, x, a, b, c, d, e, q⟩ := for_inv0 (mg := mName 3) (mb := b__law_counts_3) (ds := (List.range m).map fun (k : Nat) => D.int (1 + (k : Int))) (ρ := [.sh (.tup (kD ks)), .sh (.int m), .own [.int 0], .emp, .emp, .emp, .emp, .emp, .emp, .emp, .emp]) (fun i ρ => ∃ x a b c d e, ρ = [.sh (.tup (kD ks)), .sh (.int m), .own (cD (cK ks) (i + 1)), x, a, b, c, d, e, .emp, .emp]) ⟨_, _, _, _, _, _, rfl⟩ fun i d ρ hd hi => by
    obtain ⟨x, a, b, c, d, e, rfl⟩ := hi
    obtain ⟨hi, rfl⟩ := range_get hd
    obtain ⟨a', b', c', d', e', h⟩ := lw_mid g s hm hi a b c d e
    exact ⟨_, _, rfl, h, _, _, _, _, _, _, rfl⟩
  rw [List.length_map, List.length_range] at q
  subst q
  exact ⟨x, a, b, c, d, e, h⟩
theorem lw_ok {ks : Ks} (g : Good ks) {m : Nat} (s : Sm (cK ks) (m + 1)) (hm : m < 999) : Is F__law_counts [.sh (.tup (kD ks)), .sh (.int m)] (.own (cD (cK ks) (m + 1))) := by
  have s1 : smallI 1 = true := by unfold smallI; simp
  have st : smallI ((m : Int) + 1) = true := by unfold smallI; simp; omega
  have hlen : ((m : Int) + 1 - 1).toNat = m := by omega
  obtain ⟨x, a, b, c, d, e, h⟩ := lw_loop g s hm
  refine run_is rfl ⟨[.sh (.tup (kD ks)), .sh (.int m), .emp, x, a, b, c, d, e, .emp, .emp], ?_⟩
  unfold m__law_counts
  simp only [runF, runB, sSeq, sIf, sAsg, sRet, sNext, sDrop, sRaise, xVar, xC, xOp, xCB, xUn, aCons, aNil, rdv, rdvs, rdS, rdO_some, rdO_none, R_bind_ok, R_bind_bad, R_bind_exc, xTest, xTru, xAnd, xOr, xNot, xIf, xAndV, xOrV, xNotV, xChain, blOf, truO, blR, mv, put, maskA1, maskA2, maskA3, List.mem_cons, List.not_mem_nil, true_or, or_true, or_false, false_or, Bool.and_self, isi_tt, isi_ss, lc_nil, gEq_int, gNe_int, gLt_int, gLe_int, gGt_int, gGe_int, gLen, gIx, gAdd_int, gSub_int, gAug_int, xCall, takeArgs, take1, giveBack, bkAdd, share, shares, xTup, xLst, sAug, shS, emps, mName, mTup, mgCons, mgNil, xLc, xISeq, xIZip, xIRng1_eq, xIRng2_eq, rngV_ints, rngU_ints, rng1C_ok, rng2C_ok, kindOf, xSl, oPart, oNone, intOf, itemsOf, back, at0, at1, xApp, xExt, xPopAt, ownS, sz_0, sz_1, sz_2, sz_3, sz_4, sz_5, sz_6, sz_7, sz_8, List.getElem?_cons_zero, List.getElem?_cons_succ, List.getElem?_nil, List.set_cons_zero, List.set_cons_succ, List.length_cons, List.length_nil, List.cons_append, List.nil_append, List.append_nil, List.replicate, Option.bind_some, Option.bind_none, Option.map_some, Option.map_none, Option.some_or, Option.none_or, Option.or_some, Option.or_none, Option.getD_some, Option.getD_none, if_true, if_false, Bool.false_eq_true, Bool.not_true, Bool.not_false, decide_true, decide_false, List.map_cons, List.map_nil, reduceIte, Nat.reduceAdd, Nat.reduceLT, Nat.reduceEqDiff, Nat.zero_add, Int.reduceSub, Int.reduceAdd, Int.reduceLT, Int.reduceLE, Int.reduceEq, sFor, s1, st, hlen, h, Bool.and_self]
end K82
end
section
set_option maxRecDepth 100000
set_option maxHeartbeats 1000000
namespace K82
open PySem DL L2
theorem sum_le {α : Type} {f : α → Nat} {k B : Nat} : ∀ {l : List α}, (∀ x ∈ l, f x * k ≤ B) → (l.map f).sum * k ≤ l.length * B
  | [], _ => by simp
  | x :: l, h => by
    have h1 := h x (by simp)
    have h2 := sum_le (l := l) fun y hy => h y (List.mem_cons_of_mem _ hy)
    rw [List.map_cons, List.sum_cons, Nat.add_mul, List.length_cons, Nat.add_mul, Nat.one_mul]
    omega
abbrev AA (n : Nat) : Nat := 16 ^ (2 * n)
theorem AA_mul {i t : Nat} (h : i ≤ t) : AA i * AA (t - i) = AA t := by
  show 16 ^ (2 * i) * 16 ^ (2 * (t - i)) = 16 ^ (2 * t)
  rw [← Nat.pow_add]
  congr 1
  omega
theorem rows_le {c : Nat → Nat} : ∀ (r t : Nat), (∀ i, i ≤ t → c i * 16 ≤ AA i) → rowsF c (r + 1) t * 16 ^ (r + 1) ≤ t ^ r * AA t
  | 0, t, h => by
    have h1 : rowsF c 1 t ≤ c t := by
      unfold rowsF
      by_cases z : 0 < t
      · rw [if_pos z]; exact Nat.le_refl _
      · rw [if_neg z]; exact Nat.zero_le _
    have h2 := h t (Nat.le_refl _)
    simp
    omega
  | r + 1, t, h => by
    have e : rowsF c (r + 1 + 1) t = ((List.range (t - 1)).map fun i => c (i + 1) * rowsF c (r + 1) (t - (i + 1))).sum := rfl
    rw [e]
    have hs := sum_le (f := fun i => c (i + 1) * rowsF c (r + 1) (t - (i + 1))) (k := 16 ^ (r + 1 + 1)) (B := t ^ r * AA t) (l := List.range (t - 1)) fun i hi => by
      have hi : i < t - 1 := List.mem_range.mp hi
      have h1 := h (i + 1) (by omega)
      have h2 := rows_le r (t - (i + 1)) fun j hj => h j (by omega)
      have h3 : (t - (i + 1)) ^ r ≤ t ^ r := Nat.pow_le_pow_left (by omega) r
      have h4 := AA_mul (i := i + 1) (t := t) (by omega)
      calc c (i + 1) * rowsF c (r + 1) (t - (i + 1)) * 16 ^ (r + 1 + 1) = (c (i + 1) * 16) * (rowsF c (r + 1) (t - (i + 1)) * 16 ^ (r + 1)) := by
            rw [Nat.pow_succ 16 (r + 1)]
            simp only [Nat.mul_assoc, Nat.mul_left_comm, Nat.mul_comm]
        _ ≤ AA (i + 1) * ((t - (i + 1)) ^ r * AA (t - (i + 1))) := Nat.mul_le_mul h1 h2
        _ ≤ AA (i + 1) * (t ^ r * AA (t - (i + 1))) := Nat.mul_le_mul (Nat.le_refl _) (Nat.mul_le_mul h3 (Nat.le_refl _))
        _ = t ^ r * (AA (i + 1) * AA (t - (i + 1))) := by simp only [Nat.mul_assoc, Nat.mul_left_comm, Nat.mul_comm]
        _ = t ^ r * AA t := by rw [h4]
    refine Nat.le_trans hs ?_
    rw [List.length_range, Nat.pow_succ, Nat.mul_comm (t ^ r) t, Nat.mul_assoc]
    exact Nat.mul_le_mul (by omega) (Nat.le_refl _)
structure Bd (ks : Ks) (M : Nat) : Prop where
  m : M ≤ 200
  r : ∀ p ∈ ks, p.2 ≤ 3
  r3 : (∃ p ∈ ks, p.2 = 3) → M ≤ 50
theorem AA_pos (t : Nat) : 1 ≤ AA t := Nat.pow_pos (by omega)
theorem one_le {ks : Ks} {M : Nat} (b : Bd ks M) {t : Nat} (ht : t < M) (h : ∀ i, i ≤ t → cK ks i * 16 ≤ AA i) {p : Str × Nat} (hp : p ∈ ks) : rowsF (cK ks) p.2 t * 96 ≤ 256 * AA t := by
  have ha := AA_pos t
  have hr := b.r p hp
  have hm := b.m
  obtain e | e | e | e : p.2 = 0 ∨ p.2 = 1 ∨ p.2 = 2 ∨ p.2 = 3 := by omega
  · rw [e]
    have : rowsF (cK ks) 0 t ≤ 1 := by unfold rowsF; split <;> omega
    omega
  · rw [e]
    have := rows_le (c := cK ks) 0 t h
    simp at this
    omega
  · rw [e]
    have h1 := rows_le (c := cK ks) 1 t h
    have h2 : t ^ 1 * AA t ≤ 200 * AA t := Nat.mul_le_mul (by rw [Nat.pow_one]; omega) (Nat.le_refl _)
    have h1 : rowsF (cK ks) 2 t * 256 ≤ t ^ 1 * AA t := h1
    generalize t ^ 1 * AA t = y at *
    generalize AA t = x at *
    omega
  · rw [e]
    have m50 := b.r3 ⟨p, hp, e⟩
    have h1 := rows_le (c := cK ks) 2 t h
    have h3 : t ^ 2 ≤ 50 ^ 2 := Nat.pow_le_pow_left (by omega) 2
    have h2 : t ^ 2 * AA t ≤ 2500 * AA t := Nat.mul_le_mul h3 (Nat.le_refl _)
    have h1 : rowsF (cK ks) 3 t * 4096 ≤ t ^ 2 * AA t := h1
    generalize t ^ 2 * AA t = y at *
    generalize AA t = x at *
    omega
theorem cK_le {ks : Ks} {M : Nat} (b : Bd ks M) (h6 : ks.length ≤ 6) : ∀ n, n ≤ M → cK ks n * 16 ≤ AA n := by
  intro n
  induction n using Nat.strongRecOn with
  | _ n ih =>
    intro hn
    cases n with
    | zero => rw [cK_zero]; simp
    | succ t =>
      rw [cK_succ]
      unfold sumK
      have hs := sum_le (f := fun p : Str × Nat => rowsF (cK ks) p.2 t) (k := 96) (B := 256 * AA t) (l := ks) fun p hp => one_le b (by omega) (fun i hi => ih i (by omega) (by omega)) hp
      have e : AA (t + 1) = 256 * AA t := by
        show 16 ^ (2 * (t + 1)) = 256 * 16 ^ (2 * t)
        rw [show 2 * (t + 1) = 2 * t + 2 by omega, Nat.pow_add, Nat.mul_comm]
      have hl : ks.length * (256 * AA t) ≤ 6 * (256 * AA t) := Nat.mul_le_mul h6 (Nat.le_refl _)
      rw [e]
      generalize ks.length * (256 * AA t) = y at *
      generalize AA t = x at *
      omega
theorem cK_tiny {ks : Ks} {M : Nat} (b : Bd ks M) (h6 : ks.length ≤ 6) {n : Nat} (hn : n ≤ M) : cK ks n < 2 ^ 1600 := by
  have h := cK_le b h6 n hn
  have h2 : AA n ≤ 16 ^ 400 := Nat.pow_le_pow_right (by omega) (by have := b.m; omega)
  have h3 : (16 : Nat) ^ 400 = 2 ^ 1600 := by
    rw [show (16 : Nat) = 2 ^ 4 from rfl, ← Nat.pow_mul]
  have h4 : 0 < (2 : Nat) ^ 1600 := Nat.pow_pos (by omega)
  rw [h3] at h2
  generalize (2 : Nat) ^ 1600 = x at *
  generalize AA n = y at *
  omega
theorem Sm_of {ks : Ks} {M : Nat} (b : Bd ks M) (h6 : ks.length ≤ 6) : Sm (cK ks) (M + 1) where
  a := fun i hi => Nat.lt_of_lt_of_le (cK_tiny b h6 (by omega)) (Nat.pow_le_pow_right (by omega) (by omega))
  b := fun r t hr ht => by
    have hm := b.m
    have hc : ∀ i, i ≤ t → cK ks i * 16 ≤ AA i := fun i hi => cK_le b h6 i (by omega)
    cases r with
    | zero =>
      have : rowsF (cK ks) 0 t ≤ 1 := by unfold rowsF; split <;> omega
      exact Nat.lt_of_le_of_lt this (Nat.one_lt_two_pow (by omega))
    | succ r =>
      have h := rows_le r t hc
      have h2 : AA t ≤ 16 ^ 400 := Nat.pow_le_pow_right (by omega) (by omega)
      have h3 : (16 : Nat) ^ 400 = 2 ^ 1600 := by
        rw [show (16 : Nat) = 2 ^ 4 from rfl, ← Nat.pow_mul]
      have h5 : t ^ r ≤ 256 ^ 2 := Nat.le_trans (Nat.pow_le_pow_left (show t ≤ 256 by omega) r) (Nat.pow_le_pow_right (by omega) (by omega))
      have h6 : rowsF (cK ks) (r + 1) t ≤ rowsF (cK ks) (r + 1) t * 16 ^ (r + 1) := Nat.le_mul_of_pos_right _ (Nat.pow_pos (by omega))
      have h7 : t ^ r * AA t ≤ 256 ^ 2 * 2 ^ 1600 := Nat.mul_le_mul h5 (h3 ▸ h2)
      have h8 : (256 : Nat) ^ 2 * 2 ^ 1600 < 2 ^ 2000 := by
        rw [show (256 : Nat) = 2 ^ 8 from rfl, ← Nat.pow_mul, ← Nat.pow_add]
        exact Nat.pow_lt_pow_right (by omega) (by omega)
      exact Nat.lt_of_le_of_lt (Nat.le_trans h6 (Nat.le_trans h h7)) h8
end K82
end
section
set_option maxRecDepth 100000
set_option maxHeartbeats 1000000
namespace K82
open PySem DL L2
def z1 : D := .tup [.int 0]
def setD (ks : Ks) : D := .tup [.str "set", .tup (kD ks), .int 1, .tup (ks.map fun _ => z1), z1]
theorem gTuple_lst (l : List D) : gTuple [.lst l] = some (.sh (.tup l)) := rfl
theorem all_of_ok {ks : Ks} (h6 : ks.length ≤ 6) : Is F__law_all_of [.sh (.tup (kD ks))] (.sh (setD ks)) := by
  have hl : lcLoop (mName 1) xYes e__law_all_of_1 [1] (kD ks) [.sh (.tup (kD ks)), .emp] [] = .ok ((kD ks).map fun _ => z1, [.sh (.tup (kD ks)), .emp]) := by
    refine lc_pure (f := fun _ => z1) (fun d hd => ?_) (by simp [kD]; omega)
    refine ⟨_, .sh z1, [.sh (.tup (kD ks)), .sh d], [.sh (.tup (kD ks)), .sh d], rfl, ?_, rfl, rfl⟩
    unfold e__law_all_of_1
    simp only [runF, runB, sSeq, sIf, sAsg, sRet, sNext, sDrop, sRaise, xVar, xC, xOp, xCB, xUn, aCons, aNil, rdv, rdvs, rdS, rdO_some, rdO_none, R_bind_ok, R_bind_bad, R_bind_exc, xTest, xTru, xAnd, xOr, xNot, xIf, xAndV, xOrV, xNotV, xChain, blOf, truO, blR, mv, put, maskA1, maskA2, maskA3, List.mem_cons, List.not_mem_nil, true_or, or_true, or_false, false_or, Bool.and_self, isi_tt, isi_ss, lc_nil, gEq_int, gNe_int, gLt_int, gLe_int, gGt_int, gGe_int, gLen, gIx, gAdd_int, gSub_int, gAug_int, xCall, takeArgs, take1, giveBack, bkAdd, share, shares, xTup, xLst, sAug, shS, emps, mName, mTup, mgCons, mgNil, xLc, xISeq, xIZip, xIRng1_eq, xIRng2_eq, rngV_ints, rngU_ints, rng1C_ok, rng2C_ok, kindOf, xSl, oPart, oNone, intOf, itemsOf, back, at0, at1, xApp, xExt, xPopAt, ownS, sz_0, sz_1, sz_2, sz_3, sz_4, sz_5, sz_6, sz_7, sz_8, List.getElem?_cons_zero, List.getElem?_cons_succ, List.getElem?_nil, List.set_cons_zero, List.set_cons_succ, List.length_cons, List.length_nil, List.cons_append, List.nil_append, List.append_nil, List.replicate, Option.bind_some, Option.bind_none, Option.map_some, Option.map_none, Option.some_or, Option.none_or, Option.or_some, Option.or_none, Option.getD_some, Option.getD_none, if_true, if_false, Bool.false_eq_true, Bool.not_true, Bool.not_false, decide_true, decide_false, List.map_cons, List.map_nil, reduceIte, Nat.reduceAdd, Nat.reduceLT, Nat.reduceEqDiff, Nat.zero_add, Int.reduceSub, Int.reduceAdd, Int.reduceLT, Int.reduceLE, Int.reduceEq]
    rfl
  refine run_is rfl ⟨[.sh (.tup (kD ks)), .emp], ?_⟩
  unfold m__law_all_of x__law_all_of_1
  have e : (kD ks).map (fun _ => z1) = ks.map fun _ => z1 := by unfold kD; rw [List.map_map]; rfl
  rw [e] at hl
  simp only [runF, runB, sSeq, sIf, sAsg, sRet, sNext, sDrop, sRaise, xVar, xC, xOp, xCB, xUn, aCons, aNil, rdv, rdvs, rdS, rdO_some, rdO_none, R_bind_ok, R_bind_bad, R_bind_exc, xTest, xTru, xAnd, xOr, xNot, xIf, xAndV, xOrV, xNotV, xChain, blOf, truO, blR, mv, put, maskA1, maskA2, maskA3, List.mem_cons, List.not_mem_nil, true_or, or_true, or_false, false_or, Bool.and_self, isi_tt, isi_ss, lc_nil, gEq_int, gNe_int, gLt_int, gLe_int, gGt_int, gGe_int, gLen, gIx, gAdd_int, gSub_int, gAug_int, xCall, takeArgs, take1, giveBack, bkAdd, share, shares, xTup, xLst, sAug, shS, emps, mName, mTup, mgCons, mgNil, xLc, xISeq, xIZip, xIRng1_eq, xIRng2_eq, rngV_ints, rngU_ints, rng1C_ok, rng2C_ok, kindOf, xSl, oPart, oNone, intOf, itemsOf, back, at0, at1, xApp, xExt, xPopAt, ownS, sz_0, sz_1, sz_2, sz_3, sz_4, sz_5, sz_6, sz_7, sz_8, List.getElem?_cons_zero, List.getElem?_cons_succ, List.getElem?_nil, List.set_cons_zero, List.set_cons_succ, List.length_cons, List.length_nil, List.cons_append, List.nil_append, List.append_nil, List.replicate, Option.bind_some, Option.bind_none, Option.map_some, Option.map_none, Option.some_or, Option.none_or, Option.or_some, Option.or_none, Option.getD_some, Option.getD_none, if_true, if_false, Bool.false_eq_true, Bool.not_true, Bool.not_false, decide_true, decide_false, List.map_cons, List.map_nil, reduceIte, Nat.reduceAdd, Nat.reduceLT, Nat.reduceEqDiff, Nat.zero_add, Int.reduceSub, Int.reduceAdd, Int.reduceLT, Int.reduceLE, Int.reduceEq, hl, gTuple_lst]
  rfl
theorem cMul_1 : cMul 1 1 = true := by decide
theorem tn_ok (r : Nat) (hr : r ≤ 3) : Is F_tuples_number [.sh (.int 1), .sh (.int r)] (.sh (.int 1)) := by
  have st : smallI (r : Int) = true := by unfold smallI; simp; omega
  have er : (r : Int).toNat = r := by omega
  obtain ⟨ρ, h, w, e⟩ := for_inv0 (mg := mName 3) (mb := b_tuples_number_1) (ds := (List.range r).map fun (k : Nat) => D.int (0 + (k : Int))) (ρ := [.sh (.int 1), .sh (.int r), .sh (.int 1), .emp]) (fun i ρ => ∃ w, ρ = [.sh (.int 1), .sh (.int r), .sh (.int 1), w]) ⟨_, rfl⟩ fun i d ρ hd hi => by
    obtain ⟨w, rfl⟩ := hi
    refine ⟨[.sh (.int 1), .sh (.int r), .sh (.int 1), .sh d], [.sh (.int 1), .sh (.int r), .sh (.int 1), .sh d], rfl, ?_, _, rfl⟩
    unfold b_tuples_number_1
    simp only [runF, runB, sSeq, sIf, sAsg, sRet, sNext, sDrop, sRaise, xVar, xC, xOp, xCB, xUn, aCons, aNil, rdv, rdvs, rdS, rdO_some, rdO_none, R_bind_ok, R_bind_bad, R_bind_exc, xTest, xTru, xAnd, xOr, xNot, xIf, xAndV, xOrV, xNotV, xChain, blOf, truO, blR, mv, put, maskA1, maskA2, maskA3, List.mem_cons, List.not_mem_nil, true_or, or_true, or_false, false_or, Bool.and_self, isi_tt, isi_ss, lc_nil, gEq_int, gNe_int, gLt_int, gLe_int, gGt_int, gGe_int, gLen, gIx, gAdd_int, gSub_int, gAug_int, xCall, takeArgs, take1, giveBack, bkAdd, share, shares, xTup, xLst, sAug, shS, emps, mName, mTup, mgCons, mgNil, xLc, xISeq, xIZip, xIRng1_eq, xIRng2_eq, rngV_ints, rngU_ints, rng1C_ok, rng2C_ok, kindOf, xSl, oPart, oNone, intOf, itemsOf, back, at0, at1, xApp, xExt, xPopAt, ownS, sz_0, sz_1, sz_2, sz_3, sz_4, sz_5, sz_6, sz_7, sz_8, List.getElem?_cons_zero, List.getElem?_cons_succ, List.getElem?_nil, List.set_cons_zero, List.set_cons_succ, List.length_cons, List.length_nil, List.cons_append, List.nil_append, List.append_nil, List.replicate, Option.bind_some, Option.bind_none, Option.map_some, Option.map_none, Option.some_or, Option.none_or, Option.or_some, Option.or_none, Option.getD_some, Option.getD_none, if_true, if_false, Bool.false_eq_true, Bool.not_true, Bool.not_false, decide_true, decide_false, List.map_cons, List.map_nil, reduceIte, Nat.reduceAdd, Nat.reduceLT, Nat.reduceEqDiff, Nat.zero_add, Int.reduceSub, Int.reduceAdd, Int.reduceLT, Int.reduceLE, Int.reduceEq, gInt, cMul_1, Int.reduceMul]
  subst e
  refine run_is rfl ⟨[.sh (.int 1), .sh (.int r), .sh (.int 1), w], ?_⟩
  unfold m_tuples_number
  simp only [runF, runB, sSeq, sIf, sAsg, sRet, sNext, sDrop, sRaise, xVar, xC, xOp, xCB, xUn, aCons, aNil, rdv, rdvs, rdS, rdO_some, rdO_none, R_bind_ok, R_bind_bad, R_bind_exc, xTest, xTru, xAnd, xOr, xNot, xIf, xAndV, xOrV, xNotV, xChain, blOf, truO, blR, mv, put, maskA1, maskA2, maskA3, List.mem_cons, List.not_mem_nil, true_or, or_true, or_false, false_or, Bool.and_self, isi_tt, isi_ss, lc_nil, gEq_int, gNe_int, gLt_int, gLe_int, gGt_int, gGe_int, gLen, gIx, gAdd_int, gSub_int, gAug_int, xCall, takeArgs, take1, giveBack, bkAdd, share, shares, xTup, xLst, sAug, shS, emps, mName, mTup, mgCons, mgNil, xLc, xISeq, xIZip, xIRng1_eq, xIRng2_eq, rngV_ints, rngU_ints, rng1C_ok, rng2C_ok, kindOf, xSl, oPart, oNone, intOf, itemsOf, back, at0, at1, xApp, xExt, xPopAt, ownS, sz_0, sz_1, sz_2, sz_3, sz_4, sz_5, sz_6, sz_7, sz_8, List.getElem?_cons_zero, List.getElem?_cons_succ, List.getElem?_nil, List.set_cons_zero, List.set_cons_succ, List.length_cons, List.length_nil, List.cons_append, List.nil_append, List.append_nil, List.replicate, Option.bind_some, Option.bind_none, Option.map_some, Option.map_none, Option.some_or, Option.none_or, Option.or_some, Option.or_none, Option.getD_some, Option.getD_none, if_true, if_false, Bool.false_eq_true, Bool.not_true, Bool.not_false, decide_true, decide_false, List.map_cons, List.map_nil, reduceIte, Nat.reduceAdd, Nat.reduceLT, Nat.reduceEqDiff, Nat.zero_add, Int.reduceSub, Int.reduceAdd, Int.reduceLT, Int.reduceLE, Int.reduceEq, sFor, st, er, h]
theorem goals_ok {ks : Ks} (g : Good ks) : Is F_goals_of [.sh (.tup (kD ks)), .sh (.int 1)] (.sh (.int ((ks.map fun _ => 1).sum : Nat))) := by
  have hl : lcLoop (mTup 2 (mgCons (mName 2) (mgCons (mName 3) mgNil))) xYes e_goals_of_1 [2, 3] (kD ks) [.sh (.tup (kD ks)), .sh (.int 1), .emp, .emp] [] = .ok ((kD ks).map fun _ => .int 1, [.sh (.tup (kD ks)), .sh (.int 1), .emp, .emp]) := by
    refine lc_pure (f := fun _ => .int 1) (fun d hd => ?_) (by simp [kD]; have := g.six; omega)
    obtain ⟨p, hp, rfl⟩ := List.mem_map.mp hd
    obtain ⟨l, e⟩ := tn_ok p.2 (g.rk p hp)
    refine ⟨_, .sh (.int 1), [.sh (.tup (kD ks)), .sh (.int 1), .sh (.str p.1), .sh (.int p.2)], [.sh (.tup (kD ks)), .sh (.int 1), .sh (.str p.1), .sh (.int p.2)], rfl, ?_, rfl, rfl⟩
    unfold e_goals_of_1
    simp only [runF, runB, sSeq, sIf, sAsg, sRet, sNext, sDrop, sRaise, xVar, xC, xOp, xCB, xUn, aCons, aNil, rdv, rdvs, rdS, rdO_some, rdO_none, R_bind_ok, R_bind_bad, R_bind_exc, xTest, xTru, xAnd, xOr, xNot, xIf, xAndV, xOrV, xNotV, xChain, blOf, truO, blR, mv, put, maskA1, maskA2, maskA3, List.mem_cons, List.not_mem_nil, true_or, or_true, or_false, false_or, Bool.and_self, isi_tt, isi_ss, lc_nil, gEq_int, gNe_int, gLt_int, gLe_int, gGt_int, gGe_int, gLen, gIx, gAdd_int, gSub_int, gAug_int, xCall, takeArgs, take1, giveBack, bkAdd, share, shares, xTup, xLst, sAug, shS, emps, mName, mTup, mgCons, mgNil, xLc, xISeq, xIZip, xIRng1_eq, xIRng2_eq, rngV_ints, rngU_ints, rng1C_ok, rng2C_ok, kindOf, xSl, oPart, oNone, intOf, itemsOf, back, at0, at1, xApp, xExt, xPopAt, ownS, sz_0, sz_1, sz_2, sz_3, sz_4, sz_5, sz_6, sz_7, sz_8, List.getElem?_cons_zero, List.getElem?_cons_succ, List.getElem?_nil, List.set_cons_zero, List.set_cons_succ, List.length_cons, List.length_nil, List.cons_append, List.nil_append, List.append_nil, List.replicate, Option.bind_some, Option.bind_none, Option.map_some, Option.map_none, Option.some_or, Option.none_or, Option.or_some, Option.or_none, Option.getD_some, Option.getD_none, if_true, if_false, Bool.false_eq_true, Bool.not_true, Bool.not_false, decide_true, decide_false, List.map_cons, List.map_nil, reduceIte, Nat.reduceAdd, Nat.reduceLT, Nat.reduceEqDiff, Nat.zero_add, Int.reduceSub, Int.reduceAdd, Int.reduceLT, Int.reduceLE, Int.reduceEq, e]
  have e : (kD ks).map (fun _ => D.int 1) = ks.map fun _ => D.int ((1 : Nat) : Int) := by unfold kD; rw [List.map_map]; rfl
  rw [e] at hl
  have sm := gSum_nat ks fun _ => 1
  refine run_is rfl ⟨[.sh (.tup (kD ks)), .sh (.int 1), .emp, .emp], ?_⟩
  unfold m_goals_of x_goals_of_1
  simp only [runF, runB, sSeq, sIf, sAsg, sRet, sNext, sDrop, sRaise, xVar, xC, xOp, xCB, xUn, aCons, aNil, rdv, rdvs, rdS, rdO_some, rdO_none, R_bind_ok, R_bind_bad, R_bind_exc, xTest, xTru, xAnd, xOr, xNot, xIf, xAndV, xOrV, xNotV, xChain, blOf, truO, blR, mv, put, maskA1, maskA2, maskA3, List.mem_cons, List.not_mem_nil, true_or, or_true, or_false, false_or, Bool.and_self, isi_tt, isi_ss, lc_nil, gEq_int, gNe_int, gLt_int, gLe_int, gGt_int, gGe_int, gLen, gIx, gAdd_int, gSub_int, gAug_int, xCall, takeArgs, take1, giveBack, bkAdd, share, shares, xTup, xLst, sAug, shS, emps, mName, mTup, mgCons, mgNil, xLc, xISeq, xIZip, xIRng1_eq, xIRng2_eq, rngV_ints, rngU_ints, rng1C_ok, rng2C_ok, kindOf, xSl, oPart, oNone, intOf, itemsOf, back, at0, at1, xApp, xExt, xPopAt, ownS, sz_0, sz_1, sz_2, sz_3, sz_4, sz_5, sz_6, sz_7, sz_8, List.getElem?_cons_zero, List.getElem?_cons_succ, List.getElem?_nil, List.set_cons_zero, List.set_cons_succ, List.length_cons, List.length_nil, List.cons_append, List.nil_append, List.append_nil, List.replicate, Option.bind_some, Option.bind_none, Option.map_some, Option.map_none, Option.some_or, Option.none_or, Option.or_some, Option.or_none, Option.getD_some, Option.getD_none, if_true, if_false, Bool.false_eq_true, Bool.not_true, Bool.not_false, decide_true, decide_false, List.map_cons, List.map_nil, reduceIte, Nat.reduceAdd, Nat.reduceLT, Nat.reduceEqDiff, Nat.zero_add, Int.reduceSub, Int.reduceAdd, Int.reduceLT, Int.reduceLE, Int.reduceEq, hl, sm]
theorem row_ok (r : Nat) (hr : r ≤ 3) : Is F_is_row [.sh z1, .sh (.int 1), .sh (.int r)] (.sh (.bl true)) := by
  obtain ⟨l, e⟩ := tn_ok r hr
  have hl : lcLoop (mName 3) xYes e_is_row_1 [3] [.int 0] [.sh z1, .sh (.int 1), .sh (.int r), .emp] [] = .ok ([.bl true], [.sh z1, .sh (.int 1), .sh (.int r), .emp]) := by
    refine lc_pure (f := fun _ => .bl true) (ds := [.int 0]) (acc := []) (fun d hd => ?_) (by simp)
    rw [List.mem_singleton] at hd
    subst hd
    obtain ⟨l, e⟩ := number_int 0 1
    refine ⟨_, .sh (.bl true), [.sh z1, .sh (.int 1), .sh (.int r), .sh (.int 0)], [.sh z1, .sh (.int 1), .sh (.int r), .sh (.int 0)], rfl, ?_, rfl, rfl⟩
    unfold e_is_row_1
    simp only [runF, runB, sSeq, sIf, sAsg, sRet, sNext, sDrop, sRaise, xVar, xC, xOp, xCB, xUn, aCons, aNil, rdv, rdvs, rdS, rdO_some, rdO_none, R_bind_ok, R_bind_bad, R_bind_exc, xTest, xTru, xAnd, xOr, xNot, xIf, xAndV, xOrV, xNotV, xChain, blOf, truO, blR, mv, put, maskA1, maskA2, maskA3, List.mem_cons, List.not_mem_nil, true_or, or_true, or_false, false_or, Bool.and_self, isi_tt, isi_ss, lc_nil, gEq_int, gNe_int, gLt_int, gLe_int, gGt_int, gGe_int, gLen, gIx, gAdd_int, gSub_int, gAug_int, xCall, takeArgs, take1, giveBack, bkAdd, share, shares, xTup, xLst, sAug, shS, emps, mName, mTup, mgCons, mgNil, xLc, xISeq, xIZip, xIRng1_eq, xIRng2_eq, rngV_ints, rngU_ints, rng1C_ok, rng2C_ok, kindOf, xSl, oPart, oNone, intOf, itemsOf, back, at0, at1, xApp, xExt, xPopAt, ownS, sz_0, sz_1, sz_2, sz_3, sz_4, sz_5, sz_6, sz_7, sz_8, List.getElem?_cons_zero, List.getElem?_cons_succ, List.getElem?_nil, List.set_cons_zero, List.set_cons_succ, List.length_cons, List.length_nil, List.cons_append, List.nil_append, List.append_nil, List.replicate, Option.bind_some, Option.bind_none, Option.map_some, Option.map_none, Option.some_or, Option.none_or, Option.or_some, Option.or_none, Option.getD_some, Option.getD_none, if_true, if_false, Bool.false_eq_true, Bool.not_true, Bool.not_false, decide_true, decide_false, List.map_cons, List.map_nil, reduceIte, Nat.reduceAdd, Nat.reduceLT, Nat.reduceEqDiff, Nat.zero_add, Int.reduceSub, Int.reduceAdd, Int.reduceLT, Int.reduceLE, Int.reduceEq, e, Int.le_refl, Bool.and_self, Int.reduceLE]
  have ga : gAll [.lst [.bl true]] = some (.sh (.bl true)) := gAll_yes (by simp)
  refine run_is rfl ⟨[.sh z1, .sh (.int 1), .sh (.int r), .emp], ?_⟩
  unfold m_is_row x_is_row_1
  unfold z1 at *
  simp [runF, runB, sSeq, sIf, sAsg, sRet, sNext, sDrop, sRaise, xVar, xC, xOp, xCB, xUn, aCons, aNil, rdv, rdvs, rdS, rdO_some, rdO_none, R_bind_ok, R_bind_bad, R_bind_exc, xTest, xTru, xAnd, xOr, xNot, xIf, xAndV, xOrV, xNotV, xChain, blOf, truO, blR, mv, put, maskA, List.range, List.range.loop, gIsi, tyD, instO, instTab, gLe, gLt, gGt, gGe, gEq, gNe, eqS, cmpI, cmpS, gLen, gIx, gAdd, DL.gSub, gInt, yes2, xCall, takeArgs, take1, giveBack, bkAdd, share, shares, xTup, xLst, sAug, shS, emps, mName, mTup, mgCons, mgNil, xLc, xISeq, xIZip, kindOf, xSl, oPart, oNone, intOf, itemsOf, back, at0, at1, e, hl, ga]
end K82
end
section
set_option maxRecDepth 100000
set_option maxHeartbeats 1000000
namespace K82
open PySem DL L2
theorem states_ok : Is F_are_states [.sh z1, .sh (.int 1)] (.sh (.bl true)) := by
  have hl : lcLoop (mName 2) xYes e_are_states_1 [2] [.int 0] [.sh z1, .sh (.int 1), .emp, .emp, .emp] [] = .ok ([.bl true], [.sh z1, .sh (.int 1), .emp, .emp, .emp]) := by
    refine lc_pure (f := fun _ => .bl true) (ds := [.int 0]) (acc := []) (fun d hd => ?_) (by simp)
    rw [List.mem_singleton] at hd
    subst hd
    obtain ⟨l, e⟩ := number_int 0 1
    refine ⟨_, .sh (.bl true), [.sh z1, .sh (.int 1), .sh (.int 0), .emp, .emp], [.sh z1, .sh (.int 1), .sh (.int 0), .emp, .emp], rfl, ?_, rfl, rfl⟩
    unfold e_are_states_1
    simp only [runF, runB, sSeq, sIf, sAsg, sRet, sNext, sDrop, sRaise, xVar, xC, xOp, xCB, xUn, aCons, aNil, rdv, rdvs, rdS, rdO_some, rdO_none, R_bind_ok, R_bind_bad, R_bind_exc, xTest, xTru, xAnd, xOr, xNot, xIf, xAndV, xOrV, xNotV, xChain, blOf, truO, blR, mv, put, maskA1, maskA2, maskA3, List.mem_cons, List.not_mem_nil, true_or, or_true, or_false, false_or, Bool.and_self, isi_tt, isi_ss, lc_nil, gEq_int, gNe_int, gLt_int, gLe_int, gGt_int, gGe_int, gLen, gIx, gAdd_int, gSub_int, gAug_int, xCall, takeArgs, take1, giveBack, bkAdd, share, shares, xTup, xLst, sAug, shS, emps, mName, mTup, mgCons, mgNil, xLc, xISeq, xIZip, xIRng1_eq, xIRng2_eq, rngV_ints, rngU_ints, rng1C_ok, rng2C_ok, kindOf, xSl, oPart, oNone, intOf, itemsOf, back, at0, at1, xApp, xExt, xPopAt, ownS, sz_0, sz_1, sz_2, sz_3, sz_4, sz_5, sz_6, sz_7, sz_8, List.getElem?_cons_zero, List.getElem?_cons_succ, List.getElem?_nil, List.set_cons_zero, List.set_cons_succ, List.length_cons, List.length_nil, List.cons_append, List.nil_append, List.append_nil, List.replicate, Option.bind_some, Option.bind_none, Option.map_some, Option.map_none, Option.some_or, Option.none_or, Option.or_some, Option.or_none, Option.getD_some, Option.getD_none, if_true, if_false, Bool.false_eq_true, Bool.not_true, Bool.not_false, decide_true, decide_false, List.map_cons, List.map_nil, reduceIte, Nat.reduceAdd, Nat.reduceLT, Nat.reduceEqDiff, Nat.zero_add, Int.reduceSub, Int.reduceAdd, Int.reduceLT, Int.reduceLE, Int.reduceEq, e, Int.le_refl, Bool.and_self, Int.reduceLE]
  have ga : gAll [.lst [.bl true]] = some (.sh (.bl true)) := gAll_yes (by simp)
  have gb : gAll [.lst []] = some (.sh (.bl true)) := gAll_yes (by simp)
  have cu : cutD [D.int 0] (some 1) none = [] := cut1 _
  refine run_is rfl ⟨[.sh z1, .sh (.int 1), .emp, .emp, .emp], ?_⟩
  unfold m_are_states x_are_states_1 x_are_states_2
  unfold z1 at *
  simp [runF, runB, sSeq, sIf, sAsg, sRet, sNext, sDrop, sRaise, xVar, xC, xOp, xCB, xUn, aCons, aNil, rdv, rdvs, rdS, rdO_some, rdO_none, R_bind_ok, R_bind_bad, R_bind_exc, xTest, xTru, xAnd, xOr, xNot, xIf, xAndV, xOrV, xNotV, xChain, blOf, truO, blR, mv, put, maskA, List.range, List.range.loop, gIsi, tyD, instO, instTab, gLe, gLt, gGt, gGe, gEq, gNe, eqS, cmpI, cmpS, gLen, gIx, gAdd, DL.gSub, gInt, yes2, xCall, takeArgs, take1, giveBack, bkAdd, share, shares, xTup, xLst, sAug, shS, emps, mName, mTup, mgCons, mgNil, xLc, xISeq, xIZip, kindOf, xSl, oPart, oNone, intOf, itemsOf, back, at0, at1, hl, ga, gb, gSl, gSlL, gSlT, cu, zipD, lc_nil]
theorem set_zip {ks : Ks} : ∀ x ∈ zipD (ks.map fun _ => z1) (kD ks), ∃ p ∈ ks, x = .tup [z1, kp p] := by
  induction ks with
  | nil => intro x hx; simp [kD, zipD] at hx
  | cons p ks ih =>
    intro x hx
    have hx : x ∈ D.tup [z1, kp p] :: zipD (ks.map fun _ => z1) (kD ks) := hx
    rcases List.mem_cons.mp hx with e | hx
    · exact ⟨p, by simp, e⟩
    · obtain ⟨q, h1, h2⟩ := ih x hx
      exact ⟨q, List.mem_cons_of_mem _ h1, h2⟩
theorem sum_ones (ks : Ks) : (ks.map fun _ => 1).sum = ks.length := by
  induction ks with
  | nil => rfl
  | cons p ks ih =>
    simp only [List.map_cons, List.sum_cons, List.length_cons]
    rw [ih]
    omega
theorem a5 {α : Type} (a b c d e : α) : atI [a, b, c, d, e] 0 = some a ∧ atI [a, b, c, d, e] 1 = some b ∧ atI [a, b, c, d, e] 2 = some c ∧ atI [a, b, c, d, e] 3 = some d ∧ atI [a, b, c, d, e] 4 = some e := ⟨rfl, rfl, rfl, rfl, rfl⟩
theorem set_ok {ks : Ks} (g : Good ks) : Is F_is_set [.sh (setD ks)] (.sh (.bl true)) := by
  obtain ⟨l1, k1⟩ := kinds_ok g
  obtain ⟨l2, k2⟩ := number_int 1 61
  obtain ⟨l3, k3⟩ := states_ok
  obtain ⟨l4, k4⟩ := goals_ok g
  rw [sum_ones] at k4
  have hg : (decide ((4000 : Int) < (ks.length : Int))) = false := by have := g.six; simp; omega
  have hl : lcLoop (mTup 2 (mgCons (mName 6) (mgCons (mName 7) mgNil))) xYes e_is_set_1 [6, 7] (zipD (ks.map fun _ => z1) (kD ks)) [.sh (setD ks), .sh (.str "set"), .sh (.tup (kD ks)), .sh (.int 1), .sh (.tup (ks.map fun _ => z1)), .sh z1, .emp, .emp] [] = .ok ((zipD (ks.map fun _ => z1) (kD ks)).map fun _ => .bl true, [.sh (setD ks), .sh (.str "set"), .sh (.tup (kD ks)), .sh (.int 1), .sh (.tup (ks.map fun _ => z1)), .sh z1, .emp, .emp]) := by
    refine lc_pure (f := fun _ => .bl true) (fun d hd => ?_) (by rw [zipD_len]; simp [kD]; have := g.six; omega)
    obtain ⟨p, hp, rfl⟩ := set_zip d hd
    obtain ⟨l, e⟩ := row_ok p.2 (g.rk p hp)
    refine ⟨_, .sh (.bl true), [.sh (setD ks), .sh (.str "set"), .sh (.tup (kD ks)), .sh (.int 1), .sh (.tup (ks.map fun _ => z1)), .sh z1, .sh z1, .sh (kp p)], [.sh (setD ks), .sh (.str "set"), .sh (.tup (kD ks)), .sh (.int 1), .sh (.tup (ks.map fun _ => z1)), .sh z1, .sh z1, .sh (kp p)], rfl, ?_, rfl, rfl⟩
    unfold e_is_set_1 kp
    simp only [runF, runB, sSeq, sIf, sAsg, sRet, sNext, sDrop, sRaise, xVar, xC, xOp, xCB, xUn, aCons, aNil, rdv, rdvs, rdS, rdO_some, rdO_none, R_bind_ok, R_bind_bad, R_bind_exc, xTest, xTru, xAnd, xOr, xNot, xIf, xAndV, xOrV, xNotV, xChain, blOf, truO, blR, mv, put, maskA1, maskA2, maskA3, List.mem_cons, List.not_mem_nil, true_or, or_true, or_false, false_or, Bool.and_self, isi_tt, isi_ss, lc_nil, gEq_int, gNe_int, gLt_int, gLe_int, gGt_int, gGe_int, gLen, gIx, gAdd_int, gSub_int, gAug_int, xCall, takeArgs, take1, giveBack, bkAdd, share, shares, xTup, xLst, sAug, shS, emps, mName, mTup, mgCons, mgNil, xLc, xISeq, xIZip, xIRng1_eq, xIRng2_eq, rngV_ints, rngU_ints, rng1C_ok, rng2C_ok, kindOf, xSl, oPart, oNone, intOf, itemsOf, back, at0, at1, xApp, xExt, xPopAt, ownS, sz_0, sz_1, sz_2, sz_3, sz_4, sz_5, sz_6, sz_7, sz_8, List.getElem?_cons_zero, List.getElem?_cons_succ, List.getElem?_nil, List.set_cons_zero, List.set_cons_succ, List.length_cons, List.length_nil, List.cons_append, List.nil_append, List.append_nil, List.replicate, Option.bind_some, Option.bind_none, Option.map_some, Option.map_none, Option.some_or, Option.none_or, Option.or_some, Option.or_none, Option.getD_some, Option.getD_none, if_true, if_false, Bool.false_eq_true, Bool.not_true, Bool.not_false, decide_true, decide_false, List.map_cons, List.map_nil, reduceIte, Nat.reduceAdd, Nat.reduceLT, Nat.reduceEqDiff, Nat.zero_add, Int.reduceSub, Int.reduceAdd, Int.reduceLT, Int.reduceLE, Int.reduceEq, e, at1]
  have ga : gAll [.lst ((zipD (ks.map fun _ => z1) (kD ks)).map fun _ => .bl true)] = some (.sh (.bl true)) := gAll_yes (by simp)
  have nes : gNe (.str "set") (.str "set") = some false := by simp [gNe, eqS]
  have kl : (kD ks).length = ks.length := by simp [kD]
  have d11 : (decide ((0 : Int) ≤ 1) && decide ((1 : Int) < 61)) = true := by decide
  rw [d11] at k2
  obtain ⟨q0, q1, q2, q3, q4⟩ := a5 (.str "set") (D.tup (kD ks)) (.int 1) (.tup (ks.map fun _ => z1)) z1
  have c5 : ((5 : Nat) : Int) = 5 := rfl
  refine run_is rfl ⟨[.sh (setD ks), .sh (.str "set"), .sh (.tup (kD ks)), .sh (.int 1), .sh (.tup (ks.map fun _ => z1)), .sh z1, .emp, .emp], ?_⟩
  unfold m_is_set x_is_set_1
  unfold setD at *
  simp only [runF, runB, sSeq, sIf, sAsg, sRet, sNext, sDrop, sRaise, xVar, xC, xOp, xCB, xUn, aCons, aNil, rdv, rdvs, rdS, rdO_some, rdO_none, R_bind_ok, R_bind_bad, R_bind_exc, xTest, xTru, xAnd, xOr, xNot, xIf, xAndV, xOrV, xNotV, xChain, blOf, truO, blR, mv, put, maskA1, maskA2, maskA3, List.mem_cons, List.not_mem_nil, true_or, or_true, or_false, false_or, Bool.and_self, isi_tt, isi_ss, lc_nil, gEq_int, gNe_int, gLt_int, gLe_int, gGt_int, gGe_int, gLen, gIx, gAdd_int, gSub_int, gAug_int, xCall, takeArgs, take1, giveBack, bkAdd, share, shares, xTup, xLst, sAug, shS, emps, mName, mTup, mgCons, mgNil, xLc, xISeq, xIZip, xIRng1_eq, xIRng2_eq, rngV_ints, rngU_ints, rng1C_ok, rng2C_ok, kindOf, xSl, oPart, oNone, intOf, itemsOf, back, at0, at1, xApp, xExt, xPopAt, ownS, sz_0, sz_1, sz_2, sz_3, sz_4, sz_5, sz_6, sz_7, sz_8, List.getElem?_cons_zero, List.getElem?_cons_succ, List.getElem?_nil, List.set_cons_zero, List.set_cons_succ, List.length_cons, List.length_nil, List.cons_append, List.nil_append, List.append_nil, List.replicate, Option.bind_some, Option.bind_none, Option.map_some, Option.map_none, Option.some_or, Option.none_or, Option.or_some, Option.or_none, Option.getD_some, Option.getD_none, if_true, if_false, Bool.false_eq_true, Bool.not_true, Bool.not_false, decide_true, decide_false, List.map_cons, List.map_nil, reduceIte, Nat.reduceAdd, Nat.reduceLT, Nat.reduceEqDiff, Nat.zero_add, Int.reduceSub, Int.reduceAdd, Int.reduceLT, Int.reduceLE, Int.reduceEq, sAsgG, k1, k2, k3, k4, hl, ga, nes, q0, q1, q2, q3, q4, gNe_int, gEq_int, hg, List.length_map, kl, Bool.not_true, Option.map, c5, eq_self]
  done
end K82
end
section
set_option maxRecDepth 100000
set_option maxHeartbeats 1000000
namespace K82
open PySem DL L2
theorem need_set_ok {ks : Ks} (g : Good ks) : Is F_need_set [.sh (setD ks)] (.sh .non) := by
  refine run_nx rfl ⟨[.sh (setD ks)], ?_⟩
  obtain ⟨l, e⟩ := set_ok g
  unfold m_need_set
  simp only [runF, runB, sSeq, sIf, sAsg, sRet, sNext, sDrop, sRaise, xVar, xC, xOp, xCB, xUn, aCons, aNil, rdv, rdvs, rdS, rdO_some, rdO_none, R_bind_ok, R_bind_bad, R_bind_exc, xTest, xTru, xAnd, xOr, xNot, xIf, xAndV, xOrV, xNotV, xChain, blOf, truO, blR, mv, put, maskA1, maskA2, maskA3, List.mem_cons, List.not_mem_nil, true_or, or_true, or_false, false_or, Bool.and_self, isi_tt, isi_ss, lc_nil, gEq_int, gNe_int, gLt_int, gLe_int, gGt_int, gGe_int, gLen, gIx, gAdd_int, gSub_int, gAug_int, xCall, takeArgs, take1, giveBack, bkAdd, share, shares, xTup, xLst, sAug, shS, emps, mName, mTup, mgCons, mgNil, xLc, xISeq, xIZip, xIRng1_eq, xIRng2_eq, rngV_ints, rngU_ints, rng1C_ok, rng2C_ok, kindOf, xSl, oPart, oNone, intOf, itemsOf, back, at0, at1, xApp, xExt, xPopAt, ownS, sz_0, sz_1, sz_2, sz_3, sz_4, sz_5, sz_6, sz_7, sz_8, List.getElem?_cons_zero, List.getElem?_cons_succ, List.getElem?_nil, List.set_cons_zero, List.set_cons_succ, List.length_cons, List.length_nil, List.cons_append, List.nil_append, List.append_nil, List.replicate, Option.bind_some, Option.bind_none, Option.map_some, Option.map_none, Option.some_or, Option.none_or, Option.or_some, Option.or_none, Option.getD_some, Option.getD_none, if_true, if_false, Bool.false_eq_true, Bool.not_true, Bool.not_false, decide_true, decide_false, List.map_cons, List.map_nil, reduceIte, Nat.reduceAdd, Nat.reduceLT, Nat.reduceEqDiff, Nat.zero_add, Int.reduceSub, Int.reduceAdd, Int.reduceLT, Int.reduceLE, Int.reduceEq, e]
theorem okN (ns : List Int) : ∃ ps, pyds (ns.map D.int) = some ps ∧ PyData.canLayAll0 ps = true ∧ PyData.depthAll ps ≤ 0 := by
  induction ns with
  | nil => exact ⟨[], by unfold List.map pyds; rfl, by unfold PyData.canLayAll0; rfl, by unfold PyData.depthAll; omega⟩
  | cons n r ih =>
    obtain ⟨ps, e1, e2, e3⟩ := ih
    refine ⟨.int n :: ps, ?_, ?_, ?_⟩
    · rw [List.map_cons]
      unfold pyds
      rw [e1]
      unfold pyd
      rfl
    · unfold PyData.canLayAll0 PyData.canLay0
      rw [e2]
      rfl
    · unfold PyData.depthAll PyData.depth
      omega
theorem cD_ints (f : Nat → Nat) (n : Nat) : cD f n = ((List.range n).map fun i => ((f i : Nat) : Int)).map D.int := by
  unfold cD
  rw [List.map_map]
  rfl
theorem okL_rep (f : Nat → Nat) (n : Nat) : ∀ r : Nat, ∃ ps, pyds (List.replicate r (D.lst (cD f n))) = some ps ∧ PyData.canLayAll0 ps = true ∧ PyData.depthAll ps ≤ 1
  | 0 => ⟨[], by unfold pyds; rfl, by unfold PyData.canLayAll0; rfl, by unfold PyData.depthAll; omega⟩
  | r + 1 => by
    obtain ⟨ps, e1, e2, e3⟩ := okL_rep f n r
    obtain ⟨qs, q1, q2, q3⟩ := okN ((List.range n).map fun i => ((f i : Nat) : Int))
    rw [← cD_ints] at q1
    refine ⟨.list qs :: ps, ?_, ?_, ?_⟩
    · rw [List.replicate_succ]
      unfold pyds
      rw [e1]
      unfold pyd
      rw [q1]
      rfl
    · unfold PyData.canLayAll0 PyData.canLay0
      rw [e2, q2]
      rfl
    · unfold PyData.depthAll PyData.depth
      omega
theorem gEq_rep (f : Nat → Nat) (n r : Nat) : gEq (.lst (List.replicate r (D.lst (cD f n)))) (.lst []) = some (decide (r = 0)) := by
  obtain ⟨ps, e1, e2, e3⟩ := okL_rep f n r
  rw [gEq_nil ⟨ps, e1, e2, by omega⟩]
  cases r with
  | zero => rfl
  | succ r => simp [List.replicate_succ]
abbrev repL (f : Nat → Nat) (n r : Nat) : D := .lst (List.replicate r (D.lst (cD f n)))
theorem rep_at (f : Nat → Nat) (n r : Nat) : atI (List.replicate (r + 1) (D.lst (cD f n))) 0 = some (.lst (cD f n)) := by
  have := atN (l := List.replicate (r + 1) (D.lst (cD f n))) (n := 0) (x := .lst (cD f n)) (by rw [List.replicate_succ]; rfl)
  exact this
theorem rep_sl (f : Nat → Nat) (n r : Nat) : gSl (repL f n (r + 1)) (some 1) none = some (.own (List.replicate r (D.lst (cD f n)))) := by
  show (some (Vl.own (cutD _ _ _))).or _ = _
  rw [cut1, List.replicate_succ]
  rfl
theorem rin_spec {f : Nat → Nat} {n N : Nat} (hN : n ≤ N) (sa : ∀ i, i < n → Tiny (f i)) (sb : ∀ r t, r ≤ 3 → t < n → Tiny (rowsF f r t)) (hn : N ≤ 1000) : ∀ (r k t : Nat), r < k → r ≤ 3 → t < n → Is (F_rows_in k) [.sh (repL f N r), .sh (.int t)] (.sh (.int (rowsF f r t)))
  | 0, 0, _, h, _, _ => absurd h (by omega)
  | 0, k + 1, t, h, _, ht => by
    have e := gEq_rep f N 0
    refine run_is (m := m_rows_in (F_rows_in k)) rfl ⟨[.sh (repL f N 0), .sh (.int t), .emp, .emp], ?_⟩
    unfold m_rows_in rowsF
    by_cases z : t = 0
    · subst z
      have c0 : ((0 : Nat) : Int) = 0 := rfl
      simp only [runF, runB, sSeq, sIf, sAsg, sRet, sNext, sDrop, sRaise, xVar, xC, xOp, xCB, xUn, aCons, aNil, rdv, rdvs, rdS, rdO_some, rdO_none, R_bind_ok, R_bind_bad, R_bind_exc, xTest, xTru, xAnd, xOr, xNot, xIf, xAndV, xOrV, xNotV, xChain, blOf, truO, blR, mv, put, maskA1, maskA2, maskA3, List.mem_cons, List.not_mem_nil, true_or, or_true, or_false, false_or, Bool.and_self, isi_tt, isi_ss, lc_nil, gEq_int, gNe_int, gLt_int, gLe_int, gGt_int, gGe_int, gLen, gIx, gAdd_int, gSub_int, gAug_int, xCall, takeArgs, take1, giveBack, bkAdd, share, shares, xTup, xLst, sAug, shS, emps, mName, mTup, mgCons, mgNil, xLc, xISeq, xIZip, xIRng1_eq, xIRng2_eq, rngV_ints, rngU_ints, rng1C_ok, rng2C_ok, kindOf, xSl, oPart, oNone, intOf, itemsOf, back, at0, at1, xApp, xExt, xPopAt, ownS, sz_0, sz_1, sz_2, sz_3, sz_4, sz_5, sz_6, sz_7, sz_8, List.getElem?_cons_zero, List.getElem?_cons_succ, List.getElem?_nil, List.set_cons_zero, List.set_cons_succ, List.length_cons, List.length_nil, List.cons_append, List.nil_append, List.append_nil, List.replicate, Option.bind_some, Option.bind_none, Option.map_some, Option.map_none, Option.some_or, Option.none_or, Option.or_some, Option.or_none, Option.getD_some, Option.getD_none, if_true, if_false, Bool.false_eq_true, Bool.not_true, Bool.not_false, decide_true, decide_false, List.map_cons, List.map_nil, reduceIte, Nat.reduceAdd, Nat.reduceLT, Nat.reduceEqDiff, Nat.zero_add, Int.reduceSub, Int.reduceAdd, Int.reduceLT, Int.reduceLE, Int.reduceEq, e, gEq_int, c0]
      rfl
    · have d0 : decide ((t : Int) = 0) = false := by simp; omega
      simp only [runF, runB, sSeq, sIf, sAsg, sRet, sNext, sDrop, sRaise, xVar, xC, xOp, xCB, xUn, aCons, aNil, rdv, rdvs, rdS, rdO_some, rdO_none, R_bind_ok, R_bind_bad, R_bind_exc, xTest, xTru, xAnd, xOr, xNot, xIf, xAndV, xOrV, xNotV, xChain, blOf, truO, blR, mv, put, maskA1, maskA2, maskA3, List.mem_cons, List.not_mem_nil, true_or, or_true, or_false, false_or, Bool.and_self, isi_tt, isi_ss, lc_nil, gEq_int, gNe_int, gLt_int, gLe_int, gGt_int, gGe_int, gLen, gIx, gAdd_int, gSub_int, gAug_int, xCall, takeArgs, take1, giveBack, bkAdd, share, shares, xTup, xLst, sAug, shS, emps, mName, mTup, mgCons, mgNil, xLc, xISeq, xIZip, xIRng1_eq, xIRng2_eq, rngV_ints, rngU_ints, rng1C_ok, rng2C_ok, kindOf, xSl, oPart, oNone, intOf, itemsOf, back, at0, at1, xApp, xExt, xPopAt, ownS, sz_0, sz_1, sz_2, sz_3, sz_4, sz_5, sz_6, sz_7, sz_8, List.getElem?_cons_zero, List.getElem?_cons_succ, List.getElem?_nil, List.set_cons_zero, List.set_cons_succ, List.length_cons, List.length_nil, List.cons_append, List.nil_append, List.append_nil, List.replicate, Option.bind_some, Option.bind_none, Option.map_some, Option.map_none, Option.some_or, Option.none_or, Option.or_some, Option.or_none, Option.getD_some, Option.getD_none, if_true, if_false, Bool.false_eq_true, Bool.not_true, Bool.not_false, decide_true, decide_false, List.map_cons, List.map_nil, reduceIte, Nat.reduceAdd, Nat.reduceLT, Nat.reduceEqDiff, Nat.zero_add, Int.reduceSub, Int.reduceAdd, Int.reduceLT, Int.reduceLE, Int.reduceEq, e, gEq_int, d0, if_neg z]
      rfl
  | 1, 0, _, h, _, _ => absurd h (by omega)
  | 1, k + 1, t, h, _, ht => by
    have e := gEq_rep f N 1
    have a : atI [D.lst (cD f N)] 0 = some (.lst (cD f N)) := rep_at f N 0
    refine run_is (m := m_rows_in (F_rows_in k)) rfl ⟨[.sh (repL f N 1), .sh (.int t), .emp, .emp], ?_⟩
    have a2 := cD_at (c := f) (n := N) (i := t) (by omega)
    have c1 : ((1 : Nat) : Int) = 1 := rfl
    unfold m_rows_in rowsF
    by_cases z : 0 < t
    · have d0 : decide ((0 : Int) < (t : Int)) = true := by simp; omega
      simp only [runF, runB, sSeq, sIf, sAsg, sRet, sNext, sDrop, sRaise, xVar, xC, xOp, xCB, xUn, aCons, aNil, rdv, rdvs, rdS, rdO_some, rdO_none, R_bind_ok, R_bind_bad, R_bind_exc, xTest, xTru, xAnd, xOr, xNot, xIf, xAndV, xOrV, xNotV, xChain, blOf, truO, blR, mv, put, maskA1, maskA2, maskA3, List.mem_cons, List.not_mem_nil, true_or, or_true, or_false, false_or, Bool.and_self, isi_tt, isi_ss, lc_nil, gEq_int, gNe_int, gLt_int, gLe_int, gGt_int, gGe_int, gLen, gIx, gAdd_int, gSub_int, gAug_int, xCall, takeArgs, take1, giveBack, bkAdd, share, shares, xTup, xLst, sAug, shS, emps, mName, mTup, mgCons, mgNil, xLc, xISeq, xIZip, xIRng1_eq, xIRng2_eq, rngV_ints, rngU_ints, rng1C_ok, rng2C_ok, kindOf, xSl, oPart, oNone, intOf, itemsOf, back, at0, at1, xApp, xExt, xPopAt, ownS, sz_0, sz_1, sz_2, sz_3, sz_4, sz_5, sz_6, sz_7, sz_8, List.getElem?_cons_zero, List.getElem?_cons_succ, List.getElem?_nil, List.set_cons_zero, List.set_cons_succ, List.length_cons, List.length_nil, List.cons_append, List.nil_append, List.append_nil, List.replicate, Option.bind_some, Option.bind_none, Option.map_some, Option.map_none, Option.some_or, Option.none_or, Option.or_some, Option.or_none, Option.getD_some, Option.getD_none, if_true, if_false, Bool.false_eq_true, Bool.not_true, Bool.not_false, decide_true, decide_false, List.map_cons, List.map_nil, reduceIte, Nat.reduceAdd, Nat.reduceLT, Nat.reduceEqDiff, Nat.zero_add, Int.reduceSub, Int.reduceAdd, Int.reduceLT, Int.reduceLE, Int.reduceEq, e, gEq_int, d0, if_pos z, List.length_replicate, c1, a, a2, Nat.reduceEqDiff]
      done
    · have d0 : decide ((0 : Int) < (t : Int)) = false := by simp; omega
      simp only [runF, runB, sSeq, sIf, sAsg, sRet, sNext, sDrop, sRaise, xVar, xC, xOp, xCB, xUn, aCons, aNil, rdv, rdvs, rdS, rdO_some, rdO_none, R_bind_ok, R_bind_bad, R_bind_exc, xTest, xTru, xAnd, xOr, xNot, xIf, xAndV, xOrV, xNotV, xChain, blOf, truO, blR, mv, put, maskA1, maskA2, maskA3, List.mem_cons, List.not_mem_nil, true_or, or_true, or_false, false_or, Bool.and_self, isi_tt, isi_ss, lc_nil, gEq_int, gNe_int, gLt_int, gLe_int, gGt_int, gGe_int, gLen, gIx, gAdd_int, gSub_int, gAug_int, xCall, takeArgs, take1, giveBack, bkAdd, share, shares, xTup, xLst, sAug, shS, emps, mName, mTup, mgCons, mgNil, xLc, xISeq, xIZip, xIRng1_eq, xIRng2_eq, rngV_ints, rngU_ints, rng1C_ok, rng2C_ok, kindOf, xSl, oPart, oNone, intOf, itemsOf, back, at0, at1, xApp, xExt, xPopAt, ownS, sz_0, sz_1, sz_2, sz_3, sz_4, sz_5, sz_6, sz_7, sz_8, List.getElem?_cons_zero, List.getElem?_cons_succ, List.getElem?_nil, List.set_cons_zero, List.set_cons_succ, List.length_cons, List.length_nil, List.cons_append, List.nil_append, List.append_nil, List.replicate, Option.bind_some, Option.bind_none, Option.map_some, Option.map_none, Option.some_or, Option.none_or, Option.or_some, Option.or_none, Option.getD_some, Option.getD_none, if_true, if_false, Bool.false_eq_true, Bool.not_true, Bool.not_false, decide_true, decide_false, List.map_cons, List.map_nil, reduceIte, Nat.reduceAdd, Nat.reduceLT, Nat.reduceEqDiff, Nat.zero_add, Int.reduceSub, Int.reduceAdd, Int.reduceLT, Int.reduceLE, Int.reduceEq, e, gEq_int, d0, if_neg z, List.length_replicate, c1, a, a2]
      rfl
  | r + 2, 0, _, h, _, _ => absurd h (by omega)
  | r + 2, k + 1, t, h, h3, ht => by
    have ih := fun t' (ht' : t' < n) => rin_spec hN sa sb hn (r + 1) k t' (by omega) (by omega) ht'
    obtain ⟨ρ, q, w, e⟩ := for_inv0 (mg := mName 3) (mb := b_rows_in_1 (F_rows_in k)) (ds := (List.range (t - 1)).map fun (k : Nat) => D.int (1 + (k : Int))) (ρ := [.sh (repL f N (r + 2)), .sh (.int t), .sh (.int 0), .emp]) (fun i ρ => ∃ w, ρ = [.sh (repL f N (r + 2)), .sh (.int t), .sh (.int ((((List.range i).map fun i => f (i + 1) * rowsF f (r + 1) (t - (i + 1))).sum : Nat) : Int)), w]) ⟨_, rfl⟩ fun i d ρ hd hi => by
      obtain ⟨w, rfl⟩ := hi
      obtain ⟨hi, rfl⟩ := range_get hd
      refine ⟨[.sh (repL f N (r + 2)), .sh (.int t), .sh (.int ((((List.range i).map fun i => f (i + 1) * rowsF f (r + 1) (t - (i + 1))).sum : Nat) : Int)), .sh (.int (1 + (i : Int)))], [.sh (repL f N (r + 2)), .sh (.int t), .sh (.int ((((List.range (i + 1)).map fun i => f (i + 1) * rowsF f (r + 1) (t - (i + 1))).sum : Nat) : Int)), .sh (.int (1 + (i : Int)))], rfl, ?_, _, rfl⟩
      have e1 : (1 + (i : Int)) = ((i + 1 : Nat) : Int) := by omega
      have e2 : (t : Int) - ((i + 1 : Nat) : Int) = ((t - (i + 1) : Nat) : Int) := by omega
      rw [e1, List.range_succ, List.map_append, List.sum_append]
      have a : atI (D.lst (cD f N) :: D.lst (cD f N) :: List.replicate r (D.lst (cD f N))) 0 = some (.lst (cD f N)) := rep_at f N (r + 1)
      have a1 := cD_at (c := f) (n := N) (i := i + 1) (by omega)
      obtain ⟨l, a2⟩ := ih (t - (i + 1)) (by omega)
      have a3 := mul_tiny (sa (i + 1) (by omega)) (sb (r + 1) (t - (i + 1)) (by omega) (by omega))
      have sl : gSl (repL f N (r + 2)) (some 1) none = some (.own (D.lst (cD f N) :: List.replicate r (D.lst (cD f N)))) := rep_sl f N (r + 1)
      have a2 : F_rows_in k [.sh (.lst (D.lst (cD f N) :: List.replicate r (D.lst (cD f N)))), .sh (.int ((t - (i + 1) : Nat) : Int))] = .ok (.sh (.int ((rowsF f (r + 1) (t - (i + 1)) : Nat) : Int)), l) := a2
      unfold b_rows_in_1
      by_cases z : f (i + 1) = 0
      · have d : decide (((f (i + 1) : Nat) : Int) = 0) = true := by simp [z]
        simp only [runF, runB, sSeq, sIf, sAsg, sRet, sNext, sDrop, sRaise, xVar, xC, xOp, xCB, xUn, aCons, aNil, rdv, rdvs, rdS, rdO_some, rdO_none, R_bind_ok, R_bind_bad, R_bind_exc, xTest, xTru, xAnd, xOr, xNot, xIf, xAndV, xOrV, xNotV, xChain, blOf, truO, blR, mv, put, maskA1, maskA2, maskA3, List.mem_cons, List.not_mem_nil, true_or, or_true, or_false, false_or, Bool.and_self, isi_tt, isi_ss, lc_nil, gEq_int, gNe_int, gLt_int, gLe_int, gGt_int, gGe_int, gLen, gIx, gAdd_int, gSub_int, gAug_int, xCall, takeArgs, take1, giveBack, bkAdd, share, shares, xTup, xLst, sAug, shS, emps, mName, mTup, mgCons, mgNil, xLc, xISeq, xIZip, xIRng1_eq, xIRng2_eq, rngV_ints, rngU_ints, rng1C_ok, rng2C_ok, kindOf, xSl, oPart, oNone, intOf, itemsOf, back, at0, at1, xApp, xExt, xPopAt, ownS, sz_0, sz_1, sz_2, sz_3, sz_4, sz_5, sz_6, sz_7, sz_8, List.getElem?_cons_zero, List.getElem?_cons_succ, List.getElem?_nil, List.set_cons_zero, List.set_cons_succ, List.length_cons, List.length_nil, List.cons_append, List.nil_append, List.append_nil, List.replicate, Option.bind_some, Option.bind_none, Option.map_some, Option.map_none, Option.some_or, Option.none_or, Option.or_some, Option.or_none, Option.getD_some, Option.getD_none, if_true, if_false, Bool.false_eq_true, Bool.not_true, Bool.not_false, decide_true, decide_false, List.map_cons, List.map_nil, reduceIte, Nat.reduceAdd, Nat.reduceLT, Nat.reduceEqDiff, Nat.zero_add, Int.reduceSub, Int.reduceAdd, Int.reduceLT, Int.reduceLE, Int.reduceEq, a, a1, d, gNe_int, gAug_int]
        simp [z]
      · have d : decide (((f (i + 1) : Nat) : Int) = 0) = false := by simp [z]
        simp only [runF, runB, sSeq, sIf, sAsg, sRet, sNext, sDrop, sRaise, xVar, xC, xOp, xCB, xUn, aCons, aNil, rdv, rdvs, rdS, rdO_some, rdO_none, R_bind_ok, R_bind_bad, R_bind_exc, xTest, xTru, xAnd, xOr, xNot, xIf, xAndV, xOrV, xNotV, xChain, blOf, truO, blR, mv, put, maskA1, maskA2, maskA3, List.mem_cons, List.not_mem_nil, true_or, or_true, or_false, false_or, Bool.and_self, isi_tt, isi_ss, lc_nil, gEq_int, gNe_int, gLt_int, gLe_int, gGt_int, gGe_int, gLen, gIx, gAdd_int, gSub_int, gAug_int, xCall, takeArgs, take1, giveBack, bkAdd, share, shares, xTup, xLst, sAug, shS, emps, mName, mTup, mgCons, mgNil, xLc, xISeq, xIZip, xIRng1_eq, xIRng2_eq, rngV_ints, rngU_ints, rng1C_ok, rng2C_ok, kindOf, xSl, oPart, oNone, intOf, itemsOf, back, at0, at1, xApp, xExt, xPopAt, ownS, sz_0, sz_1, sz_2, sz_3, sz_4, sz_5, sz_6, sz_7, sz_8, List.getElem?_cons_zero, List.getElem?_cons_succ, List.getElem?_nil, List.set_cons_zero, List.set_cons_succ, List.length_cons, List.length_nil, List.cons_append, List.nil_append, List.append_nil, List.replicate, Option.bind_some, Option.bind_none, Option.map_some, Option.map_none, Option.some_or, Option.none_or, Option.or_some, Option.or_none, Option.getD_some, Option.getD_none, if_true, if_false, Bool.false_eq_true, Bool.not_true, Bool.not_false, decide_true, decide_false, List.map_cons, List.map_nil, reduceIte, Nat.reduceAdd, Nat.reduceLT, Nat.reduceEqDiff, Nat.zero_add, Int.reduceSub, Int.reduceAdd, Int.reduceLT, Int.reduceLE, Int.reduceEq, a, a1, d, gNe_int, sl, e2, a2, a3]
        simp
    rw [List.length_map, List.length_range] at e
    subst e
    have e := gEq_rep f N (r + 2)
    refine run_is (m := m_rows_in (F_rows_in k)) rfl ⟨[.sh (repL f N (r + 2)), .sh (.int t), .sh (.int ((rowsF f (r + 2) t : Nat) : Int)), w], ?_⟩
    have d0 : decide (r + 2 = 0) = false := by simp
    have d1 : decide (((r + 2 : Nat) : Int) = 1) = false := by simp; omega
    have s1 : smallI 1 = true := by unfold smallI; simp
    have st : smallI (t : Int) = true := by unfold smallI; simp; omega
    have hlen : ((t : Int) - 1).toNat = t - 1 := by omega
    unfold m_rows_in
    simp only [runF, runB, sSeq, sIf, sAsg, sRet, sNext, sDrop, sRaise, xVar, xC, xOp, xCB, xUn, aCons, aNil, rdv, rdvs, rdS, rdO_some, rdO_none, R_bind_ok, R_bind_bad, R_bind_exc, xTest, xTru, xAnd, xOr, xNot, xIf, xAndV, xOrV, xNotV, xChain, blOf, truO, blR, mv, put, maskA1, maskA2, maskA3, List.mem_cons, List.not_mem_nil, true_or, or_true, or_false, false_or, Bool.and_self, isi_tt, isi_ss, lc_nil, gEq_int, gNe_int, gLt_int, gLe_int, gGt_int, gGe_int, gLen, gIx, gAdd_int, gSub_int, gAug_int, xCall, takeArgs, take1, giveBack, bkAdd, share, shares, xTup, xLst, sAug, shS, emps, mName, mTup, mgCons, mgNil, xLc, xISeq, xIZip, xIRng1_eq, xIRng2_eq, rngV_ints, rngU_ints, rng1C_ok, rng2C_ok, kindOf, xSl, oPart, oNone, intOf, itemsOf, back, at0, at1, xApp, xExt, xPopAt, ownS, sz_0, sz_1, sz_2, sz_3, sz_4, sz_5, sz_6, sz_7, sz_8, List.getElem?_cons_zero, List.getElem?_cons_succ, List.getElem?_nil, List.set_cons_zero, List.set_cons_succ, List.length_cons, List.length_nil, List.cons_append, List.nil_append, List.append_nil, List.replicate, Option.bind_some, Option.bind_none, Option.map_some, Option.map_none, Option.some_or, Option.none_or, Option.or_some, Option.or_none, Option.getD_some, Option.getD_none, if_true, if_false, Bool.false_eq_true, Bool.not_true, Bool.not_false, decide_true, decide_false, List.map_cons, List.map_nil, reduceIte, Nat.reduceAdd, Nat.reduceLT, Nat.reduceEqDiff, Nat.zero_add, Int.reduceSub, Int.reduceAdd, Int.reduceLT, Int.reduceLE, Int.reduceEq, e, d0, d1, List.length_replicate, sFor, s1, st, hlen, q]
    rfl
end K82
end
section
set_option maxRecDepth 100000
set_option maxHeartbeats 1000000
namespace K82
open PySem DL L2
theorem tup_of (r : Nat) (hr : r ≤ 3) : ∃ v, Is F_tuples_of [.sh (.int 1), .sh (.int r)] v ∧ ∀ ρ, share ρ v = some (.lst [.tup (List.replicate r (.int 0))], ρ) := by
  have h : r = 0 ∨ r = 1 ∨ r = 2 ∨ r = 3 := by omega
  rcases h with h | h | h | h
  · subst h
    exact ⟨.own [.tup []], ⟨[.sh (.int 1), .sh (.int 0)], by kernel_rfl⟩, fun ρ => rfl⟩
  · subst h
    exact ⟨.sh (.lst [.tup [.int 0]]), ⟨[.sh (.int 1), .sh (.int 1)], by kernel_rfl⟩, fun ρ => rfl⟩
  · subst h
    exact ⟨.sh (.lst [.tup [.int 0, .int 0]]), ⟨[.sh (.int 1), .sh (.int 2)], by kernel_rfl⟩, fun ρ => rfl⟩
  · subst h
    exact ⟨.sh (.lst [.tup [.int 0, .int 0, .int 0]]), ⟨[.sh (.int 1), .sh (.int 3)], by kernel_rfl⟩, fun ρ => rfl⟩
def fw (ks : Ks) (n x : Nat) : Nat → Nat := fun i => if i ≤ n then cK ks i else if i = n + 1 then x else 0
theorem fw_set (ks : Ks) (n x y N : Nat) (h : n + 1 < N) : (cD (fw ks n x) N).set (n + 1) (.int (y : Int)) = cD (fw ks n y) N := by
  apply List.ext_getElem?
  intro i
  unfold cD
  rw [List.getElem?_set]
  simp only [List.length_map, List.length_range, List.getElem?_map]
  by_cases e : n + 1 = i
  · subst e
    rw [if_pos rfl, if_pos h, List.getElem?_range h]
    have : fw ks n y (n + 1) = y := by unfold fw; rw [if_neg (by omega), if_pos rfl]
    simp only [Option.map_some, this]
  · rw [if_neg e]
    by_cases hi : i < N
    · rw [List.getElem?_range hi]
      simp only [Option.map_some, fw]
      have : ¬ i = n + 1 := fun z => e z.symm
      simp only [this, if_false]
    · rw [List.getElem?_eq_none (by simp; omega)]
      rfl
theorem fw_next (ks : Ks) (n N : Nat) : cD (fw ks n (cK ks (n + 1))) N = cD (fw ks (n + 1) 0) N := by
  unfold cD
  refine List.map_congr_left fun i _ => ?_
  have : fw ks n (cK ks (n + 1)) i = fw ks (n + 1) 0 i := by
    unfold fw
    by_cases h : i ≤ n
    · rw [if_pos h, if_pos (by omega)]
    · rw [if_neg h]
      by_cases h2 : i = n + 1
      · subst h2
        rw [if_pos rfl, if_pos (Nat.le_refl _)]
      · rw [if_neg h2, if_neg (by omega)]
        split <;> rfl
  rw [this]
theorem rin_fw {ks : Ks} {n N : Nat} (s : Sm (cK ks) (n + 1)) (hN : n + 1 ≤ N) (h : N ≤ 1000) (x : Nat) {r : Nat} (hr : r ≤ 3) : Is (F_rows_in 8) [.sh (repL (fw ks n x) N r), .sh (.int n)] (.sh (.int (rowsF (cK ks) r n))) := by
  have e : ∀ r t, t ≤ n → rowsF (fw ks n x) r t = rowsF (cK ks) r t := fun r t ht => rowsF_congr r t fun i hi => by unfold fw; rw [if_pos (by omega)]
  have := rin_spec (f := fw ks n x) (n := n + 1) (N := N) hN (fun i hi => by unfold fw; rw [if_pos (by omega)]; exact s.a i hi) (fun r t hr ht => by rw [e r t (by omega)]; exact s.b r t hr ht) h r 8 n (by omega) hr (by omega)
  rw [e r n (Nat.le_refl _)] at this
  exact this
theorem nk {ks : Ks} {n N : Nat} (s : Sm (cK ks) (n + 1)) (hN : n + 1 < N) (hz : N ≤ 1000) (x : Nat) {r : Nat} (hr : r ≤ 3) (tr ma nm rw0 : Sl) :
    b_number_in_1 [tr, ma, .own2 [cD (fw ks n x) N], .sh (.int ((n + 1 : Nat) : Int)), nm, rw0, .sh (.tup (List.replicate r (.int 0))), .sh (.int 0), .emp] =
      .ok (.nx [tr, ma, .own2 [cD (fw ks n (x + rowsF (cK ks) r n)) N], .sh (.int ((n + 1 : Nat) : Int)), nm, rw0, .sh (.tup (List.replicate r (.int 0))), .sh (.int 0), .emp]) := by
  obtain ⟨l, e⟩ := rin_fw s (by omega) hz x hr
  have hl : ∀ (a b c d e : Sl), lcLoop (mName 8) xYes e_number_in_1 [8] (List.replicate r (.int 0)) [a, b, .sh (.lst [.lst (cD (fw ks n x) N)]), c, d, e, .sh (.tup (List.replicate r (.int 0))), .sh (.int 0), .emp] [] = .ok (List.replicate r (.lst (cD (fw ks n x) N)), [a, b, .sh (.lst [.lst (cD (fw ks n x) N)]), c, d, e, .sh (.tup (List.replicate r (.int 0))), .sh (.int 0), .emp]) := fun a b c d e => by
    rw [lc_pure (f := fun _ => .lst (cD (fw ks n x) N)) (fun d hd => ?_) (by simp; omega)]
    · simp
    · rw [List.eq_of_mem_replicate hd]
      refine ⟨_, .sh (.lst (cD (fw ks n x) N)), [a, b, .sh (.lst [.lst (cD (fw ks n x) N)]), c, _, e, .sh (.tup (List.replicate r (.int 0))), .sh (.int 0), .sh (.int 0)], _, rfl, ?_, rfl, rfl⟩
      unfold e_number_in_1
      have a0 : atI [D.lst (cD (fw ks n x) N)] 0 = some (.lst (cD (fw ks n x) N)) := rfl
      simp only [runF, runB, sSeq, sIf, sAsg, sRet, sNext, sDrop, sRaise, xVar, xC, xOp, xCB, xUn, aCons, aNil, rdv, rdvs, rdS, rdO_some, rdO_none, R_bind_ok, R_bind_bad, R_bind_exc, xTest, xTru, xAnd, xOr, xNot, xIf, xAndV, xOrV, xNotV, xChain, blOf, truO, blR, mv, put, maskA1, maskA2, maskA3, List.mem_cons, List.not_mem_nil, true_or, or_true, or_false, false_or, Bool.and_self, isi_tt, isi_ss, lc_nil, gEq_int, gNe_int, gLt_int, gLe_int, gGt_int, gGe_int, gLen, gIx, gAdd_int, gSub_int, gAug_int, xCall, takeArgs, take1, giveBack, bkAdd, share, shares, xTup, xLst, sAug, shS, emps, mName, mTup, mgCons, mgNil, xLc, xISeq, xIZip, xIRng1_eq, xIRng2_eq, rngV_ints, rngU_ints, rng1C_ok, rng2C_ok, kindOf, xSl, oPart, oNone, intOf, itemsOf, back, at0, at1, xApp, xExt, xPopAt, ownS, sz_0, sz_1, sz_2, sz_3, sz_4, sz_5, sz_6, sz_7, sz_8, List.getElem?_cons_zero, List.getElem?_cons_succ, List.getElem?_nil, List.set_cons_zero, List.set_cons_succ, List.length_cons, List.length_nil, List.cons_append, List.nil_append, List.append_nil, List.replicate, Option.bind_some, Option.bind_none, Option.map_some, Option.map_none, Option.some_or, Option.none_or, Option.or_some, Option.or_none, Option.getD_some, Option.getD_none, if_true, if_false, Bool.false_eq_true, Bool.not_true, Bool.not_false, decide_true, decide_false, List.map_cons, List.map_nil, reduceIte, Nat.reduceAdd, Nat.reduceLT, Nat.reduceEqDiff, Nat.zero_add, Int.reduceSub, Int.reduceAdd, Int.reduceLT, Int.reduceLE, Int.reduceEq, a0]
  have i0 : ixN 1 0 = some 0 := rfl
  have i1 : ixN N ((n + 1 : Nat) : Int) = some (n + 1) := by
    unfold ixN
    rw [if_pos (by omega), if_pos (by omega)]
    simp
  have g1 : (cD (fw ks n x) N)[n + 1]? = some (.int x) := by
    unfold cD
    rw [List.getElem?_map, List.getElem?_range hN]
    have : fw ks n x (n + 1) = x := by unfold fw; rw [if_neg (by omega), if_pos rfl]
    simp only [Option.map_some, this]
  have st := fw_set ks n x (x + rowsF (cK ks) r n) N hN
  have e1 : ((n + 1 : Nat) : Int) - 1 = (n : Int) := by omega
  have ex : ∀ y : Nat, (x : Int) + (y : Int) = ((x + y : Nat) : Int) := fun y => by omega
  unfold b_number_in_1 x_number_in_1
  simp only [runF, runB, sSeq, sIf, sAsg, sRet, sNext, sDrop, sRaise, xVar, xC, xOp, xCB, xUn, aCons, aNil, rdv, rdvs, rdS, rdO_some, rdO_none, R_bind_ok, R_bind_bad, R_bind_exc, xTest, xTru, xAnd, xOr, xNot, xIf, xAndV, xOrV, xNotV, xChain, blOf, truO, blR, mv, put, maskA1, maskA2, maskA3, List.mem_cons, List.not_mem_nil, true_or, or_true, or_false, false_or, Bool.and_self, isi_tt, isi_ss, lc_nil, gEq_int, gNe_int, gLt_int, gLe_int, gGt_int, gGe_int, gLen, gIx, gAdd_int, gSub_int, gAug_int, xCall, takeArgs, take1, giveBack, bkAdd, share, shares, xTup, xLst, sAug, shS, emps, mName, mTup, mgCons, mgNil, xLc, xISeq, xIZip, xIRng1_eq, xIRng2_eq, rngV_ints, rngU_ints, rng1C_ok, rng2C_ok, kindOf, xSl, oPart, oNone, intOf, itemsOf, back, at0, at1, xApp, xExt, xPopAt, ownS, sz_0, sz_1, sz_2, sz_3, sz_4, sz_5, sz_6, sz_7, sz_8, List.getElem?_cons_zero, List.getElem?_cons_succ, List.getElem?_nil, List.set_cons_zero, List.set_cons_succ, List.length_cons, List.length_nil, List.cons_append, List.nil_append, List.append_nil, List.replicate, Option.bind_some, Option.bind_none, Option.map_some, Option.map_none, Option.some_or, Option.none_or, Option.or_some, Option.or_none, Option.getD_some, Option.getD_none, if_true, if_false, Bool.false_eq_true, Bool.not_true, Bool.not_false, decide_true, decide_false, List.map_cons, List.map_nil, reduceIte, Nat.reduceAdd, Nat.reduceLT, Nat.reduceEqDiff, Nat.zero_add, Int.reduceSub, Int.reduceAdd, Int.reduceLT, Int.reduceLE, Int.reduceEq, sRowAug, own2S, DL.intS, i0, i1, g1, cD_len, frz, hl, e, e1, ex, st]
end K82
end
section
set_option maxRecDepth 100000
set_option maxHeartbeats 1000000
namespace K82
open PySem DL L2
theorem zip11 (a b : D) : zipD [a] [b] = [.tup [a, b]] := rfl
theorem nk2 {ks : Ks} {n N : Nat} (s : Sm (cK ks) (n + 1)) (hN : n + 1 < N) (hz : N ≤ 1000) (x : Nat) {p : Str × Nat} (hr : p.2 ≤ 3) (ma a b : Sl) : ∃ a' b',
    b_number_in_2 [.sh (setD ks), ma, .own2 [cD (fw ks n x) N], .sh (.int ((n + 1 : Nat) : Int)), .sh (kp p), .sh z1, a, b, .emp] =
      .ok (.nx [.sh (setD ks), ma, .own2 [cD (fw ks n (x + rowsF (cK ks) p.2 n)) N], .sh (.int ((n + 1 : Nat) : Int)), .sh (kp p), .sh z1, a', b', .emp]) := by
  obtain ⟨v, ⟨l, e⟩, sh⟩ := tup_of p.2 hr
  have sv : v = .own [.tup (List.replicate p.2 (.int 0))] ∨ v = .sh (.lst [.tup (List.replicate p.2 (.int 0))]) := by
    have h := sh []
    cases v with
    | sh d => simp [share] at h; right; rw [h]
    | own d => simp [share] at h; left; rw [h]
    | drw d => simp [share] at h
    | bor i => simp [share] at h
  have k := nk s hN hz x hr (.sh (setD ks)) ma (.sh (kp p)) (.sh z1)
  refine ⟨.sh (.tup (List.replicate p.2 (.int 0))), .sh (.int 0), ?_⟩
  obtain ⟨q0, q1, q2, q3, q4⟩ := a5 (.str "set") (D.tup (kD ks)) (.int 1) (.tup (ks.map fun _ => z1)) z1
  have y1 : atI [D.str p.1, D.int p.2] 1 = some (.int p.2) := rfl
  have c5 : ((5 : Nat) : Int) = 5 := rfl
  unfold b_number_in_2
  unfold setD kp at *
  unfold z1 at *
  rcases sv with rfl | rfl
  · simp only [runF, runB, sSeq, sIf, sAsg, sRet, sNext, sDrop, sRaise, xVar, xC, xOp, xCB, xUn, aCons, aNil, rdv, rdvs, rdS, rdO_some, rdO_none, R_bind_ok, R_bind_bad, R_bind_exc, xTest, xTru, xAnd, xOr, xNot, xIf, xAndV, xOrV, xNotV, xChain, blOf, truO, blR, mv, put, maskA1, maskA2, maskA3, List.mem_cons, List.not_mem_nil, true_or, or_true, or_false, false_or, Bool.and_self, isi_tt, isi_ss, lc_nil, gEq_int, gNe_int, gLt_int, gLe_int, gGt_int, gGe_int, gLen, gIx, gAdd_int, gSub_int, gAug_int, xCall, takeArgs, take1, giveBack, bkAdd, share, shares, xTup, xLst, sAug, shS, emps, mName, mTup, mgCons, mgNil, xLc, xISeq, xIZip, xIRng1_eq, xIRng2_eq, rngV_ints, rngU_ints, rng1C_ok, rng2C_ok, kindOf, xSl, oPart, oNone, intOf, itemsOf, back, at0, at1, xApp, xExt, xPopAt, ownS, sz_0, sz_1, sz_2, sz_3, sz_4, sz_5, sz_6, sz_7, sz_8, List.getElem?_cons_zero, List.getElem?_cons_succ, List.getElem?_nil, List.set_cons_zero, List.set_cons_succ, List.length_cons, List.length_nil, List.cons_append, List.nil_append, List.append_nil, List.replicate, Option.bind_some, Option.bind_none, Option.map_some, Option.map_none, Option.some_or, Option.none_or, Option.or_some, Option.or_none, Option.getD_some, Option.getD_none, if_true, if_false, Bool.false_eq_true, Bool.not_true, Bool.not_false, decide_true, decide_false, List.map_cons, List.map_nil, reduceIte, Nat.reduceAdd, Nat.reduceLT, Nat.reduceEqDiff, Nat.zero_add, Int.reduceSub, Int.reduceAdd, Int.reduceLT, Int.reduceLE, Int.reduceEq, sFor, forLoop, zip11, e, q0, q1, q2, q3, q4, y1, k, c5]
  · simp only [runF, runB, sSeq, sIf, sAsg, sRet, sNext, sDrop, sRaise, xVar, xC, xOp, xCB, xUn, aCons, aNil, rdv, rdvs, rdS, rdO_some, rdO_none, R_bind_ok, R_bind_bad, R_bind_exc, xTest, xTru, xAnd, xOr, xNot, xIf, xAndV, xOrV, xNotV, xChain, blOf, truO, blR, mv, put, maskA1, maskA2, maskA3, List.mem_cons, List.not_mem_nil, true_or, or_true, or_false, false_or, Bool.and_self, isi_tt, isi_ss, lc_nil, gEq_int, gNe_int, gLt_int, gLe_int, gGt_int, gGe_int, gLen, gIx, gAdd_int, gSub_int, gAug_int, xCall, takeArgs, take1, giveBack, bkAdd, share, shares, xTup, xLst, sAug, shS, emps, mName, mTup, mgCons, mgNil, xLc, xISeq, xIZip, xIRng1_eq, xIRng2_eq, rngV_ints, rngU_ints, rng1C_ok, rng2C_ok, kindOf, xSl, oPart, oNone, intOf, itemsOf, back, at0, at1, xApp, xExt, xPopAt, ownS, sz_0, sz_1, sz_2, sz_3, sz_4, sz_5, sz_6, sz_7, sz_8, List.getElem?_cons_zero, List.getElem?_cons_succ, List.getElem?_nil, List.set_cons_zero, List.set_cons_succ, List.length_cons, List.length_nil, List.cons_append, List.nil_append, List.append_nil, List.replicate, Option.bind_some, Option.bind_none, Option.map_some, Option.map_none, Option.some_or, Option.none_or, Option.or_some, Option.or_none, Option.getD_some, Option.getD_none, if_true, if_false, Bool.false_eq_true, Bool.not_true, Bool.not_false, decide_true, decide_false, List.map_cons, List.map_nil, reduceIte, Nat.reduceAdd, Nat.reduceLT, Nat.reduceEqDiff, Nat.zero_add, Int.reduceSub, Int.reduceAdd, Int.reduceLT, Int.reduceLE, Int.reduceEq, sFor, forLoop, zip11, e, q0, q1, q2, q3, q4, y1, k, c5]
theorem zip_get {ks : Ks} {i : Nat} {d : D} (h : (zipD (kD ks) (ks.map fun _ => z1))[i]? = some d) : ∃ p, ks[i]? = some p ∧ d = .tup [kp p, z1] := by
  obtain ⟨x, y, h1, h2, h3⟩ := zipD_get h
  obtain ⟨p, h4, h5⟩ := kD_get h1
  refine ⟨p, h4, ?_⟩
  rw [List.getElem?_map, h4] at h2
  cases h2
  rw [h3, h5]
theorem nin_mid {ks : Ks} (g : Good ks) {n N : Nat} (s : Sm (cK ks) (n + 1)) (hN : n + 1 < N) (hz : N ≤ 1000) (ma a b c d : Sl) : ∃ a' b' c' d',
    b_number_in_3 [.sh (setD ks), ma, .own2 [cD (fw ks n 0) N], .sh (.int ((n + 1 : Nat) : Int)), a, b, c, d, .emp] =
      .ok (.nx [.sh (setD ks), ma, .own2 [cD (fw ks (n + 1) 0) N], .sh (.int ((n + 1 : Nat) : Int)), a', b', c', d', .emp]) := by
  obtain ⟨ρ, h, a', b', c', d', e⟩ := for_inv0 (mg := mTup 2 (mgCons (mName 4) (mgCons (mName 5) mgNil))) (mb := b_number_in_2) (ds := zipD (kD ks) (ks.map fun _ => z1)) (ρ := [.sh (setD ks), ma, .own2 [cD (fw ks n 0) N], .sh (.int ((n + 1 : Nat) : Int)), a, b, c, d, .emp])
    (fun i ρ => ∃ a b c d, ρ = [.sh (setD ks), ma, .own2 [cD (fw ks n ((ks.take i).map fun p => rowsF (cK ks) p.2 n).sum) N], .sh (.int ((n + 1 : Nat) : Int)), a, b, c, d, .emp]) ⟨a, b, c, d, rfl⟩ fun i d ρ hd hi => by
    obtain ⟨a, b, c, d, rfl⟩ := hi
    obtain ⟨p, hp, rfl⟩ := zip_get hd
    obtain ⟨a', b', h⟩ := nk2 s hN hz (((ks.take i).map fun p => rowsF (cK ks) p.2 n).sum) (g.rk p (mem_get hp)) ma c d
    rw [take_sum _ hp]
    exact ⟨_, _, rfl, h, .sh (kp p), .sh z1, a', b', rfl⟩
  refine ⟨a', b', c', d', ?_⟩
  rw [zipD_len, show (kD ks).length = ks.length by simp [kD], List.length_map, Nat.min_self, List.take_length] at e
  have e2 : (ks.map fun p => rowsF (cK ks) p.2 n).sum = cK ks (n + 1) := (cK_succ ks n).symm
  rw [e2, fw_next] at e
  subst e
  obtain ⟨q0, q1, q2, q3, q4⟩ := a5 (.str "set") (D.tup (kD ks)) (.int 1) (.tup (ks.map fun _ => z1)) z1
  have c5 : ((5 : Nat) : Int) = 5 := rfl
  unfold b_number_in_3
  unfold setD at *
  simp only [runF, runB, sSeq, sIf, sAsg, sRet, sNext, sDrop, sRaise, xVar, xC, xOp, xCB, xUn, aCons, aNil, rdv, rdvs, rdS, rdO_some, rdO_none, R_bind_ok, R_bind_bad, R_bind_exc, xTest, xTru, xAnd, xOr, xNot, xIf, xAndV, xOrV, xNotV, xChain, blOf, truO, blR, mv, put, maskA1, maskA2, maskA3, List.mem_cons, List.not_mem_nil, true_or, or_true, or_false, false_or, Bool.and_self, isi_tt, isi_ss, lc_nil, gEq_int, gNe_int, gLt_int, gLe_int, gGt_int, gGe_int, gLen, gIx, gAdd_int, gSub_int, gAug_int, xCall, takeArgs, take1, giveBack, bkAdd, share, shares, xTup, xLst, sAug, shS, emps, mName, mTup, mgCons, mgNil, xLc, xISeq, xIZip, xIRng1_eq, xIRng2_eq, rngV_ints, rngU_ints, rng1C_ok, rng2C_ok, kindOf, xSl, oPart, oNone, intOf, itemsOf, back, at0, at1, xApp, xExt, xPopAt, ownS, sz_0, sz_1, sz_2, sz_3, sz_4, sz_5, sz_6, sz_7, sz_8, List.getElem?_cons_zero, List.getElem?_cons_succ, List.getElem?_nil, List.set_cons_zero, List.set_cons_succ, List.length_cons, List.length_nil, List.cons_append, List.nil_append, List.append_nil, List.replicate, Option.bind_some, Option.bind_none, Option.map_some, Option.map_none, Option.some_or, Option.none_or, Option.or_some, Option.or_none, Option.getD_some, Option.getD_none, if_true, if_false, Bool.false_eq_true, Bool.not_true, Bool.not_false, decide_true, decide_false, List.map_cons, List.map_nil, reduceIte, Nat.reduceAdd, Nat.reduceLT, Nat.reduceEqDiff, Nat.zero_add, Int.reduceSub, Int.reduceAdd, Int.reduceLT, Int.reduceLE, Int.reduceEq, sFor, q0, q1, q2, q3, q4, h, c5]
theorem nin_loop {ks : Ks} (g : Good ks) {m : Nat} (s : Sm (cK ks) (m + 1)) (hm : m < 999) : ∃ x a b c d, forLoop (mName 3) b_number_in_3 ((List.range m).map fun (k : Nat) => D.int (1 + (k : Int))) [.sh (setD ks), .sh (.int m), .own2 [cD (fw ks 0 0) (m + 1)], .emp, .emp, .emp, .emp, .emp, .emp] = .ok (.nx [.sh (setD ks), .sh (.int m), .own2 [cD (fw ks m 0) (m + 1)], x, a, b, c, d, .emp]) := by
  obtain ⟨ρ, h, x, a, b, c, d, q⟩ := for_inv0 (mg := mName 3) (mb := b_number_in_3) (ds := (List.range m).map fun (k : Nat) => D.int (1 + (k : Int))) (ρ := [.sh (setD ks), .sh (.int m), .own2 [cD (fw ks 0 0) (m + 1)], .emp, .emp, .emp, .emp, .emp, .emp]) (fun i ρ => ∃ x a b c d, ρ = [.sh (setD ks), .sh (.int m), .own2 [cD (fw ks i 0) (m + 1)], x, a, b, c, d, .emp]) ⟨_, _, _, _, _, rfl⟩ fun i d ρ hd hi => by
    obtain ⟨x, a, b, c, d, rfl⟩ := hi
    obtain ⟨hi, rfl⟩ := range_get hd
    obtain ⟨a', b', c', d', h⟩ := nin_mid g (n := i) (N := m + 1) (s.to (by omega)) (by omega) (by omega) (.sh (.int m)) a b c d
    rw [show 1 + (i : Int) = ((i + 1 : Nat) : Int) by omega]
    exact ⟨_, _, rfl, h, _, _, _, _, _, rfl⟩
  rw [List.length_map, List.length_range] at q
  subst q
  exact ⟨x, a, b, c, d, h⟩
theorem rep_flat (n : Nat) : (List.replicate n [D.int 0]).flatten = List.replicate n (D.int 0) := by
  induction n with
  | zero => rfl
  | succ n ih => rw [List.replicate_succ, List.flatten_cons, ih, List.replicate_succ]; rfl
theorem fw0 (ks : Ks) (N : Nat) : List.replicate N (D.int 0) = cD (fw ks 0 0) N := by
  unfold cD
  have : ∀ i, fw ks 0 0 i = 0 := fun i => by
    unfold fw
    by_cases h : i ≤ 0
    · rw [if_pos h, show i = 0 by omega]
      rfl
    · rw [if_neg h]
      split <;> rfl
  simp only [this]
  rw [List.map_const', List.length_range]
  rfl
theorem gMul_rep (n : Nat) (h : n ≤ 1000) : gMul (.lst [.int 0]) (.int (n : Int)) = some (.own (List.replicate n (D.int 0))) := by
  have h1 : smallI (n : Int) = true := by unfold smallI; simp; omega
  have h2 : szOk n = true := by unfold szOk; simp; omega
  have h3 : (n : Int).toNat = n := by omega
  unfold gMul
  simp only [gInt, gRepL, h1, h3, List.length_cons, List.length_nil, Nat.zero_add, Nat.one_mul, h2, Bool.and_self, if_true, Option.none_or, Option.some_or, rep_flat]
theorem rep_scal (n : Nat) : (List.replicate n (D.int 0)).all scalD = true := by simp [scalD]
theorem nin_ok {ks : Ks} (g : Good ks) {m : Nat} (s : Sm (cK ks) (m + 1)) (h0 : 0 < m) (hm : m ≤ 60) : Is F_number_in [.sh (setD ks), .sh (.int m)] (.sh (.int (cK ks m))) := by
  have s1 : smallI 1 = true := by unfold smallI; simp
  have st : smallI ((m : Int) + 1) = true := by unfold smallI; simp; omega
  have hlen : ((m : Int) + 1 - 1).toNat = m := by omega
  obtain ⟨x, a, b, c, d, h⟩ := nin_loop g s (by omega)
  obtain ⟨l1, k1⟩ := need_set_ok g
  obtain ⟨l2, k2⟩ := number_int m 61
  have d1 : (decide (0 ≤ (m : Int)) && decide ((m : Int) < 61)) = true := by simp; omega
  have d2 : decide ((m : Int) = 0) = false := by simp; omega
  rw [d1] at k2
  obtain ⟨q0, q1, q2, q3, q4⟩ := a5 (.str "set") (D.tup (kD ks)) (.int 1) (.tup (ks.map fun _ => z1)) z1
  have c5 : ((5 : Nat) : Int) = 5 := rfl
  have t1 : (1 : Int).toNat = 1 := rfl
  have r1 : List.range 1 = [0] := rfl
  have gm := gMul_rep (m + 1) (by omega)
  have em : (m : Int) + 1 = ((m + 1 : Nat) : Int) := by omega
  have rs := rep_scal (m + 1)
  have f0 := fw0 ks (m + 1)
  rw [f0] at gm rs
  have a0 : atI [D.lst (cD (fw ks m 0) (m + 1))] 0 = some (.lst (cD (fw ks m 0) (m + 1))) := rfl
  have a1 : atI (cD (fw ks m 0) (m + 1)) (m : Int) = some (.int (fw ks m 0 m)) := cD_at (by omega)
  have fm : fw ks m 0 m = cK ks m := by unfold fw; rw [if_pos (Nat.le_refl _)]
  rw [fm] at a1
  have gs : gSum [.lst [.int (cK ks m)]] = some (.sh (.int (cK ks m))) := by
    have := gSum_nat [()] fun _ => cK ks m
    simpa using this
  refine run_is rfl ⟨[.sh (setD ks), .sh (.int m), .own2 [cD (fw ks m 0) (m + 1)], x, a, b, c, d, .emp], ?_⟩
  unfold m_number_in x_number_in_2 e_number_in_2
  rw [em] at st hlen
  unfold setD at *
  unfold z1 at *
  simp only [runF, runB, sSeq, sIf, sAsg, sRet, sNext, sDrop, sRaise, xVar, xC, xOp, xCB, xUn, aCons, aNil, rdv, rdvs, rdS, rdO_some, rdO_none, R_bind_ok, R_bind_bad, R_bind_exc, xTest, xTru, xAnd, xOr, xNot, xIf, xAndV, xOrV, xNotV, xChain, blOf, truO, blR, mv, put, maskA1, maskA2, maskA3, List.mem_cons, List.not_mem_nil, true_or, or_true, or_false, false_or, Bool.and_self, isi_tt, isi_ss, lc_nil, gEq_int, gNe_int, gLt_int, gLe_int, gGt_int, gGe_int, gLen, gIx, gAdd_int, gSub_int, gAug_int, xCall, takeArgs, take1, giveBack, bkAdd, share, shares, xTup, xLst, sAug, shS, emps, mName, mTup, mgCons, mgNil, xLc, xISeq, xIZip, xIRng1_eq, xIRng2_eq, rngV_ints, rngU_ints, rng1C_ok, rng2C_ok, kindOf, xSl, oPart, oNone, intOf, itemsOf, back, at0, at1, xApp, xExt, xPopAt, ownS, sz_0, sz_1, sz_2, sz_3, sz_4, sz_5, sz_6, sz_7, sz_8, List.getElem?_cons_zero, List.getElem?_cons_succ, List.getElem?_nil, List.set_cons_zero, List.set_cons_succ, List.length_cons, List.length_nil, List.cons_append, List.nil_append, List.append_nil, List.replicate, Option.bind_some, Option.bind_none, Option.map_some, Option.map_none, Option.some_or, Option.none_or, Option.or_some, Option.or_none, Option.getD_some, Option.getD_none, if_true, if_false, Bool.false_eq_true, Bool.not_true, Bool.not_false, decide_true, decide_false, List.map_cons, List.map_nil, reduceIte, Nat.reduceAdd, Nat.reduceLT, Nat.reduceEqDiff, Nat.zero_add, Int.reduceSub, Int.reduceAdd, Int.reduceLT, Int.reduceLE, Int.reduceEq, sFor, s1, st, hlen, k1, k2, d2, q0, q1, q2, q3, q4, c5, t1, r1, em, gm, rs, sAsgR, rowsLoop, R.noX, frz, scalD, xFrz, lcLoop, a0, a1, gs, h, fm, xYes]
  done
theorem nin_no {ks : Ks} (g : Good ks) {d : D} (h : Is F_is_number [.sh d, .sh (.int 61)] (.sh (.bl false)) ∨ Is F_is_number [.sh d, .sh (.int 61)] (.sh (.bl true)) ∧ d = .int 0) : F_number_in [.sh (setD ks), .sh d] = .exc "BadNumber" none := by
  obtain ⟨l1, k1⟩ := need_set_ok g
  unfold F_number_in m_number_in
  rcases h with ⟨l2, k2⟩ | ⟨⟨l2, k2⟩, rfl⟩
  · simp only [runF, runB, sSeq, sIf, sAsg, sRet, sNext, sDrop, sRaise, xVar, xC, xOp, xCB, xUn, aCons, aNil, rdv, rdvs, rdS, rdO_some, rdO_none, R_bind_ok, R_bind_bad, R_bind_exc, xTest, xTru, xAnd, xOr, xNot, xIf, xAndV, xOrV, xNotV, xChain, blOf, truO, blR, mv, put, maskA1, maskA2, maskA3, List.mem_cons, List.not_mem_nil, true_or, or_true, or_false, false_or, Bool.and_self, isi_tt, isi_ss, lc_nil, gEq_int, gNe_int, gLt_int, gLe_int, gGt_int, gGe_int, gLen, gIx, gAdd_int, gSub_int, gAug_int, xCall, takeArgs, take1, giveBack, bkAdd, share, shares, xTup, xLst, sAug, shS, emps, mName, mTup, mgCons, mgNil, xLc, xISeq, xIZip, xIRng1_eq, xIRng2_eq, rngV_ints, rngU_ints, rng1C_ok, rng2C_ok, kindOf, xSl, oPart, oNone, intOf, itemsOf, back, at0, at1, xApp, xExt, xPopAt, ownS, sz_0, sz_1, sz_2, sz_3, sz_4, sz_5, sz_6, sz_7, sz_8, List.getElem?_cons_zero, List.getElem?_cons_succ, List.getElem?_nil, List.set_cons_zero, List.set_cons_succ, List.length_cons, List.length_nil, List.cons_append, List.nil_append, List.append_nil, List.replicate, Option.bind_some, Option.bind_none, Option.map_some, Option.map_none, Option.some_or, Option.none_or, Option.or_some, Option.or_none, Option.getD_some, Option.getD_none, if_true, if_false, Bool.false_eq_true, Bool.not_true, Bool.not_false, decide_true, decide_false, List.map_cons, List.map_nil, reduceIte, Nat.reduceAdd, Nat.reduceLT, Nat.reduceEqDiff, Nat.zero_add, Int.reduceSub, Int.reduceAdd, Int.reduceLT, Int.reduceLE, Int.reduceEq, k1, k2]
  · simp only [runF, runB, sSeq, sIf, sAsg, sRet, sNext, sDrop, sRaise, xVar, xC, xOp, xCB, xUn, aCons, aNil, rdv, rdvs, rdS, rdO_some, rdO_none, R_bind_ok, R_bind_bad, R_bind_exc, xTest, xTru, xAnd, xOr, xNot, xIf, xAndV, xOrV, xNotV, xChain, blOf, truO, blR, mv, put, maskA1, maskA2, maskA3, List.mem_cons, List.not_mem_nil, true_or, or_true, or_false, false_or, Bool.and_self, isi_tt, isi_ss, lc_nil, gEq_int, gNe_int, gLt_int, gLe_int, gGt_int, gGe_int, gLen, gIx, gAdd_int, gSub_int, gAug_int, xCall, takeArgs, take1, giveBack, bkAdd, share, shares, xTup, xLst, sAug, shS, emps, mName, mTup, mgCons, mgNil, xLc, xISeq, xIZip, xIRng1_eq, xIRng2_eq, rngV_ints, rngU_ints, rng1C_ok, rng2C_ok, kindOf, xSl, oPart, oNone, intOf, itemsOf, back, at0, at1, xApp, xExt, xPopAt, ownS, sz_0, sz_1, sz_2, sz_3, sz_4, sz_5, sz_6, sz_7, sz_8, List.getElem?_cons_zero, List.getElem?_cons_succ, List.getElem?_nil, List.set_cons_zero, List.set_cons_succ, List.length_cons, List.length_nil, List.cons_append, List.nil_append, List.append_nil, List.replicate, Option.bind_some, Option.bind_none, Option.map_some, Option.map_none, Option.some_or, Option.none_or, Option.or_some, Option.or_none, Option.getD_some, Option.getD_none, if_true, if_false, Bool.false_eq_true, Bool.not_true, Bool.not_false, decide_true, decide_false, List.map_cons, List.map_nil, reduceIte, Nat.reduceAdd, Nat.reduceLT, Nat.reduceEqDiff, Nat.zero_add, Int.reduceSub, Int.reduceAdd, Int.reduceLT, Int.reduceLE, Int.reduceEq, k1, k2]
end K82
end
section
set_option maxRecDepth 100000
set_option maxHeartbeats 1000000
namespace K82
open PySem DL L2
theorem pyds_ints (ns : List Int) : pyds (ns.map D.int) = some (ns.map PyData.int) := by
  induction ns with
  | nil => unfold List.map pyds; rfl
  | cons n r ih =>
    rw [List.map_cons, List.map_cons]
    unfold pyds pyd
    rw [ih]
    rfl
theorem show_ints {ns : List Int} (h : ∀ n ∈ ns, n.natAbs.log2 < 1920) : PyData.showableAll (ns.map PyData.int) = true := by
  induction ns with
  | nil => unfold List.map PyData.showableAll; rfl
  | cons n r ih =>
    rw [List.map_cons]
    unfold PyData.showableAll PyData.showable
    rw [ih fun m hm => h m (List.mem_cons_of_mem _ hm), decide_eq_true (h n (by simp))]
    rfl
theorem nod_ints (ns : List Int) : PyData.hasDictAll (ns.map PyData.int) = false := by
  induction ns with
  | nil => unfold List.map PyData.hasDictAll; rfl
  | cons n r ih =>
    rw [List.map_cons]
    unfold PyData.hasDictAll PyData.hasDict
    rw [ih]
    rfl
theorem dep_ints (ns : List Int) : PyData.depthAll (ns.map PyData.int) ≤ 1 := by
  induction ns with
  | nil => unfold List.map PyData.depthAll; omega
  | cons n r ih =>
    rw [List.map_cons]
    unfold PyData.depthAll PyData.depth
    omega
theorem shown_ints {ns : List Int} (h : ∀ n ∈ ns, n.natAbs.log2 < 1920) : ((PyData.shownAll (ns.map PyData.int)).map (·.length)).sum ≤ 1921 * ns.length ∧ (PyData.shownAll (ns.map PyData.int)).length = ns.length := by
  induction ns with
  | nil => unfold List.map PyData.shownAll; simp
  | cons n r ih =>
    obtain ⟨h1, h2⟩ := ih fun m hm => h m (List.mem_cons_of_mem _ hm)
    rw [List.map_cons]
    unfold PyData.shownAll PyData.shown
    have e := int_text_length_le (k := 1920) (by omega) (h n (by simp))
    have e2 : (Str.ofString (toString n)).length = (toString n).length := ofString_length _
    have e2 : ((toString n : String) : Str).length ≤ 1921 := by
      show (Str.ofString (toString n)).length ≤ 1921
      omega
    simp only [List.map_cons, List.sum_cons, List.length_cons] at *
    constructor
    · omega
    · omega
theorem repr_ints {ns : List Int} (h : ∀ n ∈ ns, n.natAbs.log2 < 1920) (hl : ns.length ≤ 100) : ∃ s, gRepr [.lst (ns.map D.int)] = some (.sh (.str s)) := by
  have e : pyd (.lst (ns.map D.int)) = some (.list (ns.map PyData.int)) := by
    unfold pyd
    rw [pyds_ints]
    rfl
  refine ⟨(PyData.list (ns.map PyData.int)).shown, ?_⟩
  have h1 : (PyData.list (ns.map PyData.int)).showable = true := by
    unfold PyData.showable
    exact show_ints h
  have h2 : (PyData.list (ns.map PyData.int)).hasDict = false := by
    unfold PyData.hasDict
    exact nod_ints ns
  have h3 : decide ((PyData.list (ns.map PyData.int)).depth ≤ 60) = true := by
    unfold PyData.depth
    have := dep_ints ns
    simp
    omega
  have h4 : szOk (PyData.list (ns.map PyData.int)).shown.length = true := by
    unfold szOk PyData.shown
    have := listText_len_le (PyData.shownAll (ns.map PyData.int))
    obtain ⟨a, b⟩ := shown_ints h
    simp
    omega
  show (pyd (.lst (ns.map D.int))).bind _ = _
  rw [e]
  show (if _ then _ else _) = _
  rw [h1, h2, h3, h4]
  rfl
theorem mulI {a b : Int} (h : a.natAbs.log2 + b.natAbs.log2 < 1000000) : gMul (.int a) (.int b) = some (.sh (.int (a * b))) := by
  have : cMul a b = true := by unfold cMul; simp; exact h
  unfold gMul
  simp only [gInt, this, if_true, Option.some_or]
theorem modI {a b : Int} (h : 0 < b) : gMod (.int a) (.int b) = some (.sh (.int (a % b))) := by
  have : cMod a b = true := by unfold cMod; simp; exact h
  unfold gMod
  simp only [gInt, this, if_true]
theorem fdivI {a b : Int} (h : 0 < b) (h2 : b < 1073741824) : gFdiv (.int a) (.int b) = some (.sh (.int (a / b))) := by
  have : cDiv a b = true := by unfold cDiv; simp; exact ⟨h, h2⟩
  unfold gFdiv
  simp only [gInt, this, if_true]
theorem log_lt {a : Int} {k : Nat} (h0 : 0 ≤ a) (h : a < 2 ^ k) : a.natAbs.log2 ≤ k := by
  by_cases z : a.natAbs = 0
  · rw [z]; simp
  · have : a.natAbs < 2 ^ k := by
      have e : ((a.natAbs : Nat) : Int) = a := by omega
      have e2 : ((2 ^ k : Nat) : Int) = 2 ^ k := by simp
      omega
    exact Nat.le_of_lt ((Nat.log2_lt z).mpr this)
theorem pow5 {a : Int} (h0 : 0 ≤ a) (h : a < 2 ^ 60) : gPow (.int a) (.int 5) = some (.sh (.int (a ^ 5))) := by
  have : cPow a 5 = true := by
    unfold cPow
    simp
    omega
  unfold gPow
  simp only [gInt, this, if_true]
  rfl
theorem toI (a : Int) : gToInt [.int a] = some (.sh (.int a)) := rfl
theorem mx1 {b g t p : Int} (h0 : 0 ≤ b) (h : b < 2 ^ 40) (hp : 0 < p) (d fo : Sl) : b__law_mixed_1 [d, .sh (.int t), fo, .sh (.int p), .sh (.int b), .sh (.int g)] = .ok (.nx [d, .sh (.int t), fo, .sh (.int p), .sh (.int ((b * 69621 + g + t) % p)), .sh (.int g)]) := by
  have e1 := mulI (a := b) (b := 69621) (by
    have a1 := log_lt h0 h
    have a2 := log_lt (a := 69621) (k := 40) (by omega) (by decide)
    omega)
  have e2 := modI (a := b * 69621 + g + t) hp
  unfold b__law_mixed_1
  simp only [runF, runB, sSeq, sIf, sAsg, sRet, sNext, sDrop, sRaise, xVar, xC, xOp, xCB, xUn, aCons, aNil, rdv, rdvs, rdS, rdO_some, rdO_none, R_bind_ok, R_bind_bad, R_bind_exc, xTest, xTru, xAnd, xOr, xNot, xIf, xAndV, xOrV, xNotV, xChain, blOf, truO, blR, mv, put, maskA1, maskA2, maskA3, List.mem_cons, List.not_mem_nil, true_or, or_true, or_false, false_or, Bool.and_self, isi_tt, isi_ss, lc_nil, gEq_int, gNe_int, gLt_int, gLe_int, gGt_int, gGe_int, gLen, gIx, gAdd_int, gSub_int, gAug_int, xCall, takeArgs, take1, giveBack, bkAdd, share, shares, xTup, xLst, sAug, shS, emps, mName, mTup, mgCons, mgNil, xLc, xISeq, xIZip, xIRng1_eq, xIRng2_eq, rngV_ints, rngU_ints, rng1C_ok, rng2C_ok, kindOf, xSl, oPart, oNone, intOf, itemsOf, back, at0, at1, xApp, xExt, xPopAt, ownS, sz_0, sz_1, sz_2, sz_3, sz_4, sz_5, sz_6, sz_7, sz_8, List.getElem?_cons_zero, List.getElem?_cons_succ, List.getElem?_nil, List.set_cons_zero, List.set_cons_succ, List.length_cons, List.length_nil, List.cons_append, List.nil_append, List.append_nil, List.replicate, Option.bind_some, Option.bind_none, Option.map_some, Option.map_none, Option.some_or, Option.none_or, Option.or_some, Option.or_none, Option.getD_some, Option.getD_none, if_true, if_false, Bool.false_eq_true, Bool.not_true, Bool.not_false, decide_true, decide_false, List.map_cons, List.map_nil, reduceIte, Nat.reduceAdd, Nat.reduceLT, Nat.reduceEqDiff, Nat.zero_add, Int.reduceSub, Int.reduceAdd, Int.reduceLT, Int.reduceLE, Int.reduceEq, e1, e2, toI]
theorem mx2 {t p f : Int} {k : Nat} (st : Draw) (t0 : 0 ≤ t) (t1 : t ≤ 2000000) (p0 : 0 < p) (p1 : p < 2 ^ 31) (f0 : 0 ≤ f) (f1 : f < 2 ^ k) (hk : k ≤ 200) (x y : Sl) : ∃ f' x' y', 0 ≤ f' ∧ f' < 2 ^ (k + 32) ∧
    b__law_mixed_2 [.drw st, .sh (.int t), .sh (.int f), .sh (.int p), x, y] = .ok (.nx [.drw st, .sh (.int t), .sh (.int f'), .sh (.int p), x', y']) := by
  have hd : 0 ≤ p / 37 ∧ p / 37 ≤ p := ⟨Int.ediv_nonneg (by omega) (by omega), by omega⟩
  have hb0 : 0 ≤ 48271 * t + p / 37 := by omega
  have hb1 : 48271 * t + p / 37 < 2 ^ 40 := by
    have : (2 : Int) ^ 31 = 2147483648 := by decide
    have : (2 : Int) ^ 40 = 1099511627776 := by decide
    omega
  obtain ⟨ρ, h, b, w, b0, b1, e⟩ := for_inv0 (mg := mName 5) (mb := b__law_mixed_1) (ds := st.cells.map D.int) (ρ := [.drw st, .sh (.int t), .sh (.int f), .sh (.int p), .sh (.int (48271 * t + p / 37)), y])
    (fun i ρ => ∃ (b : Int) (w : Sl), 0 ≤ b ∧ b < 2 ^ 40 ∧ ρ = [.drw st, .sh (.int t), .sh (.int f), .sh (.int p), .sh (.int b), w]) ⟨_, y, hb0, hb1, rfl⟩ fun i d ρ hd hi => by
    obtain ⟨b, w, b0, b1, rfl⟩ := hi
    rw [List.getElem?_map] at hd
    obtain ⟨g, hg, rfl⟩ := Option.map_eq_some_iff.mp hd
    have l1 := Int.emod_nonneg (b * 69621 + g + t) (b := p) (by omega)
    have l2 := Int.emod_lt_of_pos (b * 69621 + g + t) p0
    have : (2 : Int) ^ 31 = 2147483648 := by decide
    have : (2 : Int) ^ 40 = 1099511627776 := by decide
    exact ⟨_, _, rfl, mx1 b0 b1 p0 _ _, _, _, l1, by omega, rfl⟩
  subst e
  have m1 := mulI (a := 48271) (b := t) (by
    have a1 := log_lt (a := t) (k := 40) t0 (by omega)
    have a2 := log_lt (a := 48271) (k := 40) (by omega) (by decide)
    omega)
  have m2 := fdivI (a := p) (b := 37) (by omega) (by omega)
  have m3 := mulI (a := f) (b := 2147483647) (by
    have a1 := log_lt f0 f1
    have a2 := log_lt (a := 2147483647) (k := 40) (by omega) (by decide)
    omega)
  have m4 := pow5 b0 (by
    have : (2 : Int) ^ 60 = 1152921504606846976 := by decide
    have : (2 : Int) ^ 40 = 1099511627776 := by decide
    omega)
  have m5 := modI (a := b ^ 5) p0
  have l1 := Int.emod_nonneg (b ^ 5) (b := p) (by omega)
  have l2 := Int.emod_lt_of_pos (b ^ 5) p0
  have q : (2 : Int) ^ (k + 32) = 2 ^ k * 4294967296 := by rw [Int.pow_add]; rfl
  refine ⟨f * 2147483647 + b ^ 5 % p, .sh (.int b), w, by omega, ?_, ?_⟩
  · rw [q]
    have : (2 : Int) ^ 31 = 2147483648 := by decide
    generalize (2 : Int) ^ k = z at *
    omega
  · unfold b__law_mixed_2
    simp only [runF, runB, sSeq, sIf, sAsg, sRet, sNext, sDrop, sRaise, xVar, xC, xOp, xCB, xUn, aCons, aNil, rdv, rdvs, rdS, rdO_some, rdO_none, R_bind_ok, R_bind_bad, R_bind_exc, xTest, xTru, xAnd, xOr, xNot, xIf, xAndV, xOrV, xNotV, xChain, blOf, truO, blR, mv, put, maskA1, maskA2, maskA3, List.mem_cons, List.not_mem_nil, true_or, or_true, or_false, false_or, Bool.and_self, isi_tt, isi_ss, lc_nil, gEq_int, gNe_int, gLt_int, gLe_int, gGt_int, gGe_int, gLen, gIx, gAdd_int, gSub_int, gAug_int, xCall, takeArgs, take1, giveBack, bkAdd, share, shares, xTup, xLst, sAug, shS, emps, mName, mTup, mgCons, mgNil, xLc, xISeq, xIZip, xIRng1_eq, xIRng2_eq, rngV_ints, rngU_ints, rng1C_ok, rng2C_ok, kindOf, xSl, oPart, oNone, intOf, itemsOf, back, at0, at1, xApp, xExt, xPopAt, ownS, sz_0, sz_1, sz_2, sz_3, sz_4, sz_5, sz_6, sz_7, sz_8, List.getElem?_cons_zero, List.getElem?_cons_succ, List.getElem?_nil, List.set_cons_zero, List.set_cons_succ, List.length_cons, List.length_nil, List.cons_append, List.nil_append, List.append_nil, List.replicate, Option.bind_some, Option.bind_none, Option.map_some, Option.map_none, Option.some_or, Option.none_or, Option.or_some, Option.or_none, Option.getD_some, Option.getD_none, if_true, if_false, Bool.false_eq_true, Bool.not_true, Bool.not_false, decide_true, decide_false, List.map_cons, List.map_nil, reduceIte, Nat.reduceAdd, Nat.reduceLT, Nat.reduceEqDiff, Nat.zero_add, Int.reduceSub, Int.reduceAdd, Int.reduceLT, Int.reduceLE, Int.reduceEq, m1, m2, m3, m4, m5, sFor, xDrw, drwS, toI, h]
theorem mixed_ok (st : Draw) (t0 : 0 ≤ st.turn) (t1 : st.turn ≤ 1000000) : ∃ k, F__law_mixed [.drw st] = .ok (.sh (.int k), [.drw { st with turn := st.turn + 1 }]) := by
  obtain ⟨f1, x1, y1, a1, b1, c1⟩ := mx2 (t := st.turn + 1) (p := 2147483647) (f := 0) (k := 0) { st with turn := st.turn + 1 } (by omega) (by omega) (by omega) (by decide) (by omega) (by decide) (by omega) .emp .emp
  obtain ⟨f2, x2, y2, a2, b2, c2⟩ := mx2 (t := st.turn + 1) (p := 2147483629) { st with turn := st.turn + 1 } (by omega) (by omega) (by omega) (by decide) a1 b1 (by omega) x1 y1
  obtain ⟨f3, x3, y3, a3, b3, c3⟩ := mx2 (t := st.turn + 1) (p := 2147483587) { st with turn := st.turn + 1 } (by omega) (by omega) (by omega) (by decide) a2 b2 (by omega) x2 y2
  obtain ⟨f4, x4, y4, a4, b4, c4⟩ := mx2 (t := st.turn + 1) (p := 2147483579) { st with turn := st.turn + 1 } (by omega) (by omega) (by omega) (by decide) a3 b3 (by omega) x3 y3
  refine ⟨f4, ?_⟩
  unfold F__law_mixed m__law_mixed
  simp only [runF, runB, sSeq, sIf, sAsg, sRet, sNext, sDrop, sRaise, xVar, xC, xOp, xCB, xUn, aCons, aNil, rdv, rdvs, rdS, rdO_some, rdO_none, R_bind_ok, R_bind_bad, R_bind_exc, xTest, xTru, xAnd, xOr, xNot, xIf, xAndV, xOrV, xNotV, xChain, blOf, truO, blR, mv, put, maskA1, maskA2, maskA3, List.mem_cons, List.not_mem_nil, true_or, or_true, or_false, false_or, Bool.and_self, isi_tt, isi_ss, lc_nil, gEq_int, gNe_int, gLt_int, gLe_int, gGt_int, gGe_int, gLen, gIx, gAdd_int, gSub_int, gAug_int, xCall, takeArgs, take1, giveBack, bkAdd, share, shares, xTup, xLst, sAug, shS, emps, mName, mTup, mgCons, mgNil, xLc, xISeq, xIZip, xIRng1_eq, xIRng2_eq, rngV_ints, rngU_ints, rng1C_ok, rng2C_ok, kindOf, xSl, oPart, oNone, intOf, itemsOf, back, at0, at1, xApp, xExt, xPopAt, ownS, sz_0, sz_1, sz_2, sz_3, sz_4, sz_5, sz_6, sz_7, sz_8, List.getElem?_cons_zero, List.getElem?_cons_succ, List.getElem?_nil, List.set_cons_zero, List.set_cons_succ, List.length_cons, List.length_nil, List.cons_append, List.nil_append, List.append_nil, List.replicate, Option.bind_some, Option.bind_none, Option.map_some, Option.map_none, Option.some_or, Option.none_or, Option.or_some, Option.or_none, Option.getD_some, Option.getD_none, if_true, if_false, Bool.false_eq_true, Bool.not_true, Bool.not_false, decide_true, decide_false, List.map_cons, List.map_nil, reduceIte, Nat.reduceAdd, Nat.reduceLT, Nat.reduceEqDiff, Nat.zero_add, Int.reduceSub, Int.reduceAdd, Int.reduceLT, Int.reduceLE, Int.reduceEq, xDrw, drwS, DL.sDPut, sPars, puts, notBor, sFor, forLoop, c1, c2, c3, c4]
end K82
end
section
set_option maxRecDepth 100000
set_option maxHeartbeats 1000000
namespace K82
open PySem DL L2
structure DOk (n : Nat) (st : Draw) : Prop where
  w : st.wide.length ≤ 63
  t0 : 0 ≤ st.turn
  t1 : st.turn ≤ n
theorem DOk.to {n m : Nat} {st : Draw} (h : DOk n st) (e : n ≤ m) : DOk m st := ⟨h.w, h.t0, by have := h.t1; omega⟩
theorem gAbs_int (i : Int) : gAbs [.int i] = some (.sh (.int (if i < 0 then -i else i))) := rfl
theorem pow18 : gPow (.int 10) (.int 18) = some (.sh (.int 1000000000000000000)) := by kernel_rfl
def tW : D → Bool
  | .int g => decide ((1000000000000000000 : Int) ≤ if g < 0 then -g else g)
  | _ => false
def fW : D → D
  | .int g => .int ((if g < 0 then -g else g) - 1000000000000000000)
  | _ => .non
theorem wide_ints : ∀ ns : List Int, ∃ ws : List Int, ((ns.map D.int).filter tW).map fW = ws.map D.int ∧ ws.length ≤ ns.length
  | [] => ⟨[], rfl, Nat.le_refl _⟩
  | n :: r => by
    obtain ⟨ws, h1, h2⟩ := wide_ints r
    rw [List.map_cons, List.filter_cons]
    cases e : tW (D.int n) with
    | false => exact ⟨ws, by simpa using h1, by simp; omega⟩
    | true => exact ⟨((if n < 0 then -n else n) - 1000000000000000000) :: ws, by simp only [if_true, List.map_cons, h1]; rfl, by simp; omega⟩
theorem intsD_map (ws : List Int) : intsD (ws.map D.int) = some ws := by
  induction ws with
  | nil => rfl
  | cons n r ih =>
    rw [List.map_cons]
    unfold intsD
    rw [ih]
    rfl
theorem begun_ok {ns : List Int} (h : ns.length ≤ 63) : ∃ st, Is F__law_begun [.sh (.scr ns)] (.drw st) ∧ DOk 0 st := by
  obtain ⟨ws, hw, hl⟩ := wide_ints ns
  have l1 : ∀ a, lcLoop (mName 2) (xTest (xOp (blR gGe) (xCB gAbs (aCons (xVar 2) aNil)) (xOp gPow (xC (.int 10)) (xC (.int 18))))) e__law_begun_1 [2] (ns.map D.int) [.sh (.scr ns), a, .emp] [] = .ok (ws.map D.int, [.sh (.scr ns), a, .emp]) := fun a => by
    rw [lc_test (t := tW) (f := fW) (fun d hd => ?_) (by simp; omega), hw]
    · rfl
    · obtain ⟨g, hg, rfl⟩ := List.mem_map.mp hd
      refine ⟨_, [.sh (.scr ns), a, .sh (.int g)], rfl, ?_, rfl, fun _ => ⟨.sh (fW (.int g)), [.sh (.scr ns), a, .sh (.int g)], [.sh (.scr ns), a, .sh (.int g)], ?_, rfl, rfl⟩⟩
      · simp only [runF, runB, sSeq, sIf, sAsg, sRet, sNext, sDrop, sRaise, xVar, xC, xOp, xCB, xUn, aCons, aNil, rdv, rdvs, rdS, rdO_some, rdO_none, R_bind_ok, R_bind_bad, R_bind_exc, xTest, xTru, xAnd, xOr, xNot, xIf, xAndV, xOrV, xNotV, xChain, blOf, truO, blR, mv, put, maskA1, maskA2, maskA3, List.mem_cons, List.not_mem_nil, true_or, or_true, or_false, false_or, Bool.and_self, isi_tt, isi_ss, lc_nil, gEq_int, gNe_int, gLt_int, gLe_int, gGt_int, gGe_int, gLen, gIx, gAdd_int, gSub_int, gAug_int, xCall, takeArgs, take1, giveBack, bkAdd, share, shares, xTup, xLst, sAug, shS, emps, mName, mTup, mgCons, mgNil, xLc, xISeq, xIZip, xIRng1_eq, xIRng2_eq, rngV_ints, rngU_ints, rng1C_ok, rng2C_ok, kindOf, xSl, oPart, oNone, intOf, itemsOf, back, at0, at1, xApp, xExt, xPopAt, ownS, sz_0, sz_1, sz_2, sz_3, sz_4, sz_5, sz_6, sz_7, sz_8, List.getElem?_cons_zero, List.getElem?_cons_succ, List.getElem?_nil, List.set_cons_zero, List.set_cons_succ, List.length_cons, List.length_nil, List.cons_append, List.nil_append, List.append_nil, List.replicate, Option.bind_some, Option.bind_none, Option.map_some, Option.map_none, Option.some_or, Option.none_or, Option.or_some, Option.or_none, Option.getD_some, Option.getD_none, if_true, if_false, Bool.false_eq_true, Bool.not_true, Bool.not_false, decide_true, decide_false, List.map_cons, List.map_nil, reduceIte, Nat.reduceAdd, Nat.reduceLT, Nat.reduceEqDiff, Nat.zero_add, Int.reduceSub, Int.reduceAdd, Int.reduceLT, Int.reduceLE, Int.reduceEq, gAbs_int, pow18]
        rfl
      · unfold e__law_begun_1
        simp only [runF, runB, sSeq, sIf, sAsg, sRet, sNext, sDrop, sRaise, xVar, xC, xOp, xCB, xUn, aCons, aNil, rdv, rdvs, rdS, rdO_some, rdO_none, R_bind_ok, R_bind_bad, R_bind_exc, xTest, xTru, xAnd, xOr, xNot, xIf, xAndV, xOrV, xNotV, xChain, blOf, truO, blR, mv, put, maskA1, maskA2, maskA3, List.mem_cons, List.not_mem_nil, true_or, or_true, or_false, false_or, Bool.and_self, isi_tt, isi_ss, lc_nil, gEq_int, gNe_int, gLt_int, gLe_int, gGt_int, gGe_int, gLen, gIx, gAdd_int, gSub_int, gAug_int, xCall, takeArgs, take1, giveBack, bkAdd, share, shares, xTup, xLst, sAug, shS, emps, mName, mTup, mgCons, mgNil, xLc, xISeq, xIZip, xIRng1_eq, xIRng2_eq, rngV_ints, rngU_ints, rng1C_ok, rng2C_ok, kindOf, xSl, oPart, oNone, intOf, itemsOf, back, at0, at1, xApp, xExt, xPopAt, ownS, sz_0, sz_1, sz_2, sz_3, sz_4, sz_5, sz_6, sz_7, sz_8, List.getElem?_cons_zero, List.getElem?_cons_succ, List.getElem?_nil, List.set_cons_zero, List.set_cons_succ, List.length_cons, List.length_nil, List.cons_append, List.nil_append, List.append_nil, List.replicate, Option.bind_some, Option.bind_none, Option.map_some, Option.map_none, Option.some_or, Option.none_or, Option.or_some, Option.or_none, Option.getD_some, Option.getD_none, if_true, if_false, Bool.false_eq_true, Bool.not_true, Bool.not_false, decide_true, decide_false, List.map_cons, List.map_nil, reduceIte, Nat.reduceAdd, Nat.reduceLT, Nat.reduceEqDiff, Nat.zero_add, Int.reduceSub, Int.reduceAdd, Int.reduceLT, Int.reduceLE, Int.reduceEq, gAbs_int, pow18]
        rfl
  have l2 : ∀ a, lcLoop (mName 2) xYes e__law_begun_2 [2] (ns.map D.int) [.sh (.scr ns), a, .emp] [] = .ok ((ns.map fun g => ((if g < 0 then -g else g) % 2147483629)).map D.int, [.sh (.scr ns), a, .emp]) := fun a => by
    rw [lc_pure (f := fun d => match d with | .int g => .int ((if g < 0 then -g else g) % 2147483629) | _ => .non) (fun d hd => ?_) (by simp; omega)]
    · simp
    · obtain ⟨g, hg, rfl⟩ := List.mem_map.mp hd
      refine ⟨_, .sh (.int ((if g < 0 then -g else g) % 2147483629)), [.sh (.scr ns), a, .sh (.int g)], _, rfl, ?_, rfl, rfl⟩
      unfold e__law_begun_2
      have := modI (a := if g < 0 then -g else g) (b := 2147483629) (by omega)
      simp only [runF, runB, sSeq, sIf, sAsg, sRet, sNext, sDrop, sRaise, xVar, xC, xOp, xCB, xUn, aCons, aNil, rdv, rdvs, rdS, rdO_some, rdO_none, R_bind_ok, R_bind_bad, R_bind_exc, xTest, xTru, xAnd, xOr, xNot, xIf, xAndV, xOrV, xNotV, xChain, blOf, truO, blR, mv, put, maskA1, maskA2, maskA3, List.mem_cons, List.not_mem_nil, true_or, or_true, or_false, false_or, Bool.and_self, isi_tt, isi_ss, lc_nil, gEq_int, gNe_int, gLt_int, gLe_int, gGt_int, gGe_int, gLen, gIx, gAdd_int, gSub_int, gAug_int, xCall, takeArgs, take1, giveBack, bkAdd, share, shares, xTup, xLst, sAug, shS, emps, mName, mTup, mgCons, mgNil, xLc, xISeq, xIZip, xIRng1_eq, xIRng2_eq, rngV_ints, rngU_ints, rng1C_ok, rng2C_ok, kindOf, xSl, oPart, oNone, intOf, itemsOf, back, at0, at1, xApp, xExt, xPopAt, ownS, sz_0, sz_1, sz_2, sz_3, sz_4, sz_5, sz_6, sz_7, sz_8, List.getElem?_cons_zero, List.getElem?_cons_succ, List.getElem?_nil, List.set_cons_zero, List.set_cons_succ, List.length_cons, List.length_nil, List.cons_append, List.nil_append, List.append_nil, List.replicate, Option.bind_some, Option.bind_none, Option.map_some, Option.map_none, Option.some_or, Option.none_or, Option.or_some, Option.or_none, Option.getD_some, Option.getD_none, if_true, if_false, Bool.false_eq_true, Bool.not_true, Bool.not_false, decide_true, decide_false, List.map_cons, List.map_nil, reduceIte, Nat.reduceAdd, Nat.reduceLT, Nat.reduceEqDiff, Nat.zero_add, Int.reduceSub, Int.reduceAdd, Int.reduceLT, Int.reduceLE, Int.reduceEq, gAbs_int, toI, this]
  refine ⟨⟨ws, ns.map fun g => ((if g < 0 then -g else g) % 2147483629), 0, 0⟩, ?_, ⟨by show ws.length ≤ 63; omega, Int.le_refl _, Int.le_refl _⟩⟩
  refine run_is rfl ⟨[.sh (.scr ns), .emp, .emp], ?_⟩
  unfold m__law_begun x__law_begun_1 x__law_begun_2
  have i1 := intsD_map ws
  have i2 := intsD_map (ns.map fun g => ((if g < 0 then -g else g) % 2147483629))
  simp only [runF, runB, sSeq, sIf, sAsg, sRet, sNext, sDrop, sRaise, xVar, xC, xOp, xCB, xUn, aCons, aNil, rdv, rdvs, rdS, rdO_some, rdO_none, R_bind_ok, R_bind_bad, R_bind_exc, xTest, xTru, xAnd, xOr, xNot, xIf, xAndV, xOrV, xNotV, xChain, blOf, truO, blR, mv, put, maskA1, maskA2, maskA3, List.mem_cons, List.not_mem_nil, true_or, or_true, or_false, false_or, Bool.and_self, isi_tt, isi_ss, lc_nil, gEq_int, gNe_int, gLt_int, gLe_int, gGt_int, gGe_int, gLen, gIx, gAdd_int, gSub_int, gAug_int, xCall, takeArgs, take1, giveBack, bkAdd, share, shares, xTup, xLst, sAug, shS, emps, mName, mTup, mgCons, mgNil, xLc, xISeq, xIZip, xIRng1_eq, xIRng2_eq, rngV_ints, rngU_ints, rng1C_ok, rng2C_ok, kindOf, xSl, oPart, oNone, intOf, itemsOf, back, at0, at1, xApp, xExt, xPopAt, ownS, sz_0, sz_1, sz_2, sz_3, sz_4, sz_5, sz_6, sz_7, sz_8, List.getElem?_cons_zero, List.getElem?_cons_succ, List.getElem?_nil, List.set_cons_zero, List.set_cons_succ, List.length_cons, List.length_nil, List.cons_append, List.nil_append, List.append_nil, List.replicate, Option.bind_some, Option.bind_none, Option.map_some, Option.map_none, Option.some_or, Option.none_or, Option.or_some, Option.or_none, Option.getD_some, Option.getD_none, if_true, if_false, Bool.false_eq_true, Bool.not_true, Bool.not_false, decide_true, decide_false, List.map_cons, List.map_nil, reduceIte, Nat.reduceAdd, Nat.reduceLT, Nat.reduceEqDiff, Nat.zero_add, Int.reduceSub, Int.reduceAdd, Int.reduceLT, Int.reduceLE, Int.reduceEq, l1, l2, xDraw, i1, i2]
theorem take_ok {n m : Nat} {st : Draw} (h : DOk n st) (hn : n ≤ 1000000) (h0 : 0 < m) (hm : m < 1000000000) : ∃ st' k, F__law_take [.drw st, .sh (.int m)] = .ok (.sh (.int (k : Nat)), [.drw st', .sh (.int m)]) ∧ k < m ∧ DOk (n + 1) st' := by
  have a1 : ∀ a : Int, gMod (.int a) (.int m) = some (.sh (.int (a % m))) := fun a => modI (by omega)
  have a2 : ∀ a : Int, gFdiv (.int a) (.int m) = some (.sh (.int (a / m))) := fun a => fdivI (by omega) (by omega)
  have a3 : ∀ a : Int, ∃ k : Nat, a % m = (k : Int) ∧ k < m := fun a => by
    have l1 := Int.emod_nonneg a (b := m) (by omega)
    have l2 := Int.emod_lt_of_pos a (b := m) (by omega)
    exact ⟨(a % m).toNat, by omega, by omega⟩
  by_cases z : st.rest = 0
  · have d0 : decide (st.rest = 0) = true := by simp [z]
    cases hw : st.wide with
    | nil =>
      obtain ⟨r, hr⟩ := mixed_ok st h.t0 (by have := h.t1; omega)
      obtain ⟨k, hk, hk2⟩ := a3 r
      refine ⟨{ st with turn := st.turn + 1, rest := r / m }, k, ?_, hk2, ⟨h.w, by have := h.t0; show 0 ≤ st.turn + 1; omega, by have := h.t1; show st.turn + 1 ≤ _; omega⟩⟩
      have b0 : (!st.wide.isEmpty) = false := by rw [hw]; rfl
      unfold F__law_take m__law_take
      simp only [runF, runB, sSeq, sIf, sAsg, sRet, sNext, sDrop, sRaise, xVar, xC, xOp, xCB, xUn, aCons, aNil, rdv, rdvs, rdS, rdO_some, rdO_none, R_bind_ok, R_bind_bad, R_bind_exc, xTest, xTru, xAnd, xOr, xNot, xIf, xAndV, xOrV, xNotV, xChain, blOf, truO, blR, mv, put, maskA1, maskA2, maskA3, List.mem_cons, List.not_mem_nil, true_or, or_true, or_false, false_or, Bool.and_self, isi_tt, isi_ss, lc_nil, gEq_int, gNe_int, gLt_int, gLe_int, gGt_int, gGe_int, gLen, gIx, gAdd_int, gSub_int, gAug_int, xCall, takeArgs, take1, giveBack, bkAdd, share, shares, xTup, xLst, sAug, shS, emps, mName, mTup, mgCons, mgNil, xLc, xISeq, xIZip, xIRng1_eq, xIRng2_eq, rngV_ints, rngU_ints, rng1C_ok, rng2C_ok, kindOf, xSl, oPart, oNone, intOf, itemsOf, back, at0, at1, xApp, xExt, xPopAt, ownS, sz_0, sz_1, sz_2, sz_3, sz_4, sz_5, sz_6, sz_7, sz_8, List.getElem?_cons_zero, List.getElem?_cons_succ, List.getElem?_nil, List.set_cons_zero, List.set_cons_succ, List.length_cons, List.length_nil, List.cons_append, List.nil_append, List.append_nil, List.replicate, Option.bind_some, Option.bind_none, Option.map_some, Option.map_none, Option.some_or, Option.none_or, Option.or_some, Option.or_none, Option.getD_some, Option.getD_none, if_true, if_false, Bool.false_eq_true, Bool.not_true, Bool.not_false, decide_true, decide_false, List.map_cons, List.map_nil, reduceIte, Nat.reduceAdd, Nat.reduceLT, Nat.reduceEqDiff, Nat.zero_add, Int.reduceSub, Int.reduceAdd, Int.reduceLT, Int.reduceLE, Int.reduceEq, xDrw, drwS, d0, b0, DL.sDPut, hr, a1, a2, hk, toI]
    | cons x r =>
      obtain ⟨k, hk, hk2⟩ := a3 x
      refine ⟨{ st with wide := r, rest := x / m }, k, ?_, hk2, ⟨by have := h.w; rw [hw] at this; simp at this; show r.length ≤ 63; omega, h.t0, by have := h.t1; show st.turn ≤ _; omega⟩⟩
      have b0 : (!(x :: r).isEmpty) = true := rfl
      have b1 : szOk (r.length + 1) = true := by have := h.w; rw [hw] at this; simp at this; unfold szOk; simp; omega
      unfold F__law_take m__law_take
      simp only [runF, runB, sSeq, sIf, sAsg, sRet, sNext, sDrop, sRaise, xVar, xC, xOp, xCB, xUn, aCons, aNil, rdv, rdvs, rdS, rdO_some, rdO_none, R_bind_ok, R_bind_bad, R_bind_exc, xTest, xTru, xAnd, xOr, xNot, xIf, xAndV, xOrV, xNotV, xChain, blOf, truO, blR, mv, put, maskA1, maskA2, maskA3, List.mem_cons, List.not_mem_nil, true_or, or_true, or_false, false_or, Bool.and_self, isi_tt, isi_ss, lc_nil, gEq_int, gNe_int, gLt_int, gLe_int, gGt_int, gGe_int, gLen, gIx, gAdd_int, gSub_int, gAug_int, xCall, takeArgs, take1, giveBack, bkAdd, share, shares, xTup, xLst, sAug, shS, emps, mName, mTup, mgCons, mgNil, xLc, xISeq, xIZip, xIRng1_eq, xIRng2_eq, rngV_ints, rngU_ints, rng1C_ok, rng2C_ok, kindOf, xSl, oPart, oNone, intOf, itemsOf, back, at0, at1, xApp, xExt, xPopAt, ownS, sz_0, sz_1, sz_2, sz_3, sz_4, sz_5, sz_6, sz_7, sz_8, List.getElem?_cons_zero, List.getElem?_cons_succ, List.getElem?_nil, List.set_cons_zero, List.set_cons_succ, List.length_cons, List.length_nil, List.cons_append, List.nil_append, List.append_nil, List.replicate, Option.bind_some, Option.bind_none, Option.map_some, Option.map_none, Option.some_or, Option.none_or, Option.or_some, Option.or_none, Option.getD_some, Option.getD_none, if_true, if_false, Bool.false_eq_true, Bool.not_true, Bool.not_false, decide_true, decide_false, List.map_cons, List.map_nil, reduceIte, Nat.reduceAdd, Nat.reduceLT, Nat.reduceEqDiff, Nat.zero_add, Int.reduceSub, Int.reduceAdd, Int.reduceLT, Int.reduceLE, Int.reduceEq, xDrw, drwS, d0, b0, DL.sDPut, xDPop, hw, b1, a1, a2, hk, toI]
  · have d0 : decide (st.rest = 0) = false := by simp [z]
    obtain ⟨k, hk, hk2⟩ := a3 st.rest
    refine ⟨{ st with rest := st.rest / m }, k, ?_, hk2, ⟨h.w, h.t0, by have := h.t1; show st.turn ≤ _; omega⟩⟩
    unfold F__law_take m__law_take
    simp only [runF, runB, sSeq, sIf, sAsg, sRet, sNext, sDrop, sRaise, xVar, xC, xOp, xCB, xUn, aCons, aNil, rdv, rdvs, rdS, rdO_some, rdO_none, R_bind_ok, R_bind_bad, R_bind_exc, xTest, xTru, xAnd, xOr, xNot, xIf, xAndV, xOrV, xNotV, xChain, blOf, truO, blR, mv, put, maskA1, maskA2, maskA3, List.mem_cons, List.not_mem_nil, true_or, or_true, or_false, false_or, Bool.and_self, isi_tt, isi_ss, lc_nil, gEq_int, gNe_int, gLt_int, gLe_int, gGt_int, gGe_int, gLen, gIx, gAdd_int, gSub_int, gAug_int, xCall, takeArgs, take1, giveBack, bkAdd, share, shares, xTup, xLst, sAug, shS, emps, mName, mTup, mgCons, mgNil, xLc, xISeq, xIZip, xIRng1_eq, xIRng2_eq, rngV_ints, rngU_ints, rng1C_ok, rng2C_ok, kindOf, xSl, oPart, oNone, intOf, itemsOf, back, at0, at1, xApp, xExt, xPopAt, ownS, sz_0, sz_1, sz_2, sz_3, sz_4, sz_5, sz_6, sz_7, sz_8, List.getElem?_cons_zero, List.getElem?_cons_succ, List.getElem?_nil, List.set_cons_zero, List.set_cons_succ, List.length_cons, List.length_nil, List.cons_append, List.nil_append, List.append_nil, List.replicate, Option.bind_some, Option.bind_none, Option.map_some, Option.map_none, Option.some_or, Option.none_or, Option.or_some, Option.or_none, Option.getD_some, Option.getD_none, if_true, if_false, Bool.false_eq_true, Bool.not_true, Bool.not_false, decide_true, decide_false, List.map_cons, List.map_nil, reduceIte, Nat.reduceAdd, Nat.reduceLT, Nat.reduceEqDiff, Nat.zero_add, Int.reduceSub, Int.reduceAdd, Int.reduceLT, Int.reduceLE, Int.reduceEq, xDrw, drwS, d0, DL.sDPut, a1, a2, hk, toI]
theorem pick_ok {n : Nat} {st : Draw} (h : DOk n st) (hn : n ≤ 1000000) {L : List D} (h0 : L ≠ []) (hm : L.length < 1000000) : ∃ st' x, F__law_pick [.drw st, .sh (.lst L)] = .ok (.sh x, [.drw st', .sh (.lst L)]) ∧ x ∈ L ∧ DOk (n + 1) st' := by
  have hp : 0 < L.length := List.length_pos_iff.mpr h0
  obtain ⟨st', k, e, hk, q⟩ := take_ok h hn hp (by omega)
  obtain ⟨x, hx⟩ : ∃ x, L[k]? = some x := ⟨L[k], by simp⟩
  refine ⟨st', x, ?_, List.mem_of_getElem? hx, q⟩
  have a := atN hx
  unfold F__law_pick m__law_pick
  simp only [runF, runB, sSeq, sIf, sAsg, sRet, sNext, sDrop, sRaise, xVar, xC, xOp, xCB, xUn, aCons, aNil, rdv, rdvs, rdS, rdO_some, rdO_none, R_bind_ok, R_bind_bad, R_bind_exc, xTest, xTru, xAnd, xOr, xNot, xIf, xAndV, xOrV, xNotV, xChain, blOf, truO, blR, mv, put, maskA1, maskA2, maskA3, List.mem_cons, List.not_mem_nil, true_or, or_true, or_false, false_or, Bool.and_self, isi_tt, isi_ss, lc_nil, gEq_int, gNe_int, gLt_int, gLe_int, gGt_int, gGe_int, gLen, gIx, gAdd_int, gSub_int, gAug_int, xCall, takeArgs, take1, giveBack, bkAdd, share, shares, xTup, xLst, sAug, shS, emps, mName, mTup, mgCons, mgNil, xLc, xISeq, xIZip, xIRng1_eq, xIRng2_eq, rngV_ints, rngU_ints, rng1C_ok, rng2C_ok, kindOf, xSl, oPart, oNone, intOf, itemsOf, back, at0, at1, xApp, xExt, xPopAt, ownS, sz_0, sz_1, sz_2, sz_3, sz_4, sz_5, sz_6, sz_7, sz_8, List.getElem?_cons_zero, List.getElem?_cons_succ, List.getElem?_nil, List.set_cons_zero, List.set_cons_succ, List.length_cons, List.length_nil, List.cons_append, List.nil_append, List.append_nil, List.replicate, Option.bind_some, Option.bind_none, Option.map_some, Option.map_none, Option.some_or, Option.none_or, Option.or_some, Option.or_none, Option.getD_some, Option.getD_none, if_true, if_false, Bool.false_eq_true, Bool.not_true, Bool.not_false, decide_true, decide_false, List.map_cons, List.map_nil, reduceIte, Nat.reduceAdd, Nat.reduceLT, Nat.reduceEqDiff, Nat.zero_add, Int.reduceSub, Int.reduceAdd, Int.reduceLT, Int.reduceLE, Int.reduceEq, e, a]
theorem okL_strs : ∀ ss : List Str, (∀ s ∈ ss, PyData.strOk s = true) → okL (ss.map D.str)
  | [], _ => ⟨[], by unfold List.map pyds; rfl, by unfold PyData.canLayAll0; rfl, by unfold PyData.depthAll; omega⟩
  | n :: r, h => by
    obtain ⟨ps, e1, e2, e3⟩ := okL_strs r fun s hs => h s (List.mem_cons_of_mem _ hs)
    have h0 := h n (by simp)
    refine ⟨.str n :: ps, ?_, ?_, ?_⟩
    · rw [List.map_cons]
      unfold pyds
      rw [e1]
      unfold pyd
      rfl
    · unfold PyData.canLayAll0 PyData.canLay0
      rw [e2, h0]
      rfl
    · unfold PyData.depthAll PyData.depth
      omega
theorem er_map {α β : Type} (f : α → β) : ∀ (l : List α) (k : Nat), (l.map f).eraseIdx k = (l.eraseIdx k).map f
  | [], k => rfl
  | a :: l, 0 => rfl
  | a :: l, k + 1 => by
    show f a :: (l.map f).eraseIdx k = f a :: (l.eraseIdx k).map f
    rw [er_map f l k]
theorem er_perm {α : Type} : ∀ {l : List α} {k : Nat} {x : α}, l[k]? = some x → (x :: l.eraseIdx k).Perm l
  | [], k, x, h => by simp at h
  | a :: l, 0, x, h => by
    have h : some a = some x := h
    cases h
    exact .refl _
  | a :: l, k + 1, x, h => by
    have ih := er_perm (l := l) (k := k) (x := x) (by simpa using h)
    exact (List.Perm.swap a x _).trans (ih.cons a)
theorem wh_step {mc : MT} {mb : MS} {n : Nat} {ρ ρ1 ρ2 : DL.Env} (h1 : mc ρ = .ok (true, ρ1)) (h2 : mb ρ1 = .ok (.nx ρ2)) : whLoop mc mb (n + 1) ρ = whLoop mc mb n ρ2 := by
  conv => lhs; unfold whLoop
  rw [h1, R_bind_ok]
  simp only [if_true]
  rw [h2, R_bind_ok]
theorem wh_end {mc : MT} {mb : MS} {n : Nat} {ρ ρ1 : DL.Env} (h1 : mc ρ = .ok (false, ρ1)) : whLoop mc mb (n + 1) ρ = .ok (.nx ρ1) := by
  unfold whLoop
  rw [h1, R_bind_ok]
  simp
def shC : MT := xTest (xOp (blR gNe) (xVar 2) (xLst aNil))
theorem shuf_loop (a : Sl) : ∀ (fuel : Nat) (ls fs : List Str) (st : Draw) (n : Nat), (∀ s ∈ ls, PyData.strOk s = true) → ls.length < fuel → DOk n st → n + ls.length ≤ 1000000 → fs.length + ls.length ≤ 1000 →
    ∃ (st' : Draw) (out : List Str), whLoop shC b__law_shuffled_1 fuel [.drw st, a, .own (ls.map D.str), .own (fs.map D.str)] = .ok (.nx [.drw st', a, .own [], .own (out.map D.str)]) ∧ out.Perm (fs ++ ls) ∧ DOk (n + ls.length) st'
  | 0, _, _, _, _, _, h, _, _, _ => absurd h (by omega)
  | fuel + 1, [], fs, st, n, _, _, d, _, _ => by
    refine ⟨st, fs, ?_, by simp, d⟩
    have e := gNe_nil (okL_strs [] fun _ z => (nomatch z))
    have e : gNe (.lst []) (.lst []) = some false := e
    refine wh_end ?_
    unfold shC
    simp only [runF, runB, sSeq, sIf, sAsg, sRet, sNext, sDrop, sRaise, xVar, xC, xOp, xCB, xUn, aCons, aNil, rdv, rdvs, rdS, rdO_some, rdO_none, R_bind_ok, R_bind_bad, R_bind_exc, xTest, xTru, xAnd, xOr, xNot, xIf, xAndV, xOrV, xNotV, xChain, blOf, truO, blR, mv, put, maskA1, maskA2, maskA3, List.mem_cons, List.not_mem_nil, true_or, or_true, or_false, false_or, Bool.and_self, isi_tt, isi_ss, lc_nil, gEq_int, gNe_int, gLt_int, gLe_int, gGt_int, gGe_int, gLen, gIx, gAdd_int, gSub_int, gAug_int, xCall, takeArgs, take1, giveBack, bkAdd, share, shares, xTup, xLst, sAug, shS, emps, mName, mTup, mgCons, mgNil, xLc, xISeq, xIZip, xIRng1_eq, xIRng2_eq, rngV_ints, rngU_ints, rng1C_ok, rng2C_ok, kindOf, xSl, oPart, oNone, intOf, itemsOf, back, at0, at1, xApp, xExt, xPopAt, ownS, sz_0, sz_1, sz_2, sz_3, sz_4, sz_5, sz_6, sz_7, sz_8, List.getElem?_cons_zero, List.getElem?_cons_succ, List.getElem?_nil, List.set_cons_zero, List.set_cons_succ, List.length_cons, List.length_nil, List.cons_append, List.nil_append, List.append_nil, List.replicate, Option.bind_some, Option.bind_none, Option.map_some, Option.map_none, Option.some_or, Option.none_or, Option.or_some, Option.or_none, Option.getD_some, Option.getD_none, if_true, if_false, Bool.false_eq_true, Bool.not_true, Bool.not_false, decide_true, decide_false, List.map_cons, List.map_nil, reduceIte, Nat.reduceAdd, Nat.reduceLT, Nat.reduceEqDiff, Nat.zero_add, Int.reduceSub, Int.reduceAdd, Int.reduceLT, Int.reduceLE, Int.reduceEq, e]
  | fuel + 1, l :: ls, fs, st, n, ho, hf, d, hn, hz => by
    obtain ⟨st1, k, e1, hk, d1⟩ := take_ok (m := ls.length + 1) d (by simp at hn; omega) (by omega) (by simp at hz; omega)
    have e := gNe_nil (okL_strs (l :: ls) ho)
    have hk2 : k < (l :: ls).length := by simpa using hk
    have ix : ixN (ls.length + 1) (k : Int) = some k := by
      unfold ixN
      rw [if_pos (by omega), if_pos (by omega)]
      simp
    have g1 : ((l :: ls).map D.str)[k]? = some (.str ((l :: ls)[k])) := by rw [List.getElem?_map, List.getElem?_eq_getElem hk2]; rfl
    obtain ⟨st2, out, h1, h2, h3⟩ := shuf_loop a fuel ((l :: ls).eraseIdx k) (fs ++ [(l :: ls)[k]]) st1 (n + 1) (fun s hs => ho s (List.mem_of_mem_eraseIdx hs)) (by rw [List.length_eraseIdx_of_lt hk2]; simp at hf ⊢; omega) d1 (by rw [List.length_eraseIdx_of_lt hk2]; simp at hn ⊢; omega) (by rw [List.length_eraseIdx_of_lt hk2]; simp at hz ⊢; omega)
    refine ⟨st2, out, ?_, ?_, ?_⟩
    · have e : gNe (.lst (D.str l :: ls.map D.str)) (.lst []) = some true := e
      have sz : szOk (ls.length + 1) = true := by unfold szOk; simp at hz ⊢; omega
      have sz2 : szOk (fs.length + 1) = true := by unfold szOk; simp at hz ⊢; omega
      have g1 : (D.str l :: ls.map D.str)[k]? = some (.str ((l :: ls)[k])) := g1
      have er : (D.str l :: ls.map D.str).eraseIdx k = ((l :: ls).eraseIdx k).map D.str := by
        rw [← List.map_cons, er_map]
      have ap : fs.map D.str ++ [D.str ((l :: ls)[k])] = (fs ++ [(l :: ls)[k]]).map D.str := by simp
      rw [List.map_cons, ← h1]
      refine wh_step (ρ1 := [.drw st, a, .own (D.str l :: ls.map D.str), .own (fs.map D.str)]) ?_ ?_
      · unfold shC
        simp only [runF, runB, sSeq, sIf, sAsg, sRet, sNext, sDrop, sRaise, xVar, xC, xOp, xCB, xUn, aCons, aNil, rdv, rdvs, rdS, rdO_some, rdO_none, R_bind_ok, R_bind_bad, R_bind_exc, xTest, xTru, xAnd, xOr, xNot, xIf, xAndV, xOrV, xNotV, xChain, blOf, truO, blR, mv, put, maskA1, maskA2, maskA3, List.mem_cons, List.not_mem_nil, true_or, or_true, or_false, false_or, Bool.and_self, isi_tt, isi_ss, lc_nil, gEq_int, gNe_int, gLt_int, gLe_int, gGt_int, gGe_int, gLen, gIx, gAdd_int, gSub_int, gAug_int, xCall, takeArgs, take1, giveBack, bkAdd, share, shares, xTup, xLst, sAug, shS, emps, mName, mTup, mgCons, mgNil, xLc, xISeq, xIZip, xIRng1_eq, xIRng2_eq, rngV_ints, rngU_ints, rng1C_ok, rng2C_ok, kindOf, xSl, oPart, oNone, intOf, itemsOf, back, at0, at1, xApp, xExt, xPopAt, ownS, sz_0, sz_1, sz_2, sz_3, sz_4, sz_5, sz_6, sz_7, sz_8, List.getElem?_cons_zero, List.getElem?_cons_succ, List.getElem?_nil, List.set_cons_zero, List.set_cons_succ, List.length_cons, List.length_nil, List.cons_append, List.nil_append, List.append_nil, List.replicate, Option.bind_some, Option.bind_none, Option.map_some, Option.map_none, Option.some_or, Option.none_or, Option.or_some, Option.or_none, Option.getD_some, Option.getD_none, if_true, if_false, Bool.false_eq_true, Bool.not_true, Bool.not_false, decide_true, decide_false, List.map_cons, List.map_nil, reduceIte, Nat.reduceAdd, Nat.reduceLT, Nat.reduceEqDiff, Nat.zero_add, Int.reduceSub, Int.reduceAdd, Int.reduceLT, Int.reduceLE, Int.reduceEq, e]
      · unfold b__law_shuffled_1
        simp only [runF, runB, sSeq, sIf, sAsg, sRet, sNext, sDrop, sRaise, xVar, xC, xOp, xCB, xUn, aCons, aNil, rdv, rdvs, rdS, rdO_some, rdO_none, R_bind_ok, R_bind_bad, R_bind_exc, xTest, xTru, xAnd, xOr, xNot, xIf, xAndV, xOrV, xNotV, xChain, blOf, truO, blR, mv, put, maskA1, maskA2, maskA3, List.mem_cons, List.not_mem_nil, true_or, or_true, or_false, false_or, Bool.and_self, isi_tt, isi_ss, lc_nil, gEq_int, gNe_int, gLt_int, gLe_int, gGt_int, gGe_int, gLen, gIx, gAdd_int, gSub_int, gAug_int, xCall, takeArgs, take1, giveBack, bkAdd, share, shares, xTup, xLst, sAug, shS, emps, mName, mTup, mgCons, mgNil, xLc, xISeq, xIZip, xIRng1_eq, xIRng2_eq, rngV_ints, rngU_ints, rng1C_ok, rng2C_ok, kindOf, xSl, oPart, oNone, intOf, itemsOf, back, at0, at1, xApp, xExt, xPopAt, ownS, sz_0, sz_1, sz_2, sz_3, sz_4, sz_5, sz_6, sz_7, sz_8, List.getElem?_cons_zero, List.getElem?_cons_succ, List.getElem?_nil, List.set_cons_zero, List.set_cons_succ, List.length_cons, List.length_nil, List.cons_append, List.nil_append, List.append_nil, List.replicate, Option.bind_some, Option.bind_none, Option.map_some, Option.map_none, Option.some_or, Option.none_or, Option.or_some, Option.or_none, Option.getD_some, Option.getD_none, if_true, if_false, Bool.false_eq_true, Bool.not_true, Bool.not_false, decide_true, decide_false, List.map_cons, List.map_nil, reduceIte, Nat.reduceAdd, Nat.reduceLT, Nat.reduceEqDiff, Nat.zero_add, Int.reduceSub, Int.reduceAdd, Int.reduceLT, Int.reduceLE, Int.reduceEq, e, e1, ix, g1, sz, sz2, er, ap, List.length_map]
    · refine h2.trans ?_
      rw [List.append_assoc]
      exact List.Perm.append_left _ (er_perm (List.getElem?_eq_getElem hk2))
    · exact h3.to (by rw [List.length_eraseIdx_of_lt hk2]; simp; omega)
theorem shuf_ok {n : Nat} {st : Draw} (d : DOk n st) (ls : List Str) (ho : ∀ s ∈ ls, PyData.strOk s = true) (hn : n + ls.length ≤ 1000000) (hz : ls.length < 1000) : ∃ (st' : Draw) (out : List Str), F__law_shuffled [.drw st, .sh (.lst (ls.map D.str))] = .ok (.own (out.map D.str), [.drw st', .sh (.lst (ls.map D.str))]) ∧ out.Perm ls ∧ DOk (n + ls.length) st' := by
  obtain ⟨st', out, h1, h2, h3⟩ := shuf_loop (.sh (.lst (ls.map D.str))) 1000 ls [] st n ho hz d hn (by simp; omega)
  refine ⟨st', out, ?_, by simpa using h2, h3⟩
  have h1 : whLoop shC b__law_shuffled_1 1000 [.drw st, .sh (.lst (ls.map D.str)), .own (ls.map D.str), .own []] = _ := h1
  unfold F__law_shuffled m__law_shuffled
  rw [show (xTest (xOp (blR gNe) (xVar 2) (xLst aNil))) = shC from rfl]
  simp only [runF, runB, sSeq, sIf, sAsg, sRet, sNext, sDrop, sRaise, xVar, xC, xOp, xCB, xUn, aCons, aNil, rdv, rdvs, rdS, rdO_some, rdO_none, R_bind_ok, R_bind_bad, R_bind_exc, xTest, xTru, xAnd, xOr, xNot, xIf, xAndV, xOrV, xNotV, xChain, blOf, truO, blR, mv, put, maskA1, maskA2, maskA3, List.mem_cons, List.not_mem_nil, true_or, or_true, or_false, false_or, Bool.and_self, isi_tt, isi_ss, lc_nil, gEq_int, gNe_int, gLt_int, gLe_int, gGt_int, gGe_int, gLen, gIx, gAdd_int, gSub_int, gAug_int, xCall, takeArgs, take1, giveBack, bkAdd, share, shares, xTup, xLst, sAug, shS, emps, mName, mTup, mgCons, mgNil, xLc, xISeq, xIZip, xIRng1_eq, xIRng2_eq, rngV_ints, rngU_ints, rng1C_ok, rng2C_ok, kindOf, xSl, oPart, oNone, intOf, itemsOf, back, at0, at1, xApp, xExt, xPopAt, ownS, sz_0, sz_1, sz_2, sz_3, sz_4, sz_5, sz_6, sz_7, sz_8, List.getElem?_cons_zero, List.getElem?_cons_succ, List.getElem?_nil, List.set_cons_zero, List.set_cons_succ, List.length_cons, List.length_nil, List.cons_append, List.nil_append, List.append_nil, List.replicate, Option.bind_some, Option.bind_none, Option.map_some, Option.map_none, Option.some_or, Option.none_or, Option.or_some, Option.or_none, Option.getD_some, Option.getD_none, if_true, if_false, Bool.false_eq_true, Bool.not_true, Bool.not_false, decide_true, decide_false, List.map_cons, List.map_nil, reduceIte, Nat.reduceAdd, Nat.reduceLT, Nat.reduceEqDiff, Nat.zero_add, Int.reduceSub, Int.reduceAdd, Int.reduceLT, Int.reduceLE, Int.reduceEq, sPars, puts, notBor, gList, h1]
end K82
end
section
set_option maxRecDepth 100000
set_option maxHeartbeats 1000000
namespace K82
open PySem DL L2
def stems : List Str := [98,99,100,102,103,104,107,108,109,110,112,114,115,116,118,119,120,122].flatMap fun c => [97,101,105,111,117].map fun d => (⟨#[c, d]⟩ : Str)
def sufs : List Str := [⟨#[113]⟩, ⟨#[107]⟩, ⟨#[120]⟩, ⟨#[109,117]⟩]
theorem stems_len : stems.length = 90 := by decide +kernel
theorem stems_nd : stems.Nodup := by decide +kernel
theorem stems_ok : ∀ s ∈ stems, PyData.strOk s = true := by decide +kernel
theorem name_all : ∀ s ∈ stems, ∀ q ∈ sufs, (nameB (s ++ q) && decide ((s ++ q).cps.toList.take 2 = s.cps.toList) && decide (s.length + q.length ≤ 10)) = true := by decide +kernel
theorem stem_loop (st : Draw) (mm : Sl) : forLoop (mName 3) b__law_names_1 ((("bcdfghklmnprstvwxz" : Str).cps.toList).map fun c => D.str (sgn c)) [.drw st, mm, .own [], .emp, .emp, .emp] = .ok (.nx [.drw st, mm, .own (stems.map D.str), .sh (.str ⟨#[122]⟩), .emp, .emp]) := by kernel_rfl
theorem str_ext {a b : Str} (h : a.cps.toList = b.cps.toList) : a = b := by
  cases a
  cases b
  simp at h
  rw [h]
theorem name_at {s q : Str} (hs : s ∈ stems) (hq : q ∈ sufs) : nameB (s ++ q) = true ∧ (s ++ q).cps.toList.take 2 = s.cps.toList ∧ s.length + q.length ≤ 10 := by
  have h := name_all s hs q hq
  simp only [Bool.and_eq_true, decide_eq_true_eq] at h
  exact ⟨h.1.1, h.1.2, h.2⟩
def Ext (d x : D) : Prop := ∃ s q : Str, q ∈ sufs ∧ d = .str s ∧ x = .str (s ++ q)
theorem rel_strs : ∀ {ss : List Str} {out : List D}, out.length = ss.length → (∀ (i : Nat) (d x : D), (ss.map D.str)[i]? = some d → out[i]? = some x → Ext d x) → ∃ qs : List Str, qs.length = ss.length ∧ (∀ q ∈ qs, q ∈ sufs) ∧ out = (List.zipWith (· ++ ·) ss qs).map D.str
  | [], out, hl, _ => ⟨[], rfl, fun _ z => (nomatch z), by simp at hl; rw [hl]; rfl⟩
  | s :: ss, [], hl, _ => by simp at hl
  | s :: ss, x :: out, hl, h => by
    obtain ⟨qs, h1, h2, h3⟩ := rel_strs (ss := ss) (out := out) (by simpa using hl) fun i d x e1 e2 => h (i + 1) d x (by simpa using e1) (by simpa using e2)
    obtain ⟨s', q, g1, g2, g3⟩ := h 0 (.str s) x rfl rfl
    cases g2
    refine ⟨q :: qs, by simp [h1], fun p hp => ?_, by rw [g3, h3]; rfl⟩
    rcases List.mem_cons.mp hp with e | hp
    · rw [e]; exact g1
    · exact h2 p hp
theorem nm_nd : ∀ {ss qs : List Str}, ss.Nodup → (∀ s ∈ ss, s ∈ stems) → (∀ q ∈ qs, q ∈ sufs) → (List.zipWith (· ++ ·) ss qs).Nodup ∧ ∀ x ∈ List.zipWith (· ++ ·) ss qs, nameB x = true ∧ ∃ s ∈ ss, x.cps.toList.take 2 = s.cps.toList
  | [], qs, _, _, _ => ⟨by simp, fun x z => by simp at z⟩
  | s :: ss, [], _, _, _ => ⟨by simp, fun x z => by simp at z⟩
  | s :: ss, q :: qs, nd, hs, hq => by
    obtain ⟨h1, h2⟩ := nm_nd (ss := ss) (qs := qs) (List.nodup_cons.mp nd).2 (fun s hs' => hs s (List.mem_cons_of_mem _ hs')) fun q hq' => hq q (List.mem_cons_of_mem _ hq')
    obtain ⟨k1, k2, k3⟩ := name_at (hs s (by simp)) (hq q (by simp))
    rw [List.zipWith_cons_cons]
    refine ⟨List.nodup_cons.mpr ⟨fun z => ?_, h1⟩, fun x hx => ?_⟩
    · obtain ⟨_, s', m1, m2⟩ := h2 _ z
      rw [k2] at m2
      exact (List.nodup_cons.mp nd).1 (by rw [str_ext m2]; exact m1)
    · rcases List.mem_cons.mp hx with e | hx
      · rw [e]; exact ⟨k1, s, by simp, k2⟩
      · obtain ⟨m1, s', m2, m3⟩ := h2 x hx
        exact ⟨m1, s', List.mem_cons_of_mem _ m2, m3⟩
theorem cut_take {α : Type} (l : List α) (n : Nat) (h : n ≤ l.length) : cutD l none (some (n : Int)) = l.take n := by
  unfold cutD
  rw [HT.sIx_nat, HT.sIx_none, Nat.min_eq_left h]
  simp
def sufD : List D := sufs.map D.str
theorem gAdd_str {a b : Str} (h : a.length + b.length ≤ 10) : gAdd (.str a) (.str b) = some (.sh (.str (a ++ b))) := by
  have : szOk (a.length + b.length) = true := by unfold szOk; simp; omega
  unfold gAdd
  simp only [gInt, gAddS, this, if_true, Option.none_or, Option.some_or]
theorem names_ok {n many : Nat} {st : Draw} (d : DOk n st) (hn : n ≤ 900000) (hm : many ≤ 6) : ∃ (st' : Draw) (nm : List Str), F__law_names [.drw st, .sh (.int many)] = .ok (.own (nm.map D.str), [.drw st', .sh (.int many)]) ∧ nm.length = many ∧ nm.Nodup ∧ (∀ s ∈ nm, nameB s = true) ∧ DOk (n + 100) st' := by
  obtain ⟨st1, out, h1, h2, h3⟩ := shuf_ok d stems stems_ok (by rw [stems_len]; omega) (by rw [stems_len]; omega)
  rw [stems_len] at h3
  have hl : out.length = 90 := by rw [h2.length_eq, stems_len]
  have ss : ∀ s ∈ out.take many, s ∈ stems := fun s hs => h2.mem_iff.mp (List.mem_of_mem_take hs)
  obtain ⟨o2, st2, g1, g2, g3, g4⟩ := lc_state (S := Draw) (mg := mName 5) (me := e__law_names_2) (vs := [5]) (ρs := fun st => [.drw st, .sh (.int many), .sh (.lst (stems.map D.str)), .sh (.str ⟨#[122]⟩), .emp, .emp]) (Inv := fun k st => DOk (n + 90 + k) st) (Ok := Ext) (ds := (out.take many).map D.str) (acc := []) (n := 0) (s := st1) h3 (fun x hx k st hk hk2 hI => by
      obtain ⟨s, hs, rfl⟩ := List.mem_map.mp hx
      have hk3 : k < many := by simp at hk2; omega
      obtain ⟨st3, q, e1, e2, e3⟩ := pick_ok hI (by omega) (L := sufD) (by unfold sufD sufs; simp) (by unfold sufD sufs; simp)
      obtain ⟨q, hq, rfl⟩ := List.mem_map.mp e2
      have a := gAdd_str (name_at (ss s hs) hq).2.2
      have e1 : F__law_pick [.drw st, .sh (.lst [.str "q", .str "k", .str "x", .str "mu"])] = .ok (.sh (.str q), [.drw st3, .sh (.lst [.str "q", .str "k", .str "x", .str "mu"])]) := e1
      refine ⟨[.drw st, .sh (.int many), .sh (.lst (stems.map D.str)), .sh (.str ⟨#[122]⟩), .emp, .sh (.str s)], .sh (.str (s ++ q)), [.drw st3, .sh (.int many), .sh (.lst (stems.map D.str)), .sh (.str ⟨#[122]⟩), .emp, .sh (.str s)], .str (s ++ q), _, st3, rfl, ?_, rfl, rfl, e3, s, q, hq, rfl, rfl⟩
      unfold e__law_names_2
      simp only [runF, runB, sSeq, sIf, sAsg, sRet, sNext, sDrop, sRaise, xVar, xC, xOp, xCB, xUn, aCons, aNil, rdv, rdvs, rdS, rdO_some, rdO_none, R_bind_ok, R_bind_bad, R_bind_exc, xTest, xTru, xAnd, xOr, xNot, xIf, xAndV, xOrV, xNotV, xChain, blOf, truO, blR, mv, put, maskA1, maskA2, maskA3, List.mem_cons, List.not_mem_nil, true_or, or_true, or_false, false_or, Bool.and_self, isi_tt, isi_ss, lc_nil, gEq_int, gNe_int, gLt_int, gLe_int, gGt_int, gGe_int, gLen, gIx, gAdd_int, gSub_int, gAug_int, xCall, takeArgs, take1, giveBack, bkAdd, share, shares, xTup, xLst, sAug, shS, emps, mName, mTup, mgCons, mgNil, xLc, xISeq, xIZip, xIRng1_eq, xIRng2_eq, rngV_ints, rngU_ints, rng1C_ok, rng2C_ok, kindOf, xSl, oPart, oNone, intOf, itemsOf, back, at0, at1, xApp, xExt, xPopAt, ownS, sz_0, sz_1, sz_2, sz_3, sz_4, sz_5, sz_6, sz_7, sz_8, List.getElem?_cons_zero, List.getElem?_cons_succ, List.getElem?_nil, List.set_cons_zero, List.set_cons_succ, List.length_cons, List.length_nil, List.cons_append, List.nil_append, List.append_nil, List.replicate, Option.bind_some, Option.bind_none, Option.map_some, Option.map_none, Option.some_or, Option.none_or, Option.or_some, Option.or_none, Option.getD_some, Option.getD_none, if_true, if_false, Bool.false_eq_true, Bool.not_true, Bool.not_false, decide_true, decide_false, List.map_cons, List.map_nil, reduceIte, Nat.reduceAdd, Nat.reduceLT, Nat.reduceEqDiff, Nat.zero_add, Int.reduceSub, Int.reduceAdd, Int.reduceLT, Int.reduceLE, Int.reduceEq, e1, a]) (by simp; omega)
  obtain ⟨qs, q1, q2, q3⟩ := rel_strs (ss := out.take many) (by simpa using g3) g4
  have nd : (out.take many).Nodup := (h2.nodup_iff.mpr stems_nd).sublist (List.take_sublist _ _)
  obtain ⟨w1, w2⟩ := nm_nd nd ss q2
  refine ⟨st2, List.zipWith (· ++ ·) (out.take many) qs, ?_, ?_, w1, fun s hs => (w2 s hs).1, g2.to (by simp; omega)⟩
  · rw [← q3]
    have sl : gSl (.lst (out.map D.str)) none (some (many : Int)) = some (.own ((out.take many).map D.str)) := by
      show (some (Vl.own (cutD _ _ _))).or _ = _
      rw [cut_take _ _ (by simp; omega), List.map_take]
      rfl
    have lp := stem_loop st (.sh (.int many))
    have g1 : lcLoop (mName 5) xYes e__law_names_2 [5] ((out.take many).map D.str) [.drw st1, .sh (.int many), .sh (.lst (stems.map D.str)), .sh (.str ⟨#[122]⟩), .emp, .emp] [] = .ok (o2, [.drw st2, .sh (.int many), .sh (.lst (stems.map D.str)), .sh (.str ⟨#[122]⟩), .emp, .emp]) := g1
    unfold F__law_names m__law_names x__law_names_2
    simp only [runF, runB, sSeq, sIf, sAsg, sRet, sNext, sDrop, sRaise, xVar, xC, xOp, xCB, xUn, aCons, aNil, rdv, rdvs, rdS, rdO_some, rdO_none, R_bind_ok, R_bind_bad, R_bind_exc, xTest, xTru, xAnd, xOr, xNot, xIf, xAndV, xOrV, xNotV, xChain, blOf, truO, blR, mv, put, maskA1, maskA2, maskA3, List.mem_cons, List.not_mem_nil, true_or, or_true, or_false, false_or, Bool.and_self, isi_tt, isi_ss, lc_nil, gEq_int, gNe_int, gLt_int, gLe_int, gGt_int, gGe_int, gLen, gIx, gAdd_int, gSub_int, gAug_int, xCall, takeArgs, take1, giveBack, bkAdd, share, shares, xTup, xLst, sAug, shS, emps, mName, mTup, mgCons, mgNil, xLc, xISeq, xIZip, xIRng1_eq, xIRng2_eq, rngV_ints, rngU_ints, rng1C_ok, rng2C_ok, kindOf, xSl, oPart, oNone, intOf, itemsOf, back, at0, at1, xApp, xExt, xPopAt, ownS, sz_0, sz_1, sz_2, sz_3, sz_4, sz_5, sz_6, sz_7, sz_8, List.getElem?_cons_zero, List.getElem?_cons_succ, List.getElem?_nil, List.set_cons_zero, List.set_cons_succ, List.length_cons, List.length_nil, List.cons_append, List.nil_append, List.append_nil, List.replicate, Option.bind_some, Option.bind_none, Option.map_some, Option.map_none, Option.some_or, Option.none_or, Option.or_some, Option.or_none, Option.getD_some, Option.getD_none, if_true, if_false, Bool.false_eq_true, Bool.not_true, Bool.not_false, decide_true, decide_false, List.map_cons, List.map_nil, reduceIte, Nat.reduceAdd, Nat.reduceLT, Nat.reduceEqDiff, Nat.zero_add, Int.reduceSub, Int.reduceAdd, Int.reduceLT, Int.reduceLE, Int.reduceEq, sFor, lp, h1, sl, g1]
  · rw [List.length_zipWith, q1]
    simp
    omega
end K82
end
section
set_option maxRecDepth 100000
set_option maxHeartbeats 1000000
namespace K82
open PySem DL L2
def S1 : MS := (sAsg 3 (xCB gSorted (aCons (xCall [true, false] F__law_names (aCons (xVar 1) (aCons (xOp gAdd (xC (.int 1)) (xCall [true, false] F__law_take (aCons (xVar 1) (aCons (xC (.int 6)) aNil)))) aNil))) aNil)))
def S2 : MS := (sAsg 4 x_law_1)
def S3 : MS := (sSetI 4 (xC (.int 0)) (xCall [true, false] F__law_take (aCons (xVar 1) (aCons (xCB gLen (aCons (xVar 3) aNil)) aNil))))
def S4 : MS := (sAsg 5 (xTupZip (aCons (xVar 3) (aCons (xVar 4) aNil))))
def S5 : MS := (sAsg 6 (xIf (xTest (xOp (blR (gIn false)) (xC (.int 3)) (xVar 4))) (xC (.int 50)) (xC (.int 200))))
def S6 : MS := (sAsg 7 (xCall [false, false] F__law_counts (aCons (xVar 5) (aCons (xVar 6) aNil))))
def S7 : MS := (sAsg 8 (xLst (aCons (xVar 6) (aCons (xC (.int 1)) (aCons (xOp gAdd (xC (.int 1)) (xCall [true, false] F__law_take (aCons (xVar 1) (aCons (xVar 6) aNil)))) (aCons (xOp gAdd (xC (.int 1)) (xCall [true, false] F__law_take (aCons (xVar 1) (aCons (xVar 6) aNil)))) aNil))))))
def S8 : MS := (sIf (xTest (xOp (blR gNe) (xCB gRepr (aCons x_law_2 aNil)) (xCB gRepr (aCons x_law_3 aNil)))) (sRet (xC (.bl false))) sNext)
def S9 : MS := (sAsg 8 (xLst (aCons (xC (.int 1)) (aCons (xOp gAdd (xC (.int 1)) (xCall [true, false] F__law_take (aCons (xVar 1) (aCons (xCB gMin2 (aCons (xVar 6) (aCons (xC (.int 60)) aNil))) aNil)))) (aCons (xCB gMin2 (aCons (xVar 6) (aCons (xC (.int 60)) aNil))) aNil)))))
def S10 : MS := (sIf (xTest (xOp (blR gNe) (xCB gRepr (aCons x_law_4 aNil)) (xCB gRepr (aCons x_law_5 aNil)))) (sRet (xC (.bl false))) sNext)
def S11 : MS := (sAsg 9 (xCall [true, false] F__law_pick (aCons (xVar 1) (aCons (xLst (aCons (xC (.int 0)) (aCons (xC (.int 201)) (aCons (xUn gNeg (xC (.int 1))) (aCons (xC .non) (aCons (xC (.str "5")) (aCons (xC (.bl true)) aNil))))))) aNil))))
def S12 (TT : List (Addr × Str)) : MS := (sIf (xNot (xTru (xCaught TT 0 (isaOf "BadNumber") (xCall [false, false] F_count (aCons (xVar 5) (aCons (xVar 9) aNil)))))) (sRet (xC (.bl false))) sNext)
def S13 : MS := (sAsg 9 (xCall [true, false] F__law_pick (aCons (xVar 1) (aCons (xLst (aCons (xC (.int 0)) (aCons (xC (.int 61)) (aCons (xC (.int 200)) (aCons (xC .non) (aCons (xC (.str "5")) (aCons (xC (.bl true)) aNil))))))) aNil))))
def S14 (TT : List (Addr × Str)) : MS := (sIf (xNot (xTru (xCaught TT 0 (isaOf "BadNumber") (xCall [false, false] F_number_in (aCons (xCall [false] F__law_all_of (aCons (xVar 5) aNil)) (aCons (xVar 9) aNil)))))) (sRet (xC (.bl false))) sNext)
-- b_law_1 = (sSeq S1 (sSeq S2 (sSeq S3 (sSeq S4 (sSeq S5 (sSeq S6 (sSeq S7 (sSeq S8 (sSeq S9 (sSeq S10 (sSeq S11 (sSeq S12 TT (sSeq S13 (sSeq S14 TT
theorem b_law_eq (TT : List (Addr × Str)) : b_law_1 TT = (sSeq S1 (sSeq S2 (sSeq S3 (sSeq S4 (sSeq S5 (sSeq S6 (sSeq S7 (sSeq S8 (sSeq S9 (sSeq S10 (sSeq S11 (sSeq (S12 TT) (sSeq S13 (S14 TT)))))))))))))) := rfl
theorem seq_nx {a b : MS} {ρ ρ1 : DL.Env} (h : a ρ = .ok (.nx ρ1)) : sSeq a b ρ = b ρ1 := by
  unfold sSeq
  rw [h, R_bind_ok]
def Nm (ps : List Str) : Prop := ps.Pairwise (fun a b : Str => a.cps.toList < b.cps.toList) ∧ (∀ s ∈ ps, nameB s = true) ∧ 1 ≤ ps.length ∧ ps.length ≤ 6
theorem sort_nm {nm : List Str} (nd : nm.Nodup) (nb : ∀ s ∈ nm, nameB s = true) (h1 : 1 ≤ nm.length) (h6 : nm.length ≤ 6) : gSorted [.lst (nm.map D.str)] = some (.own ((sortS nm).map D.str)) ∧ Nm (sortS nm) := by
  have pm := sortS_perm nm
  refine ⟨?_, ?_, fun s hs => nb s (pm.mem_iff.mp hs), by rw [pm.length_eq]; exact h1, by rw [pm.length_eq]; exact h6⟩
  · have e : gSortedS [.lst (nm.map D.str)] = some (.own ((sortS nm).map D.str)) := by
      show (strsOf (nm.map D.str)).bind _ = _
      rw [strsOf_of]
      show (if nm.length < 64 then _ else _) = _
      rw [if_pos (by omega)]
    show (gSortedS _).or _ = _
    rw [e]
    rfl
  · have pw := sortS_pw nm
    have nd2 : (sortS nm).Nodup := pm.nodup_iff.mpr nd
    refine (List.Pairwise.and pw nd2).imp fun {a b} h => ?_
    have h1 : a.cps.toList ≤ b.cps.toList := by have := h.1; unfold leS at this; simpa using this
    by_cases h2 : b.cps.toList ≤ a.cps.toList
    · exact absurd (str_ext (List.le_antisymm h1 h2)) h.2
    · exact List.not_le.mp h2
theorem s1 {n : Nat} {st : Draw} (d : DOk n st) (hn : n ≤ 800000) (z s2 s3 s4 s5 s6 s7 s8 s9 : Sl) : ∃ (st' : Draw) (ps : List Str), Nm ps ∧ DOk (n + 101) st' ∧
    S1 [z, .drw st, s2, s3, s4, s5, s6, s7, s8, s9, .emp, .emp] = .ok (.nx [z, .drw st', s2, .own (ps.map D.str), s4, s5, s6, s7, s8, s9, .emp, .emp]) := by
  obtain ⟨st1, k, e1, hk, d1⟩ := take_ok (m := 6) d (by omega) (by omega) (by omega)
  obtain ⟨st2, nm, e2, l2, nd, nb, d2⟩ := names_ok (many := 1 + k) d1 (by omega) (by omega)
  obtain ⟨e3, q⟩ := sort_nm nd nb (by omega) (by omega)
  refine ⟨st2, sortS nm, q, d2.to (by omega), ?_⟩
  have e1 : F__law_take [.drw st, .sh (.int 6)] = .ok (.sh (.int (k : Nat)), [.drw st1, .sh (.int 6)]) := e1
  have ek : (1 : Int) + (k : Int) = ((1 + k : Nat) : Int) := by omega
  unfold S1
  simp only [runF, runB, sSeq, sIf, sAsg, sRet, sNext, sDrop, sRaise, xVar, xC, xOp, xCB, xUn, aCons, aNil, rdv, rdvs, rdS, rdO_some, rdO_none, R_bind_ok, R_bind_bad, R_bind_exc, xTest, xTru, xAnd, xOr, xNot, xIf, xAndV, xOrV, xNotV, xChain, blOf, truO, blR, mv, put, maskA1, maskA2, maskA3, List.mem_cons, List.not_mem_nil, true_or, or_true, or_false, false_or, Bool.and_self, isi_tt, isi_ss, lc_nil, gEq_int, gNe_int, gLt_int, gLe_int, gGt_int, gGe_int, gLen, gIx, gAdd_int, gSub_int, gAug_int, xCall, takeArgs, take1, giveBack, bkAdd, share, shares, xTup, xLst, sAug, shS, emps, mName, mTup, mgCons, mgNil, xLc, xISeq, xIZip, xIRng1_eq, xIRng2_eq, rngV_ints, rngU_ints, rng1C_ok, rng2C_ok, kindOf, xSl, oPart, oNone, intOf, itemsOf, back, at0, at1, xApp, xExt, xPopAt, ownS, sz_0, sz_1, sz_2, sz_3, sz_4, sz_5, sz_6, sz_7, sz_8, List.getElem?_cons_zero, List.getElem?_cons_succ, List.getElem?_nil, List.set_cons_zero, List.set_cons_succ, List.length_cons, List.length_nil, List.cons_append, List.nil_append, List.append_nil, List.replicate, Option.bind_some, Option.bind_none, Option.map_some, Option.map_none, Option.some_or, Option.none_or, Option.or_some, Option.or_none, Option.getD_some, Option.getD_none, if_true, if_false, Bool.false_eq_true, Bool.not_true, Bool.not_false, decide_true, decide_false, List.map_cons, List.map_nil, reduceIte, Nat.reduceAdd, Nat.reduceLT, Nat.reduceEqDiff, Nat.zero_add, Int.reduceSub, Int.reduceAdd, Int.reduceLT, Int.reduceLE, Int.reduceEq, e1, ek, e2, e3]
def Rk (d x : D) : Prop := ∃ r : Nat, r ≤ 3 ∧ x = .int r
theorem rel_rk : ∀ {out : List D}, (∀ x ∈ out, ∃ r : Nat, r ≤ 3 ∧ x = .int r) → ∃ rs : List Nat, (∀ r ∈ rs, r ≤ 3) ∧ out = rs.map fun r : Nat => D.int r
  | [], _ => ⟨[], fun _ z => (nomatch z), rfl⟩
  | x :: out, h => by
    obtain ⟨rs, h1, h2⟩ := rel_rk fun y hy => h y (List.mem_cons_of_mem _ hy)
    obtain ⟨r, h3, h4⟩ := h x (by simp)
    exact ⟨r :: rs, fun q hq => by
      rcases List.mem_cons.mp hq with e | hq
      · rw [e]; exact h3
      · exact h1 q hq, by rw [h4, h2]; rfl⟩
theorem s2 {n : Nat} {st : Draw} (d : DOk n st) (hn : n ≤ 800000) {ps : List Str} (q : Nm ps) (t : Int) (z s4 s5 s6 s7 s8 s9 : Sl) : ∃ (st' : Draw) (rs : List Nat), rs.length = ps.length ∧ (∀ r ∈ rs, r ≤ 3) ∧ DOk (n + 6) st' ∧
    S2 [z, .drw st, .sh (.int t), .own (ps.map D.str), s4, s5, s6, s7, s8, s9, .emp, .emp] = .ok (.nx [z, .drw st', .sh (.int t), .sh (.lst (ps.map D.str)), .own (rs.map fun r : Nat => D.int r), s5, s6, s7, s8, s9, .emp, .emp]) := by
  obtain ⟨out, st', h1, h2, h3, h4⟩ := lc_state (S := Draw) (mg := mName 10) (me := e_law_1) (vs := [10]) (ρs := fun st => [z, .drw st, .sh (.int t), .sh (.lst (ps.map D.str)), s4, s5, s6, s7, s8, s9, .emp, .emp]) (Inv := fun k st => DOk (n + k) st) (Ok := Rk) (ds := ps.map D.str) (acc := []) (n := 0) (s := st) d (fun x hx k st hk hk2 hI => by
      have h6 := q.2.2.2
      have hk3 : k < 6 := by simp at hk2; omega
      have go : ∀ w : Int, (w = 2 ∨ w = 3) → xIf (xTest (xOp (blR gEq) (xVar 2) (xC (.int 0)))) (xC (.int 3)) (xC (.int 2)) [z, .drw st, .sh (.int t), .sh (.lst (ps.map D.str)), s4, s5, s6, s7, s8, s9, .sh x, .emp] = .ok (.sh (.int w), [z, .drw st, .sh (.int t), .sh (.lst (ps.map D.str)), s4, s5, s6, s7, s8, s9, .sh x, .emp]) →
          ∃ ρ1 v ρ2 y p s', mName 10 x [z, .drw st, .sh (.int t), .sh (.lst (ps.map D.str)), s4, s5, s6, s7, s8, s9, .emp, .emp] = some ρ1 ∧ e_law_1 ρ1 = .ok (v, ρ2) ∧ share ρ2 v = some (y, p) ∧ emps p [10] = [z, .drw s', .sh (.int t), .sh (.lst (ps.map D.str)), s4, s5, s6, s7, s8, s9, .emp, .emp] ∧ DOk (n + (k + 1)) s' ∧ Rk x y := fun w hw hx => by
        obtain ⟨st3, y, e1, e2, e3⟩ := pick_ok hI (by omega) (L := [.int 0, .int 1, .int 1, .int 2, .int w]) (by simp) (by simp)
        have ey : ∃ r : Nat, r ≤ 3 ∧ y = .int r := by
          simp only [List.mem_cons, List.not_mem_nil, or_false] at e2
          rcases e2 with e | e | e | e | e
          · exact ⟨0, by omega, e⟩
          · exact ⟨1, by omega, e⟩
          · exact ⟨1, by omega, e⟩
          · exact ⟨2, by omega, e⟩
          · rcases hw with rfl | rfl
            · exact ⟨2, by omega, e⟩
            · exact ⟨3, by omega, e⟩
        refine ⟨[z, .drw st, .sh (.int t), .sh (.lst (ps.map D.str)), s4, s5, s6, s7, s8, s9, .sh x, .emp], .sh y, [z, .drw st3, .sh (.int t), .sh (.lst (ps.map D.str)), s4, s5, s6, s7, s8, s9, .sh x, .emp], y, _, st3, rfl, ?_, rfl, rfl, e3, ey⟩
        unfold e_law_1
        generalize xIf (xTest (xOp (blR gEq) (xVar 2) (xC (.int 0)))) (xC (.int 3)) (xC (.int 2)) = m at *
        simp only [runF, runB, sSeq, sIf, sAsg, sRet, sNext, sDrop, sRaise, xVar, xC, xOp, xCB, xUn, aCons, aNil, rdv, rdvs, rdS, rdO_some, rdO_none, R_bind_ok, R_bind_bad, R_bind_exc, xTest, xTru, xAnd, xOr, xNot, xIf, xAndV, xOrV, xNotV, xChain, blOf, truO, blR, mv, put, maskA1, maskA2, maskA3, List.mem_cons, List.not_mem_nil, true_or, or_true, or_false, false_or, Bool.and_self, isi_tt, isi_ss, lc_nil, gEq_int, gNe_int, gLt_int, gLe_int, gGt_int, gGe_int, gLen, gIx, gAdd_int, gSub_int, gAug_int, xCall, takeArgs, take1, giveBack, bkAdd, share, shares, xTup, xLst, sAug, shS, emps, mName, mTup, mgCons, mgNil, xLc, xISeq, xIZip, xIRng1_eq, xIRng2_eq, rngV_ints, rngU_ints, rng1C_ok, rng2C_ok, kindOf, xSl, oPart, oNone, intOf, itemsOf, back, at0, at1, xApp, xExt, xPopAt, ownS, sz_0, sz_1, sz_2, sz_3, sz_4, sz_5, sz_6, sz_7, sz_8, List.getElem?_cons_zero, List.getElem?_cons_succ, List.getElem?_nil, List.set_cons_zero, List.set_cons_succ, List.length_cons, List.length_nil, List.cons_append, List.nil_append, List.append_nil, List.replicate, Option.bind_some, Option.bind_none, Option.map_some, Option.map_none, Option.some_or, Option.none_or, Option.or_some, Option.or_none, Option.getD_some, Option.getD_none, if_true, if_false, Bool.false_eq_true, Bool.not_true, Bool.not_false, decide_true, decide_false, List.map_cons, List.map_nil, reduceIte, Nat.reduceAdd, Nat.reduceLT, Nat.reduceEqDiff, Nat.zero_add, Int.reduceSub, Int.reduceAdd, Int.reduceLT, Int.reduceLE, Int.reduceEq, e1, hx]
      by_cases z0 : t = 0
      · refine go 3 (.inr rfl) ?_
        have : decide (t = 0) = true := by simp [z0]
        simp only [runF, runB, sSeq, sIf, sAsg, sRet, sNext, sDrop, sRaise, xVar, xC, xOp, xCB, xUn, aCons, aNil, rdv, rdvs, rdS, rdO_some, rdO_none, R_bind_ok, R_bind_bad, R_bind_exc, xTest, xTru, xAnd, xOr, xNot, xIf, xAndV, xOrV, xNotV, xChain, blOf, truO, blR, mv, put, maskA1, maskA2, maskA3, List.mem_cons, List.not_mem_nil, true_or, or_true, or_false, false_or, Bool.and_self, isi_tt, isi_ss, lc_nil, gEq_int, gNe_int, gLt_int, gLe_int, gGt_int, gGe_int, gLen, gIx, gAdd_int, gSub_int, gAug_int, xCall, takeArgs, take1, giveBack, bkAdd, share, shares, xTup, xLst, sAug, shS, emps, mName, mTup, mgCons, mgNil, xLc, xISeq, xIZip, xIRng1_eq, xIRng2_eq, rngV_ints, rngU_ints, rng1C_ok, rng2C_ok, kindOf, xSl, oPart, oNone, intOf, itemsOf, back, at0, at1, xApp, xExt, xPopAt, ownS, sz_0, sz_1, sz_2, sz_3, sz_4, sz_5, sz_6, sz_7, sz_8, List.getElem?_cons_zero, List.getElem?_cons_succ, List.getElem?_nil, List.set_cons_zero, List.set_cons_succ, List.length_cons, List.length_nil, List.cons_append, List.nil_append, List.append_nil, List.replicate, Option.bind_some, Option.bind_none, Option.map_some, Option.map_none, Option.some_or, Option.none_or, Option.or_some, Option.or_none, Option.getD_some, Option.getD_none, if_true, if_false, Bool.false_eq_true, Bool.not_true, Bool.not_false, decide_true, decide_false, List.map_cons, List.map_nil, reduceIte, Nat.reduceAdd, Nat.reduceLT, Nat.reduceEqDiff, Nat.zero_add, Int.reduceSub, Int.reduceAdd, Int.reduceLT, Int.reduceLE, Int.reduceEq, this]
      · refine go 2 (.inl rfl) ?_
        have : decide (t = 0) = false := by simp [z0]
        simp only [runF, runB, sSeq, sIf, sAsg, sRet, sNext, sDrop, sRaise, xVar, xC, xOp, xCB, xUn, aCons, aNil, rdv, rdvs, rdS, rdO_some, rdO_none, R_bind_ok, R_bind_bad, R_bind_exc, xTest, xTru, xAnd, xOr, xNot, xIf, xAndV, xOrV, xNotV, xChain, blOf, truO, blR, mv, put, maskA1, maskA2, maskA3, List.mem_cons, List.not_mem_nil, true_or, or_true, or_false, false_or, Bool.and_self, isi_tt, isi_ss, lc_nil, gEq_int, gNe_int, gLt_int, gLe_int, gGt_int, gGe_int, gLen, gIx, gAdd_int, gSub_int, gAug_int, xCall, takeArgs, take1, giveBack, bkAdd, share, shares, xTup, xLst, sAug, shS, emps, mName, mTup, mgCons, mgNil, xLc, xISeq, xIZip, xIRng1_eq, xIRng2_eq, rngV_ints, rngU_ints, rng1C_ok, rng2C_ok, kindOf, xSl, oPart, oNone, intOf, itemsOf, back, at0, at1, xApp, xExt, xPopAt, ownS, sz_0, sz_1, sz_2, sz_3, sz_4, sz_5, sz_6, sz_7, sz_8, List.getElem?_cons_zero, List.getElem?_cons_succ, List.getElem?_nil, List.set_cons_zero, List.set_cons_succ, List.length_cons, List.length_nil, List.cons_append, List.nil_append, List.append_nil, List.replicate, Option.bind_some, Option.bind_none, Option.map_some, Option.map_none, Option.some_or, Option.none_or, Option.or_some, Option.or_none, Option.getD_some, Option.getD_none, if_true, if_false, Bool.false_eq_true, Bool.not_true, Bool.not_false, decide_true, decide_false, List.map_cons, List.map_nil, reduceIte, Nat.reduceAdd, Nat.reduceLT, Nat.reduceEqDiff, Nat.zero_add, Int.reduceSub, Int.reduceAdd, Int.reduceLT, Int.reduceLE, Int.reduceEq, this]) (by simp; have := q.2.2.2; omega)
  obtain ⟨rs, r1, r2⟩ := rel_rk (out := out) fun x hx => by
    obtain ⟨i, hi⟩ := List.mem_iff_getElem?.mp hx
    have hi2 : i < out.length := (List.getElem?_eq_some_iff.mp hi).1
    exact h4 i _ x (List.getElem?_eq_getElem (by rw [← h3]; exact hi2)) hi
  refine ⟨st', rs, ?_, r1, h2.to (by simp; have := q.2.2.2; omega), ?_⟩
  · rw [r2] at h3
    simpa using h3
  · rw [← r2]
    have h1 : lcLoop (mName 10) xYes e_law_1 [10] (ps.map D.str) [z, .drw st, .sh (.int t), .sh (.lst (ps.map D.str)), s4, s5, s6, s7, s8, s9, .emp, .emp] [] = .ok (out, [z, .drw st', .sh (.int t), .sh (.lst (ps.map D.str)), s4, s5, s6, s7, s8, s9, .emp, .emp]) := h1
    unfold S2 x_law_1
    simp only [runF, runB, sSeq, sIf, sAsg, sRet, sNext, sDrop, sRaise, xVar, xC, xOp, xCB, xUn, aCons, aNil, rdv, rdvs, rdS, rdO_some, rdO_none, R_bind_ok, R_bind_bad, R_bind_exc, xTest, xTru, xAnd, xOr, xNot, xIf, xAndV, xOrV, xNotV, xChain, blOf, truO, blR, mv, put, maskA1, maskA2, maskA3, List.mem_cons, List.not_mem_nil, true_or, or_true, or_false, false_or, Bool.and_self, isi_tt, isi_ss, lc_nil, gEq_int, gNe_int, gLt_int, gLe_int, gGt_int, gGe_int, gLen, gIx, gAdd_int, gSub_int, gAug_int, xCall, takeArgs, take1, giveBack, bkAdd, share, shares, xTup, xLst, sAug, shS, emps, mName, mTup, mgCons, mgNil, xLc, xISeq, xIZip, xIRng1_eq, xIRng2_eq, rngV_ints, rngU_ints, rng1C_ok, rng2C_ok, kindOf, xSl, oPart, oNone, intOf, itemsOf, back, at0, at1, xApp, xExt, xPopAt, ownS, sz_0, sz_1, sz_2, sz_3, sz_4, sz_5, sz_6, sz_7, sz_8, List.getElem?_cons_zero, List.getElem?_cons_succ, List.getElem?_nil, List.set_cons_zero, List.set_cons_succ, List.length_cons, List.length_nil, List.cons_append, List.nil_append, List.append_nil, List.replicate, Option.bind_some, Option.bind_none, Option.map_some, Option.map_none, Option.some_or, Option.none_or, Option.or_some, Option.or_none, Option.getD_some, Option.getD_none, if_true, if_false, Bool.false_eq_true, Bool.not_true, Bool.not_false, decide_true, decide_false, List.map_cons, List.map_nil, reduceIte, Nat.reduceAdd, Nat.reduceLT, Nat.reduceEqDiff, Nat.zero_add, Int.reduceSub, Int.reduceAdd, Int.reduceLT, Int.reduceLE, Int.reduceEq, h1]
theorem s3 {n : Nat} {st : Draw} (d : DOk n st) (hn : n ≤ 800000) {ps : List Str} (q : Nm ps) {rs : List Nat} (hl : rs.length = ps.length) (h3 : ∀ r ∈ rs, r ≤ 3) (t z s5 s6 s7 s8 s9 : Sl) : ∃ (st' : Draw) (rs' : List Nat), rs'.length = ps.length ∧ (∀ r ∈ rs', r ≤ 3) ∧ 0 ∈ rs' ∧ DOk (n + 1) st' ∧
    S3 [z, .drw st, t, .sh (.lst (ps.map D.str)), .own (rs.map fun r : Nat => D.int r), s5, s6, s7, s8, s9, .emp, .emp] = .ok (.nx [z, .drw st', t, .sh (.lst (ps.map D.str)), .own (rs'.map fun r : Nat => D.int r), s5, s6, s7, s8, s9, .emp, .emp]) := by
  obtain ⟨st1, k, e1, hk, d1⟩ := take_ok (m := ps.length) d (by omega) (by have := q.2.2.1; omega) (by have := q.2.2.2; omega)
  refine ⟨st1, rs.set k 0, by simp [hl], fun r hr => ?_, ?_, d1, ?_⟩
  · rcases List.mem_or_eq_of_mem_set hr with h | h
    · exact h3 r h
    · omega
  · exact List.mem_set (by omega : k < rs.length) 0
  · have ix : ixN rs.length (k : Int) = some k := by
      unfold ixN
      rw [if_pos (by omega), if_pos (by omega)]
      simp
    have es : (rs.map fun r : Nat => D.int r).set k (.int 0) = (rs.set k 0).map fun r : Nat => D.int r := by
      rw [List.map_set]
      rfl
    unfold S3
    simp only [runF, runB, sSeq, sIf, sAsg, sRet, sNext, sDrop, sRaise, xVar, xC, xOp, xCB, xUn, aCons, aNil, rdv, rdvs, rdS, rdO_some, rdO_none, R_bind_ok, R_bind_bad, R_bind_exc, xTest, xTru, xAnd, xOr, xNot, xIf, xAndV, xOrV, xNotV, xChain, blOf, truO, blR, mv, put, maskA1, maskA2, maskA3, List.mem_cons, List.not_mem_nil, true_or, or_true, or_false, false_or, Bool.and_self, isi_tt, isi_ss, lc_nil, gEq_int, gNe_int, gLt_int, gLe_int, gGt_int, gGe_int, gLen, gIx, gAdd_int, gSub_int, gAug_int, xCall, takeArgs, take1, giveBack, bkAdd, share, shares, xTup, xLst, sAug, shS, emps, mName, mTup, mgCons, mgNil, xLc, xISeq, xIZip, xIRng1_eq, xIRng2_eq, rngV_ints, rngU_ints, rng1C_ok, rng2C_ok, kindOf, xSl, oPart, oNone, intOf, itemsOf, back, at0, at1, xApp, xExt, xPopAt, ownS, sz_0, sz_1, sz_2, sz_3, sz_4, sz_5, sz_6, sz_7, sz_8, List.getElem?_cons_zero, List.getElem?_cons_succ, List.getElem?_nil, List.set_cons_zero, List.set_cons_succ, List.length_cons, List.length_nil, List.cons_append, List.nil_append, List.append_nil, List.replicate, Option.bind_some, Option.bind_none, Option.map_some, Option.map_none, Option.some_or, Option.none_or, Option.or_some, Option.or_none, Option.getD_some, Option.getD_none, if_true, if_false, Bool.false_eq_true, Bool.not_true, Bool.not_false, decide_true, decide_false, List.map_cons, List.map_nil, reduceIte, Nat.reduceAdd, Nat.reduceLT, Nat.reduceEqDiff, Nat.zero_add, Int.reduceSub, Int.reduceAdd, Int.reduceLT, Int.reduceLE, Int.reduceEq, sSetI, List.length_map, e1, ix, es]
def ksOf (ps : List Str) (rs : List Nat) : Ks := ps.zip rs
theorem zipD_ks : ∀ (ps : List Str) (rs : List Nat), zipD (ps.map D.str) (rs.map fun r : Nat => D.int r) = kD (ksOf ps rs)
  | [], rs => by simp [zipD, ksOf, kD]
  | _ :: _, [] => by simp [zipD, ksOf, kD]
  | p :: ps, r :: rs => by
    have ih := zipD_ks ps rs
    show D.tup [.str p, .int r] :: zipD (ps.map D.str) (rs.map fun r : Nat => D.int r) = _
    rw [ih]
    rfl
theorem zip_pw : ∀ {ps : List Str} {rs : List Nat}, ps.Pairwise (fun a b : Str => a.cps.toList < b.cps.toList) → (ps.zip rs).Pairwise fun p q : Str × Nat => p.1.cps.toList < q.1.cps.toList
  | [], rs, _ => by simp
  | _ :: _, [], _ => by simp
  | p :: ps, r :: rs, h => by
    rw [List.zip_cons_cons]
    cases h with
    | cons h1 h2 => exact .cons (fun x hx => h1 _ (List.of_mem_zip hx).1) (zip_pw h2)
theorem zip_has : ∀ {ps : List Str} {rs : List Nat} {r : Nat}, rs.length = ps.length → r ∈ rs → ∃ p ∈ ps.zip rs, p.2 = r
  | [], [], r, _, h => (nomatch h)
  | [], _ :: _, r, e, _ => by simp at e
  | _ :: _, [], r, e, _ => by simp at e
  | p :: ps, q :: rs, r, e, h => by
    rcases List.mem_cons.mp h with h | h
    · exact ⟨(p, q), by simp, h.symm⟩
    · obtain ⟨x, h1, h2⟩ := zip_has (ps := ps) (rs := rs) (r := r) (by simpa using e) h
      exact ⟨x, by rw [List.zip_cons_cons]; exact List.mem_cons_of_mem _ h1, h2⟩
theorem good_of {ps : List Str} (q : Nm ps) {rs : List Nat} (hl : rs.length = ps.length) (h3 : ∀ r ∈ rs, r ≤ 3) (h0 : 0 ∈ rs) : Good (ksOf ps rs) where
  pos := by unfold ksOf; rw [List.length_zip]; have := q.2.2.1; omega
  six := by unfold ksOf; rw [List.length_zip]; have := q.2.2.2; omega
  nm := fun p hp => q.2.1 _ (List.of_mem_zip (a := p.1) (b := p.2) hp).1
  rk := fun p hp => h3 _ (List.of_mem_zip (a := p.1) (b := p.2) hp).2
  srt := zip_pw q.1
  zero := zip_has hl h0
theorem s4 {ps : List Str} (q : Nm ps) {rs : List Nat} (hl : rs.length = ps.length) (z dr t s5 s6 s7 s8 s9 : Sl) :
    S4 [z, dr, t, .sh (.lst (ps.map D.str)), .own (rs.map fun r : Nat => D.int r), s5, s6, s7, s8, s9, .emp, .emp] = .ok (.nx [z, dr, t, .sh (.lst (ps.map D.str)), .sh (.lst (rs.map fun r : Nat => D.int r)), .sh (.tup (kD (ksOf ps rs))), s6, s7, s8, s9, .emp, .emp]) := by
  have e := zipD_ks ps rs
  have hz : szOk ps.length = true := by unfold szOk; simp; have := q.2.2.2; omega
  unfold S4
  simp only [runF, runB, sSeq, sIf, sAsg, sRet, sNext, sDrop, sRaise, xVar, xC, xOp, xCB, xUn, aCons, aNil, rdv, rdvs, rdS, rdO_some, rdO_none, R_bind_ok, R_bind_bad, R_bind_exc, xTest, xTru, xAnd, xOr, xNot, xIf, xAndV, xOrV, xNotV, xChain, blOf, truO, blR, mv, put, maskA1, maskA2, maskA3, List.mem_cons, List.not_mem_nil, true_or, or_true, or_false, false_or, Bool.and_self, isi_tt, isi_ss, lc_nil, gEq_int, gNe_int, gLt_int, gLe_int, gGt_int, gGe_int, gLen, gIx, gAdd_int, gSub_int, gAug_int, xCall, takeArgs, take1, giveBack, bkAdd, share, shares, xTup, xLst, sAug, shS, emps, mName, mTup, mgCons, mgNil, xLc, xISeq, xIZip, xIRng1_eq, xIRng2_eq, rngV_ints, rngU_ints, rng1C_ok, rng2C_ok, kindOf, xSl, oPart, oNone, intOf, itemsOf, back, at0, at1, xApp, xExt, xPopAt, ownS, sz_0, sz_1, sz_2, sz_3, sz_4, sz_5, sz_6, sz_7, sz_8, List.getElem?_cons_zero, List.getElem?_cons_succ, List.getElem?_nil, List.set_cons_zero, List.set_cons_succ, List.length_cons, List.length_nil, List.cons_append, List.nil_append, List.append_nil, List.replicate, Option.bind_some, Option.bind_none, Option.map_some, Option.map_none, Option.some_or, Option.none_or, Option.or_some, Option.or_none, Option.getD_some, Option.getD_none, if_true, if_false, Bool.false_eq_true, Bool.not_true, Bool.not_false, decide_true, decide_false, List.map_cons, List.map_nil, reduceIte, Nat.reduceAdd, Nat.reduceLT, Nat.reduceEqDiff, Nat.zero_add, Int.reduceSub, Int.reduceAdd, Int.reduceLT, Int.reduceLE, Int.reduceEq, xTupZip, List.length_map, e, hz]
def mostOf (rs : List Nat) : Nat := if 3 ∈ rs then 50 else 200
theorem in3 (rs : List Nat) : gIn false (.int 3) (.lst (rs.map fun r : Nat => D.int r)) = some (decide (3 ∈ rs)) := by
  have h1 : (rs.map fun r : Nat => D.int r).all flatD = true := by simp [flatD]
  have h2 : ((rs.map fun r : Nat => D.int r).any fun y => eqF y (.int 3)) = decide (3 ∈ rs) := by
    rw [Bool.eq_iff_iff]
    simp only [List.any_map, List.any_eq_true, Function.comp, decide_eq_true_eq, eqF]
    constructor
    · rintro ⟨r, hr, h⟩
      have : (r : Int) = 3 := by simpa using h
      have : r = 3 := by omega
      rw [← this]
      exact hr
    · intro h
      exact ⟨3, h, by simp⟩
  have h3 : itemsFlat (.lst (rs.map fun r : Nat => D.int r)) = some (rs.map fun r : Nat => D.int r) := if_pos h1
  have h4 : gIn false (.int 3) (.lst (rs.map fun r : Nat => D.int r)) = (itemsFlat (.lst (rs.map fun r : Nat => D.int r))).map fun l => l.any fun y => eqF y (.int 3) := rfl
  rw [h4, h3]
  exact congrArg some h2
theorem s5 (ps kk z dr t : Sl) (rs : List Nat) (s6 s7 s8 s9 : Sl) :
    S5 [z, dr, t, ps, .sh (.lst (rs.map fun r : Nat => D.int r)), kk, s6, s7, s8, s9, .emp, .emp] = .ok (.nx [z, dr, t, ps, .sh (.lst (rs.map fun r : Nat => D.int r)), kk, .sh (.int (mostOf rs)), s7, s8, s9, .emp, .emp]) := by
  have e := in3 rs
  unfold S5 mostOf
  by_cases h : 3 ∈ rs
  · have d : decide (3 ∈ rs) = true := by simp [h]
    rw [d] at e
    rw [if_pos h]
    simp only [runF, runB, sSeq, sIf, sAsg, sRet, sNext, sDrop, sRaise, xVar, xC, xOp, xCB, xUn, aCons, aNil, rdv, rdvs, rdS, rdO_some, rdO_none, R_bind_ok, R_bind_bad, R_bind_exc, xTest, xTru, xAnd, xOr, xNot, xIf, xAndV, xOrV, xNotV, xChain, blOf, truO, blR, mv, put, maskA1, maskA2, maskA3, List.mem_cons, List.not_mem_nil, true_or, or_true, or_false, false_or, Bool.and_self, isi_tt, isi_ss, lc_nil, gEq_int, gNe_int, gLt_int, gLe_int, gGt_int, gGe_int, gLen, gIx, gAdd_int, gSub_int, gAug_int, xCall, takeArgs, take1, giveBack, bkAdd, share, shares, xTup, xLst, sAug, shS, emps, mName, mTup, mgCons, mgNil, xLc, xISeq, xIZip, xIRng1_eq, xIRng2_eq, rngV_ints, rngU_ints, rng1C_ok, rng2C_ok, kindOf, xSl, oPart, oNone, intOf, itemsOf, back, at0, at1, xApp, xExt, xPopAt, ownS, sz_0, sz_1, sz_2, sz_3, sz_4, sz_5, sz_6, sz_7, sz_8, List.getElem?_cons_zero, List.getElem?_cons_succ, List.getElem?_nil, List.set_cons_zero, List.set_cons_succ, List.length_cons, List.length_nil, List.cons_append, List.nil_append, List.append_nil, List.replicate, Option.bind_some, Option.bind_none, Option.map_some, Option.map_none, Option.some_or, Option.none_or, Option.or_some, Option.or_none, Option.getD_some, Option.getD_none, if_true, if_false, Bool.false_eq_true, Bool.not_true, Bool.not_false, decide_true, decide_false, List.map_cons, List.map_nil, reduceIte, Nat.reduceAdd, Nat.reduceLT, Nat.reduceEqDiff, Nat.zero_add, Int.reduceSub, Int.reduceAdd, Int.reduceLT, Int.reduceLE, Int.reduceEq, e]
    rfl
  · have d : decide (3 ∈ rs) = false := by simp [h]
    rw [d] at e
    rw [if_neg h]
    simp only [runF, runB, sSeq, sIf, sAsg, sRet, sNext, sDrop, sRaise, xVar, xC, xOp, xCB, xUn, aCons, aNil, rdv, rdvs, rdS, rdO_some, rdO_none, R_bind_ok, R_bind_bad, R_bind_exc, xTest, xTru, xAnd, xOr, xNot, xIf, xAndV, xOrV, xNotV, xChain, blOf, truO, blR, mv, put, maskA1, maskA2, maskA3, List.mem_cons, List.not_mem_nil, true_or, or_true, or_false, false_or, Bool.and_self, isi_tt, isi_ss, lc_nil, gEq_int, gNe_int, gLt_int, gLe_int, gGt_int, gGe_int, gLen, gIx, gAdd_int, gSub_int, gAug_int, xCall, takeArgs, take1, giveBack, bkAdd, share, shares, xTup, xLst, sAug, shS, emps, mName, mTup, mgCons, mgNil, xLc, xISeq, xIZip, xIRng1_eq, xIRng2_eq, rngV_ints, rngU_ints, rng1C_ok, rng2C_ok, kindOf, xSl, oPart, oNone, intOf, itemsOf, back, at0, at1, xApp, xExt, xPopAt, ownS, sz_0, sz_1, sz_2, sz_3, sz_4, sz_5, sz_6, sz_7, sz_8, List.getElem?_cons_zero, List.getElem?_cons_succ, List.getElem?_nil, List.set_cons_zero, List.set_cons_succ, List.length_cons, List.length_nil, List.cons_append, List.nil_append, List.append_nil, List.replicate, Option.bind_some, Option.bind_none, Option.map_some, Option.map_none, Option.some_or, Option.none_or, Option.or_some, Option.or_none, Option.getD_some, Option.getD_none, if_true, if_false, Bool.false_eq_true, Bool.not_true, Bool.not_false, decide_true, decide_false, List.map_cons, List.map_nil, reduceIte, Nat.reduceAdd, Nat.reduceLT, Nat.reduceEqDiff, Nat.zero_add, Int.reduceSub, Int.reduceAdd, Int.reduceLT, Int.reduceLE, Int.reduceEq, e]
    rfl
theorem most_le (rs : List Nat) : 50 ≤ mostOf rs ∧ mostOf rs ≤ 200 := by unfold mostOf; split <;> omega
theorem bd_of {ps : List Str} {rs : List Nat} (h3 : ∀ r ∈ rs, r ≤ 3) : Bd (ksOf ps rs) (mostOf rs) where
  m := (most_le rs).2
  r := fun p hp => h3 _ (List.of_mem_zip (a := p.1) (b := p.2) hp).2
  r3 := fun ⟨p, hp, e⟩ => by
    have := (List.of_mem_zip (a := p.1) (b := p.2) hp).2
    rw [e] at this
    unfold mostOf
    rw [if_pos this]
    omega
theorem s6 {ks : Ks} (g : Good ks) {M : Nat} (b : Bd ks M) (z dr t s3 s4 s7 s8 s9 : Sl) :
    S6 [z, dr, t, s3, s4, .sh (.tup (kD ks)), .sh (.int M), s7, s8, s9, .emp, .emp] = .ok (.nx [z, dr, t, s3, s4, .sh (.tup (kD ks)), .sh (.int M), .own (cD (cK ks) (M + 1)), s8, s9, .emp, .emp]) := by
  obtain ⟨l, e⟩ := lw_ok g (Sm_of b g.six) (by have := b.m; omega)
  unfold S6
  simp only [runF, runB, sSeq, sIf, sAsg, sRet, sNext, sDrop, sRaise, xVar, xC, xOp, xCB, xUn, aCons, aNil, rdv, rdvs, rdS, rdO_some, rdO_none, R_bind_ok, R_bind_bad, R_bind_exc, xTest, xTru, xAnd, xOr, xNot, xIf, xAndV, xOrV, xNotV, xChain, blOf, truO, blR, mv, put, maskA1, maskA2, maskA3, List.mem_cons, List.not_mem_nil, true_or, or_true, or_false, false_or, Bool.and_self, isi_tt, isi_ss, lc_nil, gEq_int, gNe_int, gLt_int, gLe_int, gGt_int, gGe_int, gLen, gIx, gAdd_int, gSub_int, gAug_int, xCall, takeArgs, take1, giveBack, bkAdd, share, shares, xTup, xLst, sAug, shS, emps, mName, mTup, mgCons, mgNil, xLc, xISeq, xIZip, xIRng1_eq, xIRng2_eq, rngV_ints, rngU_ints, rng1C_ok, rng2C_ok, kindOf, xSl, oPart, oNone, intOf, itemsOf, back, at0, at1, xApp, xExt, xPopAt, ownS, sz_0, sz_1, sz_2, sz_3, sz_4, sz_5, sz_6, sz_7, sz_8, List.getElem?_cons_zero, List.getElem?_cons_succ, List.getElem?_nil, List.set_cons_zero, List.set_cons_succ, List.length_cons, List.length_nil, List.cons_append, List.nil_append, List.append_nil, List.replicate, Option.bind_some, Option.bind_none, Option.map_some, Option.map_none, Option.some_or, Option.none_or, Option.or_some, Option.or_none, Option.getD_some, Option.getD_none, if_true, if_false, Bool.false_eq_true, Bool.not_true, Bool.not_false, decide_true, decide_false, List.map_cons, List.map_nil, reduceIte, Nat.reduceAdd, Nat.reduceLT, Nat.reduceEqDiff, Nat.zero_add, Int.reduceSub, Int.reduceAdd, Int.reduceLT, Int.reduceLE, Int.reduceEq, e]
theorem s7 {n M : Nat} {st : Draw} (d : DOk n st) (hn : n ≤ 800000) (h0 : 0 < M) (hM : M ≤ 200) (z t s3 s4 s5 s7 s8 s9 : Sl) : ∃ (st' : Draw) (a b : Nat), a < M ∧ b < M ∧ DOk (n + 2) st' ∧
    S7 [z, .drw st, t, s3, s4, s5, .sh (.int M), s7, s8, s9, .emp, .emp] = .ok (.nx [z, .drw st', t, s3, s4, s5, .sh (.int M), s7, .own (([M, 1, 1 + a, 1 + b] : List Nat).map fun r : Nat => D.int r), s9, .emp, .emp]) := by
  obtain ⟨st1, a, e1, ha, d1⟩ := take_ok (m := M) d (by omega) h0 (by omega)
  obtain ⟨st2, b, e2, hb, d2⟩ := take_ok (m := M) d1 (by omega) h0 (by omega)
  refine ⟨st2, a, b, ha, hb, d2, ?_⟩
  have x1 : ((1 + a : Nat) : Int) = 1 + (a : Int) := by omega
  have x2 : ((1 + b : Nat) : Int) = 1 + (b : Int) := by omega
  have x3 : ((1 : Nat) : Int) = 1 := rfl
  unfold S7
  simp only [runF, runB, sSeq, sIf, sAsg, sRet, sNext, sDrop, sRaise, xVar, xC, xOp, xCB, xUn, aCons, aNil, rdv, rdvs, rdS, rdO_some, rdO_none, R_bind_ok, R_bind_bad, R_bind_exc, xTest, xTru, xAnd, xOr, xNot, xIf, xAndV, xOrV, xNotV, xChain, blOf, truO, blR, mv, put, maskA1, maskA2, maskA3, List.mem_cons, List.not_mem_nil, true_or, or_true, or_false, false_or, Bool.and_self, isi_tt, isi_ss, lc_nil, gEq_int, gNe_int, gLt_int, gLe_int, gGt_int, gGe_int, gLen, gIx, gAdd_int, gSub_int, gAug_int, xCall, takeArgs, take1, giveBack, bkAdd, share, shares, xTup, xLst, sAug, shS, emps, mName, mTup, mgCons, mgNil, xLc, xISeq, xIZip, xIRng1_eq, xIRng2_eq, rngV_ints, rngU_ints, rng1C_ok, rng2C_ok, kindOf, xSl, oPart, oNone, intOf, itemsOf, back, at0, at1, xApp, xExt, xPopAt, ownS, sz_0, sz_1, sz_2, sz_3, sz_4, sz_5, sz_6, sz_7, sz_8, List.getElem?_cons_zero, List.getElem?_cons_succ, List.getElem?_nil, List.set_cons_zero, List.set_cons_succ, List.length_cons, List.length_nil, List.cons_append, List.nil_append, List.append_nil, List.replicate, Option.bind_some, Option.bind_none, Option.map_some, Option.map_none, Option.some_or, Option.none_or, Option.or_some, Option.or_none, Option.getD_some, Option.getD_none, if_true, if_false, Bool.false_eq_true, Bool.not_true, Bool.not_false, decide_true, decide_false, List.map_cons, List.map_nil, reduceIte, Nat.reduceAdd, Nat.reduceLT, Nat.reduceEqDiff, Nat.zero_add, Int.reduceSub, Int.reduceAdd, Int.reduceLT, Int.reduceLE, Int.reduceEq, e1, e2, x1, x2, x3]
theorem gNe_str (s : Str) : gNe (.str s) (.str s) = some false := by simp [gNe, eqS]
theorem log_tiny {x : Nat} (h : x < 2 ^ 1600) : ((x : Nat) : Int).natAbs.log2 < 1920 := by
  rw [Int.natAbs_natCast]
  by_cases z : x = 0
  · rw [z]; decide
  · have := (Nat.log2_lt z).mpr h
    omega
theorem s8 {ks : Ks} (g : Good ks) {M : Nat} (b : Bd ks M) {sz : List Nat} (hs : ∀ s ∈ sz, 1 ≤ s ∧ s ≤ M) (hl : sz.length ≤ 100) (z dr t s3 s4 s6 s9 : Sl) :
    S8 [z, dr, t, s3, s4, .sh (.tup (kD ks)), s6, .own (cD (cK ks) (M + 1)), .own (sz.map fun r : Nat => D.int r), s9, .emp, .emp] = .ok (.nx [z, dr, t, s3, s4, .sh (.tup (kD ks)), s6, .own (cD (cK ks) (M + 1)), .sh (.lst (sz.map fun r : Nat => D.int r)), s9, .emp, .emp]) := by
  have l2 : lcLoop (mName 11) xYes e_law_2 [11] (sz.map fun r : Nat => D.int r) [z, dr, t, s3, s4, .sh (.tup (kD ks)), s6, .own (cD (cK ks) (M + 1)), .sh (.lst (sz.map fun r : Nat => D.int r)), s9, .emp, .emp] [] = .ok ((sz.map fun s => ((cK ks s : Nat) : Int)).map D.int, [z, dr, t, s3, s4, .sh (.tup (kD ks)), s6, .own (cD (cK ks) (M + 1)), .sh (.lst (sz.map fun r : Nat => D.int r)), s9, .emp, .emp]) := by
    rw [lc_pure (f := fun d => match d with | .int k => .int ((cK ks k.toNat : Nat) : Int) | _ => .non) (fun d hd => ?_) (by simp; omega)]
    · simp
    · obtain ⟨s, hs', rfl⟩ := List.mem_map.mp hd
      obtain ⟨l, e⟩ := count_ok g (Sm_of b g.six |>.to (m := s + 1) (by have := (hs s hs').2; omega)) (hs s hs').1 (by have := b.m; have := (hs s hs').2; omega)
      refine ⟨[z, dr, t, s3, s4, .sh (.tup (kD ks)), s6, .own (cD (cK ks) (M + 1)), .sh (.lst (sz.map fun r : Nat => D.int r)), s9, .emp, .sh (.int s)], .sh (.int (cK ks s)), [z, dr, t, s3, s4, .sh (.tup (kD ks)), s6, .own (cD (cK ks) (M + 1)), .sh (.lst (sz.map fun r : Nat => D.int r)), s9, .emp, .sh (.int s)], _, rfl, ?_, rfl, rfl⟩
      unfold e_law_2
      simp only [runF, runB, sSeq, sIf, sAsg, sRet, sNext, sDrop, sRaise, xVar, xC, xOp, xCB, xUn, aCons, aNil, rdv, rdvs, rdS, rdO_some, rdO_none, R_bind_ok, R_bind_bad, R_bind_exc, xTest, xTru, xAnd, xOr, xNot, xIf, xAndV, xOrV, xNotV, xChain, blOf, truO, blR, mv, put, maskA1, maskA2, maskA3, List.mem_cons, List.not_mem_nil, true_or, or_true, or_false, false_or, Bool.and_self, isi_tt, isi_ss, lc_nil, gEq_int, gNe_int, gLt_int, gLe_int, gGt_int, gGe_int, gLen, gIx, gAdd_int, gSub_int, gAug_int, xCall, takeArgs, take1, giveBack, bkAdd, share, shares, xTup, xLst, sAug, shS, emps, mName, mTup, mgCons, mgNil, xLc, xISeq, xIZip, xIRng1_eq, xIRng2_eq, rngV_ints, rngU_ints, rng1C_ok, rng2C_ok, kindOf, xSl, oPart, oNone, intOf, itemsOf, back, at0, at1, xApp, xExt, xPopAt, ownS, sz_0, sz_1, sz_2, sz_3, sz_4, sz_5, sz_6, sz_7, sz_8, List.getElem?_cons_zero, List.getElem?_cons_succ, List.getElem?_nil, List.set_cons_zero, List.set_cons_succ, List.length_cons, List.length_nil, List.cons_append, List.nil_append, List.append_nil, List.replicate, Option.bind_some, Option.bind_none, Option.map_some, Option.map_none, Option.some_or, Option.none_or, Option.or_some, Option.or_none, Option.getD_some, Option.getD_none, if_true, if_false, Bool.false_eq_true, Bool.not_true, Bool.not_false, decide_true, decide_false, List.map_cons, List.map_nil, reduceIte, Nat.reduceAdd, Nat.reduceLT, Nat.reduceEqDiff, Nat.zero_add, Int.reduceSub, Int.reduceAdd, Int.reduceLT, Int.reduceLE, Int.reduceEq, xCallK, permL, shF, e, List.filterMap_cons, List.filterMap_nil, and_self]
  have l3 : lcLoop (mName 11) xYes e_law_3 [11] (sz.map fun r : Nat => D.int r) [z, dr, t, s3, s4, .sh (.tup (kD ks)), s6, .own (cD (cK ks) (M + 1)), .sh (.lst (sz.map fun r : Nat => D.int r)), s9, .emp, .emp] [] = .ok ((sz.map fun s => ((cK ks s : Nat) : Int)).map D.int, [z, dr, t, s3, s4, .sh (.tup (kD ks)), s6, .own (cD (cK ks) (M + 1)), .sh (.lst (sz.map fun r : Nat => D.int r)), s9, .emp, .emp]) := by
    rw [lc_pure (f := fun d => match d with | .int k => .int ((cK ks k.toNat : Nat) : Int) | _ => .non) (fun d hd => ?_) (by simp; omega)]
    · simp
    · obtain ⟨s, hs', rfl⟩ := List.mem_map.mp hd
      have e := cD_at (c := cK ks) (n := M + 1) (i := s) (by have := (hs s hs').2; omega)
      refine ⟨[z, dr, t, s3, s4, .sh (.tup (kD ks)), s6, .own (cD (cK ks) (M + 1)), .sh (.lst (sz.map fun r : Nat => D.int r)), s9, .emp, .sh (.int s)], .sh (.int (cK ks s)), [z, dr, t, s3, s4, .sh (.tup (kD ks)), s6, .own (cD (cK ks) (M + 1)), .sh (.lst (sz.map fun r : Nat => D.int r)), s9, .emp, .sh (.int s)], _, rfl, ?_, rfl, rfl⟩
      unfold e_law_3
      simp only [runF, runB, sSeq, sIf, sAsg, sRet, sNext, sDrop, sRaise, xVar, xC, xOp, xCB, xUn, aCons, aNil, rdv, rdvs, rdS, rdO_some, rdO_none, R_bind_ok, R_bind_bad, R_bind_exc, xTest, xTru, xAnd, xOr, xNot, xIf, xAndV, xOrV, xNotV, xChain, blOf, truO, blR, mv, put, maskA1, maskA2, maskA3, List.mem_cons, List.not_mem_nil, true_or, or_true, or_false, false_or, Bool.and_self, isi_tt, isi_ss, lc_nil, gEq_int, gNe_int, gLt_int, gLe_int, gGt_int, gGe_int, gLen, gIx, gAdd_int, gSub_int, gAug_int, xCall, takeArgs, take1, giveBack, bkAdd, share, shares, xTup, xLst, sAug, shS, emps, mName, mTup, mgCons, mgNil, xLc, xISeq, xIZip, xIRng1_eq, xIRng2_eq, rngV_ints, rngU_ints, rng1C_ok, rng2C_ok, kindOf, xSl, oPart, oNone, intOf, itemsOf, back, at0, at1, xApp, xExt, xPopAt, ownS, sz_0, sz_1, sz_2, sz_3, sz_4, sz_5, sz_6, sz_7, sz_8, List.getElem?_cons_zero, List.getElem?_cons_succ, List.getElem?_nil, List.set_cons_zero, List.set_cons_succ, List.length_cons, List.length_nil, List.cons_append, List.nil_append, List.append_nil, List.replicate, Option.bind_some, Option.bind_none, Option.map_some, Option.map_none, Option.some_or, Option.none_or, Option.or_some, Option.or_none, Option.getD_some, Option.getD_none, if_true, if_false, Bool.false_eq_true, Bool.not_true, Bool.not_false, decide_true, decide_false, List.map_cons, List.map_nil, reduceIte, Nat.reduceAdd, Nat.reduceLT, Nat.reduceEqDiff, Nat.zero_add, Int.reduceSub, Int.reduceAdd, Int.reduceLT, Int.reduceLE, Int.reduceEq, e]
  obtain ⟨s, e⟩ := repr_ints (ns := sz.map fun s => ((cK ks s : Nat) : Int)) (fun x hx => by
    obtain ⟨s, hs', rfl⟩ := List.mem_map.mp hx
    exact log_tiny (cK_tiny b g.six (hs s hs').2)) (by simp; omega)
  have en := gNe_str s
  unfold S8 x_law_2 x_law_3
  simp only [runF, runB, sSeq, sIf, sAsg, sRet, sNext, sDrop, sRaise, xVar, xC, xOp, xCB, xUn, aCons, aNil, rdv, rdvs, rdS, rdO_some, rdO_none, R_bind_ok, R_bind_bad, R_bind_exc, xTest, xTru, xAnd, xOr, xNot, xIf, xAndV, xOrV, xNotV, xChain, blOf, truO, blR, mv, put, maskA1, maskA2, maskA3, List.mem_cons, List.not_mem_nil, true_or, or_true, or_false, false_or, Bool.and_self, isi_tt, isi_ss, lc_nil, gEq_int, gNe_int, gLt_int, gLe_int, gGt_int, gGe_int, gLen, gIx, gAdd_int, gSub_int, gAug_int, xCall, takeArgs, take1, giveBack, bkAdd, share, shares, xTup, xLst, sAug, shS, emps, mName, mTup, mgCons, mgNil, xLc, xISeq, xIZip, xIRng1_eq, xIRng2_eq, rngV_ints, rngU_ints, rng1C_ok, rng2C_ok, kindOf, xSl, oPart, oNone, intOf, itemsOf, back, at0, at1, xApp, xExt, xPopAt, ownS, sz_0, sz_1, sz_2, sz_3, sz_4, sz_5, sz_6, sz_7, sz_8, List.getElem?_cons_zero, List.getElem?_cons_succ, List.getElem?_nil, List.set_cons_zero, List.set_cons_succ, List.length_cons, List.length_nil, List.cons_append, List.nil_append, List.append_nil, List.replicate, Option.bind_some, Option.bind_none, Option.map_some, Option.map_none, Option.some_or, Option.none_or, Option.or_some, Option.or_none, Option.getD_some, Option.getD_none, if_true, if_false, Bool.false_eq_true, Bool.not_true, Bool.not_false, decide_true, decide_false, List.map_cons, List.map_nil, reduceIte, Nat.reduceAdd, Nat.reduceLT, Nat.reduceEqDiff, Nat.zero_add, Int.reduceSub, Int.reduceAdd, Int.reduceLT, Int.reduceLE, Int.reduceEq, l2, l3, e, en]
end K82
end
section
set_option maxRecDepth 100000
set_option maxHeartbeats 1000000
namespace K82
open PySem DL L2
def m60 (M : Nat) : Nat := if 60 < M then 60 else M
theorem min60 (M : Nat) : gMin2 [.int M, .int 60] = some (.sh (.int (m60 M))) := by
  show some (Vl.sh (.int (if (60 : Int) < (M : Int) then (60 : Int) else (M : Int)))) = _
  unfold m60
  by_cases h : 60 < M
  · rw [if_pos h, if_pos (by omega)]
    rfl
  · rw [if_neg h, if_neg (by omega)]
theorem s9 {n M : Nat} {st : Draw} (d : DOk n st) (hn : n ≤ 800000) (h0 : 0 < M) (z t s3 s4 s5 s7 s8 s9 : Sl) : ∃ (st' : Draw) (a : Nat), a < m60 M ∧ DOk (n + 1) st' ∧
    S9 [z, .drw st, t, s3, s4, s5, .sh (.int M), s7, s8, s9, .emp, .emp] = .ok (.nx [z, .drw st', t, s3, s4, s5, .sh (.int M), s7, .own (([1, 1 + a, m60 M] : List Nat).map fun r : Nat => D.int r), s9, .emp, .emp]) := by
  have mp : 0 < m60 M := by unfold m60; split <;> omega
  have ml : m60 M ≤ 60 := by unfold m60; split <;> omega
  obtain ⟨st1, a, e1, ha, d1⟩ := take_ok (m := m60 M) d (by omega) mp (by omega)
  refine ⟨st1, a, ha, d1, ?_⟩
  have e := min60 M
  have x1 : ((1 + a : Nat) : Int) = 1 + (a : Int) := by omega
  have x3 : ((1 : Nat) : Int) = 1 := rfl
  unfold S9
  simp only [runF, runB, sSeq, sIf, sAsg, sRet, sNext, sDrop, sRaise, xVar, xC, xOp, xCB, xUn, aCons, aNil, rdv, rdvs, rdS, rdO_some, rdO_none, R_bind_ok, R_bind_bad, R_bind_exc, xTest, xTru, xAnd, xOr, xNot, xIf, xAndV, xOrV, xNotV, xChain, blOf, truO, blR, mv, put, maskA1, maskA2, maskA3, List.mem_cons, List.not_mem_nil, true_or, or_true, or_false, false_or, Bool.and_self, isi_tt, isi_ss, lc_nil, gEq_int, gNe_int, gLt_int, gLe_int, gGt_int, gGe_int, gLen, gIx, gAdd_int, gSub_int, gAug_int, xCall, takeArgs, take1, giveBack, bkAdd, share, shares, xTup, xLst, sAug, shS, emps, mName, mTup, mgCons, mgNil, xLc, xISeq, xIZip, xIRng1_eq, xIRng2_eq, rngV_ints, rngU_ints, rng1C_ok, rng2C_ok, kindOf, xSl, oPart, oNone, intOf, itemsOf, back, at0, at1, xApp, xExt, xPopAt, ownS, sz_0, sz_1, sz_2, sz_3, sz_4, sz_5, sz_6, sz_7, sz_8, List.getElem?_cons_zero, List.getElem?_cons_succ, List.getElem?_nil, List.set_cons_zero, List.set_cons_succ, List.length_cons, List.length_nil, List.cons_append, List.nil_append, List.append_nil, List.replicate, Option.bind_some, Option.bind_none, Option.map_some, Option.map_none, Option.some_or, Option.none_or, Option.or_some, Option.or_none, Option.getD_some, Option.getD_none, if_true, if_false, Bool.false_eq_true, Bool.not_true, Bool.not_false, decide_true, decide_false, List.map_cons, List.map_nil, reduceIte, Nat.reduceAdd, Nat.reduceLT, Nat.reduceEqDiff, Nat.zero_add, Int.reduceSub, Int.reduceAdd, Int.reduceLT, Int.reduceLE, Int.reduceEq, e, e1, x1, x3]
theorem s10 {ks : Ks} (g : Good ks) {M : Nat} (b : Bd ks M) {sz : List Nat} (hs : ∀ s ∈ sz, 1 ≤ s ∧ s ≤ M ∧ s ≤ 60) (hl : sz.length ≤ 100) (z dr t s3 s4 s6 s9 : Sl) :
    S10 [z, dr, t, s3, s4, .sh (.tup (kD ks)), s6, .own (cD (cK ks) (M + 1)), .own (sz.map fun r : Nat => D.int r), s9, .emp, .emp] = .ok (.nx [z, dr, t, s3, s4, .sh (.tup (kD ks)), s6, .own (cD (cK ks) (M + 1)), .sh (.lst (sz.map fun r : Nat => D.int r)), s9, .emp, .emp]) := by
  have l2 : lcLoop (mName 11) xYes e_law_4 [11] (sz.map fun r : Nat => D.int r) [z, dr, t, s3, s4, .sh (.tup (kD ks)), s6, .own (cD (cK ks) (M + 1)), .sh (.lst (sz.map fun r : Nat => D.int r)), s9, .emp, .emp] [] = .ok ((sz.map fun s => ((cK ks s : Nat) : Int)).map D.int, [z, dr, t, s3, s4, .sh (.tup (kD ks)), s6, .own (cD (cK ks) (M + 1)), .sh (.lst (sz.map fun r : Nat => D.int r)), s9, .emp, .emp]) := by
    rw [lc_pure (f := fun d => match d with | .int k => .int ((cK ks k.toNat : Nat) : Int) | _ => .non) (fun d hd => ?_) (by simp; omega)]
    · simp
    · obtain ⟨s, hs', rfl⟩ := List.mem_map.mp hd
      obtain ⟨l0, e0⟩ := all_of_ok g.six
      obtain ⟨l, e⟩ := nin_ok g (Sm_of b g.six |>.to (m := s + 1) (by have := (hs s hs').2; omega)) (hs s hs').1 (hs s hs').2.2
      refine ⟨[z, dr, t, s3, s4, .sh (.tup (kD ks)), s6, .own (cD (cK ks) (M + 1)), .sh (.lst (sz.map fun r : Nat => D.int r)), s9, .emp, .sh (.int s)], .sh (.int (cK ks s)), [z, dr, t, s3, s4, .sh (.tup (kD ks)), s6, .own (cD (cK ks) (M + 1)), .sh (.lst (sz.map fun r : Nat => D.int r)), s9, .emp, .sh (.int s)], _, rfl, ?_, rfl, rfl⟩
      unfold e_law_4
      simp only [runF, runB, sSeq, sIf, sAsg, sRet, sNext, sDrop, sRaise, xVar, xC, xOp, xCB, xUn, aCons, aNil, rdv, rdvs, rdS, rdO_some, rdO_none, R_bind_ok, R_bind_bad, R_bind_exc, xTest, xTru, xAnd, xOr, xNot, xIf, xAndV, xOrV, xNotV, xChain, blOf, truO, blR, mv, put, maskA1, maskA2, maskA3, List.mem_cons, List.not_mem_nil, true_or, or_true, or_false, false_or, Bool.and_self, isi_tt, isi_ss, lc_nil, gEq_int, gNe_int, gLt_int, gLe_int, gGt_int, gGe_int, gLen, gIx, gAdd_int, gSub_int, gAug_int, xCall, takeArgs, take1, giveBack, bkAdd, share, shares, xTup, xLst, sAug, shS, emps, mName, mTup, mgCons, mgNil, xLc, xISeq, xIZip, xIRng1_eq, xIRng2_eq, rngV_ints, rngU_ints, rng1C_ok, rng2C_ok, kindOf, xSl, oPart, oNone, intOf, itemsOf, back, at0, at1, xApp, xExt, xPopAt, ownS, sz_0, sz_1, sz_2, sz_3, sz_4, sz_5, sz_6, sz_7, sz_8, List.getElem?_cons_zero, List.getElem?_cons_succ, List.getElem?_nil, List.set_cons_zero, List.set_cons_succ, List.length_cons, List.length_nil, List.cons_append, List.nil_append, List.append_nil, List.replicate, Option.bind_some, Option.bind_none, Option.map_some, Option.map_none, Option.some_or, Option.none_or, Option.or_some, Option.or_none, Option.getD_some, Option.getD_none, if_true, if_false, Bool.false_eq_true, Bool.not_true, Bool.not_false, decide_true, decide_false, List.map_cons, List.map_nil, reduceIte, Nat.reduceAdd, Nat.reduceLT, Nat.reduceEqDiff, Nat.zero_add, Int.reduceSub, Int.reduceAdd, Int.reduceLT, Int.reduceLE, Int.reduceEq, e0, e]
  have l3 : lcLoop (mName 11) xYes e_law_5 [11] (sz.map fun r : Nat => D.int r) [z, dr, t, s3, s4, .sh (.tup (kD ks)), s6, .own (cD (cK ks) (M + 1)), .sh (.lst (sz.map fun r : Nat => D.int r)), s9, .emp, .emp] [] = .ok ((sz.map fun s => ((cK ks s : Nat) : Int)).map D.int, [z, dr, t, s3, s4, .sh (.tup (kD ks)), s6, .own (cD (cK ks) (M + 1)), .sh (.lst (sz.map fun r : Nat => D.int r)), s9, .emp, .emp]) := by
    rw [lc_pure (f := fun d => match d with | .int k => .int ((cK ks k.toNat : Nat) : Int) | _ => .non) (fun d hd => ?_) (by simp; omega)]
    · simp
    · obtain ⟨s, hs', rfl⟩ := List.mem_map.mp hd
      have e := cD_at (c := cK ks) (n := M + 1) (i := s) (by have := (hs s hs').2; omega)
      refine ⟨[z, dr, t, s3, s4, .sh (.tup (kD ks)), s6, .own (cD (cK ks) (M + 1)), .sh (.lst (sz.map fun r : Nat => D.int r)), s9, .emp, .sh (.int s)], .sh (.int (cK ks s)), [z, dr, t, s3, s4, .sh (.tup (kD ks)), s6, .own (cD (cK ks) (M + 1)), .sh (.lst (sz.map fun r : Nat => D.int r)), s9, .emp, .sh (.int s)], _, rfl, ?_, rfl, rfl⟩
      unfold e_law_5
      simp only [runF, runB, sSeq, sIf, sAsg, sRet, sNext, sDrop, sRaise, xVar, xC, xOp, xCB, xUn, aCons, aNil, rdv, rdvs, rdS, rdO_some, rdO_none, R_bind_ok, R_bind_bad, R_bind_exc, xTest, xTru, xAnd, xOr, xNot, xIf, xAndV, xOrV, xNotV, xChain, blOf, truO, blR, mv, put, maskA1, maskA2, maskA3, List.mem_cons, List.not_mem_nil, true_or, or_true, or_false, false_or, Bool.and_self, isi_tt, isi_ss, lc_nil, gEq_int, gNe_int, gLt_int, gLe_int, gGt_int, gGe_int, gLen, gIx, gAdd_int, gSub_int, gAug_int, xCall, takeArgs, take1, giveBack, bkAdd, share, shares, xTup, xLst, sAug, shS, emps, mName, mTup, mgCons, mgNil, xLc, xISeq, xIZip, xIRng1_eq, xIRng2_eq, rngV_ints, rngU_ints, rng1C_ok, rng2C_ok, kindOf, xSl, oPart, oNone, intOf, itemsOf, back, at0, at1, xApp, xExt, xPopAt, ownS, sz_0, sz_1, sz_2, sz_3, sz_4, sz_5, sz_6, sz_7, sz_8, List.getElem?_cons_zero, List.getElem?_cons_succ, List.getElem?_nil, List.set_cons_zero, List.set_cons_succ, List.length_cons, List.length_nil, List.cons_append, List.nil_append, List.append_nil, List.replicate, Option.bind_some, Option.bind_none, Option.map_some, Option.map_none, Option.some_or, Option.none_or, Option.or_some, Option.or_none, Option.getD_some, Option.getD_none, if_true, if_false, Bool.false_eq_true, Bool.not_true, Bool.not_false, decide_true, decide_false, List.map_cons, List.map_nil, reduceIte, Nat.reduceAdd, Nat.reduceLT, Nat.reduceEqDiff, Nat.zero_add, Int.reduceSub, Int.reduceAdd, Int.reduceLT, Int.reduceLE, Int.reduceEq, e]
  obtain ⟨s, e⟩ := repr_ints (ns := sz.map fun s => ((cK ks s : Nat) : Int)) (fun x hx => by
    obtain ⟨s, hs', rfl⟩ := List.mem_map.mp hx
    exact log_tiny (cK_tiny b g.six (hs s hs').2.1)) (by simp; omega)
  have en := gNe_str s
  unfold S10 x_law_4 x_law_5
  simp only [runF, runB, sSeq, sIf, sAsg, sRet, sNext, sDrop, sRaise, xVar, xC, xOp, xCB, xUn, aCons, aNil, rdv, rdvs, rdS, rdO_some, rdO_none, R_bind_ok, R_bind_bad, R_bind_exc, xTest, xTru, xAnd, xOr, xNot, xIf, xAndV, xOrV, xNotV, xChain, blOf, truO, blR, mv, put, maskA1, maskA2, maskA3, List.mem_cons, List.not_mem_nil, true_or, or_true, or_false, false_or, Bool.and_self, isi_tt, isi_ss, lc_nil, gEq_int, gNe_int, gLt_int, gLe_int, gGt_int, gGe_int, gLen, gIx, gAdd_int, gSub_int, gAug_int, xCall, takeArgs, take1, giveBack, bkAdd, share, shares, xTup, xLst, sAug, shS, emps, mName, mTup, mgCons, mgNil, xLc, xISeq, xIZip, xIRng1_eq, xIRng2_eq, rngV_ints, rngU_ints, rng1C_ok, rng2C_ok, kindOf, xSl, oPart, oNone, intOf, itemsOf, back, at0, at1, xApp, xExt, xPopAt, ownS, sz_0, sz_1, sz_2, sz_3, sz_4, sz_5, sz_6, sz_7, sz_8, List.getElem?_cons_zero, List.getElem?_cons_succ, List.getElem?_nil, List.set_cons_zero, List.set_cons_succ, List.length_cons, List.length_nil, List.cons_append, List.nil_append, List.append_nil, List.replicate, Option.bind_some, Option.bind_none, Option.map_some, Option.map_none, Option.some_or, Option.none_or, Option.or_some, Option.or_none, Option.getD_some, Option.getD_none, if_true, if_false, Bool.false_eq_true, Bool.not_true, Bool.not_false, decide_true, decide_false, List.map_cons, List.map_nil, reduceIte, Nat.reduceAdd, Nat.reduceLT, Nat.reduceEqDiff, Nat.zero_add, Int.reduceSub, Int.reduceAdd, Int.reduceLT, Int.reduceLE, Int.reduceEq, l2, l3, e, en]
def odd1 : List D := [.int 0, .int 201, .int (-1), .non, .str "5", .bl true]
def odd2 : List D := [.int 0, .int 61, .int 200, .non, .str "5", .bl true]
theorem neg1 : gNeg (.int 1) = some (.sh (.int (-1))) := rfl
theorem s11 {n : Nat} {st : Draw} (d : DOk n st) (hn : n ≤ 800000) (z t s3 s4 s5 s6 s7 s8 s9 : Sl) : ∃ (st' : Draw) (o : D), o ∈ odd1 ∧ DOk (n + 1) st' ∧
    S11 [z, .drw st, t, s3, s4, s5, s6, s7, s8, s9, .emp, .emp] = .ok (.nx [z, .drw st', t, s3, s4, s5, s6, s7, s8, .sh o, .emp, .emp]) := by
  obtain ⟨st1, o, e1, ho, d1⟩ := pick_ok d (by omega) (L := odd1) (by unfold odd1; simp) (by unfold odd1; simp)
  refine ⟨st1, o, ho, d1, ?_⟩
  unfold odd1 at e1
  unfold S11
  simp only [runF, runB, sSeq, sIf, sAsg, sRet, sNext, sDrop, sRaise, xVar, xC, xOp, xCB, xUn, aCons, aNil, rdv, rdvs, rdS, rdO_some, rdO_none, R_bind_ok, R_bind_bad, R_bind_exc, xTest, xTru, xAnd, xOr, xNot, xIf, xAndV, xOrV, xNotV, xChain, blOf, truO, blR, mv, put, maskA1, maskA2, maskA3, List.mem_cons, List.not_mem_nil, true_or, or_true, or_false, false_or, Bool.and_self, isi_tt, isi_ss, lc_nil, gEq_int, gNe_int, gLt_int, gLe_int, gGt_int, gGe_int, gLen, gIx, gAdd_int, gSub_int, gAug_int, xCall, takeArgs, take1, giveBack, bkAdd, share, shares, xTup, xLst, sAug, shS, emps, mName, mTup, mgCons, mgNil, xLc, xISeq, xIZip, xIRng1_eq, xIRng2_eq, rngV_ints, rngU_ints, rng1C_ok, rng2C_ok, kindOf, xSl, oPart, oNone, intOf, itemsOf, back, at0, at1, xApp, xExt, xPopAt, ownS, sz_0, sz_1, sz_2, sz_3, sz_4, sz_5, sz_6, sz_7, sz_8, List.getElem?_cons_zero, List.getElem?_cons_succ, List.getElem?_nil, List.set_cons_zero, List.set_cons_succ, List.length_cons, List.length_nil, List.cons_append, List.nil_append, List.append_nil, List.replicate, Option.bind_some, Option.bind_none, Option.map_some, Option.map_none, Option.some_or, Option.none_or, Option.or_some, Option.or_none, Option.getD_some, Option.getD_none, if_true, if_false, Bool.false_eq_true, Bool.not_true, Bool.not_false, decide_true, decide_false, List.map_cons, List.map_nil, reduceIte, Nat.reduceAdd, Nat.reduceLT, Nat.reduceEqDiff, Nat.zero_add, Int.reduceSub, Int.reduceAdd, Int.reduceLT, Int.reduceLE, Int.reduceEq, neg1, e1]
theorem s13 {n : Nat} {st : Draw} (d : DOk n st) (hn : n ≤ 800000) (z t s3 s4 s5 s6 s7 s8 s9 : Sl) : ∃ (st' : Draw) (o : D), o ∈ odd2 ∧ DOk (n + 1) st' ∧
    S13 [z, .drw st, t, s3, s4, s5, s6, s7, s8, s9, .emp, .emp] = .ok (.nx [z, .drw st', t, s3, s4, s5, s6, s7, s8, .sh o, .emp, .emp]) := by
  obtain ⟨st1, o, e1, ho, d1⟩ := pick_ok d (by omega) (L := odd2) (by unfold odd2; simp) (by unfold odd2; simp)
  refine ⟨st1, o, ho, d1, ?_⟩
  unfold odd2 at e1
  unfold S13
  simp only [runF, runB, sSeq, sIf, sAsg, sRet, sNext, sDrop, sRaise, xVar, xC, xOp, xCB, xUn, aCons, aNil, rdv, rdvs, rdS, rdO_some, rdO_none, R_bind_ok, R_bind_bad, R_bind_exc, xTest, xTru, xAnd, xOr, xNot, xIf, xAndV, xOrV, xNotV, xChain, blOf, truO, blR, mv, put, maskA1, maskA2, maskA3, List.mem_cons, List.not_mem_nil, true_or, or_true, or_false, false_or, Bool.and_self, isi_tt, isi_ss, lc_nil, gEq_int, gNe_int, gLt_int, gLe_int, gGt_int, gGe_int, gLen, gIx, gAdd_int, gSub_int, gAug_int, xCall, takeArgs, take1, giveBack, bkAdd, share, shares, xTup, xLst, sAug, shS, emps, mName, mTup, mgCons, mgNil, xLc, xISeq, xIZip, xIRng1_eq, xIRng2_eq, rngV_ints, rngU_ints, rng1C_ok, rng2C_ok, kindOf, xSl, oPart, oNone, intOf, itemsOf, back, at0, at1, xApp, xExt, xPopAt, ownS, sz_0, sz_1, sz_2, sz_3, sz_4, sz_5, sz_6, sz_7, sz_8, List.getElem?_cons_zero, List.getElem?_cons_succ, List.getElem?_nil, List.set_cons_zero, List.set_cons_succ, List.length_cons, List.length_nil, List.cons_append, List.nil_append, List.append_nil, List.replicate, Option.bind_some, Option.bind_none, Option.map_some, Option.map_none, Option.some_or, Option.none_or, Option.or_some, Option.or_none, Option.getD_some, Option.getD_none, if_true, if_false, Bool.false_eq_true, Bool.not_true, Bool.not_false, decide_true, decide_false, List.map_cons, List.map_nil, reduceIte, Nat.reduceAdd, Nat.reduceLT, Nat.reduceEqDiff, Nat.zero_add, Int.reduceSub, Int.reduceAdd, Int.reduceLT, Int.reduceLE, Int.reduceEq, e1]
theorem no_of {e : Int} {o : D} (h : (∃ i, o = .int i ∧ (decide (0 ≤ i) && decide (i < e)) = false) ∨ (o = .int 0 ∧ 0 < e) ∨ o = .non ∨ (∃ s, o = .str s) ∨ ∃ b, o = .bl b) :
    Is F_is_number [.sh o, .sh (.int e)] (.sh (.bl false)) ∨ Is F_is_number [.sh o, .sh (.int e)] (.sh (.bl true)) ∧ o = .int 0 := by
  rcases h with ⟨i, rfl, h⟩ | ⟨rfl, h⟩ | rfl | ⟨s, rfl⟩ | ⟨b, rfl⟩
  · have := number_int i e
    rw [h] at this
    exact .inl this
  · have := number_int 0 e
    rw [show (decide ((0 : Int) ≤ 0) && decide ((0 : Int) < e)) = true by simp [h]] at this
    exact .inr ⟨this, rfl⟩
  · exact .inl (number_non e)
  · exact .inl (number_str s e)
  · exact .inl (number_bl b e)
theorem s12 {TT : List (Addr × Str)} {zd : D} {ks : Ks} (g : Good ks) {o : D} (ho : o ∈ odd1) (dr t s3 s4 s6 s7 s8 : Sl) :
    S12 TT [.tab TT zd, dr, t, s3, s4, .sh (.tup (kD ks)), s6, s7, s8, .sh o, .emp, .emp] = .ok (.nx [.tab TT zd, dr, t, s3, s4, .sh (.tup (kD ks)), s6, s7, s8, .sh o, .emp, .emp]) := by
  have e := count_no g (d := o) (no_of (by
    unfold odd1 at ho
    simp only [List.mem_cons, List.not_mem_nil, or_false] at ho
    rcases ho with h | h | h | h | h | h
    · exact .inr (.inl ⟨h, by omega⟩)
    · exact .inl ⟨_, h, by decide⟩
    · exact .inl ⟨_, h, by decide⟩
    · exact .inr (.inr (.inl h))
    · exact .inr (.inr (.inr (.inl ⟨_, h⟩)))
    · exact .inr (.inr (.inr (.inr ⟨_, h⟩)))))
  have i : isaOf "BadNumber" "BadNumber" = some true := by unfold isaOf; rw [if_pos rfl]
  unfold S12
  simp only [runF, runB, sSeq, sIf, sAsg, sRet, sNext, sDrop, sRaise, xVar, xC, xOp, xCB, xUn, aCons, aNil, rdv, rdvs, rdS, rdO_some, rdO_none, R_bind_ok, R_bind_bad, R_bind_exc, xTest, xTru, xAnd, xOr, xNot, xIf, xAndV, xOrV, xNotV, xChain, blOf, truO, blR, mv, put, maskA1, maskA2, maskA3, List.mem_cons, List.not_mem_nil, true_or, or_true, or_false, false_or, Bool.and_self, isi_tt, isi_ss, lc_nil, gEq_int, gNe_int, gLt_int, gLe_int, gGt_int, gGe_int, gLen, gIx, gAdd_int, gSub_int, gAug_int, xCall, takeArgs, take1, giveBack, bkAdd, share, shares, xTup, xLst, sAug, shS, emps, mName, mTup, mgCons, mgNil, xLc, xISeq, xIZip, xIRng1_eq, xIRng2_eq, rngV_ints, rngU_ints, rng1C_ok, rng2C_ok, kindOf, xSl, oPart, oNone, intOf, itemsOf, back, at0, at1, xApp, xExt, xPopAt, ownS, sz_0, sz_1, sz_2, sz_3, sz_4, sz_5, sz_6, sz_7, sz_8, List.getElem?_cons_zero, List.getElem?_cons_succ, List.getElem?_nil, List.set_cons_zero, List.set_cons_succ, List.length_cons, List.length_nil, List.cons_append, List.nil_append, List.append_nil, List.replicate, Option.bind_some, Option.bind_none, Option.map_some, Option.map_none, Option.some_or, Option.none_or, Option.or_some, Option.or_none, Option.getD_some, Option.getD_none, if_true, if_false, Bool.false_eq_true, Bool.not_true, Bool.not_false, decide_true, decide_false, List.map_cons, List.map_nil, reduceIte, Nat.reduceAdd, Nat.reduceLT, Nat.reduceEqDiff, Nat.zero_add, Int.reduceSub, Int.reduceAdd, Int.reduceLT, Int.reduceLE, Int.reduceEq, xCaught, frz, e, i]
theorem s14 {TT : List (Addr × Str)} {zd : D} {ks : Ks} (g : Good ks) {o : D} (ho : o ∈ odd2) (dr t s3 s4 s6 s7 s8 : Sl) :
    S14 TT [.tab TT zd, dr, t, s3, s4, .sh (.tup (kD ks)), s6, s7, s8, .sh o, .emp, .emp] = .ok (.nx [.tab TT zd, dr, t, s3, s4, .sh (.tup (kD ks)), s6, s7, s8, .sh o, .emp, .emp]) := by
  have e := nin_no g (d := o) (no_of (by
    unfold odd2 at ho
    simp only [List.mem_cons, List.not_mem_nil, or_false] at ho
    rcases ho with h | h | h | h | h | h
    · exact .inr (.inl ⟨h, by omega⟩)
    · exact .inl ⟨_, h, by decide⟩
    · exact .inl ⟨_, h, by decide⟩
    · exact .inr (.inr (.inl h))
    · exact .inr (.inr (.inr (.inl ⟨_, h⟩)))
    · exact .inr (.inr (.inr (.inr ⟨_, h⟩)))))
  obtain ⟨l0, e0⟩ := all_of_ok g.six
  have i : isaOf "BadNumber" "BadNumber" = some true := by unfold isaOf; rw [if_pos rfl]
  unfold S14
  simp only [runF, runB, sSeq, sIf, sAsg, sRet, sNext, sDrop, sRaise, xVar, xC, xOp, xCB, xUn, aCons, aNil, rdv, rdvs, rdS, rdO_some, rdO_none, R_bind_ok, R_bind_bad, R_bind_exc, xTest, xTru, xAnd, xOr, xNot, xIf, xAndV, xOrV, xNotV, xChain, blOf, truO, blR, mv, put, maskA1, maskA2, maskA3, List.mem_cons, List.not_mem_nil, true_or, or_true, or_false, false_or, Bool.and_self, isi_tt, isi_ss, lc_nil, gEq_int, gNe_int, gLt_int, gLe_int, gGt_int, gGe_int, gLen, gIx, gAdd_int, gSub_int, gAug_int, xCall, takeArgs, take1, giveBack, bkAdd, share, shares, xTup, xLst, sAug, shS, emps, mName, mTup, mgCons, mgNil, xLc, xISeq, xIZip, xIRng1_eq, xIRng2_eq, rngV_ints, rngU_ints, rng1C_ok, rng2C_ok, kindOf, xSl, oPart, oNone, intOf, itemsOf, back, at0, at1, xApp, xExt, xPopAt, ownS, sz_0, sz_1, sz_2, sz_3, sz_4, sz_5, sz_6, sz_7, sz_8, List.getElem?_cons_zero, List.getElem?_cons_succ, List.getElem?_nil, List.set_cons_zero, List.set_cons_succ, List.length_cons, List.length_nil, List.cons_append, List.nil_append, List.append_nil, List.replicate, Option.bind_some, Option.bind_none, Option.map_some, Option.map_none, Option.some_or, Option.none_or, Option.or_some, Option.or_none, Option.getD_some, Option.getD_none, if_true, if_false, Bool.false_eq_true, Bool.not_true, Bool.not_false, decide_true, decide_false, List.map_cons, List.map_nil, reduceIte, Nat.reduceAdd, Nat.reduceLT, Nat.reduceEqDiff, Nat.zero_add, Int.reduceSub, Int.reduceAdd, Int.reduceLT, Int.reduceLE, Int.reduceEq, xCaught, frz, e0, e, i]
theorem lawBody {TT : List (Addr × Str)} {zd : D} {n : Nat} {st : Draw} (d : DOk n st) (hn : n ≤ 700000) (t : Int) (a3 a4 a5 a6 a7 a8 a9 : Sl) : ∃ (st' : Draw) (b3 b4 b5 b6 b7 b8 b9 : Sl), DOk (n + 200) st' ∧
    b_law_1 TT [.tab TT zd, .drw st, .sh (.int t), a3, a4, a5, a6, a7, a8, a9, .emp, .emp] = .ok (.nx [.tab TT zd, .drw st', .sh (.int t), b3, b4, b5, b6, b7, b8, b9, .emp, .emp]) := by
  obtain ⟨st1, ps, q, d1, e1⟩ := s1 d (by omega) (.tab TT zd) (.sh (.int t)) a3 a4 a5 a6 a7 a8 a9
  obtain ⟨st2, rs, l2, r2, d2, e2⟩ := s2 d1 (by omega) q t (.tab TT zd) a4 a5 a6 a7 a8 a9
  obtain ⟨st3, rs', l3, r3, z3, d3, e3⟩ := s3 d2 (by omega) q l2 r2 (.sh (.int t)) (.tab TT zd) a5 a6 a7 a8 a9
  have e4 := s4 q l3 (.tab TT zd) (.drw st3) (.sh (.int t)) a5 a6 a7 a8 a9
  have g := good_of q l3 r3 z3
  have b := bd_of (ps := ps) r3
  have ml := most_le rs'
  have e5 := s5 (.sh (.lst (ps.map D.str))) (.sh (.tup (kD (ksOf ps rs')))) (.tab TT zd) (.drw st3) (.sh (.int t)) rs' a6 a7 a8 a9
  have e6 := s6 g b (.tab TT zd) (.drw st3) (.sh (.int t)) (.sh (.lst (ps.map D.str))) (.sh (.lst (rs'.map fun r : Nat => D.int r))) a7 a8 a9
  obtain ⟨st7, x, y, hx, hy, d7, e7⟩ := s7 (M := mostOf rs') d3 (by omega) (by omega) ml.2 (.tab TT zd) (.sh (.int t)) (.sh (.lst (ps.map D.str))) (.sh (.lst (rs'.map fun r : Nat => D.int r))) (.sh (.tup (kD (ksOf ps rs')))) (.own (cD (cK (ksOf ps rs')) (mostOf rs' + 1))) a8 a9
  have e8 := s8 g b (sz := [mostOf rs', 1, 1 + x, 1 + y]) (fun s hs => by simp only [List.mem_cons, List.not_mem_nil, or_false] at hs; omega) (by simp) (.tab TT zd) (.drw st7) (.sh (.int t)) (.sh (.lst (ps.map D.str))) (.sh (.lst (rs'.map fun r : Nat => D.int r))) (.sh (.int (mostOf rs'))) a9
  obtain ⟨st9, w, hw, d9, e9⟩ := s9 (M := mostOf rs') d7 (by omega) (by omega) (.tab TT zd) (.sh (.int t)) (.sh (.lst (ps.map D.str))) (.sh (.lst (rs'.map fun r : Nat => D.int r))) (.sh (.tup (kD (ksOf ps rs')))) (.own (cD (cK (ksOf ps rs')) (mostOf rs' + 1))) (.sh (.lst (([mostOf rs', 1, 1 + x, 1 + y] : List Nat).map fun r : Nat => D.int r))) a9
  have m6 : m60 (mostOf rs') ≤ 60 ∧ m60 (mostOf rs') ≤ mostOf rs' ∧ 1 ≤ m60 (mostOf rs') := by unfold m60; split <;> omega
  have e10 := s10 g b (sz := [1, 1 + w, m60 (mostOf rs')]) (fun s hs => by simp only [List.mem_cons, List.not_mem_nil, or_false] at hs; omega) (by simp) (.tab TT zd) (.drw st9) (.sh (.int t)) (.sh (.lst (ps.map D.str))) (.sh (.lst (rs'.map fun r : Nat => D.int r))) (.sh (.int (mostOf rs'))) a9
  obtain ⟨st11, o1, ho1, d11, e11⟩ := s11 d9 (by omega) (.tab TT zd) (.sh (.int t)) (.sh (.lst (ps.map D.str))) (.sh (.lst (rs'.map fun r : Nat => D.int r))) (.sh (.tup (kD (ksOf ps rs')))) (.sh (.int (mostOf rs'))) (.own (cD (cK (ksOf ps rs')) (mostOf rs' + 1))) (.sh (.lst (([1, 1 + w, m60 (mostOf rs')] : List Nat).map fun r : Nat => D.int r))) a9
  have e12 := s12 (TT := TT) (zd := zd) g ho1 (.drw st11) (.sh (.int t)) (.sh (.lst (ps.map D.str))) (.sh (.lst (rs'.map fun r : Nat => D.int r))) (.sh (.int (mostOf rs'))) (.own (cD (cK (ksOf ps rs')) (mostOf rs' + 1))) (.sh (.lst (([1, 1 + w, m60 (mostOf rs')] : List Nat).map fun r : Nat => D.int r)))
  obtain ⟨st13, o2, ho2, d13, e13⟩ := s13 d11 (by omega) (.tab TT zd) (.sh (.int t)) (.sh (.lst (ps.map D.str))) (.sh (.lst (rs'.map fun r : Nat => D.int r))) (.sh (.tup (kD (ksOf ps rs')))) (.sh (.int (mostOf rs'))) (.own (cD (cK (ksOf ps rs')) (mostOf rs' + 1))) (.sh (.lst (([1, 1 + w, m60 (mostOf rs')] : List Nat).map fun r : Nat => D.int r))) (.sh o1)
  have e14 := s14 (TT := TT) (zd := zd) g ho2 (.drw st13) (.sh (.int t)) (.sh (.lst (ps.map D.str))) (.sh (.lst (rs'.map fun r : Nat => D.int r))) (.sh (.int (mostOf rs'))) (.own (cD (cK (ksOf ps rs')) (mostOf rs' + 1))) (.sh (.lst (([1, 1 + w, m60 (mostOf rs')] : List Nat).map fun r : Nat => D.int r)))
  exact ⟨st13, _, _, _, _, _, _, _, d13.to (by omega), (congrFun (b_law_eq TT) _).trans ((seq_nx e1).trans ((seq_nx e2).trans ((seq_nx e3).trans ((seq_nx e4).trans ((seq_nx e5).trans ((seq_nx e6).trans ((seq_nx e7).trans ((seq_nx e8).trans ((seq_nx e9).trans ((seq_nx e10).trans ((seq_nx e11).trans ((seq_nx e12).trans ((seq_nx e13).trans e14)))))))))))))⟩
theorem F_true (Pt : Addr) (ns : List Int) (len : ns.length ≤ 63) (bits : ∀ z ∈ ns, Builtin.Int.intBits z ≤ 1048576) : ∃ ρ', F_law (TTof Pt) [.tab (TTof Pt) (.scr ns)] = .ok (.sh (.bl true), ρ') := by
  obtain ⟨st, ⟨l0, e0⟩, d0⟩ := begun_ok len
  have em : gMin2 [.int (ns.length : Int), .int 2] = some (.sh (.int (((min ns.length 2 : Nat)) : Int))) := by
    show some (Vl.sh (.int (if (2 : Int) < (ns.length : Int) then (2 : Int) else (ns.length : Int)))) = _
    by_cases h : 2 < ns.length
    · rw [if_pos (by omega), Nat.min_eq_right (by omega)]
      rfl
    · rw [if_neg (by omega), Nat.min_eq_left (by omega)]
  have hs : smallI (1 + ((min ns.length 2 : Nat) : Int)) = true := by unfold smallI; simp; omega
  have ht : (1 + ((min ns.length 2 : Nat) : Int)).toNat = 1 + min ns.length 2 := by omega
  obtain ⟨ρ, h, st', c2, b3, b4, b5, b6, b7, b8, b9, dd, e⟩ := for_inv0 (mg := mName 2) (mb := b_law_1 (TTof Pt)) (ds := (List.range (1 + min ns.length 2)).map fun (k : Nat) => D.int (0 + (k : Int))) (ρ := [.tab (TTof Pt) (.scr ns), .drw st, .emp, .emp, .emp, .emp, .emp, .emp, .emp, .emp, .emp, .emp])
    (fun i ρ => ∃ (st : Draw) (c2 b3 b4 b5 b6 b7 b8 b9 : Sl), DOk (200 * i) st ∧ ρ = [.tab (TTof Pt) (.scr ns), .drw st, c2, b3, b4, b5, b6, b7, b8, b9, .emp, .emp]) ⟨st, .emp, .emp, .emp, .emp, .emp, .emp, .emp, .emp, d0, rfl⟩ fun i d ρ hd hi => by
    obtain ⟨st, c2, b3, b4, b5, b6, b7, b8, b9, dd, rfl⟩ := hi
    obtain ⟨hi, rfl⟩ := range_get hd
    obtain ⟨st', c3, c4, c5, c6, c7, c8, c9, d', e⟩ := lawBody (TT := TTof Pt) (zd := .scr ns) dd (by omega) (0 + (i : Int)) b3 b4 b5 b6 b7 b8 b9
    exact ⟨_, _, rfl, e, st', .sh (.int (0 + (i : Int))), c3, c4, c5, c6, c7, c8, c9, d'.to (by omega), rfl⟩
  subst e
  refine ⟨[.tab (TTof Pt) (.scr ns)], ?_⟩
  unfold F_law m_law
  simp only [runF, runB, sSeq, sIf, sAsg, sRet, sNext, sDrop, sRaise, xVar, xC, xOp, xCB, xUn, aCons, aNil, rdv, rdvs, rdS, rdO_some, rdO_none, R_bind_ok, R_bind_bad, R_bind_exc, xTest, xTru, xAnd, xOr, xNot, xIf, xAndV, xOrV, xNotV, xChain, blOf, truO, blR, mv, put, maskA1, maskA2, maskA3, List.mem_cons, List.not_mem_nil, true_or, or_true, or_false, false_or, Bool.and_self, isi_tt, isi_ss, lc_nil, gEq_int, gNe_int, gLt_int, gLe_int, gGt_int, gGe_int, gLen, gIx, gAdd_int, gSub_int, gAug_int, xCall, takeArgs, take1, giveBack, bkAdd, share, shares, xTup, xLst, sAug, shS, emps, mName, mTup, mgCons, mgNil, xLc, xISeq, xIZip, xIRng1_eq, xIRng2_eq, rngV_ints, rngU_ints, rng1C_ok, rng2C_ok, kindOf, xSl, oPart, oNone, intOf, itemsOf, back, at0, at1, xApp, xExt, xPopAt, ownS, sz_0, sz_1, sz_2, sz_3, sz_4, sz_5, sz_6, sz_7, sz_8, List.getElem?_cons_zero, List.getElem?_cons_succ, List.getElem?_nil, List.set_cons_zero, List.set_cons_succ, List.length_cons, List.length_nil, List.cons_append, List.nil_append, List.append_nil, List.replicate, Option.bind_some, Option.bind_none, Option.map_some, Option.map_none, Option.some_or, Option.none_or, Option.or_some, Option.or_none, Option.getD_some, Option.getD_none, if_true, if_false, Bool.false_eq_true, Bool.not_true, Bool.not_false, decide_true, decide_false, List.map_cons, List.map_nil, reduceIte, Nat.reduceAdd, Nat.reduceLT, Nat.reduceEqDiff, Nat.zero_add, Int.reduceSub, Int.reduceAdd, Int.reduceLT, Int.reduceLE, Int.reduceEq, e0, em, sFor, hs, ht, h]
end K82
end
section
set_option maxRecDepth 100000
set_option maxHeartbeats 0
open PySem PySem.W PyProof.Rows
open_top hd for PySem.Challenge.rw_samewriting_k82_whole_how_many_trees_of
end
section
set_option maxRecDepth 100000
set_option maxHeartbeats 2000000
namespace K82
open PySem PySem.Spec PyProof.Rows L2 DL
theorem all_mk {l : PySem.W.OpenLaw} {w : World} {K : PySem.W.Frag} {h : Heap} {mg : Str → Option Value} {fa Pt : Addr} (X : K.In h) (G : h.Ns mainGlobals mg) (hfa : mg "law" = some (.ref fa))
        {ac_KEPT : Addr} {odc_KEPT : Option Addr} {slc_KEPT : Array (Option Value)} {nc_KEPT : Nat} {tk_KEPT_0 tk_KEPT_1 tk_KEPT_2 tk_KEPT_3 tk_KEPT_4 tk_KEPT_5 tk_KEPT_6 tk_KEPT_7 tk_KEPT_8 : Tok}
    {tk_MOST_GOALS : Tok}
    {tk_MOST_KINDS : Tok}
    {tk_MOST_LETTERS : Tok}
    {tk_MOST_RANK : Tok}
    {tk_MOST_STATES : Tok}
    {aC_BadKinds aC_BadNumber aC_BadSet aC_WritingError : Addr}
    {fa_is_name : Addr} {od_is_name an_is_name : Option Addr} {sl_is_name : Array (Option Value)} {oc_is_name kV_is_name dc_is_name pm_is_name cd_is_name ct_is_name : Value}
    {fa_is_number : Addr} {od_is_number an_is_number : Option Addr} {sl_is_number : Array (Option Value)} {oc_is_number kV_is_number dc_is_number pm_is_number cd_is_number ct_is_number : Value}
    {fa_is_kind : Addr} {od_is_kind an_is_kind : Option Addr} {sl_is_kind : Array (Option Value)} {oc_is_kind kV_is_kind dc_is_kind pm_is_kind cd_is_kind ct_is_kind : Value}
    {fa_is_kinds : Addr} {od_is_kinds an_is_kinds : Option Addr} {sl_is_kinds : Array (Option Value)} {oc_is_kinds kV_is_kinds dc_is_kinds pm_is_kinds cd_is_kinds ct_is_kinds : Value}
    {fa_need_kinds : Addr} {od_need_kinds an_need_kinds : Option Addr} {sl_need_kinds : Array (Option Value)} {oc_need_kinds kV_need_kinds dc_need_kinds pm_need_kinds cd_need_kinds ct_need_kinds : Value}
    {fa_rows_of : Addr} {od_rows_of an_rows_of : Option Addr} {sl_rows_of : Array (Option Value)} {oc_rows_of kV_rows_of dc_rows_of pm_rows_of cd_rows_of ct_rows_of : Value}
    {fa_counts_to : Addr} {od_counts_to an_counts_to : Option Addr} {sl_counts_to : Array (Option Value)} {oc_counts_to kV_counts_to dc_counts_to pm_counts_to cd_counts_to ct_counts_to : Value}
    {fa_count : Addr} {od_count an_count : Option Addr} {sl_count : Array (Option Value)} {oc_count kV_count dc_count pm_count cd_count ct_count : Value}
    {fa_tuples_of : Addr} {od_tuples_of an_tuples_of : Option Addr} {sl_tuples_of : Array (Option Value)} {oc_tuples_of kV_tuples_of dc_tuples_of pm_tuples_of cd_tuples_of ct_tuples_of : Value}
    {fa_are_states : Addr} {od_are_states an_are_states : Option Addr} {sl_are_states : Array (Option Value)} {oc_are_states kV_are_states dc_are_states pm_are_states cd_are_states ct_are_states : Value}
    {fa_tuples_number : Addr} {od_tuples_number an_tuples_number : Option Addr} {sl_tuples_number : Array (Option Value)} {oc_tuples_number kV_tuples_number dc_tuples_number pm_tuples_number cd_tuples_number ct_tuples_number : Value}
    {fa_is_row : Addr} {od_is_row an_is_row : Option Addr} {sl_is_row : Array (Option Value)} {oc_is_row kV_is_row dc_is_row pm_is_row cd_is_row ct_is_row : Value}
    {fa_goals_of : Addr} {od_goals_of an_goals_of : Option Addr} {sl_goals_of : Array (Option Value)} {oc_goals_of kV_goals_of dc_goals_of pm_goals_of cd_goals_of ct_goals_of : Value}
    {fa_is_set : Addr} {od_is_set an_is_set : Option Addr} {sl_is_set : Array (Option Value)} {oc_is_set kV_is_set dc_is_set pm_is_set cd_is_set ct_is_set : Value}
    {fa_need_set : Addr} {od_need_set an_need_set : Option Addr} {sl_need_set : Array (Option Value)} {oc_need_set kV_need_set dc_need_set pm_need_set cd_need_set ct_need_set : Value}
    {fa_rows_in : Addr} {od_rows_in an_rows_in : Option Addr} {sl_rows_in : Array (Option Value)} {oc_rows_in kV_rows_in dc_rows_in pm_rows_in cd_rows_in ct_rows_in : Value}
    {fa_number_in : Addr} {od_number_in an_number_in : Option Addr} {sl_number_in : Array (Option Value)} {oc_number_in kV_number_in dc_number_in pm_number_in cd_number_in ct_number_in : Value}
    {fa__law_begun : Addr} {od__law_begun an__law_begun : Option Addr} {sl__law_begun : Array (Option Value)} {oc__law_begun kV__law_begun dc__law_begun pm__law_begun cd__law_begun ct__law_begun : Value}
    {fa__law_mixed : Addr} {od__law_mixed an__law_mixed : Option Addr} {sl__law_mixed : Array (Option Value)} {oc__law_mixed kV__law_mixed dc__law_mixed pm__law_mixed cd__law_mixed ct__law_mixed : Value}
    {fa__law_take : Addr} {od__law_take an__law_take : Option Addr} {sl__law_take : Array (Option Value)} {oc__law_take kV__law_take dc__law_take pm__law_take cd__law_take ct__law_take : Value}
    {fa__law_pick : Addr} {od__law_pick an__law_pick : Option Addr} {sl__law_pick : Array (Option Value)} {oc__law_pick kV__law_pick dc__law_pick pm__law_pick cd__law_pick ct__law_pick : Value}
    {fa__law_shuffled : Addr} {od__law_shuffled an__law_shuffled : Option Addr} {sl__law_shuffled : Array (Option Value)} {oc__law_shuffled kV__law_shuffled dc__law_shuffled pm__law_shuffled cd__law_shuffled ct__law_shuffled : Value}
    {fa__law_names : Addr} {od__law_names an__law_names : Option Addr} {sl__law_names : Array (Option Value)} {oc__law_names kV__law_names dc__law_names pm__law_names cd__law_names ct__law_names : Value}
    {fa__law_all_of : Addr} {od__law_all_of an__law_all_of : Option Addr} {sl__law_all_of : Array (Option Value)} {oc__law_all_of kV__law_all_of dc__law_all_of pm__law_all_of cd__law_all_of ct__law_all_of : Value}
    {fa__law_counts : Addr} {od__law_counts an__law_counts : Option Addr} {sl__law_counts : Array (Option Value)} {oc__law_counts kV__law_counts dc__law_counts pm__law_counts cd__law_counts ct__law_counts : Value}
    {fa__law_caught : Addr} {od__law_caught an__law_caught : Option Addr} {sl__law_caught : Array (Option Value)} {oc__law_caught kV__law_caught dc__law_caught pm__law_caught cd__law_caught ct__law_caught : Value}
    {fa_law : Addr} {od_law an_law : Option Addr} {sl_law : Array (Option Value)} {oc_law kV_law dc_law pm_law ct_law : Value} {cL : Addr}
    (hb_abs : PySem.W.nsIn K mainGlobals "abs" = some none)
    (hb_all : PySem.W.nsIn K mainGlobals "all" = some none)
    (hb_any : PySem.W.nsIn K mainGlobals "any" = some none)
    (hb_bool : PySem.W.nsIn K mainGlobals "bool" = some none)
    (hb_int : PySem.W.nsIn K mainGlobals "int" = some none)
    (hb_isinstance : PySem.W.nsIn K mainGlobals "isinstance" = some none)
    (hb_len : PySem.W.nsIn K mainGlobals "len" = some none)
    (hb_list : PySem.W.nsIn K mainGlobals "list" = some none)
    (hb_min : PySem.W.nsIn K mainGlobals "min" = some none)
    (hb_range : PySem.W.nsIn K mainGlobals "range" = some none)
    (hb_repr : PySem.W.nsIn K mainGlobals "repr" = some none)
    (hb_sorted : PySem.W.nsIn K mainGlobals "sorted" = some none)
    (hb_str : PySem.W.nsIn K mainGlobals "str" = some none)
    (hb_sum : PySem.W.nsIn K mainGlobals "sum" = some none)
    (hb_tuple : PySem.W.nsIn K mainGlobals "tuple" = some none)
    (hb_zip : PySem.W.nsIn K mainGlobals "zip" = some none)
    (hc_KEPT : PySem.W.nsIn K mainGlobals "KEPT" = some (some (.ref ac_KEPT)))
    (hl_KEPT : K.lookup ac_KEPT = some ⟨.type "tuple", odc_KEPT, .seq #[.str "call" tk_KEPT_0, .str "else" tk_KEPT_1, .str "end" tk_KEPT_2, .str "for" tk_KEPT_3, .str "if" tk_KEPT_4, .str "in" tk_KEPT_5, .str "on" tk_KEPT_6, .str "use" tk_KEPT_7, .str "with" tk_KEPT_8] nc_KEPT, slc_KEPT⟩)
    (hc_MOST_GOALS : PySem.W.nsIn K mainGlobals "MOST_GOALS" = some (some (.int 4000 tk_MOST_GOALS)))
    (hc_MOST_KINDS : PySem.W.nsIn K mainGlobals "MOST_KINDS" = some (some (.int 6 tk_MOST_KINDS)))
    (hc_MOST_LETTERS : PySem.W.nsIn K mainGlobals "MOST_LETTERS" = some (some (.int 8 tk_MOST_LETTERS)))
    (hc_MOST_RANK : PySem.W.nsIn K mainGlobals "MOST_RANK" = some (some (.int 3 tk_MOST_RANK)))
    (hc_MOST_STATES : PySem.W.nsIn K mainGlobals "MOST_STATES" = some (some (.int 60 tk_MOST_STATES)))
    (hg_BadKinds : PySem.W.nsIn K mainGlobals "BadKinds" = some (some (.ref aC_BadKinds)))
    (hx_BadKinds : PySem.W.excIn K aC_BadKinds [.type "ValueError", .type "Exception", .type "BaseException", .type "object"] "ValueError.__new__" = true)
    (hk_BadKinds : PySem.W.keepIn K (.ref aC_BadKinds) = true)
    (he_BadKinds : PySem.W.subIn K (.ref aC_BadKinds) (.type "BaseException") = some true)
    (ht_BadKinds : PySem.W.typeIn K (.ref aC_BadKinds) = some (.type "type"))
    (hg_BadNumber : PySem.W.nsIn K mainGlobals "BadNumber" = some (some (.ref aC_BadNumber)))
    (hx_BadNumber : PySem.W.excIn K aC_BadNumber [.type "ValueError", .type "Exception", .type "BaseException", .type "object"] "ValueError.__new__" = true)
    (hk_BadNumber : PySem.W.keepIn K (.ref aC_BadNumber) = true)
    (he_BadNumber : PySem.W.subIn K (.ref aC_BadNumber) (.type "BaseException") = some true)
    (ht_BadNumber : PySem.W.typeIn K (.ref aC_BadNumber) = some (.type "type"))
    (hw0_BadNumber : PySem.W.kitOne K (.type "NoneType") (.ref aC_BadNumber) = some false)
    (hw1_BadNumber : PySem.W.exmOne K (.ref aC_BadNumber) (.ref aC_WritingError) = some true)
    (hw2_BadNumber : PySem.W.findIn K (.ref aC_BadNumber) "__getattribute__" = some (some (.builtin "BaseException.__getattribute__")))
    (hw3_BadNumber : PySem.W.findIn K (.ref aC_BadNumber) "__getattr__" = some none)
    (hw4_BadNumber : PySem.W.hasDictIn K aC_BadNumber = true)
    (hw5_BadNumber : PySem.W.findIn K (.ref aC_BadNumber) "__class__" = some (some (.builtin "object.__class__")))
    (hw6_BadNumber : PySem.W.specialIn K (.builtin "object.__class__") "__get__" = some (some (.builtin "getset_descriptor.__get__")))
    (hw7_BadNumber : PySem.W.takesIn K (.builtin "object.__class__") = some true)
    (hw8_BadNumber : PySem.W.mroIn K aC_BadNumber (.type "object") = some true)
    (hw9_BadNumber : PySem.W.kitOne K (.ref aC_BadNumber) (.ref aC_BadNumber) = some true)
    (hg_BadSet : PySem.W.nsIn K mainGlobals "BadSet" = some (some (.ref aC_BadSet)))
    (hx_BadSet : PySem.W.excIn K aC_BadSet [.type "ValueError", .type "Exception", .type "BaseException", .type "object"] "ValueError.__new__" = true)
    (hk_BadSet : PySem.W.keepIn K (.ref aC_BadSet) = true)
    (he_BadSet : PySem.W.subIn K (.ref aC_BadSet) (.type "BaseException") = some true)
    (ht_BadSet : PySem.W.typeIn K (.ref aC_BadSet) = some (.type "type"))
    (hg_WritingError : PySem.W.nsIn K mainGlobals "WritingError" = some (some (.ref aC_WritingError)))
    (a_is_name : PySem.W.nsIn K mainGlobals "is_name" = some (some (.ref fa_is_name)))
    (l_is_name : K.lookup fa_is_name = some ⟨oc_is_name, od_is_name, .func (PySem.W.fnOf "is_name" "is_name" (defArgs s_is_name) (defBody s_is_name) (defScope s_is_name) .none kV_is_name dc_is_name pm_is_name an_is_name cd_is_name ct_is_name), sl_is_name⟩)
    (c_is_name : PySem.W.codeIn K cd_is_name "is_name" = true)
    (k_is_name : PySem.W.keepIn K (.ref fa_is_name) = true)
    (a_is_number : PySem.W.nsIn K mainGlobals "is_number" = some (some (.ref fa_is_number)))
    (l_is_number : K.lookup fa_is_number = some ⟨oc_is_number, od_is_number, .func (PySem.W.fnOf "is_number" "is_number" (defArgs s_is_number) (defBody s_is_number) (defScope s_is_number) .none kV_is_number dc_is_number pm_is_number an_is_number cd_is_number ct_is_number), sl_is_number⟩)
    (c_is_number : PySem.W.codeIn K cd_is_number "is_number" = true)
    (k_is_number : PySem.W.keepIn K (.ref fa_is_number) = true)
    (a_is_kind : PySem.W.nsIn K mainGlobals "is_kind" = some (some (.ref fa_is_kind)))
    (l_is_kind : K.lookup fa_is_kind = some ⟨oc_is_kind, od_is_kind, .func (PySem.W.fnOf "is_kind" "is_kind" (defArgs s_is_kind) (defBody s_is_kind) (defScope s_is_kind) .none kV_is_kind dc_is_kind pm_is_kind an_is_kind cd_is_kind ct_is_kind), sl_is_kind⟩)
    (c_is_kind : PySem.W.codeIn K cd_is_kind "is_kind" = true)
    (k_is_kind : PySem.W.keepIn K (.ref fa_is_kind) = true)
    (a_is_kinds : PySem.W.nsIn K mainGlobals "is_kinds" = some (some (.ref fa_is_kinds)))
    (l_is_kinds : K.lookup fa_is_kinds = some ⟨oc_is_kinds, od_is_kinds, .func (PySem.W.fnOf "is_kinds" "is_kinds" (defArgs s_is_kinds) (defBody s_is_kinds) (defScope s_is_kinds) .none kV_is_kinds dc_is_kinds pm_is_kinds an_is_kinds cd_is_kinds ct_is_kinds), sl_is_kinds⟩)
    (c_is_kinds : PySem.W.codeIn K cd_is_kinds "is_kinds" = true)
    (k_is_kinds : PySem.W.keepIn K (.ref fa_is_kinds) = true)
    (a_need_kinds : PySem.W.nsIn K mainGlobals "need_kinds" = some (some (.ref fa_need_kinds)))
    (l_need_kinds : K.lookup fa_need_kinds = some ⟨oc_need_kinds, od_need_kinds, .func (PySem.W.fnOf "need_kinds" "need_kinds" (defArgs s_need_kinds) (defBody s_need_kinds) (defScope s_need_kinds) .none kV_need_kinds dc_need_kinds pm_need_kinds an_need_kinds cd_need_kinds ct_need_kinds), sl_need_kinds⟩)
    (c_need_kinds : PySem.W.codeIn K cd_need_kinds "need_kinds" = true)
    (k_need_kinds : PySem.W.keepIn K (.ref fa_need_kinds) = true)
    (a_rows_of : PySem.W.nsIn K mainGlobals "rows_of" = some (some (.ref fa_rows_of)))
    (l_rows_of : K.lookup fa_rows_of = some ⟨oc_rows_of, od_rows_of, .func (PySem.W.fnOf "rows_of" "rows_of" (defArgs s_rows_of) (defBody s_rows_of) (defScope s_rows_of) .none kV_rows_of dc_rows_of pm_rows_of an_rows_of cd_rows_of ct_rows_of), sl_rows_of⟩)
    (c_rows_of : PySem.W.codeIn K cd_rows_of "rows_of" = true)
    (k_rows_of : PySem.W.keepIn K (.ref fa_rows_of) = true)
    (a_counts_to : PySem.W.nsIn K mainGlobals "counts_to" = some (some (.ref fa_counts_to)))
    (l_counts_to : K.lookup fa_counts_to = some ⟨oc_counts_to, od_counts_to, .func (PySem.W.fnOf "counts_to" "counts_to" (defArgs s_counts_to) (defBody s_counts_to) (defScope s_counts_to) .none kV_counts_to dc_counts_to pm_counts_to an_counts_to cd_counts_to ct_counts_to), sl_counts_to⟩)
    (c_counts_to : PySem.W.codeIn K cd_counts_to "counts_to" = true)
    (k_counts_to : PySem.W.keepIn K (.ref fa_counts_to) = true)
    (a_count : PySem.W.nsIn K mainGlobals "count" = some (some (.ref fa_count)))
    (l_count : K.lookup fa_count = some ⟨oc_count, od_count, .func (PySem.W.fnOf "count" "count" (defArgs s_count) (defBody s_count) (defScope s_count) .none kV_count dc_count pm_count an_count cd_count ct_count), sl_count⟩)
    (c_count : PySem.W.codeIn K cd_count "count" = true)
    (k_count : PySem.W.keepIn K (.ref fa_count) = true)
    (a_tuples_of : PySem.W.nsIn K mainGlobals "tuples_of" = some (some (.ref fa_tuples_of)))
    (l_tuples_of : K.lookup fa_tuples_of = some ⟨oc_tuples_of, od_tuples_of, .func (PySem.W.fnOf "tuples_of" "tuples_of" (defArgs s_tuples_of) (defBody s_tuples_of) (defScope s_tuples_of) .none kV_tuples_of dc_tuples_of pm_tuples_of an_tuples_of cd_tuples_of ct_tuples_of), sl_tuples_of⟩)
    (c_tuples_of : PySem.W.codeIn K cd_tuples_of "tuples_of" = true)
    (k_tuples_of : PySem.W.keepIn K (.ref fa_tuples_of) = true)
    (a_are_states : PySem.W.nsIn K mainGlobals "are_states" = some (some (.ref fa_are_states)))
    (l_are_states : K.lookup fa_are_states = some ⟨oc_are_states, od_are_states, .func (PySem.W.fnOf "are_states" "are_states" (defArgs s_are_states) (defBody s_are_states) (defScope s_are_states) .none kV_are_states dc_are_states pm_are_states an_are_states cd_are_states ct_are_states), sl_are_states⟩)
    (c_are_states : PySem.W.codeIn K cd_are_states "are_states" = true)
    (k_are_states : PySem.W.keepIn K (.ref fa_are_states) = true)
    (a_tuples_number : PySem.W.nsIn K mainGlobals "tuples_number" = some (some (.ref fa_tuples_number)))
    (l_tuples_number : K.lookup fa_tuples_number = some ⟨oc_tuples_number, od_tuples_number, .func (PySem.W.fnOf "tuples_number" "tuples_number" (defArgs s_tuples_number) (defBody s_tuples_number) (defScope s_tuples_number) .none kV_tuples_number dc_tuples_number pm_tuples_number an_tuples_number cd_tuples_number ct_tuples_number), sl_tuples_number⟩)
    (c_tuples_number : PySem.W.codeIn K cd_tuples_number "tuples_number" = true)
    (k_tuples_number : PySem.W.keepIn K (.ref fa_tuples_number) = true)
    (a_is_row : PySem.W.nsIn K mainGlobals "is_row" = some (some (.ref fa_is_row)))
    (l_is_row : K.lookup fa_is_row = some ⟨oc_is_row, od_is_row, .func (PySem.W.fnOf "is_row" "is_row" (defArgs s_is_row) (defBody s_is_row) (defScope s_is_row) .none kV_is_row dc_is_row pm_is_row an_is_row cd_is_row ct_is_row), sl_is_row⟩)
    (c_is_row : PySem.W.codeIn K cd_is_row "is_row" = true)
    (k_is_row : PySem.W.keepIn K (.ref fa_is_row) = true)
    (a_goals_of : PySem.W.nsIn K mainGlobals "goals_of" = some (some (.ref fa_goals_of)))
    (l_goals_of : K.lookup fa_goals_of = some ⟨oc_goals_of, od_goals_of, .func (PySem.W.fnOf "goals_of" "goals_of" (defArgs s_goals_of) (defBody s_goals_of) (defScope s_goals_of) .none kV_goals_of dc_goals_of pm_goals_of an_goals_of cd_goals_of ct_goals_of), sl_goals_of⟩)
    (c_goals_of : PySem.W.codeIn K cd_goals_of "goals_of" = true)
    (k_goals_of : PySem.W.keepIn K (.ref fa_goals_of) = true)
    (a_is_set : PySem.W.nsIn K mainGlobals "is_set" = some (some (.ref fa_is_set)))
    (l_is_set : K.lookup fa_is_set = some ⟨oc_is_set, od_is_set, .func (PySem.W.fnOf "is_set" "is_set" (defArgs s_is_set) (defBody s_is_set) (defScope s_is_set) .none kV_is_set dc_is_set pm_is_set an_is_set cd_is_set ct_is_set), sl_is_set⟩)
    (c_is_set : PySem.W.codeIn K cd_is_set "is_set" = true)
    (k_is_set : PySem.W.keepIn K (.ref fa_is_set) = true)
    (a_need_set : PySem.W.nsIn K mainGlobals "need_set" = some (some (.ref fa_need_set)))
    (l_need_set : K.lookup fa_need_set = some ⟨oc_need_set, od_need_set, .func (PySem.W.fnOf "need_set" "need_set" (defArgs s_need_set) (defBody s_need_set) (defScope s_need_set) .none kV_need_set dc_need_set pm_need_set an_need_set cd_need_set ct_need_set), sl_need_set⟩)
    (c_need_set : PySem.W.codeIn K cd_need_set "need_set" = true)
    (k_need_set : PySem.W.keepIn K (.ref fa_need_set) = true)
    (a_rows_in : PySem.W.nsIn K mainGlobals "rows_in" = some (some (.ref fa_rows_in)))
    (l_rows_in : K.lookup fa_rows_in = some ⟨oc_rows_in, od_rows_in, .func (PySem.W.fnOf "rows_in" "rows_in" (defArgs s_rows_in) (defBody s_rows_in) (defScope s_rows_in) .none kV_rows_in dc_rows_in pm_rows_in an_rows_in cd_rows_in ct_rows_in), sl_rows_in⟩)
    (c_rows_in : PySem.W.codeIn K cd_rows_in "rows_in" = true)
    (k_rows_in : PySem.W.keepIn K (.ref fa_rows_in) = true)
    (a_number_in : PySem.W.nsIn K mainGlobals "number_in" = some (some (.ref fa_number_in)))
    (l_number_in : K.lookup fa_number_in = some ⟨oc_number_in, od_number_in, .func (PySem.W.fnOf "number_in" "number_in" (defArgs s_number_in) (defBody s_number_in) (defScope s_number_in) .none kV_number_in dc_number_in pm_number_in an_number_in cd_number_in ct_number_in), sl_number_in⟩)
    (c_number_in : PySem.W.codeIn K cd_number_in "number_in" = true)
    (k_number_in : PySem.W.keepIn K (.ref fa_number_in) = true)
    (a__law_begun : PySem.W.nsIn K mainGlobals "_law_begun" = some (some (.ref fa__law_begun)))
    (l__law_begun : K.lookup fa__law_begun = some ⟨oc__law_begun, od__law_begun, .func (PySem.W.fnOf "_law_begun" "_law_begun" (defArgs s__law_begun) (defBody s__law_begun) (defScope s__law_begun) .none kV__law_begun dc__law_begun pm__law_begun an__law_begun cd__law_begun ct__law_begun), sl__law_begun⟩)
    (c__law_begun : PySem.W.codeIn K cd__law_begun "_law_begun" = true)
    (k__law_begun : PySem.W.keepIn K (.ref fa__law_begun) = true)
    (a__law_mixed : PySem.W.nsIn K mainGlobals "_law_mixed" = some (some (.ref fa__law_mixed)))
    (l__law_mixed : K.lookup fa__law_mixed = some ⟨oc__law_mixed, od__law_mixed, .func (PySem.W.fnOf "_law_mixed" "_law_mixed" (defArgs s__law_mixed) (defBody s__law_mixed) (defScope s__law_mixed) .none kV__law_mixed dc__law_mixed pm__law_mixed an__law_mixed cd__law_mixed ct__law_mixed), sl__law_mixed⟩)
    (c__law_mixed : PySem.W.codeIn K cd__law_mixed "_law_mixed" = true)
    (k__law_mixed : PySem.W.keepIn K (.ref fa__law_mixed) = true)
    (a__law_take : PySem.W.nsIn K mainGlobals "_law_take" = some (some (.ref fa__law_take)))
    (l__law_take : K.lookup fa__law_take = some ⟨oc__law_take, od__law_take, .func (PySem.W.fnOf "_law_take" "_law_take" (defArgs s__law_take) (defBody s__law_take) (defScope s__law_take) .none kV__law_take dc__law_take pm__law_take an__law_take cd__law_take ct__law_take), sl__law_take⟩)
    (c__law_take : PySem.W.codeIn K cd__law_take "_law_take" = true)
    (k__law_take : PySem.W.keepIn K (.ref fa__law_take) = true)
    (a__law_pick : PySem.W.nsIn K mainGlobals "_law_pick" = some (some (.ref fa__law_pick)))
    (l__law_pick : K.lookup fa__law_pick = some ⟨oc__law_pick, od__law_pick, .func (PySem.W.fnOf "_law_pick" "_law_pick" (defArgs s__law_pick) (defBody s__law_pick) (defScope s__law_pick) .none kV__law_pick dc__law_pick pm__law_pick an__law_pick cd__law_pick ct__law_pick), sl__law_pick⟩)
    (c__law_pick : PySem.W.codeIn K cd__law_pick "_law_pick" = true)
    (k__law_pick : PySem.W.keepIn K (.ref fa__law_pick) = true)
    (a__law_shuffled : PySem.W.nsIn K mainGlobals "_law_shuffled" = some (some (.ref fa__law_shuffled)))
    (l__law_shuffled : K.lookup fa__law_shuffled = some ⟨oc__law_shuffled, od__law_shuffled, .func (PySem.W.fnOf "_law_shuffled" "_law_shuffled" (defArgs s__law_shuffled) (defBody s__law_shuffled) (defScope s__law_shuffled) .none kV__law_shuffled dc__law_shuffled pm__law_shuffled an__law_shuffled cd__law_shuffled ct__law_shuffled), sl__law_shuffled⟩)
    (c__law_shuffled : PySem.W.codeIn K cd__law_shuffled "_law_shuffled" = true)
    (k__law_shuffled : PySem.W.keepIn K (.ref fa__law_shuffled) = true)
    (a__law_names : PySem.W.nsIn K mainGlobals "_law_names" = some (some (.ref fa__law_names)))
    (l__law_names : K.lookup fa__law_names = some ⟨oc__law_names, od__law_names, .func (PySem.W.fnOf "_law_names" "_law_names" (defArgs s__law_names) (defBody s__law_names) (defScope s__law_names) .none kV__law_names dc__law_names pm__law_names an__law_names cd__law_names ct__law_names), sl__law_names⟩)
    (c__law_names : PySem.W.codeIn K cd__law_names "_law_names" = true)
    (k__law_names : PySem.W.keepIn K (.ref fa__law_names) = true)
    (a__law_all_of : PySem.W.nsIn K mainGlobals "_law_all_of" = some (some (.ref fa__law_all_of)))
    (l__law_all_of : K.lookup fa__law_all_of = some ⟨oc__law_all_of, od__law_all_of, .func (PySem.W.fnOf "_law_all_of" "_law_all_of" (defArgs s__law_all_of) (defBody s__law_all_of) (defScope s__law_all_of) .none kV__law_all_of dc__law_all_of pm__law_all_of an__law_all_of cd__law_all_of ct__law_all_of), sl__law_all_of⟩)
    (c__law_all_of : PySem.W.codeIn K cd__law_all_of "_law_all_of" = true)
    (k__law_all_of : PySem.W.keepIn K (.ref fa__law_all_of) = true)
    (a__law_counts : PySem.W.nsIn K mainGlobals "_law_counts" = some (some (.ref fa__law_counts)))
    (l__law_counts : K.lookup fa__law_counts = some ⟨oc__law_counts, od__law_counts, .func (PySem.W.fnOf "_law_counts" "_law_counts" (defArgs s__law_counts) (defBody s__law_counts) (defScope s__law_counts) .none kV__law_counts dc__law_counts pm__law_counts an__law_counts cd__law_counts ct__law_counts), sl__law_counts⟩)
    (c__law_counts : PySem.W.codeIn K cd__law_counts "_law_counts" = true)
    (k__law_counts : PySem.W.keepIn K (.ref fa__law_counts) = true)
    (a__law_caught : PySem.W.nsIn K mainGlobals "_law_caught" = some (some (.ref fa__law_caught)))
    (l__law_caught : K.lookup fa__law_caught = some ⟨oc__law_caught, od__law_caught, .func (PySem.W.fnOf "_law_caught" "_law_caught" (defArgs s__law_caught) (defBody s__law_caught) (defScope s__law_caught) .none kV__law_caught dc__law_caught pm__law_caught an__law_caught cd__law_caught ct__law_caught), sl__law_caught⟩)
    (c__law_caught : PySem.W.codeIn K cd__law_caught "_law_caught" = true)
    (k__law_caught : PySem.W.keepIn K (.ref fa__law_caught) = true)
    (a_law : PySem.W.nsIn K mainGlobals "law" = some (some (.ref fa_law)))
    (l_law : K.lookup fa_law = some ⟨oc_law, od_law, .func (PySem.W.fnOf "law" "law" (defArgs s_law) (defBody s_law) (defScope s_law) .none kV_law dc_law pm_law an_law (.ref cL) ct_law), sl_law⟩)
    (c_law : PySem.W.codeIn K (.ref cL) "law" = true)
    (k_law : PySem.W.keepIn K (.ref fa_law) = true)
    (atT : h.get? Pt = some { cls := .none, data := .fields #[] }) (noT : K.lookup Pt = none) (code : PySem.W.codeHdIn K cL Pt = true) : EndAt l w K 14 63 "script" mg fa h := by
  have e := hfa.symm.trans (PySem.W.mg_of X G a_law)
  cases e
  let T : Tx K mg := {
    b_abs := PySem.W.mg_none_of X G hb_abs
    b_all := PySem.W.mg_none_of X G hb_all
    b_any := PySem.W.mg_none_of X G hb_any
    b_bool := PySem.W.mg_none_of X G hb_bool
    b_int := PySem.W.mg_none_of X G hb_int
    b_isinstance := PySem.W.mg_none_of X G hb_isinstance
    b_len := PySem.W.mg_none_of X G hb_len
    b_list := PySem.W.mg_none_of X G hb_list
    b_min := PySem.W.mg_none_of X G hb_min
    b_range := PySem.W.mg_none_of X G hb_range
    b_repr := PySem.W.mg_none_of X G hb_repr
    b_sorted := PySem.W.mg_none_of X G hb_sorted
    b_str := PySem.W.mg_none_of X G hb_str
    b_sum := PySem.W.mg_none_of X G hb_sum
    b_tuple := PySem.W.mg_none_of X G hb_tuple
    b_zip := PySem.W.mg_none_of X G hb_zip
    a_KEPT := ac_KEPT
    g_KEPT := PySem.W.mg_of X G hc_KEPT
    d_KEPT := fun B => .tup (xs := [.str "call", .str "else", .str "end", .str "for", .str "if", .str "in", .str "on", .str "use", .str "with"]) (Or.inr ⟨_, _, _, hl_KEPT, rfl, rfl, (by rw [sizeLine_eq]; show 9 ≤ 16777216; decide), (.cons ⟨_, rfl⟩ (.cons ⟨_, rfl⟩ (.cons ⟨_, rfl⟩ (.cons ⟨_, rfl⟩ (.cons ⟨_, rfl⟩ (.cons ⟨_, rfl⟩ (.cons ⟨_, rfl⟩ (.cons ⟨_, rfl⟩ (.cons ⟨_, rfl⟩ .nil)))))))))⟩) (.cons (.str _) (.cons (.str _) (.cons (.str _) (.cons (.str _) (.cons (.str _) (.cons (.str _) (.cons (.str _) (.cons (.str _) (.cons (.str _) .nil)))))))))
    t_MOST_GOALS := tk_MOST_GOALS
    k_MOST_GOALS := PySem.W.mg_of X G hc_MOST_GOALS
    t_MOST_KINDS := tk_MOST_KINDS
    k_MOST_KINDS := PySem.W.mg_of X G hc_MOST_KINDS
    t_MOST_LETTERS := tk_MOST_LETTERS
    k_MOST_LETTERS := PySem.W.mg_of X G hc_MOST_LETTERS
    t_MOST_RANK := tk_MOST_RANK
    k_MOST_RANK := PySem.W.mg_of X G hc_MOST_RANK
    t_MOST_STATES := tk_MOST_STATES
    k_MOST_STATES := PySem.W.mg_of X G hc_MOST_STATES
    ct := ctOf [("BadKinds", aC_BadKinds), ("BadNumber", aC_BadNumber), ("BadSet", aC_BadSet), ("WritingError", aC_WritingError)]
    g_BadKinds := by rw [(show ctOf [("BadKinds", aC_BadKinds), ("BadNumber", aC_BadNumber), ("BadSet", aC_BadSet), ("WritingError", aC_WritingError)] "BadKinds" = aC_BadKinds from ct_hd)]; exact PySem.W.mg_of X G hg_BadKinds
    x_BadKinds := by rw [(show ctOf [("BadKinds", aC_BadKinds), ("BadNumber", aC_BadNumber), ("BadSet", aC_BadSet), ("WritingError", aC_WritingError)] "BadKinds" = aC_BadKinds from ct_hd)]; exact hx_BadKinds
    k_BadKinds := by rw [(show ctOf [("BadKinds", aC_BadKinds), ("BadNumber", aC_BadNumber), ("BadSet", aC_BadSet), ("WritingError", aC_WritingError)] "BadKinds" = aC_BadKinds from ct_hd)]; exact hk_BadKinds
    e_BadKinds := by rw [(show ctOf [("BadKinds", aC_BadKinds), ("BadNumber", aC_BadNumber), ("BadSet", aC_BadSet), ("WritingError", aC_WritingError)] "BadKinds" = aC_BadKinds from ct_hd)]; exact he_BadKinds
    t_BadKinds := by rw [(show ctOf [("BadKinds", aC_BadKinds), ("BadNumber", aC_BadNumber), ("BadSet", aC_BadSet), ("WritingError", aC_WritingError)] "BadKinds" = aC_BadKinds from ct_hd)]; exact ht_BadKinds
    g_BadNumber := by rw [(show ctOf [("BadKinds", aC_BadKinds), ("BadNumber", aC_BadNumber), ("BadSet", aC_BadSet), ("WritingError", aC_WritingError)] "BadNumber" = aC_BadNumber from (ct_tl (by decide) ct_hd))]; exact PySem.W.mg_of X G hg_BadNumber
    x_BadNumber := by rw [(show ctOf [("BadKinds", aC_BadKinds), ("BadNumber", aC_BadNumber), ("BadSet", aC_BadSet), ("WritingError", aC_WritingError)] "BadNumber" = aC_BadNumber from (ct_tl (by decide) ct_hd))]; exact hx_BadNumber
    k_BadNumber := by rw [(show ctOf [("BadKinds", aC_BadKinds), ("BadNumber", aC_BadNumber), ("BadSet", aC_BadSet), ("WritingError", aC_WritingError)] "BadNumber" = aC_BadNumber from (ct_tl (by decide) ct_hd))]; exact hk_BadNumber
    e_BadNumber := by rw [(show ctOf [("BadKinds", aC_BadKinds), ("BadNumber", aC_BadNumber), ("BadSet", aC_BadSet), ("WritingError", aC_WritingError)] "BadNumber" = aC_BadNumber from (ct_tl (by decide) ct_hd))]; exact he_BadNumber
    t_BadNumber := by rw [(show ctOf [("BadKinds", aC_BadKinds), ("BadNumber", aC_BadNumber), ("BadSet", aC_BadSet), ("WritingError", aC_WritingError)] "BadNumber" = aC_BadNumber from (ct_tl (by decide) ct_hd))]; exact ht_BadNumber
    w_BadNumber := isaOk_of (by rw [(show ctOf [("BadKinds", aC_BadKinds), ("BadNumber", aC_BadNumber), ("BadSet", aC_BadSet), ("WritingError", aC_WritingError)] "BadNumber" = aC_BadNumber from (ct_tl (by decide) ct_hd))]; exact hw0_BadNumber) (by rw [(show ctOf [("BadKinds", aC_BadKinds), ("BadNumber", aC_BadNumber), ("BadSet", aC_BadSet), ("WritingError", aC_WritingError)] "BadNumber" = aC_BadNumber from (ct_tl (by decide) ct_hd)), (show ctOf [("BadKinds", aC_BadKinds), ("BadNumber", aC_BadNumber), ("BadSet", aC_BadSet), ("WritingError", aC_WritingError)] "WritingError" = aC_WritingError from (ct_tl (by decide) (ct_tl (by decide) (ct_tl (by decide) ct_hd))))]; exact hw1_BadNumber) (by rw [(show ctOf [("BadKinds", aC_BadKinds), ("BadNumber", aC_BadNumber), ("BadSet", aC_BadSet), ("WritingError", aC_WritingError)] "BadNumber" = aC_BadNumber from (ct_tl (by decide) ct_hd))]; exact ⟨hw2_BadNumber, hw3_BadNumber, he_BadNumber, hw4_BadNumber, hw5_BadNumber, hw6_BadNumber, hw7_BadNumber, hw8_BadNumber⟩) (by rw [(show ctOf [("BadKinds", aC_BadKinds), ("BadNumber", aC_BadNumber), ("BadSet", aC_BadSet), ("WritingError", aC_WritingError)] "BadNumber" = aC_BadNumber from (ct_tl (by decide) ct_hd))]; exact hw9_BadNumber)
    g_BadSet := by rw [(show ctOf [("BadKinds", aC_BadKinds), ("BadNumber", aC_BadNumber), ("BadSet", aC_BadSet), ("WritingError", aC_WritingError)] "BadSet" = aC_BadSet from (ct_tl (by decide) (ct_tl (by decide) ct_hd)))]; exact PySem.W.mg_of X G hg_BadSet
    x_BadSet := by rw [(show ctOf [("BadKinds", aC_BadKinds), ("BadNumber", aC_BadNumber), ("BadSet", aC_BadSet), ("WritingError", aC_WritingError)] "BadSet" = aC_BadSet from (ct_tl (by decide) (ct_tl (by decide) ct_hd)))]; exact hx_BadSet
    k_BadSet := by rw [(show ctOf [("BadKinds", aC_BadKinds), ("BadNumber", aC_BadNumber), ("BadSet", aC_BadSet), ("WritingError", aC_WritingError)] "BadSet" = aC_BadSet from (ct_tl (by decide) (ct_tl (by decide) ct_hd)))]; exact hk_BadSet
    e_BadSet := by rw [(show ctOf [("BadKinds", aC_BadKinds), ("BadNumber", aC_BadNumber), ("BadSet", aC_BadSet), ("WritingError", aC_WritingError)] "BadSet" = aC_BadSet from (ct_tl (by decide) (ct_tl (by decide) ct_hd)))]; exact he_BadSet
    t_BadSet := by rw [(show ctOf [("BadKinds", aC_BadKinds), ("BadNumber", aC_BadNumber), ("BadSet", aC_BadSet), ("WritingError", aC_WritingError)] "BadSet" = aC_BadSet from (ct_tl (by decide) (ct_tl (by decide) ct_hd)))]; exact ht_BadSet
    g_WritingError := by rw [(show ctOf [("BadKinds", aC_BadKinds), ("BadNumber", aC_BadNumber), ("BadSet", aC_BadSet), ("WritingError", aC_WritingError)] "WritingError" = aC_WritingError from (ct_tl (by decide) (ct_tl (by decide) (ct_tl (by decide) ct_hd))))]; exact PySem.W.mg_of X G hg_WritingError
    a_is_name := fa_is_name
    fd_is_name := _
    f_is_name := fun_mk (st := s_is_name) l_is_name c_is_name k_is_name
    g_is_name := PySem.W.mg_of X G a_is_name
    bi_is_name := Fun.binds (ps := ["thing"]) (fun_mk (st := s_is_name) l_is_name c_is_name k_is_name) fun _ _ _ _ _ _ us hl => match us, hl with | [_], _ => rfl
    a_is_number := fa_is_number
    fd_is_number := _
    f_is_number := fun_mk (st := s_is_number) l_is_number c_is_number k_is_number
    g_is_number := PySem.W.mg_of X G a_is_number
    bi_is_number := Fun.binds (ps := ["thing", "end"]) (fun_mk (st := s_is_number) l_is_number c_is_number k_is_number) fun _ _ _ _ _ _ us hl => match us, hl with | [_, _], _ => rfl
    a_is_kind := fa_is_kind
    fd_is_kind := _
    f_is_kind := fun_mk (st := s_is_kind) l_is_kind c_is_kind k_is_kind
    g_is_kind := PySem.W.mg_of X G a_is_kind
    bi_is_kind := Fun.binds (ps := ["thing"]) (fun_mk (st := s_is_kind) l_is_kind c_is_kind k_is_kind) fun _ _ _ _ _ _ us hl => match us, hl with | [_], _ => rfl
    a_is_kinds := fa_is_kinds
    fd_is_kinds := _
    f_is_kinds := fun_mk (st := s_is_kinds) l_is_kinds c_is_kinds k_is_kinds
    g_is_kinds := PySem.W.mg_of X G a_is_kinds
    bi_is_kinds := Fun.binds (ps := ["thing"]) (fun_mk (st := s_is_kinds) l_is_kinds c_is_kinds k_is_kinds) fun _ _ _ _ _ _ us hl => match us, hl with | [_], _ => rfl
    a_need_kinds := fa_need_kinds
    fd_need_kinds := _
    f_need_kinds := fun_mk (st := s_need_kinds) l_need_kinds c_need_kinds k_need_kinds
    g_need_kinds := PySem.W.mg_of X G a_need_kinds
    bi_need_kinds := Fun.binds (ps := ["kinds"]) (fun_mk (st := s_need_kinds) l_need_kinds c_need_kinds k_need_kinds) fun _ _ _ _ _ _ us hl => match us, hl with | [_], _ => rfl
    a_rows_of := fa_rows_of
    fd_rows_of := _
    f_rows_of := fun_mk (st := s_rows_of) l_rows_of c_rows_of k_rows_of
    g_rows_of := PySem.W.mg_of X G a_rows_of
    bi_rows_of := Fun.binds (ps := ["counts", "total", "rank"]) (fun_mk (st := s_rows_of) l_rows_of c_rows_of k_rows_of) fun _ _ _ _ _ _ us hl => match us, hl with | [_, _, _], _ => rfl
    a_counts_to := fa_counts_to
    fd_counts_to := _
    f_counts_to := fun_mk (st := s_counts_to) l_counts_to c_counts_to k_counts_to
    g_counts_to := PySem.W.mg_of X G a_counts_to
    bi_counts_to := Fun.binds (ps := ["kinds", "many"]) (fun_mk (st := s_counts_to) l_counts_to c_counts_to k_counts_to) fun _ _ _ _ _ _ us hl => match us, hl with | [_, _], _ => rfl
    a_count := fa_count
    fd_count := _
    f_count := fun_mk (st := s_count) l_count c_count k_count
    g_count := PySem.W.mg_of X G a_count
    bi_count := Fun.binds (ps := ["kinds", "many"]) (fun_mk (st := s_count) l_count c_count k_count) fun _ _ _ _ _ _ us hl => match us, hl with | [_, _], _ => rfl
    a_tuples_of := fa_tuples_of
    fd_tuples_of := _
    f_tuples_of := fun_mk (st := s_tuples_of) l_tuples_of c_tuples_of k_tuples_of
    g_tuples_of := PySem.W.mg_of X G a_tuples_of
    bi_tuples_of := Fun.binds (ps := ["many", "rank"]) (fun_mk (st := s_tuples_of) l_tuples_of c_tuples_of k_tuples_of) fun _ _ _ _ _ _ us hl => match us, hl with | [_, _], _ => rfl
    a_are_states := fa_are_states
    fd_are_states := _
    f_are_states := fun_mk (st := s_are_states) l_are_states c_are_states k_are_states
    g_are_states := PySem.W.mg_of X G a_are_states
    bi_are_states := Fun.binds (ps := ["thing", "many"]) (fun_mk (st := s_are_states) l_are_states c_are_states k_are_states) fun _ _ _ _ _ _ us hl => match us, hl with | [_, _], _ => rfl
    a_tuples_number := fa_tuples_number
    fd_tuples_number := _
    f_tuples_number := fun_mk (st := s_tuples_number) l_tuples_number c_tuples_number k_tuples_number
    g_tuples_number := PySem.W.mg_of X G a_tuples_number
    bi_tuples_number := Fun.binds (ps := ["many", "rank"]) (fun_mk (st := s_tuples_number) l_tuples_number c_tuples_number k_tuples_number) fun _ _ _ _ _ _ us hl => match us, hl with | [_, _], _ => rfl
    a_is_row := fa_is_row
    fd_is_row := _
    f_is_row := fun_mk (st := s_is_row) l_is_row c_is_row k_is_row
    g_is_row := PySem.W.mg_of X G a_is_row
    bi_is_row := Fun.binds (ps := ["thing", "many", "rank"]) (fun_mk (st := s_is_row) l_is_row c_is_row k_is_row) fun _ _ _ _ _ _ us hl => match us, hl with | [_, _, _], _ => rfl
    a_goals_of := fa_goals_of
    fd_goals_of := _
    f_goals_of := fun_mk (st := s_goals_of) l_goals_of c_goals_of k_goals_of
    g_goals_of := PySem.W.mg_of X G a_goals_of
    bi_goals_of := Fun.binds (ps := ["kinds", "many"]) (fun_mk (st := s_goals_of) l_goals_of c_goals_of k_goals_of) fun _ _ _ _ _ _ us hl => match us, hl with | [_, _], _ => rfl
    a_is_set := fa_is_set
    fd_is_set := _
    f_is_set := fun_mk (st := s_is_set) l_is_set c_is_set k_is_set
    g_is_set := PySem.W.mg_of X G a_is_set
    bi_is_set := Fun.binds (ps := ["thing"]) (fun_mk (st := s_is_set) l_is_set c_is_set k_is_set) fun _ _ _ _ _ _ us hl => match us, hl with | [_], _ => rfl
    a_need_set := fa_need_set
    fd_need_set := _
    f_need_set := fun_mk (st := s_need_set) l_need_set c_need_set k_need_set
    g_need_set := PySem.W.mg_of X G a_need_set
    bi_need_set := Fun.binds (ps := ["trees"]) (fun_mk (st := s_need_set) l_need_set c_need_set k_need_set) fun _ _ _ _ _ _ us hl => match us, hl with | [_], _ => rfl
    a_rows_in := fa_rows_in
    fd_rows_in := _
    f_rows_in := fun_mk (st := s_rows_in) l_rows_in c_rows_in k_rows_in
    g_rows_in := PySem.W.mg_of X G a_rows_in
    bi_rows_in := Fun.binds (ps := ["lists", "total"]) (fun_mk (st := s_rows_in) l_rows_in c_rows_in k_rows_in) fun _ _ _ _ _ _ us hl => match us, hl with | [_, _], _ => rfl
    a_number_in := fa_number_in
    fd_number_in := _
    f_number_in := fun_mk (st := s_number_in) l_number_in c_number_in k_number_in
    g_number_in := PySem.W.mg_of X G a_number_in
    bi_number_in := Fun.binds (ps := ["trees", "many"]) (fun_mk (st := s_number_in) l_number_in c_number_in k_number_in) fun _ _ _ _ _ _ us hl => match us, hl with | [_, _], _ => rfl
    a__law_begun := fa__law_begun
    fd__law_begun := _
    f__law_begun := fun_mk (st := s__law_begun) l__law_begun c__law_begun k__law_begun
    g__law_begun := PySem.W.mg_of X G a__law_begun
    bi__law_begun := Fun.binds (ps := ["script"]) (fun_mk (st := s__law_begun) l__law_begun c__law_begun k__law_begun) fun _ _ _ _ _ _ us hl => match us, hl with | [_], _ => rfl
    a__law_mixed := fa__law_mixed
    fd__law_mixed := _
    f__law_mixed := fun_mk (st := s__law_mixed) l__law_mixed c__law_mixed k__law_mixed
    g__law_mixed := PySem.W.mg_of X G a__law_mixed
    bi__law_mixed := Fun.binds (ps := ["draw"]) (fun_mk (st := s__law_mixed) l__law_mixed c__law_mixed k__law_mixed) fun _ _ _ _ _ _ us hl => match us, hl with | [_], _ => rfl
    a__law_take := fa__law_take
    fd__law_take := _
    f__law_take := fun_mk (st := s__law_take) l__law_take c__law_take k__law_take
    g__law_take := PySem.W.mg_of X G a__law_take
    bi__law_take := Fun.binds (ps := ["draw", "many"]) (fun_mk (st := s__law_take) l__law_take c__law_take k__law_take) fun _ _ _ _ _ _ us hl => match us, hl with | [_, _], _ => rfl
    a__law_pick := fa__law_pick
    fd__law_pick := _
    f__law_pick := fun_mk (st := s__law_pick) l__law_pick c__law_pick k__law_pick
    g__law_pick := PySem.W.mg_of X G a__law_pick
    bi__law_pick := Fun.binds (ps := ["draw", "some"]) (fun_mk (st := s__law_pick) l__law_pick c__law_pick k__law_pick) fun _ _ _ _ _ _ us hl => match us, hl with | [_, _], _ => rfl
    a__law_shuffled := fa__law_shuffled
    fd__law_shuffled := _
    f__law_shuffled := fun_mk (st := s__law_shuffled) l__law_shuffled c__law_shuffled k__law_shuffled
    g__law_shuffled := PySem.W.mg_of X G a__law_shuffled
    bi__law_shuffled := Fun.binds (ps := ["draw", "some"]) (fun_mk (st := s__law_shuffled) l__law_shuffled c__law_shuffled k__law_shuffled) fun _ _ _ _ _ _ us hl => match us, hl with | [_, _], _ => rfl
    a__law_names := fa__law_names
    fd__law_names := _
    f__law_names := fun_mk (st := s__law_names) l__law_names c__law_names k__law_names
    g__law_names := PySem.W.mg_of X G a__law_names
    bi__law_names := Fun.binds (ps := ["draw", "many"]) (fun_mk (st := s__law_names) l__law_names c__law_names k__law_names) fun _ _ _ _ _ _ us hl => match us, hl with | [_, _], _ => rfl
    a__law_all_of := fa__law_all_of
    fd__law_all_of := _
    f__law_all_of := fun_mk (st := s__law_all_of) l__law_all_of c__law_all_of k__law_all_of
    g__law_all_of := PySem.W.mg_of X G a__law_all_of
    bi__law_all_of := Fun.binds (ps := ["kinds"]) (fun_mk (st := s__law_all_of) l__law_all_of c__law_all_of k__law_all_of) fun _ _ _ _ _ _ us hl => match us, hl with | [_], _ => rfl
    a__law_counts := fa__law_counts
    fd__law_counts := _
    f__law_counts := fun_mk (st := s__law_counts) l__law_counts c__law_counts k__law_counts
    g__law_counts := PySem.W.mg_of X G a__law_counts
    bi__law_counts := Fun.binds (ps := ["kinds", "most"]) (fun_mk (st := s__law_counts) l__law_counts c__law_counts k__law_counts) fun _ _ _ _ _ _ us hl => match us, hl with | [_, _], _ => rfl
    a__law_caught := fa__law_caught
    fd__law_caught := _
    f__law_caught := fun_mk (st := s__law_caught) l__law_caught c__law_caught k__law_caught
    g__law_caught := PySem.W.mg_of X G a__law_caught
    bi__law_caught := Fun.binds (ps := ["work"]) (fun_mk (st := s__law_caught) l__law_caught c__law_caught k__law_caught) fun _ _ _ _ _ _ us hl => match us, hl with | [_], _ => rfl
    a_law := fa
    fd_law := _
    f_law := fun_mk (st := s_law) l_law c_law k_law
    g_law := PySem.W.mg_of X G a_law
    bi_law := Fun.binds (ps := ["script"]) (fun_mk (st := s_law) l_law c_law k_law) fun _ _ _ _ _ _ us hl => match us, hl with | [_], _ => rfl
    kb_count_0_many_kinds := fun _ us ws _ h1 h2 => match us, ws, h1, h2 with | [], [_, _], _, _ => .of_eq rfl }
  refine ⟨_, cL, Pt, _, atT, noT, PySem.W.codeHd_of_K X code, fun s v => .of_eq rfl, fun H a ns len bits h1 h2 h3 h4 => ?_, fun base _ _ tb => ok_law T l_law c_law tb⟩
  obtain ⟨ρ', e⟩ := F_true Pt ns len bits
  exact law_spM e h1 h2 h3 h4


end K82

open PySem PySem.W PyProof.Rows in
set_option maxHeartbeats 0 in
theorem PySem.Challenge.cw_samewriting_k82_whole_how_many_trees_of_holds : PySem.Challenge.rw_samewriting_k82_whole_how_many_trees_of.Holds := by
 exact hd (by
  k_fill
  refine DL.end_walk (n := 63) (k := 14) (x := "script") rfl (by decide) rfl ⟨rfl, by decide, by decide⟩ (fun w h Y => PySem.W.km_in_of Y) ?F
  case F =>
    intro w mg fa h Y KX G hmg
    have tabs := PySem.W.km_tabs_of Y
    refine' K82.all_mk KX G hmg ?hb_abs ?hb_all ?hb_any ?hb_bool ?hb_int ?hb_isinstance ?hb_len ?hb_list ?hb_min ?hb_range ?hb_repr ?hb_sorted ?hb_str ?hb_sum ?hb_tuple ?hb_zip ?hc_KEPT ?hl_KEPT ?hc_MOST_GOALS ?hc_MOST_KINDS ?hc_MOST_LETTERS ?hc_MOST_RANK ?hc_MOST_STATES ?hg_BadKinds ?hx_BadKinds ?hk_BadKinds ?he_BadKinds ?ht_BadKinds ?hg_BadNumber ?hx_BadNumber ?hk_BadNumber ?he_BadNumber ?ht_BadNumber ?hw0_BadNumber ?hw1_BadNumber ?hw2_BadNumber ?hw3_BadNumber ?hw4_BadNumber ?hw5_BadNumber ?hw6_BadNumber ?hw7_BadNumber ?hw8_BadNumber ?hw9_BadNumber ?hg_BadSet ?hx_BadSet ?hk_BadSet ?he_BadSet ?ht_BadSet ?hg_WritingError ?a_is_name ?l_is_name ?c_is_name ?k_is_name ?a_is_number ?l_is_number ?c_is_number ?k_is_number ?a_is_kind ?l_is_kind ?c_is_kind ?k_is_kind ?a_is_kinds ?l_is_kinds ?c_is_kinds ?k_is_kinds ?a_need_kinds ?l_need_kinds ?c_need_kinds ?k_need_kinds ?a_rows_of ?l_rows_of ?c_rows_of ?k_rows_of ?a_counts_to ?l_counts_to ?c_counts_to ?k_counts_to ?a_count ?l_count ?c_count ?k_count ?a_tuples_of ?l_tuples_of ?c_tuples_of ?k_tuples_of ?a_are_states ?l_are_states ?c_are_states ?k_are_states ?a_tuples_number ?l_tuples_number ?c_tuples_number ?k_tuples_number ?a_is_row ?l_is_row ?c_is_row ?k_is_row ?a_goals_of ?l_goals_of ?c_goals_of ?k_goals_of ?a_is_set ?l_is_set ?c_is_set ?k_is_set ?a_need_set ?l_need_set ?c_need_set ?k_need_set ?a_rows_in ?l_rows_in ?c_rows_in ?k_rows_in ?a_number_in ?l_number_in ?c_number_in ?k_number_in ?a__law_begun ?l__law_begun ?c__law_begun ?k__law_begun ?a__law_mixed ?l__law_mixed ?c__law_mixed ?k__law_mixed ?a__law_take ?l__law_take ?c__law_take ?k__law_take ?a__law_pick ?l__law_pick ?c__law_pick ?k__law_pick ?a__law_shuffled ?l__law_shuffled ?c__law_shuffled ?k__law_shuffled ?a__law_names ?l__law_names ?c__law_names ?k__law_names ?a__law_all_of ?l__law_all_of ?c__law_all_of ?k__law_all_of ?a__law_counts ?l__law_counts ?c__law_counts ?k__law_counts ?a__law_caught ?l__law_caught ?c__law_caught ?k__law_caught ?a_law ?l_law ?c_law ?k_law (tabs _ (List.mem_singleton.mpr rfl)) ?noT ?code
    (case hb_abs => k_is); (case hb_all => k_is); (case hb_any => k_is); (case hb_bool => k_is); (case hb_int => k_is); (case hb_isinstance => k_is); (case hb_len => k_is); (case hb_list => k_is); (case hb_min => k_is); (case hb_range => k_is); (case hb_repr => k_is); (case hb_sorted => k_is); (case hb_str => k_is); (case hb_sum => k_is); (case hb_tuple => k_is); (case hb_zip => k_is); (case hc_KEPT => k_is); (case hl_KEPT => k_is); (case hc_MOST_GOALS => k_is); (case hc_MOST_KINDS => k_is); (case hc_MOST_LETTERS => k_is); (case hc_MOST_RANK => k_is); (case hc_MOST_STATES => k_is); (case hg_BadKinds => k_is); (case hx_BadKinds => k_exc); (case hk_BadKinds => k_is); (case he_BadKinds => k_is); (case ht_BadKinds => k_is); (case hg_BadNumber => k_is); (case hx_BadNumber => k_exc); (case hk_BadNumber => k_is); (case he_BadNumber => k_is); (case ht_BadNumber => k_is); (case hw0_BadNumber => kernel_rfl); (case hw1_BadNumber => kernel_rfl); (case hw2_BadNumber => k_is); (case hw3_BadNumber => k_is); (case hw4_BadNumber => k_is); (case hw5_BadNumber => k_is); (case hw6_BadNumber => k_is); (case hw7_BadNumber => k_is); (case hw8_BadNumber => k_is); (case hw9_BadNumber => kernel_rfl); (case hg_BadSet => k_is); (case hx_BadSet => k_exc); (case hk_BadSet => k_is); (case he_BadSet => k_is); (case ht_BadSet => k_is); (case hg_WritingError => k_is); (case a_is_name => k_is); (case l_is_name => k_is); (case c_is_name => k_is); (case k_is_name => k_is); (case a_is_number => k_is); (case l_is_number => k_is); (case c_is_number => k_is); (case k_is_number => k_is); (case a_is_kind => k_is); (case l_is_kind => k_is); (case c_is_kind => k_is); (case k_is_kind => k_is); (case a_is_kinds => k_is); (case l_is_kinds => k_is); (case c_is_kinds => k_is); (case k_is_kinds => k_is); (case a_need_kinds => k_is); (case l_need_kinds => k_is); (case c_need_kinds => k_is); (case k_need_kinds => k_is); (case a_rows_of => k_is); (case l_rows_of => k_is); (case c_rows_of => k_is); (case k_rows_of => k_is); (case a_counts_to => k_is); (case l_counts_to => k_is); (case c_counts_to => k_is); (case k_counts_to => k_is); (case a_count => k_is); (case l_count => k_is); (case c_count => k_is); (case k_count => k_is); (case a_tuples_of => k_is); (case l_tuples_of => k_is); (case c_tuples_of => k_is); (case k_tuples_of => k_is); (case a_are_states => k_is); (case l_are_states => k_is); (case c_are_states => k_is); (case k_are_states => k_is); (case a_tuples_number => k_is); (case l_tuples_number => k_is); (case c_tuples_number => k_is); (case k_tuples_number => k_is); (case a_is_row => k_is); (case l_is_row => k_is); (case c_is_row => k_is); (case k_is_row => k_is); (case a_goals_of => k_is); (case l_goals_of => k_is); (case c_goals_of => k_is); (case k_goals_of => k_is); (case a_is_set => k_is); (case l_is_set => k_is); (case c_is_set => k_is); (case k_is_set => k_is); (case a_need_set => k_is); (case l_need_set => k_is); (case c_need_set => k_is); (case k_need_set => k_is); (case a_rows_in => k_is); (case l_rows_in => k_is); (case c_rows_in => k_is); (case k_rows_in => k_is); (case a_number_in => k_is); (case l_number_in => k_is); (case c_number_in => k_is); (case k_number_in => k_is); (case a__law_begun => k_is); (case l__law_begun => k_is); (case c__law_begun => k_is); (case k__law_begun => k_is); (case a__law_mixed => k_is); (case l__law_mixed => k_is); (case c__law_mixed => k_is); (case k__law_mixed => k_is); (case a__law_take => k_is); (case l__law_take => k_is); (case c__law_take => k_is); (case k__law_take => k_is); (case a__law_pick => k_is); (case l__law_pick => k_is); (case c__law_pick => k_is); (case k__law_pick => k_is); (case a__law_shuffled => k_is); (case l__law_shuffled => k_is); (case c__law_shuffled => k_is); (case k__law_shuffled => k_is); (case a__law_names => k_is); (case l__law_names => k_is); (case c__law_names => k_is); (case k__law_names => k_is); (case a__law_all_of => k_is); (case l__law_all_of => k_is); (case c__law_all_of => k_is); (case k__law_all_of => k_is); (case a__law_counts => k_is); (case l__law_counts => k_is); (case c__law_counts => k_is); (case k__law_counts => k_is); (case a__law_caught => k_is); (case l__law_caught => k_is); (case c__law_caught => k_is); (case k__law_caught => k_is); (case a_law => k_is); (case l_law => k_is); (case c_law => k_is); (case k_law => k_is); (case noT => kernel_rfl); (case code => kernel_rfl))
end
