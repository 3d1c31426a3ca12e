import PyProof.Rows.All
import Wide.All
import OpenK.AllK
import Wide.FinOn
import HandS.ForMost
import HandS.ForExc
import HandS.IsInst
import HandS.TupAny
import HandS.Evl
import HandS.Flow
import HandS.Lambda
import HandS.Zip
import HandS.Wide
import HandS.TupMul
import HandS.SortInts
import HandS.Text
import HandS.Steps
import HandS.Style
import HandS.ExcValue
import HandS.ExcIs
import HandS.Defaults
import KE.KDictZip
import KE.GoesEnum
import HandS.TryOnly
import PyProof.ReprRoads
import HandS.Deep
import KE.KExcIs
import HandS.EndTab
import KE.KExcSuper
import HandS.ExcInit
import HandS.Nested
import HandS.ExcField
import KE.KRevSl
import HandS.SetFor
import HandS.StrMore
import HandS.Strs
import HandS.RaiseMore
import HandS.Conv
import HandS.TupSets
import HandS.Star
import PyProof.StrOps2
import PySem.Challenge.RW_samewriting_k40_whole_words_counted_in_l
set_option Elab.async false
set_option linter.all false
section
set_option maxRecDepth 100000
set_option maxHeartbeats 2000000
namespace DL
open PySem PySem.Spec PyProof.Rows L2
open Evl (Ex ex_rd ex_l ex_t)

inductive D where
  | non
  | bl (b : Bool)
  | int (i : Int)
  | str (s : Str)
  | tup (l : List D)
  | lst (l : List D)
  | scr (l : List Int)
  | ty (n : String)
  | ref (a : Addr)
  | edc
  | ins (fl : List Str) (ns : List Str) (ds : List D)

structure Draw where
  wide : List Int
  cells : List Int
  rest : Int
  turn : Int

inductive Ob where
  | exc (C : Addr) (p : Option (Str × D))
  | ins (fl : List Str) (ns : List Str) (ds : List D)
  | dct (l : List (D × D))
  | dtt (l : List (D × D))
inductive Sl where
  | emp
  | sh (d : D)
  | own (l : List D)
  | own2 (l : List (List D))
  | drw (s : Draw)
  | ob (o : Ob)
  | tab (T : List (Addr × Str)) (d : D)

inductive Vl where
  | sh (d : D)
  | own (l : List D)
  | drw (s : Draw)
  | ob (o : Ob)
  | bor (i : Nat)

inductive R (α : Type) where
  | bad
  | ok (a : α)
  | exc (c : String) (p : Option (Str × D))

def R.bind {α β : Type} (x : R α) (f : α → R β) : R β := match x with
  | .bad => .bad
  | .ok a => f a
  | .exc c p => .exc c p
instance : Monad R where
  pure := .ok
  bind := R.bind

abbrev Env := List Sl

structure InsC (K : PySem.W.Frag) (C : Addr) (fl : List Str) : Prop where
  cls : Cls K C
  na : ∀ n ∈ fl, NoAttr K C n
mutual
inductive DV (K : PySem.W.Frag) (B : Hp) : V → D → Prop
  | non : DV K B .non .non
  | bl (b : Bool) : DV K B (.bl b) (.bl b)
  | int (i : Int) : DV K B (.int i) (.int i)
  | str (x : Str) : DV K B (.str x) (.str x)
  | ref (a : Addr) : DV K B (.ref a) (.ref a)
  | edc {a : Addr} : B a = some (.dK []) → DV K B (.ref a) .edc
  | ty (n : String) : DV K B (.ty n) (.ty n)
  | ins {a C dx : Addr} {fl ns : List Str} {xs : List V} {ds : List D} : InsC K C fl → B a = some (.ins C dx (ns.zip xs)) → B dx = some (.own a) → DVs K B xs ds → ns.length = xs.length → DV K B (.ref a) (.ins fl ns ds)
  | scr {a : Addr} {ns : List Int} : SqL K B a (ns.map V.int) → DV K B (.ref a) (.scr ns)
  | tup {a : Addr} {xs : List V} {ds : List D} : SqT K B a xs → DVs K B xs ds → DV K B (.ref a) (.tup ds)
  | lst {a : Addr} {xs : List V} {ds : List D} : B a = some (.lst xs) → DVs K B xs ds → DV K B (.ref a) (.lst ds)
inductive DVs (K : PySem.W.Frag) (B : Hp) : List V → List D → Prop
  | nil : DVs K B [] []
  | cons {v : V} {vs : List V} {d : D} {ds : List D} : DV K B v d → DVs K B vs ds → DVs K B (v :: vs) (d :: ds)
end

section
variable {K : PySem.W.Frag} {B B' H H' : Hp}
mutual
theorem DV.mono (e : Ex B B') : ∀ {v : V} {d : D}, DV K B v d → DV K B' v d
  | _, _, .non => .non
  | _, _, .bl b => .bl b
  | _, _, .int i => .int i
  | _, _, .str x => .str x
  | _, _, .ref a => .ref a
  | _, _, .edc h => .edc (e _ _ h)
  | _, _, .ty n => .ty n
  | _, _, .ins c h1 h2 r e' => .ins c (e _ _ h1) (e _ _ h2) (DVs.mono e r) e'
  | _, _, .scr h => .scr (ex_l e h)
  | _, _, .tup h r => .tup (ex_t e h) (DVs.mono e r)
  | _, _, .lst h r => .lst (e _ _ h) (DVs.mono e r)
theorem DVs.mono (e : Ex B B') : ∀ {vs : List V} {ds : List D}, DVs K B vs ds → DVs K B' vs ds
  | _, _, .nil => .nil
  | _, _, .cons h r => .cons (DV.mono e h) (DVs.mono e r)
end
theorem DVs.len : ∀ {vs : List V} {ds : List D}, DVs K B vs ds → vs.length = ds.length
  | _, _, .nil => rfl
  | _, _, .cons _ r => by rw [List.length_cons, List.length_cons, DVs.len r]
theorem DVs.get : ∀ {vs : List V} {ds : List D} {i : Nat} {d : D}, DVs K B vs ds → ds[i]? = some d → ∃ v, vs[i]? = some v ∧ DV K B v d
  | _, _, i, d, .nil, e => by simp at e
  | _, _, 0, d, .cons (v := v) h _, e => by
    have e' := Option.some.inj e
    subst e'
    exact ⟨v, rfl, h⟩
  | _, _, i + 1, d, .cons _ r, e => by
    obtain ⟨w, h1, h2⟩ := DVs.get (i := i) (d := d) r e
    exact ⟨w, h1, h2⟩
theorem DVs.getV : ∀ {vs : List V} {ds : List D} {i : Nat} {v : V}, DVs K B vs ds → vs[i]? = some v → ∃ d, ds[i]? = some d ∧ DV K B v d
  | _, _, i, v, .nil, e => by simp at e
  | _, _, 0, v, .cons (d := d) h _, e => by
    have e' := Option.some.inj e
    subst e'
    exact ⟨d, rfl, h⟩
  | _, _, i + 1, v, .cons _ r, e => by
    obtain ⟨w, h1, h2⟩ := DVs.getV (i := i) (v := v) r e
    exact ⟨w, h1, h2⟩
theorem DVs.app : ∀ {vs : List V} {ds : List D} {ws : List V} {es : List D}, DVs K B vs ds → DVs K B ws es → DVs K B (vs ++ ws) (ds ++ es)
  | _, _, _, _, .nil, s => s
  | _, _, _, _, .cons h r, s => .cons h (DVs.app r s)
theorem DVs.take : ∀ {vs : List V} {ds : List D} (n : Nat), DVs K B vs ds → DVs K B (vs.take n) (ds.take n)
  | _, _, 0, _ => .nil
  | _, _, _ + 1, .nil => .nil
  | _, _, n + 1, .cons h r => .cons h (DVs.take n r)
theorem DVs.drop : ∀ {vs : List V} {ds : List D} (n : Nat), DVs K B vs ds → DVs K B (vs.drop n) (ds.drop n)
  | _, _, 0, r => r
  | _, _, _ + 1, .nil => .nil
  | _, _, n + 1, .cons _ r => DVs.drop n r
theorem DVs.set {x : V} {d : D} (h : DV K B x d) : ∀ {vs : List V} {ds : List D} (n : Nat), DVs K B vs ds → DVs K B (vs.set n x) (ds.set n d)
  | _, _, _, .nil => .nil
  | _, _, 0, .cons _ r => .cons h r
  | _, _, n + 1, .cons q r => .cons q (DVs.set h n r)
theorem DVs.ints : ∀ (ns : List Int), DVs K B (ns.map V.int) (ns.map D.int)
  | [] => .nil
  | n :: r => .cons (.int n) (DVs.ints r)
theorem DVs.strs : ∀ (ns : List Str), DVs K B (ns.map V.str) (ns.map D.str)
  | [] => .nil
  | n :: r => .cons (.str n) (DVs.strs r)
theorem DVs.bls : ∀ (ns : List Bool), DVs K B (ns.map V.bl) (ns.map D.bl)
  | [] => .nil
  | n :: r => .cons (.bl n) (DVs.bls r)
theorem DVs.ints_of : ∀ {vs : List V} {ns : List Int}, DVs K B vs (ns.map D.int) → vs = ns.map V.int
  | _, [], h => by cases h; rfl
  | _, n :: r, h => by
    cases h with
    | cons h1 h2 =>
      cases h1
      rw [DVs.ints_of h2]
      rfl
theorem DVs.strs_of : ∀ {vs : List V} {ns : List Str}, DVs K B vs (ns.map D.str) → vs = ns.map V.str
  | _, [], h => by cases h; rfl
  | _, n :: r, h => by
    cases h with
    | cons h1 h2 =>
      cases h1
      rw [DVs.strs_of h2]
      rfl
theorem DVs.bls_of : ∀ {vs : List V} {ns : List Bool}, DVs K B vs (ns.map D.bl) → vs = ns.map V.bl
  | _, [], h => by cases h; rfl
  | _, n :: r, h => by
    cases h with
    | cons h1 h2 =>
      cases h1
      rw [DVs.bls_of h2]
      rfl

def keyD : Key → D
  | .inl i => .int i
  | .inr x => .str x
inductive DKs (K : PySem.W.Frag) (B : Hp) : List (Key × V) → List (D × D) → Prop
  | nil : DKs K B [] []
  | cons {k : Key} {v : V} {d : D} {kvs : List (Key × V)} {l : List (D × D)} : DV K B v d → DKs K B kvs l → DKs K B ((k, v) :: kvs) ((keyD k, d) :: l)
theorem DKs.mono (e : Ex B B') : ∀ {kvs : List (Key × V)} {l : List (D × D)}, DKs K B kvs l → DKs K B' kvs l
  | _, _, .nil => .nil
  | _, _, .cons h r => .cons (h.mono e) (DKs.mono e r)
inductive DTs (K : PySem.W.Frag) (B : Hp) : List (List Key × V) → List (D × D) → Prop
  | nil : DTs K B [] []
  | cons {k : List Key} {v : V} {d : D} {kvs : List (List Key × V)} {l : List (D × D)} : DV K B v d → DTs K B kvs l → DTs K B ((k, v) :: kvs) ((.tup (k.map keyD), d) :: l)
theorem DTs.mono (e : Ex B B') : ∀ {kvs : List (List Key × V)} {l : List (D × D)}, DTs K B kvs l → DTs K B' kvs l
  | _, _, .nil => .nil
  | _, _, .cons h r => .cons (h.mono e) (DTs.mono e r)
inductive RowsOk (K : PySem.W.Frag) (B H : Hp) : List Addr → List (List D) → Prop
  | nil : RowsOk K B H [] []
  | cons {p : Addr} {ps : List Addr} {xs : List V} {ds : List D} {l : List (List D)} : H p = some (.lst xs) → DVs K B xs ds → RowsOk K B H ps l → RowsOk K B H (p :: ps) (ds :: l)
theorem RowsOk.to (eB : Ex B B') : ∀ {ps : List Addr} {l : List (List D)}, RowsOk K B H ps l → (∀ p ∈ ps, ∀ o, H p = some o → H' p = some o) → RowsOk K B' H' ps l
  | _, _, .nil, _ => .nil
  | _, _, .cons h d r, k => .cons (k _ (by simp) _ h) (d.mono eB) (RowsOk.to eB r fun p hp => k p (List.mem_cons_of_mem _ hp))
theorem RowsOk.there : ∀ {ps : List Addr} {l : List (List D)}, RowsOk K B H ps l → ∀ p ∈ ps, H p ≠ none
  | _, _, .cons h d r, p, hp => by
    rcases List.mem_cons.mp hp with e | hp
    · rw [e, h]; simp
    · exact RowsOk.there r p hp
def TabF (H : Hp) (P : Addr) (q : Str) (f : List Addr) : Prop := ∃ ps : Array Value, H P = some (.tbl ps) ∧ TriplesOk ps.toList ∧ ∀ (pos : Pos) (cv : Value), codeAmong pos ps.toList = some cv → ∃ c, c ∈ f ∧ cv = .ref c ∧ H c = some (LamX.CodeO c q)
theorem TabF.to {P : Addr} {q : Str} {f : List Addr} (x : TabF H P q f) (hP : P ∈ f) (k : ∀ a ∈ f, ∀ o, H a = some o → H' a = some o) : TabF H' P q f := by
  obtain ⟨ps, h1, h2, h3⟩ := x
  refine ⟨ps, k _ hP _ h1, h2, fun pos cv e => ?_⟩
  obtain ⟨c, hc, e1, e2⟩ := h3 pos cv e
  exact ⟨c, hc, e1, k _ hc _ e2⟩
def TabsF (T : List (Addr × Str)) (H : Hp) (f : List Addr) : Prop := (∀ p ∈ T, p.1 ∈ f ∧ TabF H p.1 p.2 f) ∧ ∀ a ∈ f, H a ≠ none
theorem TabsF.to {T : List (Addr × Str)} {f : List Addr} (x : TabsF T H f) (k : ∀ a ∈ f, ∀ o, H a = some o → H' a = some o) : TabsF T H' f :=
  ⟨fun p hp => ⟨(x.1 p hp).1, (x.1 p hp).2.to (x.1 p hp).1 k⟩, fun a ha => by
    cases e : H a with
    | none => exact absurd e (x.2 a ha)
    | some o => rw [k a ha o e]; simp⟩
def HeldX (cls : Value) (d : Option Addr) (a : Addr) : HO := .ext fun h => ∃ (oe : Obj) (vs : Array Value), h.get? a = some oe ∧ Zc cls d oe ∧ oe.data = .fields vs
def scV : D → Option V
  | .non => some .non
  | .bl b => some (.bl b)
  | .int i => some (.int i)
  | .str s => some (.str s)
  | _ => none
inductive ObOk (K : PySem.W.Frag) (B H : Hp) : Option V → Ob → List Addr → Prop
  | exc0 {C a : Addr} : H a = some (HeldX (.ref C) none a) → ObOk K B H (some (.ref a)) (.exc C none) [a]
  | exc1 {C a b : Addr} {n : Str} {x : D} {y : V} : a ≠ b → H a = some (HeldX (.ref C) (some b) a) → H b = some (.xd [(n, y)]) → scV x = some y → ObOk K B H (some (.ref a)) (.exc C (some (n, x))) [a, b]
  | ins {C a dx : Addr} {fl ns : List Str} {xs : List V} {ds : List D} : InsC K C fl → a ≠ dx → H a = some (.ins C dx (ns.zip xs)) → H dx = some (.own a) → DVs K B xs ds → ns.length = xs.length → ObOk K B H (some (.ref a)) (.ins fl ns ds) [a, dx]
  | dct {a : Addr} {kvs : List (Key × V)} {l : List (D × D)} : H a = some (.dK kvs) → DKs K B kvs l → ObOk K B H (some (.ref a)) (.dct l) [a]
  | dtt {a : Addr} {kvs : List (List Key × V)} {l : List (D × D)} : H a = some (.dT kvs) → DTs K B kvs l → ObOk K B H (some (.ref a)) (.dtt l) [a]
theorem ObOk.to {v : Option V} {o : Ob} {f : List Addr} (x : ObOk K B H v o f) (eB : Ex B B') (k : ∀ a ∈ f, ∀ u, H a = some u → H' a = some u) : ObOk K B' H' v o f := by
  cases x with
  | exc0 h => exact .exc0 (k _ (by simp) _ h)
  | exc1 h1 h2 h3 h4 => exact .exc1 h1 (k _ (by simp) _ h2) (k _ (by simp) _ h3) h4
  | ins c h1 h2 h3 h4 h5 => exact .ins c h1 (k _ (by simp) _ h2) (k _ (by simp) _ h3) (h4.mono eB) h5
  | dct h1 h2 => exact .dct (k _ (by simp) _ h1) (h2.mono eB)
  | dtt h1 h2 => exact .dtt (k _ (by simp) _ h1) (h2.mono eB)
theorem ObOk.there {v : Option V} {o : Ob} {f : List Addr} (x : ObOk K B H v o f) {a : Addr} (h : a ∈ f) : H a ≠ none := by
  cases x with
  | exc0 h1 =>
    have e := by simpa using h
    rw [e, h1]; simp
  | exc1 h1 h2 h3 h4 =>
    rcases (by simpa using h) with e | e
    · rw [e, h2]; simp
    · rw [e, h3]; simp
  | ins c h1 h2 h3 h4 h5 =>
    rcases (by simpa using h) with e | e
    · rw [e, h2]; simp
    · rw [e, h3]; simp
  | dct h1 h2 =>
    have e := by simpa using h
    rw [e, h1]; simp
  | dtt h1 h2 =>
    have e := by simpa using h
    rw [e, h1]; simp
theorem ObOk.ref {v : Option V} {o : Ob} {f : List Addr} (x : ObOk K B H v o f) : ∃ a, v = some (.ref a) := by
  cases x with
  | exc0 h => exact ⟨_, rfl⟩
  | exc1 h1 h2 h3 h4 => exact ⟨_, rfl⟩
  | ins c h1 h2 h3 h4 h5 => exact ⟨_, rfl⟩
  | dct h1 h2 => exact ⟨_, rfl⟩
  | dtt h1 h2 => exact ⟨_, rfl⟩
def SlOk (K : PySem.W.Frag) (B H : Hp) (v : Option V) (s : Sl) (f : List Addr) : Prop := match s with
  | .emp => f = []
  | .sh d => f = [] ∧ ∃ x, v = some x ∧ DV K B x d
  | .own ds => ∃ p xs, v = some (.ref p) ∧ f = [p] ∧ H p = some (.lst xs) ∧ DVs K B xs ds
  | .own2 l => ∃ p ps, v = some (.ref p) ∧ f = p :: ps ∧ f.Nodup ∧ H p = some (.lst (ps.map V.ref)) ∧ RowsOk K B H ps l
  | .drw st => ∃ a w c, v = some (.ref a) ∧ f = [a, w] ∧ a ≠ w ∧
      H a = some (.dK [(.inr "wide", .ref w), (.inr "cells", .ref c), (.inr "rest", .int st.rest), (.inr "turn", .int st.turn)]) ∧ H w = some (.lst (st.wide.map V.int)) ∧ SqL K B c (st.cells.map V.int)
  | .ob o => ObOk K B H v o f
  | .tab T d => TabsF T H f ∧ ∃ x, v = some x ∧ DV K B x d

abbrev Fps := Nat → List Addr
def Owned (f : Fps) (a : Addr) : Prop := ∃ i, a ∈ f i

def NoE (B : Hp) : Prop := ∀ a φ, B a ≠ some (.ext φ)
theorem NoE.upd {a : Addr} {o : HO} (h : NoE B) (ho : ∀ φ, o ≠ .ext φ) : NoE (upd B a o) := fun b φ e => by
  by_cases z : b = a
  · rw [z, upd_same] at e
    exact ho φ (Option.some.inj e)
  · rw [upd_ne z] at e
    exact h b φ e
structure Rel (K : PySem.W.Frag) (B H : Hp) (σ : L2.St) (ρ : Env) (f : Fps) : Prop where
  len : σ.length = ρ.length
  ex : Ex B H
  pl : NoE B
  ok : ∀ (i : Nat) (s : Sl), ρ[i]? = some s → SlOk K B H (σ[i]?).join s (f i)
  out : ∀ (i : Nat), ρ[i]? = none → f i = []
  dis : ∀ (i j : Nat) (a : Addr), a ∈ f i → a ∈ f j → i = j
  off : ∀ (i : Nat) (a : Addr), a ∈ f i → B a = none ∧ H a ≠ none

structure Frm (B H : Hp) (P : Addr → Prop) (B' H' : Hp) (P' : Addr → Prop) : Prop where
  bb : Ex B B'
  keep : ∀ a o, H a = some o → ¬ P a → H' a = some o
  off : ∀ a, B a = none → H a ≠ none → ¬ P a → B' a = none
  own : ∀ a, P' a → P a ∨ H a = none
  dom : ∀ a, H a ≠ none → H' a ≠ none

theorem Frm.refl {P : Addr → Prop} : Frm B H P B H P := ⟨fun _ _ h => h, fun _ _ h _ => h, fun _ h _ _ => h, fun _ h => .inl h, fun _ h => h⟩
theorem Frm.trans {P P1 P2 : Addr → Prop} {B1 H1 B2 H2 : Hp} (a : Frm B H P B1 H1 P1) (b : Frm B1 H1 P1 B2 H2 P2) : Frm B H P B2 H2 P2 where
  bb := a.bb.trans b.bb
  keep := fun x o h n => by
    refine b.keep x o (a.keep x o h n) fun z => ?_
    rcases a.own x z with q | q
    · exact n q
    · rw [h] at q; cases q
  off := fun x h1 h2 n => by
    refine b.off x (a.off x h1 h2 n) (a.dom x h2) fun z => ?_
    rcases a.own x z with q | q
    · exact n q
    · exact h2 q
  own := fun x z => by
    rcases b.own x z with q | q
    · exact a.own x q
    · refine .inr ?_
      cases e : H x with
      | none => rfl
      | some o => exact absurd q (a.dom x (by rw [e]; simp))
  dom := fun x h => b.dom x (a.dom x h)
theorem Frm.new {P : Addr → Prop} (e1 : Ex B B') (e2 : Ex H H') (h : ∀ a, B a = none → H a ≠ none → B' a = none) : Frm B H P B' H' P :=
  ⟨e1, fun a o q _ => e2 a o q, fun a h1 h2 _ => h a h1 h2, fun _ q => .inl q, fun a q z => by
    cases e : H a with
    | none => exact q e
    | some o => rw [e2 a o e] at z; cases z⟩
theorem Frm.weak {P P1 Q : Addr → Prop} (a : Frm B H P B' H' P1) (h : ∀ x, Q x → P x ∨ H x = none) (hp : ∀ x, P x → Q x ∨ False → True) : Frm B H P B' H' Q :=
  ⟨a.bb, a.keep, a.off, h, a.dom⟩

theorem SlOk.frm {P P' : Addr → Prop} {v : Option V} {s : Sl} {f : List Addr} (x : SlOk K B H v s f) (h : Frm B H P B' H' P') (n : ∀ a ∈ f, ¬ P a) : SlOk K B' H' v s f := by
  cases s with
  | emp => exact x
  | sh d =>
    obtain ⟨e, y, h1, h2⟩ := x
    exact ⟨e, y, h1, h2.mono h.bb⟩
  | own ds =>
    obtain ⟨p, xs, h1, h2, h3, h4⟩ := x
    exact ⟨p, xs, h1, h2, h.keep _ _ h3 (n p (by rw [h2]; simp)), h4.mono h.bb⟩
  | own2 l =>
    obtain ⟨p, ps, h1, h2, h3, h4, h5⟩ := x
    exact ⟨p, ps, h1, h2, h3, h.keep _ _ h4 (n p (by rw [h2]; simp)), h5.to h.bb fun q hq o e => h.keep _ _ e (n q (by rw [h2]; exact List.mem_cons_of_mem _ hq))⟩
  | drw st =>
    obtain ⟨a, w, c, h1, h2, h3, h4, h5, h6⟩ := x
    exact ⟨a, w, c, h1, h2, h3, h.keep _ _ h4 (n a (by rw [h2]; simp)), h.keep _ _ h5 (n w (by rw [h2]; simp)), ex_l h.bb h6⟩
  | ob o => exact ObOk.to x h.bb fun a ha u e => h.keep _ _ e (n a ha)
  | tab T d =>
    obtain ⟨h1, y, h2, h3⟩ := x
    exact ⟨h1.to fun a ha o e => h.keep _ _ e (n a ha), y, h2, h3.mono h.bb⟩
theorem SlOk.there {v : Option V} {s : Sl} {f : List Addr} (x : SlOk K B H v s f) {a : Addr} (h : a ∈ f) : H a ≠ none := by
  cases s with
  | emp =>
    have x' : f = [] := x
    rw [x'] at h; cases h
  | sh d =>
    obtain ⟨e, _⟩ := x
    rw [e] at h; cases h
  | own ds =>
    obtain ⟨p, xs, h1, h2, h3, h4⟩ := x
    rw [h2] at h
    have e : a = p := by simpa using h
    rw [e, h3]; simp
  | own2 l =>
    obtain ⟨p, ps, h1, h2, h3, h4, h5⟩ := x
    rw [h2] at h
    rcases List.mem_cons.mp h with e | h
    · rw [e, h4]; simp
    · exact h5.there a h
  | drw st =>
    obtain ⟨p, w, c, h1, h2, h3, h4, h5, h6⟩ := x
    rw [h2] at h
    rcases (by simpa using h : a = p ∨ a = w) with e | e
    · rw [e, h4]; simp
    · rw [e, h5]; simp
  | ob o => exact ObOk.there x h
  | tab T d => exact x.1.2 a h
end
end DL
end
section
set_option maxRecDepth 100000
set_option maxHeartbeats 2000000
namespace DL
open PySem PySem.Spec PyProof.Rows L2
open Evl (Ex ex_rd ex_l ex_t)

def VlOk (K : PySem.W.Frag) (B H : Hp) (σ : L2.St) (v : V) (r : Vl) (f : List Addr) : Prop := match r with
  | .sh d => SlOk K B H (some v) (.sh d) f
  | .own ds => SlOk K B H (some v) (.own ds) f
  | .drw st => SlOk K B H (some v) (.drw st) f
  | .ob o => SlOk K B H (some v) (.ob o) f
  | .bor i => f = [] ∧ σ[i]? = some (some v)

structure Res (K : PySem.W.Frag) (B H : Hp) (σ : L2.St) (f0 : Fps) (v : V) (r : Vl) (ρ : Env) (B' H' : Hp) (f' : Fps) (f : List Addr) : Prop where
  rel : Rel K B' H' σ ρ f'
  val : VlOk K B' H' σ v r f
  off : ∀ a ∈ f, B' a = none ∧ ¬ Owned f' a
  frm : Frm B H (Owned f0) B' H' (fun a => Owned f' a ∨ a ∈ f)

def PayOk (d : Option Addr) (H0 H : Hp) : Option (Str × D) → Prop
  | none => d = none
  | some (n, x) => ∃ a v, d = some a ∧ H0 a = none ∧ H a = some (.xd [(n, v)]) ∧ scV x = some v
theorem PayOk.back {d : Option Addr} {H0 H1 H : Hp} {p : Option (Str × D)} (h : PayOk d H1 H p) (dom : ∀ a, H0 a ≠ none → H1 a ≠ none) : PayOk d H0 H p := by
  cases p with
  | none => exact h
  | some p =>
    obtain ⟨a, v, h1, h2, h3⟩ := h
    refine ⟨a, v, h1, ?_, h3⟩
    cases e : H0 a with
    | none => rfl
    | some o => exact absurd h2 (dom a (by rw [e]; simp))
def Kept (H : Hp) (f : Fps) (H' : Hp) : Prop := ∀ a o, H a = some o → ¬ Owned f a → H' a = some o

abbrev Ct := String → Addr
def Post {α : Type} (ct : Ct) (E : XK) (H : Hp) (f0 : Fps) (m : R α) (ok : α → Prop) : Prop := match m with
  | .bad => False
  | .ok a => ok a
  | .exc c p => ∀ d H', Kept H f0 H' → PayOk d H H' p → E (.ref (ct c)) d H'

theorem Kept.back {B H B1 H1 H' : Hp} {f0 f1 : Fps} {P : Addr → Prop} (fr : Frm B H (Owned f0) B1 H1 P) (hP : ∀ a, Owned f1 a → P a) (k : Kept H1 f1 H') : Kept H f0 H' := fun a o h n => by
  refine k a o (fr.keep a o h n) fun z => ?_
  rcases fr.own a (hP a z) with q | q
  · exact n q
  · rw [h] at q; cases q

theorem Post.step {α β : Type} {ct : Ct} {E : XK} {B H B1 H1 : Hp} {f0 f1 : Fps} {P : Addr → Prop} {m : R α} {k : α → R β} {ok : β → Prop} {ok1 : α → Prop} (h : Post ct E H f0 (R.bind m k) ok)
    (fr : Frm B H (Owned f0) B1 H1 P) (hP : ∀ a, Owned f1 a → P a) (st : ∀ a, m = .ok a → Post ct E H f0 (k a) ok → ok1 a) : Post ct E H1 f1 m ok1 := by
  cases e : m with
  | bad => rw [e] at h; exact h
  | ok a =>
    rw [e] at h
    exact st a e h
  | exc c p =>
    rw [e] at h
    exact fun d H' kk pk => h d H' (kk.back fr hP) (pk.back fr.dom)

abbrev MX := Env → R (Vl × Env)
abbrev MA := Env → R (List Vl × Env)
def XOk (K : PySem.W.Frag) (B H : Hp) (σ : L2.St) (f0 : Fps) (Q : VK) : Vl × Env → Prop := fun p => ∀ v B' H' f' f, Res K B H σ f0 v p.1 p.2 B' H' f' f → Q v H'

def Imp (K : PySem.W.Frag) (ct : Ct) (E : XK) (t : TE) (m : MX) : Prop := ∀ (B H : Hp) (σ : L2.St) (ρ : Env) (f0 : Fps) (Q : VK), Rel K B H σ ρ f0 → Post ct E H f0 (m ρ) (XOk K B H σ f0 Q) → t σ H Q

section
variable {K : PySem.W.Frag} {ct : Ct} {E : XK} {B H B' H' B1 H1 B2 H2 : Hp} {σ : L2.St} {ρ ρ' : Env} {f0 f1 f2 : Fps} {v : V} {r : Vl} {f g : List Addr}

theorem VlOk.frm {P P' : Addr → Prop} (x : VlOk K B H σ v r f) (h : Frm B H P B' H' P') (n : ∀ a ∈ f, ¬ P a) : VlOk K B' H' σ v r f := by
  cases r with
  | bor i => exact x
  | sh d => exact SlOk.frm (s := .sh d) x h n
  | own ds => exact SlOk.frm (s := .own ds) x h n
  | drw st => exact SlOk.frm (s := .drw st) x h n
  | ob o => exact SlOk.frm (s := .ob o) x h n
theorem VlOk.there (x : VlOk K B H σ v r f) {a : Addr} (h : a ∈ f) : H a ≠ none := by
  cases r with
  | bor i =>
    obtain ⟨e, _⟩ := x
    rw [e] at h; cases h
  | sh d => exact SlOk.there (s := .sh d) x h
  | own ds => exact SlOk.there (s := .own ds) x h
  | drw st => exact SlOk.there (s := .drw st) x h
  | ob o => exact SlOk.there (s := .ob o) x h
theorem Frm.apart {P P' : Addr → Prop} (h : Frm B H P B' H' P') {a : Addr} (ha : H a ≠ none) (n : ¬ P a) : ¬ P' a := fun z => by
  rcases h.own a z with q | q
  · exact n q
  · exact ha q
theorem Frm.side {P P' : Addr → Prop} (h : Frm B H P B' H' P') (S : Addr → Prop) : Frm B H (fun a => P a ∨ S a) B' H' (fun a => P' a ∨ S a) where
  bb := h.bb
  keep := fun a o q n => h.keep a o q fun z => n (.inl z)
  off := fun a q1 q2 n => h.off a q1 q2 fun z => n (.inl z)
  own := fun a z => by
    rcases z with z | z
    · rcases h.own a z with q | q
      · exact .inl (.inl q)
      · exact .inr q
    · exact .inl (.inr z)
  dom := h.dom
theorem Frm.to {P P' Q' : Addr → Prop} (h : Frm B H P B' H' P') (q : ∀ a, Q' a → P' a ∨ P a ∨ H a = none) : Frm B H P B' H' Q' :=
  ⟨h.bb, h.keep, h.off, fun a z => by
    rcases q a z with z | z | z
    · exact h.own a z
    · exact .inl z
    · exact .inr z, h.dom⟩

def RdV (K : PySem.W.Frag) (B H : Hp) (v : V) (d : D) : Prop := match d with
  | .lst ds => ∃ p xs, v = .ref p ∧ H p = some (.lst xs) ∧ DVs K B xs ds
  | d => DV K B v d
theorem RdV.of {d : D} (e : Ex B H) (h : DV K B v d) : RdV K B H v d := by
  cases d with
  | lst ds =>
    cases h with
    | lst h1 h2 => exact ⟨_, _, rfl, e _ _ h1, h2⟩
  | _ => exact h
def rdS : Option Sl → Option D
  | some (.own ds) => some (.lst ds)
  | some (.sh d) => some d
  | _ => none
def rdv (ρ : Env) : Vl → Option D
  | .sh d => some d
  | .own ds => some (.lst ds)
  | .drw _ => none
  | .ob _ => none
  | .bor i => rdS ρ[i]?
def rdO {α β : Type} (o : Option α) (f : α → R β) : R β := match o with
  | none => .bad
  | some a => f a
theorem VlOk.rd {d : D} (x : VlOk K B H σ v r f) (R : Rel K B H σ ρ f0) (h : rdv ρ r = some d) : RdV K B H v d := by
  cases r with
  | sh d' =>
    obtain ⟨_, y, e, h1⟩ := x
    cases e
    cases h
    exact .of R.ex h1
  | own ds =>
    obtain ⟨p, xs, e, _, h3, h4⟩ := x
    cases e
    cases h
    exact ⟨p, xs, rfl, h3, h4⟩
  | drw st => cases h
  | ob o => cases h
  | bor i =>
    obtain ⟨_, e⟩ := x
    have hj : (σ[i]?).join = some v := by rw [e]; rfl
    have h : rdS ρ[i]? = some d := h
    cases q : ρ[i]? with
    | none => rw [q] at h; cases h
    | some s =>
      rw [q] at h
      have ok := R.ok i s q
      rw [hj] at ok
      cases s with
      | emp => cases h
      | own2 l => cases h
      | drw st => cases h
      | ob o => cases h
      | tab T d => cases h
      | own ds =>
        obtain ⟨p, xs, e1, _, h3, h4⟩ := ok
        cases e1
        cases h
        exact ⟨p, xs, rfl, h3, h4⟩
      | sh d' =>
        obtain ⟨_, y, e1, h1⟩ := ok
        cases e1
        cases h
        exact .of R.ex h1

structure New (K : PySem.W.Frag) (B H : Hp) (v : V) (z : Vl) (B' H' : Hp) (f : List Addr) : Prop where
  bb : Ex B B'
  hh : Ex H H'
  bh : Ex B' H'
  off : ∀ a, B a = none → H a ≠ none → B' a = none
  val : VlOk K B' H' [] v z f
  fr : ∀ a ∈ f, H a = none ∧ B' a = none
  pl : NoE B → NoE B'
theorem VlOk.any (x : VlOk K B H [] v r f) : VlOk K B H σ v r f := by
  cases r with
  | bor i =>
    obtain ⟨_, e⟩ := x
    simp at e
  | _ => exact x
theorem Rel.frm {P P' : Addr → Prop} (x : Rel K B H σ ρ f0) (h : Frm B H P B' H' P') (e : Ex B' H') (hp : NoE B') (n : ∀ a, Owned f0 a → ¬ P a) : Rel K B' H' σ ρ f0 where
  len := x.len
  ex := e
  pl := hp
  ok := fun i s q => (x.ok i s q).frm h fun a ha => n a ⟨i, ha⟩
  out := x.out
  dis := x.dis
  off := fun i a ha => ⟨h.off a (x.off i a ha).1 (x.off i a ha).2 (n a ⟨i, ha⟩), h.dom a (x.off i a ha).2⟩
theorem New.frm0 {z : Vl} (x : New K B H v z B' H' f) (P : Addr → Prop) : Frm B H P B' H' P := Frm.new x.bb x.hh x.off
theorem New.rel {z : Vl} (x : New K B H v z B' H' f) (R : Rel K B H σ ρ f0) : Rel K B' H' σ ρ f0 := R.frm (x.frm0 fun _ => False) x.bh (x.pl R.pl) fun _ _ q => q
theorem New.sc {d : D} (e : Ex B H) (h : DV K B v d) : New K B H v (.sh d) B H [] := ⟨fun _ _ q => q, fun _ _ q => q, e, fun _ q _ => q, ⟨rfl, v, rfl, h⟩, fun _ q => (nomatch q), id⟩
theorem Rel.fresh {a : Addr} (x : Ex B H) (h : H a = none) : B a = none := by
  cases e : B a with
  | none => rfl
  | some o => rw [x a o e] at h; cases h
theorem New.tup {p : Addr} {xs : List V} {ds : List D} (e : Ex B H) (hp : H p = none) (h : DVs K B xs ds) : New K B H (.ref p) (.sh (.tup ds)) (upd B p (.tup xs)) (upd H p (.tup xs)) [] where
  bb := Ex.new (Rel.fresh e hp)
  hh := Ex.new hp
  bh := fun a o q => by
    by_cases ha : a = p
    · subst ha; rw [upd_same] at q ⊢; exact q
    · rw [upd_ne ha] at q ⊢; exact e a o q
  off := fun a q1 q2 => by rw [upd_ne (fun z => q2 (by rw [z]; exact hp))]; exact q1
  val := ⟨rfl, _, rfl, .tup (SqT.of upd_same) (h.mono (Ex.new (Rel.fresh e hp)))⟩
  fr := fun _ q => (nomatch q)
  pl := fun n => n.upd fun _ z => by cases z
theorem New.lst {p : Addr} {xs : List V} {ds : List D} (e : Ex B H) (hp : H p = none) (h : DVs K B xs ds) : New K B H (.ref p) (.own ds) B (upd H p (.lst xs)) [p] where
  bb := fun _ _ q => q
  hh := Ex.new hp
  bh := fun a o q => by
    rw [upd_ne (fun z => by rw [z] at q; rw [Rel.fresh e hp] at q; cases q)]
    exact e a o q
  off := fun a q1 _ => q1
  val := ⟨p, xs, rfl, rfl, upd_same, h⟩
  fr := fun a q => by
    have ea : a = p := by simpa using q
    rw [ea]
    exact ⟨hp, Rel.fresh e hp⟩
  pl := id

def OpI (K : PySem.W.Frag) (r : R2) (g : D → D → Option Vl) : Prop := ∀ (B H : Hp) (x y : V) (dx dy : D) (z : Vl), Ex B H → RdV K B H x dx → RdV K B H y dy → g dx dy = some z →
  ∀ Q : VK, (∀ v B' H' f, New K B H v z B' H' f → Q v H') → r x y H Q
def xOp (g : D → D → Option Vl) (ma mb : MX) : MX := fun ρ => R.bind (ma ρ) fun a => R.bind (mb a.2) fun b => rdO (rdv b.2 a.1) fun da => rdO (rdv b.2 b.1) fun db => rdO (g da db) fun z => .ok (z, b.2)

theorem Res.new {z : Vl} (x : Res K B H σ f0 v r ρ B1 H1 f1 f) {w : V} {g : List Addr} (n : New K B1 H1 w z B2 H2 g) : Res K B H σ f0 w z ρ B2 H2 f1 g where
  rel := n.rel x.rel
  val := n.val.any
  off := fun a ha => ⟨(n.fr a ha).2, fun ⟨i, hi⟩ => (x.rel.off i a hi).2 (n.fr a ha).1⟩
  frm := x.frm.trans ((n.frm0 _).to fun a z => by
    rcases z with z | z
    · exact .inl (.inl z)
    · exact .inr (.inr (n.fr a z).1))
theorem Res.then {r2 : Vl} {ρ2 : Env} {w : V} {g : List Addr} (x : Res K B H σ f0 v r ρ B1 H1 f1 f) (y : Res K B1 H1 σ f1 w r2 ρ2 B2 H2 f2 g) :
    VlOk K B2 H2 σ v r f ∧ (∀ a ∈ f, B2 a = none ∧ ¬ Owned f2 a ∧ a ∉ g) ∧ Frm B H (Owned f0) B2 H2 (fun a => (Owned f2 a ∨ a ∈ g) ∨ a ∈ f) := by
  have n : ∀ a ∈ f, ¬ Owned f1 a := fun a ha => (x.off a ha).2
  refine ⟨x.val.frm y.frm n, fun a ha => ?_, x.frm.trans (y.frm.side (· ∈ f))⟩
  have hne := x.val.there ha
  have q := y.frm.apart hne (n a ha)
  exact ⟨y.frm.off a (x.off a ha).1 hne (n a ha), fun z => q (.inl z), fun z => q (.inr z)⟩
theorem Res.res2 {r2 : Vl} {ρ2 : Env} {w : V} {g : List Addr} (x : Res K B H σ f0 v r ρ B1 H1 f1 f) (y : Res K B1 H1 σ f1 w r2 ρ2 B2 H2 f2 g) : Res K B H σ f0 w r2 ρ2 B2 H2 f2 g where
  rel := y.rel
  val := y.val
  off := y.off
  frm := (x.then y).2.2.to fun a z => .inl (.inl z)

theorem Post.get {α β : Type} {o : Option α} {k : α → R β} {ok : β → Prop} (h : Post ct E H f0 (rdO o k) ok) : ∃ a, o = some a ∧ Post ct E H f0 (k a) ok := by
  cases o with
  | none => exact h.elim
  | some a => exact ⟨a, rfl, h⟩
theorem Post.first {α β : Type} {m : R α} {k : α → R β} {ok : β → Prop} {ok1 : α → Prop} (h : Post ct E H f0 (R.bind m k) ok) (st : ∀ a, m = .ok a → Post ct E H f0 (k a) ok → ok1 a) : Post ct E H f0 m ok1 :=
  h.step (B := H) (B1 := H) .refl (fun _ z => z) st
theorem im_op {rr : R2} {gg : D → D → Option Vl} {ta tb : TE} {ma mb : MX} (ho : OpI K rr gg) (ha : Imp K ct E ta ma) (hb : Imp K ct E tb mb) : Imp K ct E (tOp rr ta tb) (xOp gg ma mb) := by
  intro B H σ ρ f0 Q R h
  refine ha B H σ ρ f0 _ R (h.first fun a ea h v B1 H1 f1 f x => ?_)
  refine hb B1 H1 σ a.2 f1 _ x.rel (h.step x.frm (fun _ z => .inl z) fun b eb h w B2 H2 f2 g y => ?_)
  have x' := x.then y
  obtain ⟨da, e1, h⟩ := h.get
  obtain ⟨db, e2, h⟩ := h.get
  obtain ⟨z, e3, h⟩ := h.get
  exact ho B2 H2 v w da db z y.rel.ex (x'.1.rd y.rel e1) (y.val.rd y.rel e2) e3 Q fun u B3 H3 k n => h u B3 H3 f2 k ((x.res2 y).new n)

def xVar (i : Nat) : MX := fun ρ => match ρ[i]? with
  | some (.sh d) => .ok (.sh d, ρ)
  | some (.own _) => .ok (.bor i, ρ)
  | some (.own2 _) => .ok (.bor i, ρ)
  | some (.drw _) => .ok (.bor i, ρ)
  | some (.ob _) => .ok (.bor i, ρ)
  | some (.tab _ d) => .ok (.sh d, ρ)
  | _ => .bad
theorem im_var {i : Nat} : Imp K ct E (tVar i) (xVar i) := by
  intro B H σ ρ f0 Q R h
  unfold xVar at h
  cases e : ρ[i]? with
  | none => rw [e] at h; exact h.elim
  | some s =>
    rw [e] at h
    have ok := R.ok i s e
    have fr : ∀ P : Addr → Prop, Frm B H P B H (fun a => P a ∨ a ∈ ([] : List Addr)) := fun P => Frm.refl.to fun a z => by
      rcases z with z | z
      · exact .inl z
      · exact (nomatch z)
    have lk : ∀ v, (σ[i]?).join = some v → σ[i]? = some (some v) := fun v q => by
      cases q1 : σ[i]? with
      | none => rw [q1] at q; cases q
      | some o =>
        rw [q1] at q
        exact congrArg some q
    cases s with
    | emp => exact h.elim
    | sh d =>
      obtain ⟨_, v, e1, h1⟩ := ok
      exact ⟨v, lk v e1, h v B H f0 [] ⟨R, ⟨rfl, v, rfl, h1⟩, fun _ q => (nomatch q), fr _⟩⟩
    | own ds =>
      obtain ⟨p, xs, e1, _⟩ := ok
      exact ⟨_, lk _ e1, h _ B H f0 [] ⟨R, ⟨rfl, lk _ e1⟩, fun _ q => (nomatch q), fr _⟩⟩
    | own2 l =>
      obtain ⟨p, ps, e1, _⟩ := ok
      exact ⟨_, lk _ e1, h _ B H f0 [] ⟨R, ⟨rfl, lk _ e1⟩, fun _ q => (nomatch q), fr _⟩⟩
    | drw st =>
      obtain ⟨a, w, c, e1, _⟩ := ok
      exact ⟨_, lk _ e1, h _ B H f0 [] ⟨R, ⟨rfl, lk _ e1⟩, fun _ q => (nomatch q), fr _⟩⟩
    | ob o =>
      obtain ⟨a, e1⟩ := ObOk.ref ok
      exact ⟨_, lk _ e1, h _ B H f0 [] ⟨R, ⟨rfl, lk _ e1⟩, fun _ q => (nomatch q), fr _⟩⟩
    | tab T d =>
      obtain ⟨_, v, e1, h1⟩ := ok
      exact ⟨v, lk v e1, h v B H f0 [] ⟨R, ⟨rfl, v, rfl, h1⟩, fun _ q => (nomatch q), fr _⟩⟩
theorem Res.refl (R : Rel K B H σ ρ f0) {v : V} {d : D} (h : DV K B v d) : Res K B H σ f0 v (.sh d) ρ B H f0 [] :=
  ⟨R, ⟨rfl, v, rfl, h⟩, fun _ q => (nomatch q), Frm.refl.to fun a z => z.elim Or.inl fun q => (nomatch q)⟩
def xC (d : D) : MX := fun ρ => .ok (.sh d, ρ)
theorem im_c {v : V} {d : D} (h : ∀ B, DV K B v d) : Imp K ct E (tC v) (xC d) := fun B H σ ρ f0 Q R q => q v B H f0 [] (.refl R (h B))
theorem im_int {i : Int} : Imp K ct E (tC (.int i)) (xC (.int i)) := im_c fun _ => .int i
theorem im_str {i : Str} : Imp K ct E (tC (.str i)) (xC (.str i)) := im_c fun _ => .str i
theorem im_bl {i : Bool} : Imp K ct E (tC (.bl i)) (xC (.bl i)) := im_c fun _ => .bl i
theorem im_non : Imp K ct E (tC .non) (xC .non) := im_c fun _ => .non
theorem im_ty {n : String} : Imp K ct E (tC (.ty n)) (xC (.ty n)) := im_c fun _ => .ty n
theorem im_ref {n : Addr} : Imp K ct E (tC (.ref n)) (xC (.ref n)) := im_c fun _ => .ref n

def UnI (K : PySem.W.Frag) (r : V → Hp → VK → Prop) (g : D → Option Vl) : Prop := ∀ (B H : Hp) (x : V) (dx : D) (z : Vl), Ex B H → RdV K B H x dx → g dx = some z →
  ∀ Q : VK, (∀ v B' H' f, New K B H v z B' H' f → Q v H') → r x H Q
def xUn (g : D → Option Vl) (ma : MX) : MX := fun ρ => R.bind (ma ρ) fun a => rdO (rdv a.2 a.1) fun da => rdO (g da) fun z => .ok (z, a.2)
theorem im_un {rr : V → Hp → VK → Prop} {gg : D → Option Vl} {ta : TE} {ma : MX} (ho : UnI K rr gg) (ha : Imp K ct E ta ma) : Imp K ct E (tUn rr ta) (xUn gg ma) := by
  intro B H σ ρ f0 Q R h
  refine ha B H σ ρ f0 _ R (h.first fun a ea h v B1 H1 f1 f x => ?_)
  obtain ⟨da, e1, h⟩ := h.get
  obtain ⟨z, e3, h⟩ := h.get
  exact ho B1 H1 v da z x.rel.ex (x.val.rd x.rel e1) e3 Q fun u B3 H3 k n => h u B3 H3 f1 k (x.new n)

inductive VlsOk (K : PySem.W.Frag) (B H : Hp) (σ : L2.St) : List V → List Vl → List Addr → Prop
  | nil : VlsOk K B H σ [] [] []
  | cons {v : V} {r : Vl} {f : List Addr} {vs : List V} {rs : List Vl} {g : List Addr} : VlOk K B H σ v r f → VlsOk K B H σ vs rs g → (∀ a ∈ f, a ∉ g) → VlsOk K B H σ (v :: vs) (r :: rs) (f ++ g)
structure ResA (K : PySem.W.Frag) (B H : Hp) (σ : L2.St) (f0 : Fps) (vs : List V) (rs : List Vl) (ρ : Env) (B' H' : Hp) (f' : Fps) (g : List Addr) : Prop where
  rel : Rel K B' H' σ ρ f'
  val : VlsOk K B' H' σ vs rs g
  off : ∀ a ∈ g, B' a = none ∧ ¬ Owned f' a
  frm : Frm B H (Owned f0) B' H' (fun a => Owned f' a ∨ a ∈ g)
def ImpA (K : PySem.W.Frag) (ct : Ct) (E : XK) (t : TA) (m : MA) : Prop := ∀ (B H : Hp) (σ : L2.St) (ρ : Env) (f0 : Fps) (Q : List V → Hp → Prop), Rel K B H σ ρ f0 →
  Post ct E H f0 (m ρ) (fun p => ∀ vs B' H' f' g, ResA K B H σ f0 vs p.1 p.2 B' H' f' g → Q vs H') → t σ H Q
def aNil : MA := fun ρ => .ok ([], ρ)
def aCons (m : MX) (n : MA) : MA := fun ρ => R.bind (m ρ) fun a => R.bind (n a.2) fun b => .ok (a.1 :: b.1, b.2)
theorem ia_nil : ImpA K ct E tNil aNil := fun B H σ ρ f0 Q R q => q [] B H f0 [] ⟨R, .nil, fun _ q => (nomatch q), Frm.refl.to fun a z => z.elim Or.inl fun q => (nomatch q)⟩
theorem ia_cons {t : TE} {u : TA} {m : MX} {n : MA} (ha : Imp K ct E t m) (hb : ImpA K ct E u n) : ImpA K ct E (tCons t u) (aCons m n) := by
  intro B H σ ρ f0 Q R h
  refine ha B H σ ρ f0 _ R (h.first fun a ea h v B1 H1 f1 f x => ?_)
  refine hb B1 H1 σ a.2 f1 _ x.rel (h.step x.frm (fun _ z => .inl z) fun b eb h vs B2 H2 f2 g y => ?_)
  have n : ∀ a ∈ f, ¬ Owned f1 a := fun a ha => (x.off a ha).2
  refine h (v :: vs) B2 H2 f2 (f ++ g) ⟨y.rel, .cons (x.val.frm y.frm n) y.val fun z hz => ?_, fun z hz => ?_, (x.frm.trans (y.frm.side (· ∈ f))).to fun z hz => ?_⟩
  · have q := y.frm.apart (x.val.there hz) (n z hz)
    exact fun w => q (.inr w)
  · rcases List.mem_append.mp hz with hz | hz
    · have q := y.frm.apart (x.val.there hz) (n z hz)
      exact ⟨y.frm.off z (x.off z hz).1 (x.val.there hz) (n z hz), fun w => q (.inl w)⟩
    · exact y.off z hz
  · refine .inl ?_
    rcases hz with hz | hz
    · exact .inl (.inl hz)
    · rcases List.mem_append.mp hz with hz | hz
      · exact .inr hz
      · exact .inl (.inr hz)
def rdvs (ρ : Env) : List Vl → Option (List D)
  | [] => some []
  | r :: rs => (rdv ρ r).bind fun d => (rdvs ρ rs).bind fun ds => some (d :: ds)
inductive RdVs (K : PySem.W.Frag) (B H : Hp) : List V → List D → Prop
  | nil : RdVs K B H [] []
  | cons {v : V} {vs : List V} {d : D} {ds : List D} : RdV K B H v d → RdVs K B H vs ds → RdVs K B H (v :: vs) (d :: ds)
theorem VlsOk.rd {vs : List V} {rs : List Vl} (R : Rel K B H σ ρ f0) (x : VlsOk K B H σ vs rs g) : ∀ {ds : List D}, rdvs ρ rs = some ds → RdVs K B H vs ds := by
  induction x with
  | nil => intro ds h; cases h; exact .nil
  | cons h1 _ _ ih =>
    rename_i v r f vs rs g _ _
    intro ds h
    unfold rdvs at h
    cases e : rdv ρ r with
    | none => rw [e] at h; cases h
    | some d =>
      rw [e] at h
      cases e2 : rdvs ρ rs with
      | none => rw [e2] at h; cases h
      | some es =>
        rw [e2] at h
        cases h
        exact .cons (h1.rd R e) (ih e2)
def CallI (K : PySem.W.Frag) (r : List V → Hp → VK → Prop) (g : List D → Option Vl) : Prop := ∀ (B H : Hp) (xs : List V) (ds : List D) (z : Vl), Ex B H → RdVs K B H xs ds → g ds = some z →
  ∀ Q : VK, (∀ v B' H' f, New K B H v z B' H' f → Q v H') → r xs H Q
def xCB (g : List D → Option Vl) (ma : MA) : MX := fun ρ => R.bind (ma ρ) fun a => rdO (rdvs a.2 a.1) fun da => rdO (g da) fun z => .ok (z, a.2)
theorem ResA.new {vs : List V} {rs : List Vl} {z : Vl} (x : ResA K B H σ f0 vs rs ρ B1 H1 f1 f) {w : V} {g : List Addr} (n : New K B1 H1 w z B2 H2 g) : Res K B H σ f0 w z ρ B2 H2 f1 g where
  rel := n.rel x.rel
  val := n.val.any
  off := fun a ha => ⟨(n.fr a ha).2, fun ⟨i, hi⟩ => (x.rel.off i a hi).2 (n.fr a ha).1⟩
  frm := x.frm.trans ((n.frm0 _).to fun a z => by
    rcases z with z | z
    · exact .inl (.inl z)
    · exact .inr (.inr (n.fr a z).1))
theorem im_cb {rr : List V → Hp → VK → Prop} {gg : List D → Option Vl} {ta : TA} {ma : MA} (ho : CallI K rr gg) (ha : ImpA K ct E ta ma) : Imp K ct E (tCB rr ta) (xCB gg ma) := by
  intro B H σ ρ f0 Q R h
  refine ha B H σ ρ f0 _ R (h.first fun a ea h vs B1 H1 f1 f x => ?_)
  obtain ⟨da, e1, h⟩ := h.get
  obtain ⟨z, e3, h⟩ := h.get
  exact ho B1 H1 vs da z x.rel.ex (x.val.rd x.rel e1) e3 Q fun u B3 H3 k n => h u B3 H3 f1 k (x.new n)

def share (ρ : Env) : Vl → Option (D × Env)
  | .sh d => some (d, ρ)
  | .own ds => some (.lst ds, ρ)
  | .drw _ => none
  | .ob _ => none
  | .bor i => match ρ[i]? with
    | some (.own ds) => some (.lst ds, ρ.set i (.sh (.lst ds)))
    | some (.sh d) => some (d, ρ)
    | _ => none
def shares (ρ : Env) : List Vl → Option (List D × Env)
  | [] => some ([], ρ)
  | r :: rs => (share ρ r).bind fun a => (shares a.2 rs).bind fun b => some (a.1 :: b.1, b.2)
def fpSet (f : Fps) (i : Nat) (l : List Addr) : Fps := fun j => if j = i then l else f j
theorem fpSet_same {f : Fps} {i : Nat} {l : List Addr} : fpSet f i l i = l := if_pos rfl
theorem fpSet_ne {f : Fps} {i j : Nat} {l : List Addr} (h : j ≠ i) : fpSet f i l j = f j := if_neg h
theorem frm_freeze {p : Addr} {xs : List V} {P : Addr → Prop} (hp : P p) (hb : B p = none) : Frm B H P (upd B p (.lst xs)) H (fun a => P a ∧ a ≠ p) where
  bb := Ex.new hb
  keep := fun a o q _ => q
  off := fun a q1 _ n => by rw [upd_ne (fun z => n (by rw [z]; exact hp))]; exact q1
  own := fun a z => .inl z.1
  dom := fun _ q => q
theorem ex_freeze {p : Addr} {xs : List V} (e : Ex B H) (hp : H p = some (.lst xs)) : Ex (upd B p (.lst xs)) H := fun a o q => by
  by_cases ha : a = p
  · subst ha
    rw [upd_same] at q
    cases q
    exact hp
  · rw [upd_ne ha] at q
    exact e a o q
theorem SlOk.lift {v : Option V} {s : Sl} {f : List Addr} {p : Addr} {o : HO} (x : SlOk K B H v s f) (hb : B p = none) : SlOk K (upd B p o) H v s f := by
  cases s with
  | emp => exact x
  | sh d =>
    obtain ⟨e, y, h1, h2⟩ := x
    exact ⟨e, y, h1, h2.mono (Ex.new hb)⟩
  | own ds =>
    obtain ⟨q, xs, h1, h2, h3, h4⟩ := x
    exact ⟨q, xs, h1, h2, h3, h4.mono (Ex.new hb)⟩
  | own2 l =>
    obtain ⟨q, ps, h1, h2, h3, h4, h5⟩ := x
    exact ⟨q, ps, h1, h2, h3, h4, h5.to (Ex.new hb) fun _ _ _ e => e⟩
  | drw st =>
    obtain ⟨a, w, c, h1, h2, h3, h4, h5, h6⟩ := x
    exact ⟨a, w, c, h1, h2, h3, h4, h5, ex_l (Ex.new hb) h6⟩
  | ob o => exact ObOk.to x (Ex.new hb) fun _ _ _ e => e
  | tab T d =>
    obtain ⟨e, y, h1, h2⟩ := x
    exact ⟨e, y, h1, h2.mono (Ex.new hb)⟩
theorem VlOk.lift {p : Addr} {o : HO} (x : VlOk K B H σ v r f) (hb : B p = none) : VlOk K (upd B p o) H σ v r f := by
  cases r with
  | bor i => exact x
  | sh d => exact SlOk.lift (H := H) (s := .sh d) x hb
  | own ds => exact SlOk.lift (H := H) (s := .own ds) x hb
  | drw st => exact SlOk.lift (H := H) (s := .drw st) x hb
  | ob o => exact SlOk.lift (H := H) (s := .ob o) x hb
theorem VlsOk.lift {vs : List V} {rs : List Vl} {p : Addr} {o : HO} (x : VlsOk K B H σ vs rs g) (hb : B p = none) : VlsOk K (upd B p o) H σ vs rs g := by
  induction x with
  | nil => exact .nil
  | cons h _ n ih => exact .cons (h.lift hb) ih n
theorem share_ok {d : D} {S : List Addr} (R : Rel K B H σ ρ f0) (x : VlOk K B H σ v r f) (off : ∀ a ∈ f, B a = none ∧ ¬ Owned f0 a) (off2 : ∀ a ∈ S, B a = none ∧ ¬ Owned f0 a ∧ a ∉ f) (h : share ρ r = some (d, ρ')) :
    ∃ B' f', Rel K B' H σ ρ' f' ∧ DV K B' v d ∧ Ex B B' ∧ (∀ a ∈ S, B' a = none ∧ ¬ Owned f' a) ∧ (∀ {vs : List V} {rs : List Vl} {g : List Addr}, VlsOk K B H σ vs rs g → VlsOk K B' H σ vs rs g) ∧
      Frm B H (fun a => Owned f0 a ∨ a ∈ f) B' H (Owned f') := by
  cases r with
  | sh d' =>
    obtain ⟨e, y, e1, h1⟩ := x
    cases e1
    cases h
    refine ⟨B, f0, R, h1, fun _ _ q => q, fun a ha => ⟨(off2 a ha).1, (off2 a ha).2.1⟩, fun q => q, Frm.refl.to fun a z => .inl (.inl z)⟩
  | drw st => cases h
  | ob o => cases h
  | own ds =>
    obtain ⟨p, xs, e1, e2, h3, h4⟩ := x
    cases e1
    cases h
    have hp := off p (by rw [e2]; simp)
    refine ⟨upd B p (.lst xs), f0, ⟨R.len, ex_freeze R.ex h3, R.pl.upd (fun _ z => by cases z), fun i s q => (R.ok i s q).lift hp.1, R.out, R.dis, fun i a ha => ⟨?_, (R.off i a ha).2⟩⟩, .lst upd_same (h4.mono (Ex.new hp.1)), Ex.new hp.1, fun a ha => ⟨?_, (off2 a ha).2.1⟩, fun q => q.lift hp.1, (frm_freeze (P := fun a => Owned f0 a ∨ a ∈ f) (.inr (by rw [e2]; simp)) hp.1).to fun a z => .inr (.inl (.inl z))⟩
    · rw [upd_ne (fun z => hp.2 ⟨i, by rw [← z]; exact ha⟩)]
      exact (R.off i a ha).1
    · rw [upd_ne (fun z => (off2 a ha).2.2 (by rw [z, e2]; simp))]
      exact (off2 a ha).1
  | bor i =>
    obtain ⟨e0, e1⟩ := x
    have hj : (σ[i]?).join = some v := by rw [e1]; rfl
    unfold share at h
    cases e : ρ[i]? with
    | none => simp only [e] at h; cases h
    | some s =>
      have ok := R.ok i s e
      rw [hj] at ok
      cases s with
      | emp => simp only [e] at h; cases h
      | own2 l => simp only [e] at h; cases h
      | drw st => simp only [e] at h; cases h
      | ob o => simp only [e] at h; cases h
      | tab T d => simp only [e] at h; cases h
      | sh d' =>
        simp only [e] at h
        cases h
        obtain ⟨_, y, e2, h1⟩ := ok
        cases e2
        exact ⟨B, f0, R, h1, fun _ _ q => q, fun a ha => ⟨(off2 a ha).1, (off2 a ha).2.1⟩, fun q => q, Frm.refl.to fun a z => .inl (.inl z)⟩
      | own ds =>
        simp only [e] at h
        cases h
        obtain ⟨p, xs, e2, e3, h3, h4⟩ := ok
        cases e2
        have hi : p ∈ f0 i := by rw [e3]; simp
        have hp : B p = none := (R.off i p hi).1
        have hil : i < ρ.length := (List.getElem?_eq_some_iff.mp e).1
        have ow : ∀ a, Owned (fpSet f0 i []) a → Owned f0 a ∧ a ≠ p := fun a ⟨j, hja⟩ => by
          by_cases hj' : j = i
          · subst hj'
            rw [fpSet_same] at hja
            exact nomatch hja
          · rw [fpSet_ne hj'] at hja
            exact ⟨⟨j, hja⟩, fun z => hj' (R.dis j i a hja (by rw [z]; exact hi))⟩
        refine ⟨upd B p (.lst xs), fpSet f0 i [], ⟨by rw [List.length_set]; exact R.len, ex_freeze R.ex h3, R.pl.upd (fun _ z => by cases z), fun j s q => ?_, fun j q => ?_, fun j k a h1 h2 => ?_, fun j a ha => ?_⟩, .lst upd_same (h4.mono (Ex.new hp)), Ex.new hp, fun a ha => ?_, fun q => q.lift hp, (frm_freeze (P := fun a => Owned f0 a ∨ a ∈ f) (.inl ⟨i, hi⟩) hp).to fun a z => .inr (.inl (.inl (ow a z).1))⟩
        · by_cases hj' : j = i
          · subst hj'
            rw [List.getElem?_set_self hil] at q
            cases q
            rw [fpSet_same, hj]
            exact ⟨rfl, _, rfl, .lst upd_same (h4.mono (Ex.new hp))⟩
          · rw [List.getElem?_set_ne (Ne.symm hj')] at q
            rw [fpSet_ne hj']
            exact (R.ok j s q).lift hp
        · by_cases hj' : j = i
          · subst hj'
            exact fpSet_same
          · rw [List.getElem?_set_ne (Ne.symm hj')] at q
            rw [fpSet_ne hj']
            exact R.out j q
        · by_cases hj' : j = i
          · subst hj'
            rw [fpSet_same] at h1
            exact nomatch h1
          · by_cases hk' : k = i
            · subst hk'
              rw [fpSet_same] at h2
              exact nomatch h2
            · rw [fpSet_ne hj'] at h1
              rw [fpSet_ne hk'] at h2
              exact R.dis j k a h1 h2
        · have q := ow a ⟨j, ha⟩
          obtain ⟨⟨l, hl⟩, ne⟩ := q
          rw [upd_ne ne]
          exact R.off l a hl
        · refine ⟨?_, fun z => (off2 a ha).2.1 (ow a z).1⟩
          rw [upd_ne (fun z => (off2 a ha).2.1 ⟨i, by rw [z]; exact hi⟩)]
          exact (off2 a ha).1
theorem VlsOk.inv {vs : List V} {r : Vl} {rs : List Vl} (x : VlsOk K B H σ vs (r :: rs) g) : ∃ v vs' f g', vs = v :: vs' ∧ g = f ++ g' ∧ VlOk K B H σ v r f ∧ VlsOk K B H σ vs' rs g' ∧ ∀ a ∈ f, a ∉ g' := by
  generalize e : r :: rs = l at x
  cases x with
  | nil => cases e
  | cons h1 h2 n =>
    cases e
    exact ⟨_, _, _, _, rfl, rfl, h1, h2, n⟩
theorem VlsOk.inv0 {vs : List V} (x : VlsOk K B H σ vs [] g) : vs = [] ∧ g = [] := by
  generalize e : ([] : List Vl) = l at x
  cases x with
  | nil => exact ⟨rfl, rfl⟩
  | cons h1 h2 n => cases e
theorem shares_ok : ∀ {rs : List Vl} {vs : List V} {g : List Addr} {B : Hp} {ρ ρ' : Env} {f0 : Fps} {ds : List D}, Rel K B H σ ρ f0 → VlsOk K B H σ vs rs g → (∀ a ∈ g, B a = none ∧ ¬ Owned f0 a) → shares ρ rs = some (ds, ρ') →
    ∃ B' f', Rel K B' H σ ρ' f' ∧ DVs K B' vs ds ∧ Ex B B' ∧ Frm B H (fun a => Owned f0 a ∨ a ∈ g) B' H (Owned f')
  | [], vs, g, B, ρ, ρ', f0, ds, R, x, off, h => by
    obtain ⟨e1, e2⟩ := x.inv0
    subst e1 e2
    cases h
    exact ⟨B, f0, R, .nil, fun _ _ q => q, Frm.refl.to fun a z => .inl (.inl z)⟩
  | r :: rs, vs, g, B, ρ, ρ', f0, ds, R, x, off, h => by
    obtain ⟨v, vs', f, g', e1, e2, h1, h2, n⟩ := x.inv
    subst e1 e2
    unfold shares at h
    cases e1 : share ρ r with
    | none => rw [e1] at h; cases h
    | some a =>
      obtain ⟨d, ρ1⟩ := a
      rw [e1] at h
      have h : (shares ρ1 rs).bind (fun b => some (d :: b.1, b.2)) = some (ds, ρ') := h
      cases e2 : shares ρ1 rs with
      | none => rw [e2] at h; cases h
      | some b =>
        obtain ⟨es, ρ2⟩ := b
        rw [e2] at h
        cases h
        obtain ⟨B1, f1, R1, hd, eB, off1, lift, fr⟩ := share_ok (S := g') R h1 (fun a ha => off a (List.mem_append_left _ ha)) (fun a ha => ⟨(off a (List.mem_append_right _ ha)).1, (off a (List.mem_append_right _ ha)).2, fun z => n a z ha⟩) e1
        obtain ⟨B2, f2, R2, hds, eB2, fr2⟩ := shares_ok R1 (lift h2) off1 e2
        refine ⟨B2, f2, R2, .cons (hd.mono eB2) hds, eB.trans eB2, ?_⟩
        have fr' := (fr.side (· ∈ g')).trans fr2
        exact ⟨fr'.bb, fun a o q m => fr'.keep a o q fun z => m (by
          rcases z with (z | z) | z
          · exact .inl z
          · exact .inr (List.mem_append_left _ z)
          · exact .inr (List.mem_append_right _ z)), fun a q1 q2 m => fr'.off a q1 q2 fun z => m (by
          rcases z with (z | z) | z
          · exact .inl z
          · exact .inr (List.mem_append_left _ z)
          · exact .inr (List.mem_append_right _ z)), fun a z => by
          rcases fr'.own a z with ((z | z) | z) | z
          · exact .inl (.inl z)
          · exact .inl (.inr (List.mem_append_left _ z))
          · exact .inl (.inr (List.mem_append_right _ z))
          · exact .inr z, fr'.dom⟩
def szOk (n : Nat) : Bool := decide (n ≤ 1000000)
theorem szOk_le {n : Nat} (h : szOk n = true) : n ≤ sizeLine := by
  have h : n ≤ 1000000 := of_decide_eq_true h
  rw [sizeLine_eq]
  omega
def xTup (ma : MA) : MX := fun ρ => R.bind (ma ρ) fun a => rdO (shares a.2 a.1) fun p => if szOk p.1.length = true then .ok (.sh (.tup p.1), p.2) else .bad
def xLst (ma : MA) : MX := fun ρ => R.bind (ma ρ) fun a => rdO (shares a.2 a.1) fun p => if szOk p.1.length = true then .ok (.own p.1, p.2) else .bad
theorem ResA.shared {vs : List V} {rs : List Vl} {ds : List D} (x : ResA K B H σ f0 vs rs ρ B1 H1 f1 f) (h : shares ρ rs = some (ds, ρ')) : ∃ B2 f2, Rel K B2 H1 σ ρ' f2 ∧ DVs K B2 vs ds ∧ Frm B H (Owned f0) B2 H1 (Owned f2) := by
  obtain ⟨B2, f2, R2, hd, _, fr⟩ := shares_ok x.rel x.val x.off h
  exact ⟨B2, f2, R2, hd, x.frm.trans fr⟩
theorem Rel.newRes {z : Vl} {w : V} (R : Rel K B1 H1 σ ρ f1) (fr : Frm B H (Owned f0) B1 H1 (Owned f1)) (n : New K B1 H1 w z B2 H2 g) : Res K B H σ f0 w z ρ B2 H2 f1 g where
  rel := n.rel R
  val := n.val.any
  off := fun a ha => ⟨(n.fr a ha).2, fun ⟨i, hi⟩ => (R.off i a hi).2 (n.fr a ha).1⟩
  frm := fr.trans ((n.frm0 _).to fun a z => by
    rcases z with z | z
    · exact .inl z
    · exact .inr (.inr (n.fr a z).1))
theorem im_tup {ta : TA} {ma : MA} (ha : ImpA K ct E ta ma) : Imp K ct E (tTup ta) (xTup ma) := by
  intro B H σ ρ f0 Q R h
  refine ha B H σ ρ f0 _ R (h.first fun a ea h vs B1 H1 f1 f x => ?_)
  obtain ⟨p, e1, h⟩ := h.get
  obtain ⟨B2, f2, R2, hd, fr⟩ := x.shared e1
  by_cases hz : szOk p.1.length = true
  · rw [if_pos hz] at h
    refine ⟨by rw [hd.len]; exact szOk_le hz, fun q hq => ?_⟩
    exact h _ _ _ _ _ (R2.newRes fr (New.tup R2.ex hq hd))
  · rw [if_neg hz] at h
    exact h.elim
theorem im_lst {ta : TA} {ma : MA} (ha : ImpA K ct E ta ma) : Imp K ct E (tLst ta) (xLst ma) := by
  intro B H σ ρ f0 Q R h
  refine ha B H σ ρ f0 _ R (h.first fun a ea h vs B1 H1 f1 f x => ?_)
  obtain ⟨p, e1, h⟩ := h.get
  obtain ⟨B2, f2, R2, hd, fr⟩ := x.shared e1
  by_cases hz : szOk p.1.length = true
  · rw [if_pos hz] at h
    refine ⟨by rw [hd.len]; exact szOk_le hz, fun q hq => ?_⟩
    exact h _ _ _ _ _ (R2.newRes fr (New.lst R2.ex hq hd))
  · rw [if_neg hz] at h
    exact h.elim

abbrev MT := Env → R (Bool × Env)
structure ResT (K : PySem.W.Frag) (B H : Hp) (σ : L2.St) (f0 : Fps) (ρ : Env) (B' H' : Hp) (f' : Fps) : Prop where
  rel : Rel K B' H' σ ρ f'
  frm : Frm B H (Owned f0) B' H' (Owned f')
def ImpT (K : PySem.W.Frag) (ct : Ct) (E : XK) (t : TT) (m : MT) : Prop := ∀ (B H : Hp) (σ : L2.St) (ρ : Env) (f0 : Fps) (Q : Bool → Hp → Prop), Rel K B H σ ρ f0 →
  Post ct E H f0 (m ρ) (fun p => ∀ B' H' f', ResT K B H σ f0 p.2 B' H' f' → Q p.1 H') → t σ H Q
theorem Res.drop (x : Res K B H σ f0 v r ρ B1 H1 f1 f) : ResT K B H σ f0 ρ B1 H1 f1 := ⟨x.rel, x.frm.to fun a z => .inl (.inl z)⟩
theorem ResT.then (x : ResT K B H σ f0 ρ B1 H1 f1) (y : ResT K B1 H1 σ f1 ρ' B2 H2 f2) : ResT K B H σ f0 ρ' B2 H2 f2 := ⟨y.rel, x.frm.trans y.frm⟩
theorem ResT.res {ρ2 : Env} (x : ResT K B H σ f0 ρ B1 H1 f1) (y : Res K B1 H1 σ f1 v r ρ2 B2 H2 f2 f) : Res K B H σ f0 v r ρ2 B2 H2 f2 f := ⟨y.rel, y.val, y.off, x.frm.trans y.frm⟩
def blOf : D → Option Bool
  | .bl b => some b
  | _ => none
def xTest (m : MX) : MT := fun ρ => R.bind (m ρ) fun a => rdO (rdv a.2 a.1) fun d => rdO (blOf d) fun b => .ok (b, a.2)
theorem it_test {t : TE} {m : MX} (ha : Imp K ct E t m) : ImpT K ct E (tTest t) (xTest m) := by
  intro B H σ ρ f0 Q R h
  refine ha B H σ ρ f0 _ R (h.first fun a ea h v B1 H1 f1 f x => ?_)
  obtain ⟨d, e1, h⟩ := h.get
  obtain ⟨b, e2, h⟩ := h.get
  have hv := x.val.rd x.rel e1
  cases d <;> first | (cases e2; done) | skip
  cases e2
  cases hv
  exact ⟨b, rfl, h _ _ _ x.drop⟩
theorem it_B {t : TE} {m : MX} (ha : Imp K ct E t m) : ImpT K ct E (tB t) (xTest m) := fun B H σ ρ f0 Q R h => it_test ha B H σ ρ f0 Q R h
def truO : D → Option Bool
  | .non => some false
  | .bl b => some b
  | .int i => some (i != 0)
  | .str s => if szOk s.length = true then some ((s.length : Int) != 0) else none
  | .tup l => some (!l.isEmpty)
  | .lst l => some (!l.isEmpty)
  | _ => none
def xTru (m : MX) : MT := fun ρ => R.bind (m ρ) fun a => rdO (rdv a.2 a.1) fun d => rdO (truO d) fun b => .ok (b, a.2)
theorem isEmpty_len {α β : Type} {l : List α} {m : List β} (h : l.length = m.length) : l.isEmpty = m.isEmpty := by
  cases l <;> cases m <;> simp_all
theorem it_tru {t : TE} {m : MX} (ha : Imp K ct E t m) : ImpT K ct E (fun σ H Q => t σ H fun x H' => ∃ k, TruV K x H' k ∧ Q k H') (xTru m) := by
  intro B H σ ρ f0 Q R h
  refine ha B H σ ρ f0 _ R (h.first fun a ea h v B1 H1 f1 f x => ?_)
  obtain ⟨d, e1, h⟩ := h.get
  obtain ⟨b, e2, h⟩ := h.get
  have hv := x.val.rd x.rel e1
  refine ⟨b, ?_, h _ _ _ x.drop⟩
  cases d with
  | non => cases e2; cases hv; rfl
  | bl c => cases e2; cases hv; rfl
  | int c => cases e2; cases hv; rfl
  | str s =>
    cases hv
    have e2 : (if szOk s.length = true then some ((s.length : Int) != 0) else none) = some b := e2
    by_cases hz : szOk s.length = true
    · rw [if_pos hz] at e2
      cases e2
      exact ⟨szOk_le hz, rfl⟩
    · rw [if_neg hz] at e2
      cases e2
  | tup l =>
    cases e2
    cases hv with
    | tup h1 h2 => exact .inr (.inl ⟨_, ex_t x.rel.ex h1, by rw [isEmpty_len h2.len]⟩)
  | lst l =>
    cases e2
    obtain ⟨p, xs, ev, h1, h2⟩ := hv
    cases ev
    exact .inl ⟨_, SqL.of h1, by rw [isEmpty_len h2.len]⟩
  | scr l => cases e2
  | ty n => cases e2
  | ref n => cases e2
  | edc =>
    cases e2
  | ins C ns ds => cases e2
def xAnd (a b : MT) : MT := fun ρ => R.bind (a ρ) fun p => if p.1 = true then b p.2 else .ok (false, p.2)
def xOr (a b : MT) : MT := fun ρ => R.bind (a ρ) fun p => if p.1 = true then .ok (true, p.2) else b p.2
def xNot (a : MT) : MT := fun ρ => R.bind (a ρ) fun p => .ok (!p.1, p.2)
theorem it_and {t u : TT} {a b : MT} (ha : ImpT K ct E t a) (hb : ImpT K ct E u b) : ImpT K ct E (tAnd t u) (xAnd a b) := by
  intro B H σ ρ f0 Q R h
  refine ha B H σ ρ f0 _ R (h.first fun p ep h B1 H1 f1 x => ?_)
  obtain ⟨c, ρ1⟩ := p
  cases c with
  | true =>
    show u σ H1 Q
    have h : Post ct E H f0 (b ρ1) _ := h
    refine hb B1 H1 σ ρ1 f1 _ x.rel ?_
    refine Post.step (k := fun q => .ok q) (m := b ρ1) (ok := fun p => ∀ B' H' f', ResT K B H σ f0 p.2 B' H' f' → Q p.1 H') ?_ x.frm (fun _ z => z) fun p ep h B2 H2 f2 y => h B2 H2 f2 (x.then y)
    cases e : b ρ1 <;> (rw [e] at h; exact h)
  | false => exact h B1 H1 f1 x
theorem it_or {t u : TT} {a b : MT} (ha : ImpT K ct E t a) (hb : ImpT K ct E u b) : ImpT K ct E (tOr t u) (xOr a b) := by
  intro B H σ ρ f0 Q R h
  refine ha B H σ ρ f0 _ R (h.first fun p ep h B1 H1 f1 x => ?_)
  obtain ⟨c, ρ1⟩ := p
  cases c with
  | false =>
    show u σ H1 Q
    have h : Post ct E H f0 (b ρ1) _ := h
    refine hb B1 H1 σ ρ1 f1 _ x.rel ?_
    refine Post.step (k := fun q => .ok q) (m := b ρ1) (ok := fun p => ∀ B' H' f', ResT K B H σ f0 p.2 B' H' f' → Q p.1 H') ?_ x.frm (fun _ z => z) fun p ep h B2 H2 f2 y => h B2 H2 f2 (x.then y)
    cases e : b ρ1 <;> (rw [e] at h; exact h)
  | true => exact h B1 H1 f1 x
theorem it_not {t : TT} {a : MT} (ha : ImpT K ct E t a) : ImpT K ct E (tNot t) (xNot a) := by
  intro B H σ ρ f0 Q R h
  exact ha B H σ ρ f0 _ R (h.first fun p ep h B1 H1 f1 x => h B1 H1 f1 x)
theorem Post.late {α : Type} {m : R α} {ok ok1 : α → Prop} {P : Addr → Prop} (h : Post ct E H f0 m ok) (fr : Frm B H (Owned f0) B1 H1 P) (hP : ∀ a, Owned f1 a → P a) (st : ∀ a, m = .ok a → ok a → ok1 a) : Post ct E H1 f1 m ok1 := by
  refine Post.step (k := fun q => .ok q) (m := m) (ok := ok) ?_ fr hP fun a e h => st a e h
  cases e : m <;> (rw [e] at h; exact h)
def xIf (c : MT) (a b : MX) : MX := fun ρ => R.bind (c ρ) fun p => if p.1 = true then a p.2 else b p.2
theorem im_if {t : TT} {u w : TE} {c : MT} {a b : MX} (hc : ImpT K ct E t c) (ha : Imp K ct E u a) (hb : Imp K ct E w b) : Imp K ct E (tIf t u w) (xIf c a b) := by
  intro B H σ ρ f0 Q R h
  refine hc B H σ ρ f0 _ R (h.first fun p ep h B1 H1 f1 x => ?_)
  obtain ⟨k, ρ1⟩ := p
  cases k with
  | true =>
    show u σ H1 Q
    exact ha B1 H1 σ ρ1 f1 _ x.rel (Post.late (m := a ρ1) h x.frm (fun _ z => z) fun p ep h v B2 H2 f2 f y => h v B2 H2 f2 f (x.res y))
  | false =>
    show w σ H1 Q
    exact hb B1 H1 σ ρ1 f1 _ x.rel (Post.late (m := b ρ1) h x.frm (fun _ z => z) fun p ep h v B2 H2 f2 f y => h v B2 H2 f2 f (x.res y))
def xVal (c : MT) : MX := fun ρ => R.bind (c ρ) fun p => .ok (.sh (.bl p.1), p.2)
def xAndV (a b : MX) : MX := fun ρ => R.bind (xTest a ρ) fun p => if p.1 = true then b p.2 else .ok (.sh (.bl false), p.2)
def xOrV (a b : MX) : MX := fun ρ => R.bind (xTest a ρ) fun p => if p.1 = true then .ok (.sh (.bl true), p.2) else b p.2
theorem im_andV {t u : TE} {a b : MX} (ha : Imp K ct E t a) (hb : Imp K ct E u b) : Imp K ct E (tAndV t u) (xAndV a b) := by
  intro B H σ ρ f0 Q R h
  refine it_B ha B H σ ρ f0 (fun c H1 => if c = true then u σ H1 Q else Q (.bl false) H1) R (h.first fun p ep h B1 H1 f1 x => ?_)
  obtain ⟨k, ρ1⟩ := p
  cases k with
  | true =>
    show u σ H1 Q
    exact hb B1 H1 σ ρ1 f1 _ x.rel (Post.late (m := b ρ1) h x.frm (fun _ z => z) fun p ep h v B2 H2 f2 f y => h v B2 H2 f2 f (x.res y))
  | false => exact h _ _ _ _ _ (x.res (.refl x.rel (.bl false)))
theorem im_orV {t u : TE} {a b : MX} (ha : Imp K ct E t a) (hb : Imp K ct E u b) : Imp K ct E (tOrV t u) (xOrV a b) := by
  intro B H σ ρ f0 Q R h
  refine it_B ha B H σ ρ f0 (fun c H1 => if c = true then Q (.bl true) H1 else u σ H1 Q) R (h.first fun p ep h B1 H1 f1 x => ?_)
  obtain ⟨k, ρ1⟩ := p
  cases k with
  | false =>
    show u σ H1 Q
    exact hb B1 H1 σ ρ1 f1 _ x.rel (Post.late (m := b ρ1) h x.frm (fun _ z => z) fun p ep h v B2 H2 f2 f y => h v B2 H2 f2 f (x.res y))
  | true => exact h _ _ _ _ _ (x.res (.refl x.rel (.bl true)))
def xNotV (a : MX) : MX := fun ρ => R.bind (xTest a ρ) fun p => .ok (.sh (.bl (!p.1)), p.2)
theorem im_notV {t : TE} {a : MX} (ha : Imp K ct E t a) : Imp K ct E (tNotV t) (xNotV a) := by
  intro B H σ ρ f0 Q R h
  exact it_B ha B H σ ρ f0 (fun c H1 => Q (.bl (!c)) H1) R (h.first fun p ep h B1 H1 f1 x => h _ _ _ _ _ (x.res (.refl x.rel (.bl _))))
end
end DL
end
section
set_option maxRecDepth 100000
set_option maxHeartbeats 2000000
namespace DL
open PySem PySem.Spec PyProof.Rows L2
open Evl (Ex ex_rd ex_l ex_t)
section
variable {K : PySem.W.Frag} {ct : Ct} {E : XK} {B H B' H' B1 H1 B2 H2 : Hp} {σ σ' : L2.St} {ρ ρ' : Env} {f0 f1 f2 : Fps} {v : V} {r : Vl} {f g : List Addr}

def CmpI (K : PySem.W.Frag) (r : R2) (g : D → D → Option Bool) : Prop := ∀ (B H : Hp) (x y : V) (dx dy : D) (b : Bool), Ex B H → RdV K B H x dx → RdV K B H y dy → g dx dy = some b → ∀ Q : VK, Q (.bl b) H → r x y H Q
def blR (g : D → D → Option Bool) : D → D → Option Vl := fun a b => (g a b).bind fun k => some (.sh (.bl k))
theorem CmpI.op {rr : R2} {gg : D → D → Option Bool} (h : CmpI K rr gg) : OpI K rr (blR gg) := by
  intro B H x y dx dy z e hx hy hz Q q
  unfold blR at hz
  cases e1 : gg dx dy with
  | none => rw [e1] at hz; cases hz
  | some b =>
    rw [e1] at hz
    cases hz
    exact h B H x y dx dy b e hx hy e1 Q (q _ _ _ _ (New.sc e (.bl b)))
theorem CmpI.or {r1 r2 : R2} {g1 g2 : D → D → Option Bool} (h1 : CmpI K r1 g1) (h2 : CmpI K r2 g2) : CmpI K (fun x y H Q => r1 x y H Q ∨ r2 x y H Q) (fun a b => (g1 a b).or (g2 a b)) := by
  intro B H x y dx dy b e hx hy hz Q q
  cases e1 : g1 dx dy with
  | none =>
    have hz : (g1 dx dy).or (g2 dx dy) = some b := hz
    rw [e1] at hz
    exact .inr (h2 B H x y dx dy b e hx hy hz Q q)
  | some k =>
    have hz : (g1 dx dy).or (g2 dx dy) = some b := hz
    rw [e1] at hz
    cases hz
    exact .inl (h1 B H x y dx dy _ e hx hy e1 Q q)
theorem OpI.or {r1 r2 : R2} {g1 g2 : D → D → Option Vl} (h1 : OpI K r1 g1) (h2 : OpI K r2 g2) : OpI K (fun x y H Q => r1 x y H Q ∨ r2 x y H Q) (fun a b => (g1 a b).or (g2 a b)) := by
  intro B H x y dx dy b e hx hy hz Q q
  have hz : (g1 dx dy).or (g2 dx dy) = some b := hz
  cases e1 : g1 dx dy with
  | none =>
    rw [e1] at hz
    exact .inr (h2 B H x y dx dy b e hx hy hz Q q)
  | some k =>
    rw [e1] at hz
    cases hz
    exact .inl (h1 B H x y dx dy _ e hx hy e1 Q q)
theorem CallI.or {r1 r2 : List V → Hp → VK → Prop} {g1 g2 : List D → Option Vl} (h1 : CallI K r1 g1) (h2 : CallI K r2 g2) : CallI K (fun x H Q => r1 x H Q ∨ r2 x H Q) (fun a => (g1 a).or (g2 a)) := by
  intro B H x dx b e hx hz Q q
  have hz : (g1 dx).or (g2 dx) = some b := hz
  cases e1 : g1 dx with
  | none =>
    rw [e1] at hz
    exact .inr (h2 B H x dx b e hx hz Q q)
  | some k =>
    rw [e1] at hz
    cases hz
    exact .inl (h1 B H x dx _ e hx e1 Q q)
def xChain (g g' : D → D → Option Bool) (ma mb mc : MX) : MX := fun ρ => R.bind (ma ρ) fun a => R.bind (mb a.2) fun b => rdO (rdv b.2 a.1) fun da => rdO (rdv b.2 b.1) fun db => rdO (g da db) fun k =>
  if k = true then R.bind (mc b.2) fun c => rdO (rdv c.2 b.1) fun db => rdO (rdv c.2 c.1) fun dc => rdO (g' db dc) fun k => .ok (.sh (.bl k), c.2) else .ok (.sh (.bl false), b.2)
theorem im_chain {r1 r2 : R2} {g1 g2 : D → D → Option Bool} {ta tb tc : TE} {ma mb mc : MX} (h1 : CmpI K r1 g1) (h2 : CmpI K r2 g2) (ha : Imp K ct E ta ma) (hb : Imp K ct E tb mb) (hc : Imp K ct E tc mc) : Imp K ct E (tChain r1 r2 ta tb tc) (xChain g1 g2 ma mb mc) := by
  intro B H σ ρ f0 Q R h
  refine ha B H σ ρ f0 _ R (h.first fun a ea h v B1 H1 f1 f x => ?_)
  refine hb B1 H1 σ a.2 f1 _ x.rel (h.step x.frm (fun _ z => .inl z) fun b eb h w B2 H2 f2 g y => ?_)
  have x' := x.then y
  obtain ⟨da, e1, h⟩ := h.get
  obtain ⟨db, e2, h⟩ := h.get
  obtain ⟨k, e3, h⟩ := h.get
  refine h1 B2 H2 v w da db k y.rel.ex (x'.1.rd y.rel e1) (y.val.rd y.rel e2) e3 _ ⟨k, rfl, ?_⟩
  have y' := x.res2 y
  cases k with
  | false => exact h _ _ _ _ _ (y'.drop.res (.refl y.rel (.bl false)))
  | true =>
    show tc σ H2 _
    have h : Post ct E H f0 (DL.R.bind (mc b.2) fun c => rdO (rdv c.2 b.1) fun db => rdO (rdv c.2 c.1) fun dc => rdO (g2 db dc) fun k => .ok (.sh (.bl k), c.2)) (XOk K B H σ f0 Q) := h
    refine hc B2 H2 σ b.2 f2 _ y.rel (h.step y'.frm (fun _ z => .inl z) fun c ec h u B3 H3 f3 l z => ?_)
    have y'' := y.then z
    obtain ⟨db', e4, h⟩ := h.get
    obtain ⟨dc, e5, h⟩ := h.get
    obtain ⟨k, e6, h⟩ := h.get
    exact h2 B3 H3 w u db' dc k z.rel.ex (y''.1.rd z.rel e4) (z.val.rd z.rel e5) e6 _ (h _ _ _ _ _ ((y'.res2 z).drop.res (.refl z.rel (.bl k))))

abbrev MO := Env → R (Option Int × Env)
def ImpO (K : PySem.W.Frag) (ct : Ct) (E : XK) (t : TO) (m : MO) : Prop := ∀ (B H : Hp) (σ : L2.St) (ρ : Env) (f0 : Fps) (Q : Option Int → Hp → Prop), Rel K B H σ ρ f0 →
  Post ct E H f0 (m ρ) (fun p => ∀ B' H' f', ResT K B H σ f0 p.2 B' H' f' → Q p.1 H') → t σ H Q
def oNone : MO := fun ρ => .ok (none, ρ)
def intOf : D → Option Int
  | .int i => some i
  | _ => none
def oPart (m : MX) : MO := fun ρ => R.bind (m ρ) fun a => rdO (rdv a.2 a.1) fun d => rdO (intOf d) fun i => .ok (some i, a.2)
theorem ResT.refl (R : Rel K B H σ ρ f0) : ResT K B H σ f0 ρ B H f0 := ⟨R, .refl⟩
theorem io_none : ImpO K ct E tNoPart oNone := fun B H σ ρ f0 Q R q => q B H f0 (.refl R)
theorem io_part {t : TE} {m : MX} (ha : Imp K ct E t m) : ImpO K ct E (tPart t) (oPart m) := by
  intro B H σ ρ f0 Q R h
  refine ha B H σ ρ f0 _ R (h.first fun a ea h v B1 H1 f1 f x => ?_)
  obtain ⟨d, e1, h⟩ := h.get
  obtain ⟨i, e2, h⟩ := h.get
  have hv := x.val.rd x.rel e1
  cases d <;> first | (cases e2; done) | skip
  cases e2
  cases hv
  exact ⟨i, rfl, h _ _ _ x.drop⟩
def SlI (K : PySem.W.Frag) (r : V → Option Int → Option Int → Hp → VK → Prop) (g : D → Option Int → Option Int → Option Vl) : Prop := ∀ (B H : Hp) (x : V) (dx : D) (lo hi : Option Int) (z : Vl), Ex B H → RdV K B H x dx → g dx lo hi = some z →
  ∀ Q : VK, (∀ v B' H' f, New K B H v z B' H' f → Q v H') → r x lo hi H Q
theorem SlI.or {r1 r2 : V → Option Int → Option Int → Hp → VK → Prop} {g1 g2 : D → Option Int → Option Int → Option Vl} (h1 : SlI K r1 g1) (h2 : SlI K r2 g2) : SlI K (fun x l u H Q => r1 x l u H Q ∨ r2 x l u H Q) (fun a l u => (g1 a l u).or (g2 a l u)) := by
  intro B H x dx l u b e hx hz Q q
  have hz : (g1 dx l u).or (g2 dx l u) = some b := hz
  cases e1 : g1 dx l u with
  | none =>
    rw [e1] at hz
    exact .inr (h2 B H x dx l u b e hx hz Q q)
  | some k =>
    rw [e1] at hz
    cases hz
    exact .inl (h1 B H x dx l u _ e hx e1 Q q)
def xSl (g : D → Option Int → Option Int → Option Vl) (ma : MX) (ml mh : MO) : MX := fun ρ => R.bind (ma ρ) fun a => R.bind (ml a.2) fun l => R.bind (mh l.2) fun h => rdO (rdv h.2 a.1) fun d => rdO (g d l.1 h.1) fun z => .ok (z, h.2)
theorem Res.thenT {ρ2 : Env} (x : Res K B H σ f0 v r ρ B1 H1 f1 f) (y : ResT K B1 H1 σ f1 ρ2 B2 H2 f2) : Res K B H σ f0 v r ρ2 B2 H2 f2 f where
  rel := y.rel
  val := x.val.frm y.frm fun a ha => (x.off a ha).2
  off := fun a ha => by
    have hne := x.val.there ha
    exact ⟨y.frm.off a (x.off a ha).1 hne (x.off a ha).2, y.frm.apart hne (x.off a ha).2⟩
  frm := x.frm.trans (y.frm.side (· ∈ f))
theorem im_sl {rr : V → Option Int → Option Int → Hp → VK → Prop} {gg : D → Option Int → Option Int → Option Vl} {ta : TE} {tl th : TO} {ma : MX} {ml mh : MO} (ho : SlI K rr gg) (ha : Imp K ct E ta ma) (hl : ImpO K ct E tl ml) (hh : ImpO K ct E th mh) : Imp K ct E (tSl rr ta tl th) (xSl gg ma ml mh) := by
  intro B H σ ρ f0 Q R h
  refine ha B H σ ρ f0 _ R (h.first fun a ea h v B1 H1 f1 f x => ?_)
  refine hl B1 H1 σ a.2 f1 _ x.rel (h.step x.frm (fun _ z => .inl z) fun l el h B2 H2 f2 y => ?_)
  have x1 := x.thenT y
  refine hh B2 H2 σ l.2 f2 _ y.rel (h.step x1.frm (fun _ z => .inl z) fun u eu h B3 H3 f3 z => ?_)
  have x2 := x1.thenT z
  obtain ⟨d, e1, h⟩ := h.get
  obtain ⟨w, e3, h⟩ := h.get
  exact ho B3 H3 v d l.1 u.1 w x2.rel.ex (x2.val.rd x2.rel e1) e3 Q fun w B4 H4 k n => h w B4 H4 f3 k (x2.new n)

def ItD (K : PySem.W.Frag) (B : Hp) (J : It) (items : List D) : Prop := ∀ B' H', Ex B B' → Ex B' H' → ∀ i, (i < items.length → J.go i H') ∧ (i = items.length → J.stop i H') ∧
  ∀ x H'' d, items[i]? = some d → J.yld i H' x H'' → ∃ B'', Ex B' B'' ∧ Ex H' H'' ∧ Ex B'' H'' ∧ (∀ a, B' a = none → H' a ≠ none → B'' a = none) ∧ (NoE B' → NoE B'') ∧ DV K B'' x d
abbrev MI := Env → R (List D × Env)
def ImpI (K : PySem.W.Frag) (ct : Ct) (E : XK) (t : TI) (m : MI) : Prop := ∀ (B H : Hp) (σ : L2.St) (ρ : Env) (f0 : Fps) (Q : It → Hp → Prop), Rel K B H σ ρ f0 →
  Post ct E H f0 (m ρ) (fun p => ∀ J B' H' f', ResT K B H σ f0 p.2 B' H' f' → ItD K B' J p.1 → Q J H') → t σ H Q
theorem Res.shared {d : D} (x : Res K B H σ f0 v r ρ B1 H1 f1 f) (h : share ρ r = some (d, ρ')) : ∃ B2 f2, ResT K B H σ f0 ρ' B2 H1 f2 ∧ DV K B2 v d := by
  obtain ⟨B2, f2, R2, hd, _, _, _, fr⟩ := share_ok (S := []) x.rel x.val x.off (fun _ q => (nomatch q)) h
  exact ⟨B2, f2, ⟨R2, x.frm.trans fr⟩, hd⟩
theorem itd_list {a : Addr} {xs : List V} {ds : List D} (h : SqL K B a xs) (hd : DVs K B xs ds) (uniq : ∀ B' H' ys, Ex B B' → Ex B' H' → SqL K H' a ys → ys = xs) : ItD K B (Itl K a) ds := by
  intro B' H' e1 e2 i
  have q : SqL K H' a xs := ex_l (e1.trans e2) h
  refine ⟨fun hi => ⟨xs, xs[i]'(by rw [hd.len]; exact hi), q, by simp⟩, fun hi => ⟨xs, q, by rw [hd.len]; exact Nat.le_of_eq hi.symm⟩, fun x H'' d hx y => ?_⟩
  obtain ⟨e, y⟩ := y
  subst e
  obtain ⟨w, h1, h2⟩ := hd.get hx
  rw [y xs q] at h1
  cases h1
  exact ⟨B', fun _ _ q => q, fun _ _ q => q, e2, fun _ q _ => q, id, h2.mono e1⟩
theorem itd_list' {a : Addr} {xs : List V} {ds : List D} (h : SqL K B a xs) (hd : DVs K B xs ds) : ItD K B (Itl K a) ds := by
  intro B' H' e1 e2 i
  have q : SqL K H' a xs := ex_l (e1.trans e2) h
  refine ⟨fun hi => ⟨xs, xs[i]'(by rw [hd.len]; exact hi), q, by simp⟩, fun hi => ⟨xs, q, by rw [hd.len]; exact Nat.le_of_eq hi.symm⟩, fun x H'' d hx y => ?_⟩
  obtain ⟨e, y⟩ := y
  subst e
  obtain ⟨w, h1, h2⟩ := hd.get hx
  rw [y xs q] at h1
  cases h1
  exact ⟨B', fun _ _ q => q, fun _ _ q => q, e2, fun _ q _ => q, id, h2.mono e1⟩
theorem itd_tup {a : Addr} {xs : List V} {ds : List D} (h : SqT K B a xs) (hd : DVs K B xs ds) : ItD K B (Itt K a) ds := by
  intro B' H' e1 e2 i
  have q : SqT K H' a xs := ex_t (e1.trans e2) h
  refine ⟨fun hi => ⟨xs, xs[i]'(by rw [hd.len]; exact hi), q, by simp⟩, fun hi => ⟨xs, q, by rw [hd.len]; exact Nat.le_of_eq hi.symm⟩, fun x H'' d hx y => ?_⟩
  obtain ⟨e, y⟩ := y
  subst e
  obtain ⟨w, h1, h2⟩ := hd.get hx
  rw [y xs q] at h1
  cases h1
  exact ⟨B', fun _ _ q => q, fun _ _ q => q, e2, fun _ q _ => q, id, h2.mono e1⟩
theorem itd_range {lo : Int} {n : Nat} : ItD K B (Itr lo n) ((List.range n).map fun (i : Nat) => D.int (lo + (i : Int))) := by
  intro B' H' e1 e2 i
  refine ⟨fun hi => by simpa [Itr] using hi, fun hi => by simpa [Itr] using Nat.le_of_eq hi.symm, fun x H'' d hx y => ?_⟩
  obtain ⟨e, y⟩ := y
  subst e y
  refine ⟨B', fun _ _ q => q, fun _ _ q => q, e2, fun _ q _ => q, id, ?_⟩
  rw [List.getElem?_map] at hx
  cases q : (List.range n)[i]? with
  | none => rw [q] at hx; cases hx
  | some k =>
    rw [q] at hx
    obtain ⟨hk, ek⟩ := List.getElem?_eq_some_iff.mp q
    rw [List.getElem_range] at ek
    subst ek
    cases hx
    exact .int _
def sgn (c : Nat) : Str := ⟨#[c]⟩
theorem itd_str {s : Str} : ItD K B (Its s) (s.cps.toList.map fun c => D.str (sgn c)) := by
  intro B' H' e1 e2 i
  refine ⟨fun hi => by simpa [Its] using hi, fun hi => by simpa [Its] using Nat.le_of_eq hi.symm, fun x H'' d hx y => ?_⟩
  obtain ⟨e, c, hc, y⟩ := y
  subst e y
  refine ⟨B', fun _ _ q => q, fun _ _ q => q, e2, fun _ q _ => q, id, ?_⟩
  rw [List.getElem?_map, Array.getElem?_toList, hc] at hx
  cases hx
  exact .str _
def iSeq (K : PySem.W.Frag) (te : TE) : TI := fun σ H R => iList K te σ H R ∨ iTup K te σ H R ∨ iStr te σ H R
theorem pi_seq {X : Cx} {tg e : Expr} {te : TE} (he : PE X e te) : PI X tg e (iSeq X.K te) :=
  ⟨fun pins s σ H R I h => by
    rcases h with h | h | h
    · exact (pi_list he).run pins s σ H R I h
    · exact (pi_tup he).run pins s σ H R I h
    · exact (pi_str he).run pins s σ H R I h⟩
def itemsOf : D → Option (List D)
  | .lst ds => some ds
  | .tup ds => some ds
  | .scr ns => some (ns.map D.int)
  | .str s => some (s.cps.toList.map fun c => D.str (sgn c))
  | _ => none
def xISeq (m : MX) : MI := fun ρ => R.bind (m ρ) fun a => rdO (share a.2 a.1) fun p => rdO (itemsOf p.1) fun l => .ok (l, p.2)
theorem ii_seq {t : TE} {m : MX} (ha : Imp K ct E t m) : ImpI K ct E (iSeq K t) (xISeq m) := by
  intro B H σ ρ f0 Q R h
  unfold xISeq at h
  cases em : m ρ with
  | bad => rw [em] at h; exact h.elim
  | exc c p =>
    refine .inl (ha B H σ ρ f0 _ R ?_)
    rw [em] at h ⊢
    exact h
  | ok a =>
    rw [em] at h
    have h : Post ct E H f0 (rdO (share a.2 a.1) fun p => rdO (itemsOf p.1) fun l => .ok (l, p.2)) _ := h
    obtain ⟨p, e1, h⟩ := h.get
    obtain ⟨l, e2, h⟩ := h.get
    have go : ∀ (Q' : VK), (∀ v B' H' f', ResT K B H σ f0 p.2 B' H' f' → DV K B' v p.1 → Q' v H') → t σ H Q' := fun Q' q => by
      refine ha B H σ ρ f0 _ R ?_
      rw [em]
      intro v B1 H1 f1 f x
      obtain ⟨B2, f2, y, hd⟩ := x.shared (ρ' := p.2) (d := p.1) e1
      exact q v B2 H1 f2 y hd
    obtain ⟨d, ρ1⟩ := p
    cases d with
    | lst ds =>
      cases e2
      refine .inl (go _ fun v B' H' f' x hd => ?_)
      cases hd with
      | lst h1 h2 => exact ⟨_, rfl, ⟨_, SqL.of (x.rel.ex _ _ h1)⟩, h _ _ _ _ x (itd_list' (SqL.of h1) h2)⟩
    | scr ns =>
      cases e2
      refine .inl (go _ fun v B' H' f' x hd => ?_)
      cases hd with
      | scr h1 => exact ⟨_, rfl, ⟨_, ex_l x.rel.ex h1⟩, h _ _ _ _ x (itd_list' h1 (DVs.ints ns))⟩
    | tup ds =>
      cases e2
      refine .inr (.inl (go _ fun v B' H' f' x hd => ?_))
      cases hd with
      | tup h1 h2 => exact ⟨_, rfl, ⟨_, ex_t x.rel.ex h1⟩, h _ _ _ _ x (itd_tup h1 h2)⟩
    | str s =>
      cases e2
      refine .inr (.inr (go _ fun v B' H' f' x hd => ?_))
      cases hd
      exact ⟨_, rfl, h _ _ _ _ x itd_str⟩
    | _ => cases e2
def smallI (i : Int) : Bool := decide (-1000000 ≤ i ∧ i ≤ 1000000)
theorem smallI_iff {i : Int} (h : smallI i = true) : -1000000 ≤ i ∧ i ≤ 1000000 := of_decide_eq_true h
def xIRng1 (ma : MA) : MI := fun ρ => R.bind (ma ρ) fun a => match rdvs a.2 a.1 with
  | some [.int j] => if smallI j = true then .ok ((List.range j.toNat).map fun (i : Nat) => D.int (0 + (i : Int)), a.2) else .bad
  | _ => .bad
def xIRng2 (ma : MA) : MI := fun ρ => R.bind (ma ρ) fun a => match rdvs a.2 a.1 with
  | some [.int i, .int j] => if (smallI i && smallI j) = true then .ok ((List.range (j - i).toNat).map fun (k : Nat) => D.int (i + (k : Int)), a.2) else .bad
  | _ => .bad
theorem ResA.drop {vs : List V} {rs : List Vl} (x : ResA K B H σ f0 vs rs ρ B1 H1 f1 f) : ResT K B H σ f0 ρ B1 H1 f1 := ⟨x.rel, x.frm.to fun a z => .inl (.inl z)⟩
theorem RdVs.one {vs : List V} {d : D} (h : RdVs K B H vs [d]) : ∃ v, vs = [v] ∧ RdV K B H v d := by
  cases h with
  | cons h1 h2 => cases h2; exact ⟨_, rfl, h1⟩
theorem RdVs.two {vs : List V} {d e : D} (h : RdVs K B H vs [d, e]) : ∃ v w, vs = [v, w] ∧ RdV K B H v d ∧ RdV K B H w e := by
  cases h with
  | cons h1 h2 =>
    obtain ⟨w, e, h3⟩ := h2.one
    subst e
    exact ⟨_, _, rfl, h1, h3⟩
theorem ii_rng1 {t : TA} {m : MA} (ha : ImpA K ct E t m) : ImpI K ct E (iRng1 t) (xIRng1 m) := by
  intro B H σ ρ f0 Q R h
  refine ha B H σ ρ f0 _ R (h.first fun a ea h vs B1 H1 f1 f x => ?_)
  split at h
  · rename_i j e
    by_cases hz : smallI j = true
    · rw [if_pos hz] at h
      obtain ⟨v, ev, hv⟩ := (x.val.rd x.rel e).one
      subst ev
      cases hv
      have := smallI_iff hz
      exact ⟨j, rfl, by omega, by omega, h _ _ _ _ x.drop itd_range⟩
    · rw [if_neg hz] at h
      exact h.elim
  · exact h.elim
theorem ii_rng2 {t : TA} {m : MA} (ha : ImpA K ct E t m) : ImpI K ct E (iRng2 t) (xIRng2 m) := by
  intro B H σ ρ f0 Q R h
  refine ha B H σ ρ f0 _ R (h.first fun a ea h vs B1 H1 f1 f x => ?_)
  split at h
  · rename_i i j e
    by_cases hz : (smallI i && smallI j) = true
    · rw [if_pos hz] at h
      obtain ⟨v, w, ev, hv, hw⟩ := (x.val.rd x.rel e).two
      subst ev
      cases hv
      cases hw
      rw [Bool.and_eq_true] at hz
      have h1 := smallI_iff hz.1
      have h2 := smallI_iff hz.2
      exact ⟨i, j, rfl, ⟨by omega, by omega, by omega, by omega⟩, h _ _ _ _ x.drop itd_range⟩
    · rw [if_neg hz] at h
      exact h.elim
  · exact h.elim

abbrev MG := D → Env → Option Env
def ImpG (K : PySem.W.Frag) (js : List Nat) (g : TG) (m : MG) : Prop := ∀ (B H : Hp) (σ : L2.St) (ρ ρ' : Env) (f0 : Fps) (v : V) (d : D), Rel K B H σ ρ f0 → DV K B v d → m d ρ = some ρ' →
  ∀ Q : L2.St → Hp → Prop, (∀ σ' f', Rel K B H σ' ρ' f' → σ'.length = σ.length → (∀ i, i ∉ js → σ'[i]? = σ[i]?) → (∀ a, Owned f' a → Owned f0 a) → Q σ' H) → g v σ H Q
def ImpGs (K : PySem.W.Frag) (js : List Nat) (g : TGs) (m : List D → Env → Option Env) : Prop := ∀ (B H : Hp) (σ : L2.St) (ρ ρ' : Env) (f0 : Fps) (v : List V) (d : List D), Rel K B H σ ρ f0 → DVs K B v d → m d ρ = some ρ' →
  ∀ Q : L2.St → Hp → Prop, (∀ σ' f', Rel K B H σ' ρ' f' → σ'.length = σ.length → (∀ i, i ∉ js → σ'[i]? = σ[i]?) → (∀ a, Owned f' a → Owned f0 a) → Q σ' H) → g v σ H Q
def mName (i : Nat) : MG := fun d ρ => if i < ρ.length then some (ρ.set i (.sh d)) else none
theorem Rel.setSl {i : Nat} {s : Sl} (R : Rel K B H σ ρ f0) (hi : i < ρ.length) (x : SlOk K B H (some v) s f) (off : ∀ a ∈ f, B a = none ∧ ¬ Owned f0 a) : Rel K B H (σ.set i (some v)) (ρ.set i s) (fpSet f0 i f) where
  len := by rw [List.length_set, List.length_set]; exact R.len
  ex := R.ex
  pl := R.pl
  ok := fun j t q => by
    by_cases hj : j = i
    · subst hj
      rw [List.getElem?_set_self hi] at q
      cases q
      rw [List.getElem?_set_self (by rw [R.len]; exact hi), fpSet_same]
      exact x
    · rw [List.getElem?_set_ne (Ne.symm hj)] at q
      rw [List.getElem?_set_ne (Ne.symm hj), fpSet_ne hj]
      exact R.ok j t q
  out := fun j q => by
    by_cases hj : j = i
    · subst hj
      rw [List.getElem?_set_self hi] at q
      cases q
    · rw [List.getElem?_set_ne (Ne.symm hj)] at q
      rw [fpSet_ne hj]
      exact R.out j q
  dis := fun j k a h1 h2 => by
    by_cases hj : j = i
    · by_cases hk : k = i
      · rw [hj, hk]
      · subst hj
        rw [fpSet_same] at h1
        rw [fpSet_ne hk] at h2
        exact absurd ⟨k, h2⟩ (off a h1).2
    · by_cases hk : k = i
      · subst hk
        rw [fpSet_same] at h2
        rw [fpSet_ne hj] at h1
        exact absurd ⟨j, h1⟩ (off a h2).2
      · rw [fpSet_ne hj] at h1
        rw [fpSet_ne hk] at h2
        exact R.dis j k a h1 h2
  off := fun j a h => by
    by_cases hj : j = i
    · subst hj
      rw [fpSet_same] at h
      exact ⟨(off a h).1, x.there h⟩
    · rw [fpSet_ne hj] at h
      exact R.off j a h
theorem Rel.empSl (i : Nat) (w : Option V) (R : Rel K B H σ ρ f0) : Rel K B H (σ.set i w) (ρ.set i .emp) (fpSet f0 i []) where
  len := by rw [List.length_set, List.length_set]; exact R.len
  ex := R.ex
  pl := R.pl
  ok := fun j t q => by
    by_cases hj : j = i
    · subst hj
      have hi : j < ρ.length := by
        have := (List.getElem?_eq_some_iff.mp q).1
        rwa [List.length_set] at this
      rw [List.getElem?_set_self hi] at q
      cases q
      rw [fpSet_same]
      rfl
    · rw [List.getElem?_set_ne (Ne.symm hj)] at q
      rw [List.getElem?_set_ne (Ne.symm hj), fpSet_ne hj]
      exact R.ok j t q
  out := fun j q => by
    by_cases hj : j = i
    · subst hj
      exact fpSet_same
    · rw [List.getElem?_set_ne (Ne.symm hj)] at q
      rw [fpSet_ne hj]
      exact R.out j q
  dis := fun j k a h1 h2 => by
    by_cases hj : j = i
    · subst hj
      rw [fpSet_same] at h1
      exact (nomatch h1)
    · by_cases hk : k = i
      · subst hk
        rw [fpSet_same] at h2
        exact (nomatch h2)
      · rw [fpSet_ne hj] at h1
        rw [fpSet_ne hk] at h2
        exact R.dis j k a h1 h2
  off := fun j a h => by
    by_cases hj : j = i
    · subst hj
      rw [fpSet_same] at h
      exact (nomatch h)
    · rw [fpSet_ne hj] at h
      exact R.off j a h
theorem owned_set {i : Nat} {a : Addr} (h : Owned (fpSet f0 i f) a) : Owned f0 a ∨ a ∈ f := by
  obtain ⟨j, hj⟩ := h
  by_cases e : j = i
  · subst e
    rw [fpSet_same] at hj
    exact .inr hj
  · rw [fpSet_ne e] at hj
    exact .inl ⟨j, hj⟩
theorem ig_name {i : Nat} : ImpG K [i] (gName i) (mName i) := by
  intro B H σ ρ ρ' f0 v d R hd h Q q
  unfold mName at h
  split at h
  · rename_i hi
    cases h
    refine q _ _ (R.setSl hi ⟨rfl, v, rfl, hd⟩ fun _ z => (nomatch z)) (List.length_set ..) (fun j hj => ?_) fun a ha => ?_
    · rw [List.getElem?_set_ne (fun e => hj (by rw [e]; simp))]
    · rcases owned_set ha with z | z
      · exact z
      · exact (nomatch z)
  · cases h
def mgNil : List D → Env → Option Env := fun ds ρ => match ds with
  | [] => some ρ
  | _ => none
def mgCons (m : MG) (n : List D → Env → Option Env) : List D → Env → Option Env := fun ds ρ => match ds with
  | [] => none
  | d :: ds => (m d ρ).bind fun ρ1 => n ds ρ1
theorem igs_nil : ImpGs K [] gNil mgNil := by
  intro B H σ ρ ρ' f0 v d R hd h Q q
  cases hd with
  | nil =>
    cases h
    exact ⟨rfl, q σ f0 R rfl (fun _ _ => rfl) fun _ z => z⟩
  | cons => cases h
theorem igs_cons {js ks : List Nat} {g : TG} {gs : TGs} {m : MG} {n : List D → Env → Option Env} (h1 : ImpG K js g m) (h2 : ImpGs K ks gs n) : ImpGs K (js ++ ks) (gCons g gs) (mgCons m n) := by
  intro B H σ ρ ρ' f0 v d R hd h Q q
  cases hd with
  | nil => cases h
  | @cons v0 vs0 d0 ds0 a b =>
    have h : (m d0 ρ).bind (fun ρ1 => n ds0 ρ1) = some ρ' := h
    cases e : m d0 ρ with
    | none => rw [e] at h; cases h
    | some ρ1 =>
      rw [e] at h
      refine ⟨_, _, rfl, h1 B H σ ρ ρ1 f0 _ _ R a e _ fun σ1 f1 R1 l1 k1 o1 => ?_⟩
      refine h2 B H σ1 ρ1 ρ' f1 _ _ R1 b h _ fun σ2 f2 R2 l2 k2 o2 => q σ2 f2 R2 (l2.trans l1) (fun i hi => ?_) fun a z => o1 a (o2 a z)
      rw [k2 i (fun z => hi (List.mem_append_right _ z)), k1 i (fun z => hi (List.mem_append_left _ z))]
def mTup (n : Nat) (m : List D → Env → Option Env) : MG := fun d ρ => match d with
  | .tup ds => if ds.length = n then m ds ρ else none
  | _ => none
theorem ig_tup {js : List Nat} {n : Nat} {g : TGs} {m : List D → Env → Option Env} (h1 : ImpGs K js g m) : ImpG K js (gTup K n g) (mTup n m) := by
  intro B H σ ρ ρ' f0 v d R hd h Q q
  cases hd with
  | tup a b =>
    rename_i ad xs ds
    have h : (if ds.length = n then m ds ρ else none) = some ρ' := h
    by_cases hz : ds.length = n
    · rw [if_pos hz] at h
      exact ⟨_, _, rfl, ex_t R.ex a, by rw [b.len]; exact hz, h1 B H σ ρ ρ' f0 _ _ R b h Q q⟩
    · rw [if_neg hz] at h
      cases h
  | _ => cases h
end
end DL
end
section
set_option maxRecDepth 100000
set_option maxHeartbeats 2000000
namespace DL
open PySem PySem.Spec PyProof.Rows L2
open Evl (Ex ex_rd ex_l ex_t)
section
variable {K : PySem.W.Frag} {ct : Ct} {E : XK} {B H B' H' B1 H1 B2 H2 : Hp} {σ σ' : L2.St} {ρ ρ' : Env} {f0 f1 f2 : Fps} {v : V} {r : Vl} {f g : List Addr}

theorem ItD.mono {J : It} {l : List D} (e : Ex B B') (h : ItD K B J l) : ItD K B' J l := fun B2 H2 e1 e2 i => h B2 H2 (e.trans e1) e2 i

def R.noX {α : Type} : R α → R α
  | .ok a => .ok a
  | _ => .bad
def emps (ρ : Env) : List Nat → Env
  | [] => ρ
  | v :: vs => (emps ρ vs).set v .emp
def back (ρ0 ρ : Env) : List Nat → Env
  | [] => ρ
  | v :: vs => match ρ0[v]? with
    | some (.sh d) => (back ρ0 ρ vs).set v (.sh d)
    | _ => back ρ0 ρ vs
def fpsW (f : Fps) : List Nat → Fps
  | [] => f
  | v :: vs => fpSet (fpsW f vs) v []
theorem Rel.wipe (R : Rel K B H σ ρ f0) : ∀ vs : List Nat, Rel K B H (L2.wipe σ vs) (emps ρ vs) (fpsW f0 vs)
  | [] => R
  | v :: vs => (R.wipe vs).empSl v none
theorem owned_fpsW {a : Addr} : ∀ {vs : List Nat}, Owned (fpsW f0 vs) a → Owned f0 a
  | [], h => h
  | v :: vs, h => by
    rcases owned_set h with z | z
    · exact owned_fpsW z
    · exact (nomatch z)
theorem emps_in {i : Nat} : ∀ {vs : List Nat}, i ∈ vs → i < ρ.length → (emps ρ vs)[i]? = some .emp
  | [], h, _ => (nomatch h)
  | v :: vs, h, hl => by
    have hl' : i < (emps ρ vs).length := by
      have e : ∀ vs : List Nat, (emps ρ vs).length = ρ.length := by
        intro vs
        induction vs with
        | nil => rfl
        | cons v vs ih => unfold emps; rw [List.length_set, ih]
      rw [e]; exact hl
    unfold emps
    by_cases e : i = v
    · subst e
      rw [List.getElem?_set_self hl']
    · rw [List.getElem?_set_ne (Ne.symm e)]
      rcases List.mem_cons.mp h with z | z
      · exact absurd z e
      · exact emps_in z hl
theorem emps_len : ∀ vs : List Nat, (emps ρ vs).length = ρ.length
  | [] => rfl
  | v :: vs => by unfold emps; rw [List.length_set, emps_len vs]
theorem emps_out {i : Nat} : ∀ {vs : List Nat}, i ∉ vs → (emps ρ vs)[i]? = ρ[i]?
  | [], _ => rfl
  | v :: vs, h => by
    unfold emps
    rw [List.getElem?_set_ne (fun e => h (by rw [e]; simp)), emps_out fun z => h (List.mem_cons_of_mem _ z)]
theorem emps_idem (vs : List Nat) : emps (emps ρ vs) vs = emps ρ vs := by
  apply List.ext_getElem?
  intro k
  by_cases e : k ∈ vs
  · by_cases hl : k < ρ.length
    · rw [emps_in e (by rw [emps_len]; exact hl), emps_in e hl]
    · rw [List.getElem?_eq_none (by rw [emps_len, emps_len]; omega), List.getElem?_eq_none (by rw [emps_len]; omega)]
  · rw [emps_out e]
theorem Rel.back {ρ0 : Env} {B0 H0 : Hp} (R0 : Rel K B0 H0 σ ρ0 f0) (e : Ex B0 B) : ∀ {vs us : List Nat}, (∀ i ∈ us, i ∈ vs) → Rel K B H (L2.wipe σ vs) ρ f1 → (∀ i ∈ vs, ∀ s, ρ[i]? = some s → s = .emp) →
    Rel K B H σ (back ρ0 ρ us) f1 := by
  intro vs us hu R hv
  have out : ∀ i, i ∉ vs → (L2.wipe σ vs)[i]? = σ[i]? := fun i hi => wipe_out hi
  have fe : ∀ i ∈ vs, f1 i = [] := fun i hi => by
    cases q : ρ[i]? with
    | none => exact R.out i q
    | some s =>
      have ok := R.ok i s q
      rw [hv i hi s q] at ok
      exact ok
  have lenb : ∀ us : List Nat, (DL.back ρ0 ρ us).length = ρ.length := by
    intro us
    induction us with
    | nil => rfl
    | cons u us ih =>
      unfold DL.back
      split
      · rw [List.length_set, ih]
      · exact ih
  have key : ∀ us : List Nat, (∀ i ∈ us, i ∈ vs) → ∀ i s, (DL.back ρ0 ρ us)[i]? = some s → SlOk K B H (σ[i]?).join s (f1 i) := by
    intro us
    induction us with
    | nil =>
      intro _ i s q
      by_cases hi : i ∈ vs
      · rw [hv i hi s q, fe i hi]
        rfl
      · have ok := R.ok i s q
        rw [out i hi] at ok
        exact ok
    | cons u us ih =>
      intro hu i s q
      unfold DL.back at q
      have hus : ∀ i ∈ us, i ∈ vs := fun i hi => hu i (List.mem_cons_of_mem _ hi)
      split at q
      · rename_i d hd
        by_cases e1 : i = u
        · subst e1
          have hl : i < (DL.back ρ0 ρ us).length := by
            have := (List.getElem?_eq_some_iff.mp q).1
            rwa [List.length_set] at this
          rw [List.getElem?_set_self hl] at q
          cases q
          obtain ⟨_, y, e2, h1⟩ := R0.ok i _ hd
          exact ⟨fe i (hu i (by simp)), y, e2, h1.mono e⟩
        · rw [List.getElem?_set_ne (Ne.symm e1)] at q
          exact ih hus i s q
      · exact ih hus i s q
  refine ⟨?_, R.ex, R.pl, key us hu, fun i q => R.out i ?_, R.dis, R.off⟩
  · rw [lenb, ← R.len, wipe_length]
  · rw [List.getElem?_eq_none_iff] at q ⊢
    rw [lenb] at q
    exact q
def lcLoop (mg : MG) (mt : MT) (me : MX) (vs : List Nat) : List D → Env → List D → R (List D × Env)
  | [], ρ, acc => .ok (acc, ρ)
  | d :: ds, ρ, acc => rdO (mg d ρ) fun ρ1 => R.bind (R.noX (mt ρ1)) fun b => if b.1 = true then
      R.bind (R.noX (me b.2)) fun v => rdO (share v.2 v.1) fun p => if szOk (acc.length + 1) = true then lcLoop mg mt me vs ds (emps p.2 vs) (acc ++ [p.1]) else .bad
    else lcLoop mg mt me vs ds (emps b.2 vs) acc
def xLc (mi : MI) (mg : MG) (mt : MT) (me : MX) (vs : List Nat) : MX := fun ρ => R.bind (mi ρ) fun a => R.bind (lcLoop mg mt me vs a.1 (emps a.2 vs) []) fun p => .ok (.own p.1, back a.2 p.2 vs)
def E0 : XK := fun _ _ _ => False
theorem R.bind_assoc {α β γ : Type} {m : R α} {f : α → R β} {g : β → R γ} : R.bind (R.bind m f) g = R.bind m fun a => R.bind (f a) g := by cases m <;> rfl
theorem noX_ok {α : Type} {m : R α} {a : α} (h : R.noX m = .ok a) : m = .ok a := by
  cases m with
  | ok b => cases h; rfl
  | _ => cases h
theorem Post.noX {α β : Type} {m : R α} {k : α → R β} {ok : β → Prop} (h : Post ct E H f0 (R.bind (R.noX m) k) ok) : ∃ a, m = .ok a ∧ Post ct E H f0 (k a) ok := by
  cases m with
  | ok a => exact ⟨a, rfl, h⟩
  | bad => exact h.elim
  | exc c p => exact h.elim
theorem mem_wipe_eq {vs js : List Nat} (hj : ∀ j ∈ js, j ∈ vs) (hl : σ'.length = σ.length) (k : ∀ i, i ∉ js → σ'[i]? = (L2.wipe σ vs)[i]?) : L2.wipe σ' vs = L2.wipe σ vs := by
  apply List.ext_getElem?
  intro i
  by_cases hi : i ∈ vs
  · have w : ∀ τ : L2.St, ∀ vs : List Nat, i ∈ vs → i < τ.length → (L2.wipe τ vs)[i]? = some none := by
      intro τ vs
      induction vs with
      | nil => intro h; exact (nomatch h)
      | cons v vs ih =>
        intro h hlt
        unfold L2.wipe
        by_cases e : v = i
        · subst e
          rw [List.getElem?_set_self (by rw [wipe_length]; exact hlt)]
        · rw [List.getElem?_set_ne e]
          rcases List.mem_cons.mp h with z | z
          · exact absurd z.symm e
          · exact ih z hlt
    by_cases hlt : i < σ.length
    · rw [w σ' vs hi (by rw [hl]; exact hlt), w σ vs hi hlt]
    · rw [List.getElem?_eq_none (by rw [wipe_length, hl]; omega), List.getElem?_eq_none (by rw [wipe_length]; omega)]
  · rw [wipe_out hi, wipe_out hi, k i fun z => hi (hj i z), wipe_out hi]
structure Aside (K : PySem.W.Frag) (B H : Hp) (f : Fps) (D0 : Addr) (acc : List D) : Prop where
  at_ : ∃ xs, H D0 = some (.lst xs) ∧ DVs K B xs acc
  off : B D0 = none ∧ ¬ Owned f D0
theorem Aside.frm {D0 : Addr} {acc : List D} (x : Aside K B H f0 D0 acc) {P : Addr → Prop} (h : Frm B H (Owned f0) B' H' P) (hP : ∀ a, Owned f1 a → P a) : Aside K B' H' f1 D0 acc := by
  obtain ⟨xs, h1, h2⟩ := x.at_
  have ne : H D0 ≠ none := by rw [h1]; simp
  exact ⟨⟨xs, h.keep _ _ h1 x.off.2, h2.mono h.bb⟩, h.off _ x.off.1 ne x.off.2, fun z => h.apart ne x.off.2 (hP _ z)⟩
theorem Rel.grow {D0 : Addr} {xs : List V} (R : Rel K B H σ ρ f0) (h1 : B D0 = none) (h2 : ¬ Owned f0 D0) : Rel K B (upd H D0 (.lst xs)) σ ρ f0 where
  len := R.len
  ex := fun a o q => by
    rw [upd_ne (fun e => by rw [e, h1] at q; cases q)]
    exact R.ex a o q
  pl := R.pl
  ok := fun i s q => by
    have ok := R.ok i s q
    have ne : ∀ a ∈ f0 i, a ≠ D0 := fun a ha e => h2 ⟨i, by rw [← e]; exact ha⟩
    cases s with
    | emp => exact ok
    | sh d => exact ok
    | own ds =>
      obtain ⟨p, ys, e1, e2, e3, e4⟩ := ok
      refine ⟨p, ys, e1, e2, ?_, e4⟩
      rw [upd_ne (ne p (by rw [e2]; simp))]
      exact e3
    | own2 l =>
      obtain ⟨p, ps, e1, e2, e3, e4, e5⟩ := ok
      refine ⟨p, ps, e1, e2, e3, ?_, e5.to (fun _ _ q => q) fun q hq o e => ?_⟩
      · rw [upd_ne (ne p (by rw [e2]; simp))]
        exact e4
      · rw [upd_ne (ne q (by rw [e2]; exact List.mem_cons_of_mem _ hq))]
        exact e
    | drw st =>
      obtain ⟨a, w, c, e1, e2, e3, e4, e5, e6⟩ := ok
      refine ⟨a, w, c, e1, e2, e3, ?_, ?_, e6⟩
      · rw [upd_ne (ne a (by rw [e2]; simp))]
        exact e4
      · rw [upd_ne (ne w (by rw [e2]; simp))]
        exact e5
    | ob o => exact ObOk.to ok (fun _ _ q => q) fun a ha u e => by rw [upd_ne (ne a ha)]; exact e
    | tab T d => exact ⟨ok.1.to fun a ha o e => by rw [upd_ne (ne a ha)]; exact e, ok.2⟩
  out := R.out
  dis := R.dis
  off := fun i a ha => ⟨(R.off i a ha).1, by
    rw [upd_ne (fun e => h2 ⟨i, by rw [← e]; exact ha⟩)]
    exact (R.off i a ha).2⟩
theorem frm_upd {D0 : Addr} {o : HO} {P : Addr → Prop} (h : P D0) : Frm B H P B (upd H D0 o) P where
  bb := fun _ _ q => q
  keep := fun a u q n => by rw [upd_ne (fun e => n (by rw [e]; exact h))]; exact q
  off := fun a q _ _ => q
  own := fun a z => .inl z
  dom := fun a q => by
    by_cases e : a = D0
    · rw [e, upd_same]; simp
    · rw [upd_ne e]; exact q
theorem im_lc {wi : TI} {gg : TG} {tt : TT} {te : TE} {vs js : List Nat} {mi : MI} {mg : MG} {mt : MT} {me : MX} (hi : ImpI K ct E wi mi) (hg : ImpG K js gg mg) (ht : ImpT K ct E0 tt mt) (he : Imp K ct E0 te me) (hj : ∀ j ∈ js, j ∈ vs) :
    Imp K ct E (tLc wi gg tt te vs) (xLc mi mg mt me vs) := by
  intro B H σ ρ f0 Q R h
  refine hi B H σ ρ f0 _ R (h.first fun a ea h J B1 H1 f1 x itd => ?_)
  intro D0 hD
  have bD : B1 D0 = none := Rel.fresh x.rel.ex hD
  have oD : ¬ Owned f1 D0 := fun ⟨i, hi⟩ => (x.rel.off i _ hi).2 hD
  -- the invariant
  refine ⟨fun i m H' => m = a.1.length - i ∧ i ≤ a.1.length ∧ ∃ (B' : Hp) (ρ' : Env) (f' : Fps) (acc : List D), Rel K B' H' (L2.wipe σ vs) ρ' f' ∧ emps ρ' vs = ρ' ∧ ρ'.length = a.2.length ∧ Aside K B' H' f' D0 acc ∧ Frm B1 H1 (Owned f1) B' H' (fun a => Owned f' a ∨ a = D0) ∧
      Post ct E H f0 (DL.R.bind (lcLoop mg mt me vs (a.1.drop i) ρ' acc) fun p => .ok (.own p.1, DL.back a.2 p.2 vs)) (XOk K B H σ f0 Q), ⟨a.1.length, by simp, Nat.zero_le _, B1, emps a.2 vs, fpsW f1 vs, [], ?_, ?_, ?_, ?_, ?_, ?_⟩, ?_⟩
  · exact (x.rel.wipe vs).grow bD fun z => oD (owned_fpsW z)
  · exact emps_idem vs
  · exact emps_len vs
  · exact ⟨⟨[], upd_same, .nil⟩, bD, fun z => oD (owned_fpsW z)⟩
  · refine ⟨fun _ _ q => q, fun b o q n => ?_, fun b q _ _ => q, fun b z => ?_, fun b q => ?_⟩
    · rw [upd_ne (ne_of_none q hD)]; exact q
    · rcases z with z | z
      · exact .inl (owned_fpsW z)
      · rw [z]; exact .inr hD
    · by_cases e : b = D0
      · rw [e, upd_same]; simp
      · rw [upd_ne e]; exact q
  · exact h
  · rintro i m H' ⟨rfl, hile, B', ρ', f', acc, R', idem, len', as, fr, h⟩
    have itd' : ItD K B' J a.1 := itd.mono fr.bb
    by_cases hlt : i < a.1.length
    · have dr : a.1.drop i = a.1[i] :: a.1.drop (i + 1) := (List.drop_eq_getElem_cons hlt)
      rw [dr] at h
      have q := itd' B' H' (fun _ _ q => q) R'.ex i
      refine .inr ⟨q.1 hlt, fun H2 => ∃ (B' : Hp) (ρ' : Env) (f' : Fps) (acc : List D), Rel K B' H2 (L2.wipe σ vs) ρ' f' ∧ emps ρ' vs = ρ' ∧ ρ'.length = a.2.length ∧ Aside K B' H2 f' D0 acc ∧ Frm B1 H1 (Owned f1) B' H2 (fun a => Owned f' a ∨ a = D0) ∧
        Post ct E H f0 (DL.R.bind (lcLoop mg mt me vs (a.1.drop (i + 1)) ρ' acc) fun p => .ok (.own p.1, DL.back a.2 p.2 vs)) (XOk K B H σ f0 Q), fun H2 hN => ⟨a.1.length - (i + 1), by omega, rfl, hlt, hN⟩, fun y H2 hy => ?_⟩
      obtain ⟨B2, e1, e2, e3, e4, e5', hd⟩ := q.2.2 y H2 a.1[i] (by simp) hy
      have n2 : ∀ P : Addr → Prop, Frm B' H' P B2 H2 P := fun P => Frm.new e1 e2 e4
      have R2 : Rel K B2 H2 (L2.wipe σ vs) ρ' f' := R'.frm (n2 fun _ => False) e3 (e5' R'.pl) fun _ _ z => z
      have as2 : Aside K B2 H2 f' D0 acc := as.frm (n2 _) fun _ z => z
      have fr2 : Frm B1 H1 (Owned f1) B2 H2 (fun a => Owned f' a ∨ a = D0) := fr.trans (n2 _)
      have h : Post ct E H f0 (DL.R.bind (rdO (mg a.1[i] ρ') fun ρ1 => DL.R.bind (DL.R.noX (mt ρ1)) fun b => if b.1 = true then
          DL.R.bind (DL.R.noX (me b.2)) fun v => rdO (share v.2 v.1) fun p => if szOk (acc.length + 1) = true then lcLoop mg mt me vs (a.1.drop (i + 1)) (emps p.2 vs) (acc ++ [p.1]) else .bad
        else lcLoop mg mt me vs (a.1.drop (i + 1)) (emps b.2 vs) acc) fun p => .ok (.own p.1, DL.back a.2 p.2 vs)) (XOk K B H σ f0 Q) := h
      cases eg : mg a.1[i] ρ' with
      | none => rw [eg] at h; exact h.elim
      | some ρ1 =>
      rw [eg] at h
      refine hg B2 H2 _ ρ' ρ1 f' y a.1[i] R2 hd eg _ fun σ3 f3 R3 l3 k3 o3 => ⟨mem_wipe_eq hj (l3.trans (wipe_length σ vs)) k3, ?_⟩
      have we : L2.wipe σ3 vs = L2.wipe σ vs := mem_wipe_eq hj (l3.trans (wipe_length σ vs)) k3
      have fr3 : Frm B2 H2 (Owned f') B2 H2 (Owned f3) := Frm.refl.to fun a z => .inl (o3 a z)
      have as3 : Aside K B2 H2 f3 D0 acc := as2.frm fr3 fun _ z => z
      have h : Post ct E H f0 (DL.R.bind (DL.R.bind (DL.R.noX (mt ρ1)) fun b => if b.1 = true then
          DL.R.bind (DL.R.noX (me b.2)) fun v => rdO (share v.2 v.1) fun p => if szOk (acc.length + 1) = true then lcLoop mg mt me vs (a.1.drop (i + 1)) (emps p.2 vs) (acc ++ [p.1]) else .bad
        else lcLoop mg mt me vs (a.1.drop (i + 1)) (emps b.2 vs) acc) fun p => .ok (.own p.1, DL.back a.2 p.2 vs)) (XOk K B H σ f0 Q) := h
      rw [DL.R.bind_assoc] at h
      obtain ⟨b, eb, h⟩ := Post.noX (m := mt ρ1) h
      have h : Post ct E H f0 (DL.R.bind (if b.1 = true then
          DL.R.bind (DL.R.noX (me b.2)) fun v => rdO (share v.2 v.1) fun p => if szOk (acc.length + 1) = true then lcLoop mg mt me vs (a.1.drop (i + 1)) (emps p.2 vs) (acc ++ [p.1]) else .bad
        else lcLoop mg mt me vs (a.1.drop (i + 1)) (emps b.2 vs) acc) fun p => .ok (.own p.1, DL.back a.2 p.2 vs)) (XOk K B H σ f0 Q) := h
      have len1 : ρ1.length = a.2.length := by
        rw [← len', ← R2.len, ← R3.len]
        exact l3
      refine ht B2 H2 σ3 ρ1 f3 _ R3 ?_
      rw [eb]
      intro B4 H4 f4 y4
      have as4 : Aside K B4 H4 f4 D0 acc := as3.frm y4.frm fun _ z => z
      have fr4 : Frm B1 H1 (Owned f1) B4 H4 (fun a => Owned f4 a ∨ a = D0) := fr2.trans ((fr3.trans y4.frm).side (· = D0))
      have len4 : b.2.length = a.2.length := by
        rw [← len1, ← y4.rel.len, ← R3.len]
      obtain ⟨k, ρ4⟩ := b
      cases k with
      | false =>
        show ∃ (B' : Hp) (ρ' : Env) (f' : Fps) (acc : List D), _
        refine ⟨B4, emps ρ4 vs, fpsW f4 vs, acc, we ▸ y4.rel.wipe vs, emps_idem vs, (emps_len vs).trans len4, ⟨as4.at_, as4.off.1, fun z => as4.off.2 (owned_fpsW z)⟩, fr4.to fun b z => .inl (z.imp owned_fpsW id), h⟩
      | true =>
        show te σ3 H4 _
        have h : Post ct E H f0 (DL.R.bind (DL.R.bind (DL.R.noX (me ρ4)) fun v => rdO (share v.2 v.1) fun p => if szOk (acc.length + 1) = true then lcLoop mg mt me vs (a.1.drop (i + 1)) (emps p.2 vs) (acc ++ [p.1]) else .bad) fun p => .ok (.own p.1, DL.back a.2 p.2 vs)) (XOk K B H σ f0 Q) := h
        have h : Post ct E H f0 (DL.R.bind (DL.R.noX (me ρ4)) fun v => DL.R.bind (rdO (share v.2 v.1) fun p => if szOk (acc.length + 1) = true then lcLoop mg mt me vs (a.1.drop (i + 1)) (emps p.2 vs) (acc ++ [p.1]) else .bad) fun p => .ok (.own p.1, DL.back a.2 p.2 vs)) (XOk K B H σ f0 Q) := by
          cases em : DL.R.noX (me ρ4) <;> (rw [em] at h; exact h)
        obtain ⟨w, ew, h⟩ := Post.noX h
        refine he B4 H4 σ3 ρ4 f4 _ y4.rel ?_
        rw [ew]
        intro u B5 H5 f5 f z
        have h : Post ct E H f0 (DL.R.bind (rdO (share w.2 w.1) fun p => if szOk (acc.length + 1) = true then lcLoop mg mt me vs (a.1.drop (i + 1)) (emps p.2 vs) (acc ++ [p.1]) else .bad) fun p => .ok (.own p.1, DL.back a.2 p.2 vs)) (XOk K B H σ f0 Q) := h
        cases es : share w.2 w.1 with
        | none => rw [es] at h; exact h.elim
        | some p =>
        rw [es] at h
        have h : Post ct E H f0 (DL.R.bind (if szOk (acc.length + 1) = true then lcLoop mg mt me vs (a.1.drop (i + 1)) (emps p.2 vs) (acc ++ [p.1]) else .bad) fun p => .ok (.own p.1, DL.back a.2 p.2 vs)) (XOk K B H σ f0 Q) := h
        by_cases hz : szOk (acc.length + 1) = true
        · rw [if_pos hz] at h
          have as5 : Aside K B5 H5 f5 D0 acc := as4.frm z.frm fun _ q => .inl q
          have nf : D0 ∉ f := fun q => by
            obtain ⟨xs, q1, _⟩ := as4.at_
            exact z.frm.apart (by rw [q1]; simp) as4.off.2 (.inr q)
          obtain ⟨B6, f6, R6, hd6, e6, off6, _, fr6⟩ := share_ok (S := [D0]) (d := p.1) (ρ' := p.2) z.rel z.val z.off (fun b hb => by
            have eb : b = D0 := by simpa using hb
            rw [eb]
            exact ⟨as5.off.1, as5.off.2, nf⟩) es
          obtain ⟨xs, q1, q2⟩ := as5.at_
          have o6 := off6 D0 (by simp)
          refine ⟨xs, q1, Nat.lt_of_lt_of_le (Nat.lt_succ_self _) (by rw [q2.len]; exact szOk_le hz), ?_⟩
          have fr7 : Frm B1 H1 (Owned f1) B6 H5 (fun a => Owned f6 a ∨ a = D0) := (fr4.trans (z.frm.side (· = D0))).trans (fr6.side (· = D0))
          have len5 : p.2.length = a.2.length := by
            rw [← len4, ← R6.len, ← y4.rel.len]
          refine ⟨B6, emps p.2 vs, fpsW f6 vs, acc ++ [p.1], we ▸ (R6.grow o6.1 o6.2).wipe vs, emps_idem vs, (emps_len vs).trans len5, ⟨⟨xs ++ [u], upd_same, (q2.mono e6).app (.cons hd6 .nil)⟩, o6.1, fun q => o6.2 (owned_fpsW q)⟩,
            (fr7.trans (frm_upd (P := fun a => Owned f6 a ∨ a = D0) (.inr rfl))).to fun b q => .inl (q.imp owned_fpsW id), h⟩
        · rw [if_neg hz] at h
          exact h.elim
    · have e : i = a.1.length := by omega
      subst e
      have q := itd' B' H' (fun _ _ q => q) R'.ex a.1.length
      refine .inl ⟨q.2.1 rfl, ?_⟩
      rw [List.drop_length] at h
      have hv : ∀ i ∈ vs, ∀ s, ρ'[i]? = some s → s = .emp := fun i hi s hs => by
        have hs' : (emps ρ' vs)[i]? = some s := by rw [idem]; exact hs
        rw [emps_in hi (List.getElem?_eq_some_iff.mp hs).1] at hs'
        exact (Option.some.inj hs').symm
      obtain ⟨xs, q1, q2⟩ := as.at_
      exact h (.ref D0) B' H' f' [D0] ⟨Rel.back (vs := vs) x.rel fr.bb (fun _ z => z) R' hv, ⟨D0, xs, rfl, rfl, q1, q2⟩, fun b hb => by
        have eb : b = D0 := by simpa using hb
        rw [eb]
        exact as.off, (x.frm.trans fr).to fun b z => .inl (z.imp id fun q => by simpa using q)⟩
end
end DL
end
section
set_option maxRecDepth 100000
set_option maxHeartbeats 2000000
namespace DL
open PySem PySem.Spec PyProof.Rows L2
open Evl (Ex ex_rd ex_l ex_t)

inductive Out where
  | nx (ρ : Env)
  | rt (r : Vl) (ρ : Env)
  | bk (ρ : Env)
  | ct (ρ : Env)
abbrev MS := Env → R Out

section
variable {K : PySem.W.Frag} {ct : Ct} {E : XK} {B H B' H' B1 H1 B2 H2 : Hp} {σ σ' σ1 σ2 : L2.St} {ρ ρ' ρ1 ρ2 : Env} {f0 f1 f2 f' : Fps} {v : V} {r : Vl} {f g : List Addr} {fix : Nat → Bool} {D : Ends}

structure ResS (K : PySem.W.Frag) (B H : Hp) (σ : L2.St) (f0 : Fps) (fix : Nat → Bool) (σ' : L2.St) (ρ' : Env) (B' H' : Hp) (f' : Fps) : Prop where
  rel : Rel K B' H' σ' ρ' f'
  frm : Frm B H (Owned f0) B' H' (Owned f')
  fxd : ∀ i, fix i = true → σ'[i]? = σ[i]?
structure ResR (K : PySem.W.Frag) (B H : Hp) (σ : L2.St) (f0 : Fps) (fix : Nat → Bool) (v : V) (r : Vl) (σ' : L2.St) (ρ' : Env) (B' H' : Hp) (f' : Fps) (f : List Addr) : Prop where
  rel : Rel K B' H' σ' ρ' f'
  val : VlOk K B' H' [] v r f
  off : ∀ a ∈ f, B' a = none ∧ ¬ Owned f' a
  frm : Frm B H (Owned f0) B' H' (fun a => Owned f' a ∨ a ∈ f)
  fxd : ∀ i, fix i = true → σ'[i]? = σ[i]?
def OutOk (K : PySem.W.Frag) (B H : Hp) (σ : L2.St) (f0 : Fps) (fix : Nat → Bool) (D : Ends) : Out → Prop
  | .nx ρ' => ∀ σ' B' H' f', ResS K B H σ f0 fix σ' ρ' B' H' f' → D.nx σ' H'
  | .bk ρ' => ∀ σ' B' H' f', ResS K B H σ f0 fix σ' ρ' B' H' f' → D.bk σ' H'
  | .ct ρ' => ∀ σ' B' H' f', ResS K B H σ f0 fix σ' ρ' B' H' f' → D.ct σ' H'
  | .rt r ρ' => ∀ v σ' B' H' f' f, ResR K B H σ f0 fix v r σ' ρ' B' H' f' f → D.rt v H'
def ImpS (K : PySem.W.Frag) (ct : Ct) (E : XK) (fix : Nat → Bool) (t : TS) (m : MS) : Prop := ∀ (B H : Hp) (σ : L2.St) (ρ : Env) (f0 : Fps) (D : Ends), Rel K B H σ ρ f0 → Post ct E H f0 (m ρ) (OutOk K B H σ f0 fix D) → t D σ H

theorem ResS.refl (R : Rel K B H σ ρ f0) : ResS K B H σ f0 fix σ ρ B H f0 := ⟨R, .refl, fun _ _ => rfl⟩
theorem ResS.then (x : ResS K B H σ f0 fix σ1 ρ1 B1 H1 f1) (y : ResS K B1 H1 σ1 f1 fix σ2 ρ2 B2 H2 f2) : ResS K B H σ f0 fix σ2 ρ2 B2 H2 f2 := ⟨y.rel, x.frm.trans y.frm, fun i h => (y.fxd i h).trans (x.fxd i h)⟩
theorem ResS.thenR (x : ResS K B H σ f0 fix σ1 ρ1 B1 H1 f1) (y : ResR K B1 H1 σ1 f1 fix v r σ2 ρ2 B2 H2 f2 f) : ResR K B H σ f0 fix v r σ2 ρ2 B2 H2 f2 f := ⟨y.rel, y.val, y.off, x.frm.trans y.frm, fun i h => (y.fxd i h).trans (x.fxd i h)⟩
theorem ResT.s (x : ResT K B H σ f0 ρ1 B1 H1 f1) : ResS K B H σ f0 fix σ ρ1 B1 H1 f1 := ⟨x.rel, x.frm, fun _ _ => rfl⟩
theorem OutOk.late {o : Out} (x : ResS K B H σ f0 fix σ1 ρ1 B1 H1 f1) (h : OutOk K B H σ f0 fix D o) : OutOk K B1 H1 σ1 f1 fix D o := by
  cases o with
  | nx ρ' => exact fun σ' B' H' f' y => h σ' B' H' f' (x.then y)
  | bk ρ' => exact fun σ' B' H' f' y => h σ' B' H' f' (x.then y)
  | ct ρ' => exact fun σ' B' H' f' y => h σ' B' H' f' (x.then y)
  | rt r ρ' => exact fun v σ' B' H' f' f y => h v σ' B' H' f' f (x.thenR y)
theorem Post.lateS {m : R Out} (h : Post ct E H f0 m (OutOk K B H σ f0 fix D)) (x : ResS K B H σ f0 fix σ1 ρ1 B1 H1 f1) : Post ct E H1 f1 m (OutOk K B1 H1 σ1 f1 fix D) :=
  h.late x.frm (fun _ z => z) fun o _ q => q.late x

def sNext : MS := fun ρ => .ok (.nx ρ)
def sBrk : MS := fun ρ => .ok (.bk ρ)
def sCont : MS := fun ρ => .ok (.ct ρ)
theorem is_next : ImpS K ct E fix tNext sNext := fun B H σ ρ f0 D R h => h σ B H f0 (.refl R)
theorem is_brk : ImpS K ct E fix tBreak sBrk := fun B H σ ρ f0 D R h => h σ B H f0 (.refl R)
theorem is_cont : ImpS K ct E fix tCont sCont := fun B H σ ρ f0 D R h => h σ B H f0 (.refl R)
def sSeq (a b : MS) : MS := fun ρ => R.bind (a ρ) fun o => match o with
  | .nx ρ1 => b ρ1
  | o => .ok o
theorem is_seq {t u : TS} {a b : MS} (ha : ImpS K ct E fix t a) (hb : ImpS K ct E fix u b) : ImpS K ct E fix (tSeq t u) (sSeq a b) := by
  intro B H σ ρ f0 D R h
  refine ha B H σ ρ f0 { D with nx := u D } R (h.first fun o eo h => ?_)
  cases o with
  | nx ρ1 => exact fun σ1 B1 H1 f1 x => hb B1 H1 σ1 ρ1 f1 D x.rel (Post.lateS (m := b ρ1) h x)
  | bk ρ1 => exact h
  | ct ρ1 => exact h
  | rt r ρ1 => exact h
def sIf (c : MT) (a b : MS) : MS := fun ρ => R.bind (c ρ) fun p => if p.1 = true then a p.2 else b p.2
theorem is_if {c : TT} {t u : TS} {m : MT} {a b : MS} (hc : ImpT K ct E c m) (ha : ImpS K ct E fix t a) (hb : ImpS K ct E fix u b) : ImpS K ct E fix (tIfS c t u) (sIf m a b) := by
  intro B H σ ρ f0 D R h
  refine hc B H σ ρ f0 _ R (h.first fun p ep h B1 H1 f1 x => ?_)
  obtain ⟨k, ρ1⟩ := p
  cases k with
  | true =>
    show t D σ H1
    exact ha B1 H1 σ ρ1 f1 D x.rel (Post.lateS (m := a ρ1) h x.s)
  | false =>
    show u D σ H1
    exact hb B1 H1 σ ρ1 f1 D x.rel (Post.lateS (m := b ρ1) h x.s)
def put (ρ : Env) (i : Nat) : Vl → Option Env
  | .sh d => if i < ρ.length then some (ρ.set i (.sh d)) else none
  | .own ds => if i < ρ.length then some (ρ.set i (.own ds)) else none
  | .drw st => if i < ρ.length then some (ρ.set i (.drw st)) else none
  | .ob o => if i < ρ.length then some (ρ.set i (.ob o)) else none
  | .bor j => (share ρ (.bor j)).bind fun p => if i < p.2.length then some (p.2.set i (.sh p.1)) else none
theorem share_len {ρ ρ' : Env} {r : Vl} {d : DL.D} (h : share ρ r = some (d, ρ')) : ρ'.length = ρ.length := by
  cases r with
  | sh e => cases h; rfl
  | own e => cases h; rfl
  | drw e => cases h
  | ob e => cases h
  | bor j =>
    cases e : ρ[j]? with
    | none => simp [share, e] at h
    | some s =>
      cases s with
      | emp => simp [share, e] at h
      | own2 l => simp [share, e] at h
      | drw st => simp [share, e] at h
      | ob o => simp [share, e] at h
      | tab T d => simp [share, e] at h
      | sh d => simp [share, e] at h; rw [h.2]
      | own ds => simp [share, e] at h; rw [← h.2, List.length_set]
theorem Res.put {i : Nat} (x : Res K B H σ f0 v r ρ B1 H1 f1 f) (h : DL.put ρ i r = some ρ') (hf : fix i = false) : ∃ B2 f2, ResS K B H σ f0 fix (σ.set i (some v)) ρ' B2 H1 f2 := by
  have fx : ∀ j, fix j = true → (σ.set i (some v))[j]? = σ[j]? := fun j hj => by
    rw [List.getElem?_set_ne (fun e => by rw [e, hj] at hf; cases hf)]
  have go : ∀ (s : Sl), i < ρ.length → SlOk K B1 H1 (some v) s f → ResS K B H σ f0 fix (σ.set i (some v)) (ρ.set i s) B1 H1 (fpSet f1 i f) := fun s hi q =>
    ⟨x.rel.setSl hi q x.off, x.frm.to fun a z => .inl (owned_set z), fx⟩
  cases r with
  | sh d =>
    have h : (if i < ρ.length then some (ρ.set i (.sh d)) else none) = some ρ' := h
    split at h
    · rename_i hi
      cases h
      exact ⟨_, _, go (.sh d) hi x.val⟩
    · cases h
  | own d =>
    have h : (if i < ρ.length then some (ρ.set i (.own d)) else none) = some ρ' := h
    split at h
    · rename_i hi
      cases h
      exact ⟨_, _, go (.own d) hi x.val⟩
    · cases h
  | drw d =>
    have h : (if i < ρ.length then some (ρ.set i (.drw d)) else none) = some ρ' := h
    split at h
    · rename_i hi
      cases h
      exact ⟨_, _, go (.drw d) hi x.val⟩
    · cases h
  | ob d =>
    have h : (if i < ρ.length then some (ρ.set i (.ob d)) else none) = some ρ' := h
    split at h
    · rename_i hi
      cases h
      exact ⟨_, _, go (.ob d) hi x.val⟩
    · cases h
  | bor j =>
    have h : ((share ρ (.bor j)).bind fun p => if i < p.2.length then some (p.2.set i (.sh p.1)) else none) = some ρ' := h
    cases e : share ρ (.bor j) with
    | none => rw [e] at h; cases h
    | some p =>
      rw [e] at h
      have h : (if i < p.2.length then some (p.2.set i (.sh p.1)) else none) = some ρ' := h
      split at h
      · rename_i hi
        cases h
        obtain ⟨B2, f2, y, hd⟩ := x.shared (ρ' := p.2) (d := p.1) e
        exact ⟨B2, _, ⟨y.rel.setSl hi ⟨rfl, v, rfl, hd⟩ fun _ z => (nomatch z), y.frm.to fun a z => .inl ((owned_set z).elim id fun q => (nomatch q)), fx⟩⟩
      · cases h
def sAsg (i : Nat) (m : MX) : MS := fun ρ => R.bind (m ρ) fun a => rdO (put a.2 i a.1) fun ρ' => .ok (.nx ρ')
theorem is_asg {i : Nat} {t : TE} {m : MX} (ha : Imp K ct E t m) (hf : fix i = false := by rfl) : ImpS K ct E fix (tAsg t (gName i)) (sAsg i m) := by
  intro B H σ ρ f0 D R h
  refine ha B H σ ρ f0 _ R (h.first fun a ea h v B1 H1 f1 f x => ?_)
  obtain ⟨ρ', e, h⟩ := h.get
  obtain ⟨B2, f2, y⟩ := x.put (fix := fix) e hf
  exact h _ _ _ _ y
def sAsgG (mg : MG) (m : MX) : MS := fun ρ => R.bind (m ρ) fun a => rdO (share a.2 a.1) fun p => rdO (mg p.1 p.2) fun ρ' => .ok (.nx ρ')
theorem is_asgG {js : List Nat} {gg : TG} {mg : MG} {t : TE} {m : MX} (hg : ImpG K js gg mg) (ha : Imp K ct E t m) (hf : ∀ j ∈ js, fix j = false) : ImpS K ct E fix (tAsg t gg) (sAsgG mg m) := by
  intro B H σ ρ f0 D R h
  refine ha B H σ ρ f0 _ R (h.first fun a ea h v B1 H1 f1 f x => ?_)
  obtain ⟨p, e, h⟩ := h.get
  obtain ⟨ρ', e2, h⟩ := h.get
  obtain ⟨B2, f2, y, hd⟩ := x.shared (ρ' := p.2) (d := p.1) e
  refine hg B2 H1 σ p.2 ρ' f2 v p.1 y.rel hd e2 _ fun σ' f' R' l k o => h σ' B2 H1 f' ⟨R', y.frm.to fun a z => .inl (o a z), fun i hi => k i fun z => ?_⟩
  rw [hf i z] at hi
  cases hi
def sDrop (m : MX) : MS := fun ρ => R.bind (m ρ) fun a => .ok (.nx a.2)
theorem is_drop {t : TE} {m : MX} (ha : Imp K ct E t m) : ImpS K ct E fix (tDrop t) (sDrop m) := by
  intro B H σ ρ f0 D R h
  exact ha B H σ ρ f0 _ R (h.first fun a ea h v B1 H1 f1 f x => h _ _ _ _ x.drop.s)
def mv (ρ : Env) : Vl → Option (Vl × Env)
  | .bor i => match ρ[i]? with
    | some (.own ds) => some (.own ds, ρ.set i .emp)
    | some (.drw st) => some (.drw st, ρ.set i .emp)
    | some (.ob o) => some (.ob o, ρ.set i .emp)
    | some (.sh d) => some (.sh d, ρ)
    | _ => none
  | r => some (r, ρ)
def sRet (m : MX) : MS := fun ρ => R.bind (m ρ) fun a => rdO (mv a.2 a.1) fun p => .ok (.rt p.1 p.2)
theorem SlOk.vl {s : Sl} (x : SlOk K B H (some v) s f) : (∀ d, s = .sh d → VlOk K B H [] v (.sh d) f) ∧ (∀ d, s = .own d → VlOk K B H [] v (.own d) f) ∧ (∀ d, s = .drw d → VlOk K B H [] v (.drw d) f) :=
  ⟨fun d e => by subst e; exact x, fun d e => by subst e; exact x, fun d e => by subst e; exact x⟩
theorem set_same {l : L2.St} {i : Nat} {o : Option V} (h : l[i]? = some o) : l.set i o = l := by
  apply List.ext_getElem?
  intro k
  by_cases e : i = k
  · subst e
    rw [List.getElem?_set_self (List.getElem?_eq_some_iff.mp h).1, h]
  · rw [List.getElem?_set_ne e]
theorem Res.mv {r' : Vl} (x : Res K B H σ f0 v r ρ B1 H1 f1 f) (h : DL.mv ρ r = some (r', ρ')) : ∃ f2 g, ResR K B H σ f0 fix v r' σ ρ' B1 H1 f2 g := by
  have fx : ∀ j, fix j = true → σ[j]? = σ[j]? := fun _ _ => rfl
  cases r with
  | sh d => cases h; exact ⟨_, _, x.rel, x.val, x.off, x.frm, fx⟩
  | own d => cases h; exact ⟨_, _, x.rel, x.val, x.off, x.frm, fx⟩
  | drw d => cases h; exact ⟨_, _, x.rel, x.val, x.off, x.frm, fx⟩
  | ob d => cases h; exact ⟨_, _, x.rel, x.val, x.off, x.frm, fx⟩
  | bor i =>
    obtain ⟨e0, e1⟩ := x.val
    subst e0
    have hj : (σ[i]?).join = some v := by rw [e1]; rfl
    unfold DL.mv at h
    cases e : ρ[i]? with
    | none => simp only [e] at h; cases h
    | some s =>
      have ok := x.rel.ok i s e
      rw [hj] at ok
      have R2 := x.rel.empSl i (some v)
      rw [set_same e1] at R2
      have off : ∀ a ∈ f1 i, B1 a = none ∧ ¬ Owned (fpSet f1 i []) a := fun a ha => ⟨(x.rel.off i a ha).1, fun ⟨j, hj⟩ => by
        by_cases z : j = i
        · subst z
          rw [fpSet_same] at hj
          exact (nomatch hj)
        · rw [fpSet_ne z] at hj
          exact z (x.rel.dis j i a hj ha)⟩
      have fr : Frm B H (Owned f0) B1 H1 (fun a => Owned (fpSet f1 i []) a ∨ a ∈ f1 i) := x.frm.to fun a z => .inl (.inl (by
        rcases z with z | z
        · rcases owned_set z with q | q
          · exact q
          · exact (nomatch q)
        · exact ⟨i, z⟩))
      cases s with
      | emp => simp only [e] at h; cases h
      | own2 l => simp only [e] at h; cases h
      | tab T d => simp only [e] at h; cases h
      | own ds =>
        simp only [e] at h
        cases h
        exact ⟨_, _, R2, ok, off, fr, fx⟩
      | drw ds =>
        simp only [e] at h
        cases h
        exact ⟨_, _, R2, ok, off, fr, fx⟩
      | ob o =>
        simp only [e] at h
        cases h
        exact ⟨_, _, R2, ok, off, fr, fx⟩
      | sh d =>
        simp only [e] at h
        cases h
        obtain ⟨q1, y, q2, q3⟩ := ok
        exact ⟨f1, [], x.rel, ⟨rfl, y, q2, q3⟩, fun _ z => (nomatch z), x.frm, fx⟩
theorem is_ret {t : TE} {m : MX} (ha : Imp K ct E t m) : ImpS K ct E fix (tRet t) (sRet m) := by
  intro B H σ ρ f0 D R h
  refine ha B H σ ρ f0 _ R (h.first fun a ea h v B1 H1 f1 f x => ?_)
  obtain ⟨p, e, h⟩ := h.get
  obtain ⟨f2, g, y⟩ := x.mv (fix := fix) (r' := p.1) (ρ' := p.2) e
  exact h _ _ _ _ _ _ y
def sRetN : MS := fun ρ => .ok (.rt (.sh .non) ρ)
theorem is_retN : ImpS K ct E fix tRetN sRetN := fun B H σ ρ f0 D R h => h .non σ B H f0 [] ⟨R, ⟨rfl, _, rfl, .non⟩, fun _ z => (nomatch z), Frm.refl.to fun a z => z.elim Or.inl fun q => (nomatch q), fun _ _ => rfl⟩
def shS : Option Sl → Option DL.D
  | some (.sh d) => some d
  | _ => none
def sAug (i : Nat) (gg : DL.D → DL.D → Option Vl) (m : MX) : MS := fun ρ => rdO (shS ρ[i]?) fun dx => R.bind (m ρ) fun a => rdO (rdv a.2 a.1) fun dy => rdO (gg dx dy) fun z => rdO (put a.2 i z) fun ρ' => .ok (.nx ρ')
theorem is_aug {i : Nat} {ti : TIp} {gg : DL.D → DL.D → Option Vl} {t : TE} {m : MX} (ho : OpI K ti gg) (ha : Imp K ct E t m) (hf : fix i = false := by rfl) : ImpS K ct E fix (tAug i t ti) (sAug i gg m) := by
  intro B H σ ρ f0 D R h
  obtain ⟨dx, e0, h⟩ := h.get
  have hs : ∃ x, σ[i]? = some (some x) ∧ DV K B x dx := by
    cases e : ρ[i]? with
    | none => rw [e] at e0; cases e0
    | some s =>
      rw [e] at e0
      have ok := R.ok i s e
      cases s with
      | sh d =>
        cases e0
        obtain ⟨_, y, q1, q2⟩ := ok
        refine ⟨y, ?_, q2⟩
        cases q : σ[i]? with
        | none => rw [q] at q1; cases q1
        | some o => rw [q] at q1; exact congrArg some q1
      | _ => cases e0
  obtain ⟨x, hx, hdx⟩ := hs
  refine ⟨x, hx, ha B H σ ρ f0 _ R (h.first fun a ea h y B1 H1 f1 f xx => ?_)⟩
  obtain ⟨dy, e1, h⟩ := h.get
  obtain ⟨z, e2, h⟩ := h.get
  obtain ⟨ρ', e3, h⟩ := h.get
  refine ho B1 H1 x y dx dy z xx.rel.ex (.of xx.rel.ex (hdx.mono xx.frm.bb)) (xx.val.rd xx.rel e1) e2 _ fun w B3 H3 k n => ?_
  obtain ⟨B2, f2, q⟩ := (xx.new n).put (fix := fix) e3 hf
  exact h _ _ _ _ q
def forLoop (mg : MG) (mb : MS) : List DL.D → Env → R Out
  | [], ρ => .ok (.nx ρ)
  | d :: ds, ρ => rdO (mg d ρ) fun ρ1 => R.bind (mb ρ1) fun o => match o with
    | .nx ρ2 => forLoop mg mb ds ρ2
    | .ct ρ2 => forLoop mg mb ds ρ2
    | .bk ρ2 => .ok (.nx ρ2)
    | .rt r ρ2 => .ok (.rt r ρ2)
def sFor (mi : MI) (mg : MG) (mb : MS) : MS := fun ρ => R.bind (mi ρ) fun a => forLoop mg mb a.1 a.2
theorem is_for {js : List Nat} {wi : TI} {gg : TG} {tb : TS} {mi : MI} {mg : MG} {mb : MS} (hi : ImpI K ct E wi mi) (hg : ImpG K js gg mg) (hb : ImpS K ct E fix tb mb) (hf : ∀ j ∈ js, fix j = false) : ImpS K ct E fix (tFor wi gg tb) (sFor mi mg mb) := by
  intro B H σ ρ f0 D R h
  refine hi B H σ ρ f0 _ R (h.first fun a ea h J B1 H1 f1 x itd => ?_)
  have bk : ∀ j, fix j = true → j ∉ js := fun j hj z => by
    rw [hf j z] at hj
    cases hj
  refine ⟨fun i m σ' H' => m = a.1.length - i ∧ i ≤ a.1.length ∧ ∃ (B' : Hp) (ρ' : Env) (f' : Fps), ResS K B H σ f0 fix σ' ρ' B' H' f' ∧ ItD K B' J a.1 ∧ Post ct E H f0 (forLoop mg mb (a.1.drop i) ρ') (OutOk K B H σ f0 fix D),
    ⟨a.1.length, by simp, Nat.zero_le _, B1, a.2, f1, x.s, itd, h⟩, ?_⟩
  rintro i m σ' H' ⟨rfl, hile, B', ρ', f', y, itd', h⟩
  by_cases hlt : i < a.1.length
  · have dr : a.1.drop i = a.1[i] :: a.1.drop (i + 1) := (List.drop_eq_getElem_cons hlt)
    rw [dr] at h
    have q := itd' B' H' (fun _ _ q => q) y.rel.ex i
    refine .inr ⟨q.1 hlt, fun σ2 H2 => ∃ (B' : Hp) (ρ' : Env) (f' : Fps), ResS K B H σ f0 fix σ2 ρ' B' H2 f' ∧ ItD K B' J a.1 ∧ Post ct E H f0 (forLoop mg mb (a.1.drop (i + 1)) ρ') (OutOk K B H σ f0 fix D), fun σ2 H2 hN => ⟨a.1.length - (i + 1), by omega, rfl, hlt, hN⟩, fun w H2 hy => ?_⟩
    obtain ⟨B2, e1, e2, e3, e4, e5', hd⟩ := q.2.2 w H2 a.1[i] (by simp) hy
    have n2 : ∀ P : Addr → Prop, Frm B' H' P B2 H2 P := fun P => Frm.new e1 e2 e4
    have R2 : Rel K B2 H2 σ' ρ' f' := y.rel.frm (n2 fun _ => False) e3 (e5' y.rel.pl) fun _ _ z => z
    have h : Post ct E H f0 (rdO (mg a.1[i] ρ') fun ρ1 => DL.R.bind (mb ρ1) fun o => match o with
      | .nx ρ2 => forLoop mg mb (a.1.drop (i + 1)) ρ2
      | .ct ρ2 => forLoop mg mb (a.1.drop (i + 1)) ρ2
      | .bk ρ2 => .ok (.nx ρ2)
      | .rt r ρ2 => .ok (.rt r ρ2)) (OutOk K B H σ f0 fix D) := h
    obtain ⟨ρ1, eg, h⟩ := h.get
    refine hg B2 H2 _ ρ' ρ1 f' w a.1[i] R2 hd eg _ fun σ3 f3 R3 l3 k3 o3 => ?_
    have y3 : ResS K B H σ f0 fix σ3 ρ1 B2 H2 f3 := y.then ⟨R3, (n2 _).to fun a z => .inl (o3 a z), fun j hj => k3 j (bk j hj)⟩
    have itd2 : ItD K B2 J a.1 := itd'.mono e1
    refine hb B2 H2 σ3 ρ1 f3 _ R3 (h.step y3.frm (fun _ z => z) fun o eo h => ?_)
    cases o with
    | nx ρ2 => exact fun σ4 B4 H4 f4 z => ⟨B4, ρ2, f4, y3.then z, itd2.mono z.frm.bb, h⟩
    | ct ρ2 => exact fun σ4 B4 H4 f4 z => ⟨B4, ρ2, f4, y3.then z, itd2.mono z.frm.bb, h⟩
    | bk ρ2 => exact fun σ4 B4 H4 f4 z => h σ4 B4 H4 f4 (y3.then z)
    | rt r ρ2 => exact fun v σ4 B4 H4 f4 f z => h v σ4 B4 H4 f4 f (y3.thenR z)
  · have e : i = a.1.length := by omega
    subst e
    have q := itd' B' H' (fun _ _ q => q) y.rel.ex a.1.length
    rw [List.drop_length] at h
    exact .inl ⟨q.2.1 rfl, h σ' B' H' f' y⟩
def whLoop (mc : MT) (mb : MS) : Nat → Env → R Out
  | 0, _ => .bad
  | n + 1, ρ => R.bind (mc ρ) fun p => if p.1 = true then R.bind (mb p.2) fun o => match o with
      | .nx ρ2 => whLoop mc mb n ρ2
      | .ct ρ2 => whLoop mc mb n ρ2
      | .bk ρ2 => .ok (.nx ρ2)
      | .rt r ρ2 => .ok (.rt r ρ2)
    else .ok (.nx p.2)
theorem is_while {n : Nat} {tc : TT} {tb : TS} {mc : MT} {mb : MS} (hc : ImpT K ct E tc mc) (hb : ImpS K ct E fix tb mb) : ImpS K ct E fix (tWhile tc tb) (whLoop mc mb n) := by
  intro B H σ ρ f0 D R h
  refine ⟨fun m σ' H' => ∃ (B' : Hp) (ρ' : Env) (f' : Fps), ResS K B H σ f0 fix σ' ρ' B' H' f' ∧ Post ct E H f0 (whLoop mc mb m ρ') (OutOk K B H σ f0 fix D), ⟨n, B, ρ, f0, .refl R, h⟩, ?_⟩
  rintro m σ' H' ⟨B', ρ', f', y, h⟩
  cases m with
  | zero => exact h.elim
  | succ m =>
    have h : Post ct E H f0 (DL.R.bind (mc ρ') fun p => if p.1 = true then DL.R.bind (mb p.2) fun o => match o with
      | .nx ρ2 => whLoop mc mb m ρ2
      | .ct ρ2 => whLoop mc mb m ρ2
      | .bk ρ2 => .ok (.nx ρ2)
      | .rt r ρ2 => .ok (.rt r ρ2)
      else .ok (.nx p.2)) (OutOk K B H σ f0 fix D) := h
    refine hc B' H' σ' ρ' f' _ y.rel (h.step y.frm (fun _ z => z) fun p ep h B1 H1 f1 z => ?_)
    have y1 := y.then z.s
    obtain ⟨k, ρ1⟩ := p
    cases k with
    | false => exact h σ' B1 H1 f1 y1
    | true =>
      refine ⟨fun σ2 H2 => ∃ (B' : Hp) (ρ' : Env) (f' : Fps), ResS K B H σ f0 fix σ2 ρ' B' H2 f' ∧ Post ct E H f0 (whLoop mc mb m ρ') (OutOk K B H σ f0 fix D), fun σ2 H2 hN => ⟨m, Nat.lt_succ_self _, hN⟩, ?_⟩
      have h : Post ct E H f0 (DL.R.bind (mb ρ1) fun o => match o with
        | .nx ρ2 => whLoop mc mb m ρ2
        | .ct ρ2 => whLoop mc mb m ρ2
        | .bk ρ2 => .ok (.nx ρ2)
        | .rt r ρ2 => .ok (.rt r ρ2)) (OutOk K B H σ f0 fix D) := h
      refine hb B1 H1 σ' ρ1 f1 _ z.rel (h.step y1.frm (fun _ z => z) fun o eo h => ?_)
      cases o with
      | nx ρ2 => exact fun σ4 B4 H4 f4 z => ⟨B4, ρ2, f4, y1.then z, h⟩
      | ct ρ2 => exact fun σ4 B4 H4 f4 z => ⟨B4, ρ2, f4, y1.then z, h⟩
      | bk ρ2 => exact fun σ4 B4 H4 f4 z => h σ4 B4 H4 f4 (y1.then z)
      | rt r ρ2 => exact fun v σ4 B4 H4 f4 f z => h v σ4 B4 H4 f4 f (y1.thenR z)
end
end DL
end
section
set_option maxRecDepth 100000
set_option maxHeartbeats 2000000
namespace DL
open PySem PySem.Spec PyProof.Rows L2
open Evl (Ex ex_rd ex_l ex_t)
section
variable {K : PySem.W.Frag} {ct : Ct} {E : XK} {B H B' H' B1 H1 B2 H2 : Hp} {σ σ' σ1 σ2 : L2.St} {ρ ρ' ρ1 ρ2 : Env} {f0 f1 f2 f' : Fps} {v : V} {r : Vl} {f g : List Addr} {fix : Nat → Bool}

def ownS : Option Sl → Option (List D)
  | some (.own ds) => some ds
  | _ => none
theorem Rel.own {i : Nat} {ds : List D} (R : Rel K B H σ ρ f0) (h : ownS ρ[i]? = some ds) : ∃ p xs, σ[i]? = some (some (.ref p)) ∧ f0 i = [p] ∧ H p = some (.lst xs) ∧ DVs K B xs ds ∧ i < ρ.length := by
  cases e : ρ[i]? with
  | none => rw [e] at h; cases h
  | some s =>
    rw [e] at h
    have ok := R.ok i s e
    cases s with
    | own es =>
      cases h
      obtain ⟨p, xs, q1, q2, q3, q4⟩ := ok
      refine ⟨p, xs, ?_, q2, q3, q4, (List.getElem?_eq_some_iff.mp e).1⟩
      cases q : σ[i]? with
      | none => rw [q] at q1; cases q1
      | some o => rw [q] at q1; exact congrArg some q1
    | _ => cases h
theorem Rel.mut {i : Nat} {p : Addr} {xs : List V} {ds : List D} (R : Rel K B H σ ρ f0) (hi : i < ρ.length) (hs : σ[i]? = some (some (.ref p))) (hf : f0 i = [p]) (hd : DVs K B xs ds) :
    Rel K B (upd H p (.lst xs)) σ (ρ.set i (.own ds)) f0 where
  len := by rw [List.length_set]; exact R.len
  ex := fun a o q => by
    rw [upd_ne (fun e => by rw [e, (R.off i p (by rw [hf]; simp)).1] at q; cases q)]
    exact R.ex a o q
  pl := R.pl
  ok := fun j s q => by
    by_cases e : j = i
    · subst e
      rw [List.getElem?_set_self hi] at q
      cases q
      rw [hs]
      exact ⟨p, xs, rfl, hf, upd_same, hd⟩
    · rw [List.getElem?_set_ne (Ne.symm e)] at q
      have ok := R.ok j s q
      have ne : ∀ a ∈ f0 j, a ≠ p := fun a ha z => e (R.dis j i a ha (by rw [z, hf]; simp))
      cases s with
      | emp => exact ok
      | sh d => exact ok
      | own es =>
        obtain ⟨p', ys, e1, e2, e3, e4⟩ := ok
        refine ⟨p', ys, e1, e2, ?_, e4⟩
        rw [upd_ne (ne p' (by rw [e2]; simp))]
        exact e3
      | own2 l =>
        obtain ⟨p', ps, e1, e2, e3, e4, e5⟩ := ok
        refine ⟨p', ps, e1, e2, e3, ?_, e5.to (fun _ _ q => q) fun q hq o e => ?_⟩
        · rw [upd_ne (ne p' (by rw [e2]; simp))]
          exact e4
        · rw [upd_ne (ne q (by rw [e2]; exact List.mem_cons_of_mem _ hq))]
          exact e
      | drw st =>
        obtain ⟨a, w, c, e1, e2, e3, e4, e5, e6⟩ := ok
        refine ⟨a, w, c, e1, e2, e3, ?_, ?_, e6⟩
        · rw [upd_ne (ne a (by rw [e2]; simp))]
          exact e4
        · rw [upd_ne (ne w (by rw [e2]; simp))]
          exact e5
      | ob o => exact ObOk.to ok (fun _ _ q => q) fun a ha u e => by rw [upd_ne (ne a ha)]; exact e
      | tab T d => exact ⟨ok.1.to fun a ha o e => by rw [upd_ne (ne a ha)]; exact e, ok.2⟩
  out := fun j q => by
    by_cases e : j = i
    · subst e
      rw [List.getElem?_set_self hi] at q
      cases q
    · rw [List.getElem?_set_ne (Ne.symm e)] at q
      exact R.out j q
  dis := R.dis
  off := fun j a ha => ⟨(R.off j a ha).1, by
    by_cases e : a = p
    · rw [e, upd_same]; simp
    · rw [upd_ne e]
      exact (R.off j a ha).2⟩
theorem Res.refl' (R : Rel K B H σ ρ f0) {v : V} {d : D} (h : DV K B v d) {B0 H0 : Hp} {f : Fps} (fr : Frm B0 H0 (Owned f) B H (Owned f0)) : Res K B0 H0 σ f v (.sh d) ρ B H f0 [] :=
  ⟨R, ⟨rfl, v, rfl, h⟩, fun _ q => (nomatch q), fr.to fun a z => z.elim Or.inl fun q => (nomatch q)⟩
def xApp (i : Nat) (m : MX) : MX := fun ρ => rdO (ownS ρ[i]?) fun _ => R.bind (m ρ) fun a => rdO (share a.2 a.1) fun p => rdO (ownS p.2[i]?) fun ds => if szOk (ds.length + 1) = true then .ok (.sh .non, p.2.set i (.own (ds ++ [p.1]))) else .bad
theorem im_app {i : Nat} {t : TE} {m : MX} (ha : Imp K ct E t m) : Imp K ct E (tBM K "list" rAppend (tVar i) (tCons t tNil)) (xApp i m) := by
  intro B H σ ρ f0 Q R h
  obtain ⟨ds0, e0, h⟩ := h.get
  obtain ⟨p, xs, q1, q2, q3, q4, q5⟩ := R.own e0
  refine ⟨_, q1, .inl ⟨rfl, xs, SqL.of q3⟩, ha B H σ ρ f0 _ R (h.first fun a ea h v B1 H1 f1 f x => ?_)⟩
  obtain ⟨s, e1, h⟩ := h.get
  obtain ⟨ds, e2, h⟩ := h.get
  obtain ⟨B2, f2, y, hd⟩ := x.shared (ρ' := s.2) (d := s.1) e1
  obtain ⟨p', xs', r1, r2, r3, r4, r5⟩ := y.rel.own e2
  rw [q1] at r1
  cases r1
  by_cases hz : szOk (ds.length + 1) = true
  · rw [if_pos hz] at h
    have fin := Res.refl' (y.rel.mut r5 q1 r2 (r4.app (.cons hd .nil))) .non (y.frm.trans (frm_upd ⟨i, by rw [r2]; simp⟩))
    exact ⟨p, xs', v, rfl, rfl, r3, Nat.lt_of_lt_of_le (Nat.lt_succ_self _) (by rw [r4.len]; exact szOk_le hz), h _ _ _ _ _ fin⟩
  · rw [if_neg hz] at h
    exact h.elim
def xExt (i : Nat) (m : MX) : MX := fun ρ => rdO (ownS ρ[i]?) fun _ => R.bind (m ρ) fun a => rdO (share a.2 a.1) fun p => match p.1 with
  | .lst es => rdO (ownS p.2[i]?) fun ds => if szOk (ds.length + es.length) = true then .ok (.sh .non, p.2.set i (.own (ds ++ es))) else .bad
  | _ => .bad
theorem im_ext {i : Nat} {t : TE} {m : MX} (ha : Imp K ct E t m) : Imp K ct E (tBM K "list" rExtend (tVar i) (tCons t tNil)) (xExt i m) := by
  intro B H σ ρ f0 Q R h
  obtain ⟨ds0, e0, h⟩ := h.get
  obtain ⟨p, xs, q1, q2, q3, q4, q5⟩ := R.own e0
  refine ⟨_, q1, .inl ⟨rfl, xs, SqL.of q3⟩, ha B H σ ρ f0 _ R (h.first fun a ea h v B1 H1 f1 f x => ?_)⟩
  obtain ⟨s, e1, h⟩ := h.get
  obtain ⟨B2, f2, y, hd⟩ := x.shared (ρ' := s.2) (d := s.1) e1
  obtain ⟨d, ρ2⟩ := s
  cases d with
  | lst es =>
    have h : Post ct E H f0 (rdO (ownS ρ2[i]?) fun ds => if szOk (ds.length + es.length) = true then .ok (.sh .non, ρ2.set i (.own (ds ++ es))) else .bad) (XOk K B H σ f0 Q) := h
    obtain ⟨ds, e2, h⟩ := h.get
    obtain ⟨p', xs', r1, r2, r3, r4, r5⟩ := y.rel.own e2
    rw [q1] at r1
    cases r1
    cases hd with
    | lst h1 h2 =>
    by_cases hz : szOk (ds.length + es.length) = true
    · rw [if_pos hz] at h
      have fin := Res.refl' (y.rel.mut r5 q1 r2 (r4.app h2)) .non (y.frm.trans (frm_upd ⟨i, by rw [r2]; simp⟩))
      exact ⟨p, _, xs', _, rfl, rfl, r3, y.rel.ex _ _ h1, by rw [r4.len, h2.len]; exact szOk_le hz, h _ _ _ _ _ fin⟩
    · rw [if_neg hz] at h
      exact h.elim
  | _ => exact h.elim
def xPopAt (i : Nat) (m : MX) : MX := fun ρ => rdO (ownS ρ[i]?) fun _ => R.bind (m ρ) fun a => rdO (rdv a.2 a.1) fun d => rdO (intOf d) fun k => rdO (ownS a.2[i]?) fun ds => if szOk ds.length = true then rdO (ixN ds.length k) fun j => rdO ds[j]? fun e => .ok (.sh e, a.2.set i (.own (ds.eraseIdx j))) else .bad
theorem intOf_eq {d : D} {k : Int} (h : intOf d = some k) : d = .int k := by
  cases d <;> first | (cases h; rfl) | cases h
theorem DVs.erase : ∀ {vs : List V} {ds : List D} (n : Nat), DVs K B vs ds → DVs K B (vs.eraseIdx n) (ds.eraseIdx n)
  | _, _, 0, .nil => .nil
  | _, _, _ + 1, .nil => .nil
  | _, _, 0, .cons _ r => r
  | _, _, n + 1, .cons h r => .cons h (DVs.erase n r)
theorem im_popAt {i : Nat} {t : TE} {m : MX} (ha : Imp K ct E t m) : Imp K ct E (tBM K "list" rPopAt (tVar i) (tCons t tNil)) (xPopAt i m) := by
  intro B H σ ρ f0 Q R h
  obtain ⟨ds0, e0, h⟩ := h.get
  obtain ⟨p, xs, q1, q2, q3, q4, q5⟩ := R.own e0
  refine ⟨_, q1, .inl ⟨rfl, xs, SqL.of q3⟩, ha B H σ ρ f0 _ R (h.first fun a ea h v B1 H1 f1 f x => ?_)⟩
  obtain ⟨d, e1, h⟩ := h.get
  obtain ⟨k, e2, h⟩ := h.get
  obtain ⟨ds, e3, h⟩ := h.get
  have hv : RdV K B1 H1 v (.int k) := by
    rw [← intOf_eq e2]
    exact x.val.rd x.rel e1
  cases hv
  by_cases hz : szOk ds.length = true
  · rw [if_pos hz] at h
    obtain ⟨j, e4, h⟩ := h.get
    obtain ⟨e, e5, h⟩ := h.get
    obtain ⟨p', xs', r1, r2, r3, r4, r5⟩ := x.rel.own e3
    rw [q1] at r1
    cases r1
    obtain ⟨w, w1, w2⟩ := r4.get e5
    have hx := ixN_seq e4
    have hz' : ds.length ≤ 1000000 := of_decide_eq_true hz
    have fin := Res.refl' (x.rel.mut r5 q1 r2 (r4.erase j)) w2 (x.drop.frm.trans (frm_upd ⟨i, by rw [r2]; simp⟩))
    exact ⟨p, xs', k, j, w, rfl, rfl, r3, by omega, by omega, by rw [r4.len]; exact hx.1, w1, h _ _ _ _ _ fin⟩
  · rw [if_neg hz] at h
    exact h.elim
def take1 (b : Bool) (r : Vl) (ρ : Env) : Option (Sl × Env × Option Nat) := match b, r with
  | false, r => (share ρ r).bind fun p => some (.sh p.1, p.2, none)
  | true, .sh d => some (.sh d, ρ, none)
  | true, .own ds => some (.own ds, ρ, none)
  | true, .drw st => some (.drw st, ρ, none)
  | true, .ob o => some (.ob o, ρ, none)
  | true, .bor i => match ρ[i]? with
    | some (.own ds) => some (.own ds, ρ.set i .emp, some i)
    | some (.drw st) => some (.drw st, ρ.set i .emp, some i)
    | some (.ob o) => some (.ob o, ρ.set i .emp, some i)
    | some (.sh d) => some (.sh d, ρ, none)
    | _ => none
def bkAdd (bo : Option Nat) (n : Nat) (l : List (Nat × Nat)) : List (Nat × Nat) := match bo with
  | none => l
  | some i => (n, i) :: l
theorem Frm.pre {P Q P' : Addr → Prop} (h : Frm B H P B' H' P') (e : ∀ a, P a → Q a) (e2 : ∀ a, Q a → P a) : Frm B H Q B' H' P' :=
  ⟨h.bb, fun a o q n => h.keep a o q fun z => n (e a z), fun a q1 q2 n => h.off a q1 q2 fun z => n (e a z), fun a z => (h.own a z).imp (e a) id, h.dom⟩
def takeArgs : List Bool → List Vl → Env → List Sl → Option (List Sl × Env × List (Nat × Nat))
  | [], [], ρ, acc => some (acc, ρ, [])
  | b :: bs, r :: rs, ρ, acc => (take1 b r ρ).bind fun p => (takeArgs bs rs p.2.1 (acc ++ [p.1])).bind fun q => some (q.1, q.2.1, bkAdd p.2.2 acc.length q.2.2)
  | _, _, _, _ => none
def giveBack : List (Nat × Nat) → List Sl → Env → Env
  | [], _, ρ => ρ
  | (k, i) :: l, as, ρ => giveBack l as (ρ.set i (as[k]?.getD .emp))
theorem Rel.snoc {s : Sl} (R : Rel K B H σ ρ f0) (x : SlOk K B H (some v) s f) (off : ∀ a ∈ f, B a = none ∧ ¬ Owned f0 a) : Rel K B H (σ ++ [some v]) (ρ ++ [s]) (fpSet f0 ρ.length f) where
  len := by rw [List.length_append, List.length_append, R.len]; rfl
  ex := R.ex
  pl := R.pl
  ok := fun j t q => by
    by_cases hj : j = ρ.length
    · subst hj
      rw [List.getElem?_append_right (Nat.le_refl _), Nat.sub_self] at q
      cases q
      rw [← R.len, List.getElem?_append_right (Nat.le_refl _), Nat.sub_self, R.len, fpSet_same]
      exact x
    · have hl : j < ρ.length := by
        have := (List.getElem?_eq_some_iff.mp q).1
        rw [List.length_append] at this
        have h1 : ([s] : List Sl).length = 1 := rfl
        omega
      rw [List.getElem?_append_left hl] at q
      rw [List.getElem?_append_left (by rw [R.len]; exact hl), fpSet_ne hj]
      exact R.ok j t q
  out := fun j q => by
    have hl : ρ.length + 1 ≤ j := by
      rw [List.getElem?_eq_none_iff, List.length_append] at q
      exact q
    rw [fpSet_ne (by omega)]
    exact R.out j (List.getElem?_eq_none (by omega))
  dis := fun j k a h1 h2 => by
    by_cases hj : j = ρ.length
    · by_cases hk : k = ρ.length
      · rw [hj, hk]
      · subst hj
        rw [fpSet_same] at h1
        rw [fpSet_ne hk] at h2
        exact absurd ⟨k, h2⟩ (off a h1).2
    · by_cases hk : k = ρ.length
      · subst hk
        rw [fpSet_same] at h2
        rw [fpSet_ne hj] at h1
        exact absurd ⟨j, h1⟩ (off a h2).2
      · rw [fpSet_ne hj] at h1
        rw [fpSet_ne hk] at h2
        exact R.dis j k a h1 h2
  off := fun j a h => by
    by_cases hj : j = ρ.length
    · subst hj
      rw [fpSet_same] at h
      exact ⟨(off a h).1, x.there h⟩
    · rw [fpSet_ne hj] at h
      exact R.off j a h
structure Way (K : PySem.W.Frag) (B H : Hp) (σ : L2.St) (ρ : Env) (f : Fps) (ws : List V) (acc : List Sl) (fa : Fps) : Prop where
  rel : Rel K B H σ ρ f
  arg : Rel K B H (ws.map some) acc fa
  apart : ∀ a, Owned fa a → ¬ Owned f a
def WayRes (K : PySem.W.Frag) (B H : Hp) (σ : L2.St) (f0 : Fps) (f : List Addr) (v : V) (s : Sl) (ρ' : Env) (bo : Option Nat) (ws : List V) (acc : List Sl) (fa : Fps) (S : List Addr) : Prop :=
    ∃ B' f' fa', Way K B' H σ ρ' f' (ws ++ [v]) (acc ++ [s]) fa' ∧ Ex B B' ∧ (∀ a ∈ S, B' a = none ∧ ¬ Owned f' a ∧ ¬ Owned fa' a) ∧ (∀ {vs : List V} {rs : List Vl} {g : List Addr}, VlsOk K B H σ vs rs g → VlsOk K B' H σ vs rs g) ∧
      Frm B H (fun a => (Owned f0 a ∨ Owned fa a) ∨ a ∈ f) B' H (fun a => Owned f' a ∨ Owned fa' a) ∧ (∀ i, bo = some i → i < ρ'.length ∧ σ[i]? = some (some v))
theorem way1 {b : Bool} {s : Sl} {bo : Option Nat} {ws : List V} {acc : List Sl} {fa : Fps} {S : List Addr} (W : Way K B H σ ρ f0 ws acc fa) (x : VlOk K B H σ v r f) (off : ∀ a ∈ f, B a = none ∧ ¬ Owned f0 a ∧ ¬ Owned fa a)
    (offS : ∀ a ∈ S, B a = none ∧ ¬ Owned f0 a ∧ ¬ Owned fa a ∧ a ∉ f) (h : take1 b r ρ = some (s, ρ', bo)) :
    WayRes K B H σ f0 f v s ρ' bo ws acc fa S := by
  -- a value handed on for good
  have good : ∀ d, share ρ r = some (d, ρ') → s = .sh d → bo = none → WayRes K B H σ f0 f v s ρ' bo ws acc fa S := fun d hs es eb => by
    obtain ⟨B2, f2, R2, hd, eB, oS, lift, fr⟩ := share_ok (S := S) W.rel x (fun a ha => ⟨(off a ha).1, (off a ha).2.1⟩) (fun a ha => ⟨(offS a ha).1, (offS a ha).2.1, (offS a ha).2.2.2⟩) hs
    subst es eb
    have fr2 : Frm B H (fun a => (Owned f0 a ∨ a ∈ f) ∨ Owned fa a) B2 H (fun a => Owned f2 a ∨ Owned fa a) := fr.side _
    have ap : ∀ a, Owned fa a → ¬ (Owned f0 a ∨ a ∈ f) := fun a ha z => z.elim (W.apart a ha) fun q => (off a q).2.2 ha
    have RA := (W.arg.frm fr R2.ex R2.pl ap).snoc (v := v) (s := .sh d) (f := []) ⟨rfl, v, rfl, hd⟩ fun _ q => (nomatch q)
    have ow : ∀ a, Owned (fpSet fa acc.length []) a → Owned fa a := fun a z => (owned_set z).elim id fun q => (nomatch q)
    have ow' : ∀ a, Owned f2 a → ¬ Owned fa a := fun a z q => by
      obtain ⟨k, hk⟩ := q
      exact fr.apart (W.arg.off k a hk).2 (ap a ⟨k, hk⟩) z
    refine ⟨B2, f2, fpSet fa acc.length [], ⟨R2, by rw [List.map_append]; exact RA, fun a z q => ow' a q (ow a z)⟩, eB, fun a ha => ⟨(oS a ha).1, (oS a ha).2, fun z => (offS a ha).2.2.1 (ow a z)⟩, lift, ?_, fun i z => (nomatch z)⟩
    refine ⟨fr2.bb, fun a o q n => fr2.keep a o q fun z => n ?_, fun a q1 q2 n => fr2.off a q1 q2 fun z => n ?_, fun a z => ?_, fr2.dom⟩
    · rcases z with (z | z) | z
      · exact .inl (.inl z)
      · exact .inr z
      · exact .inl (.inr z)
    · rcases z with (z | z) | z
      · exact .inl (.inl z)
      · exact .inr z
      · exact .inl (.inr z)
    · rcases fr2.own a (z.imp id (ow a)) with ((z | z) | z) | z
      · exact .inl (.inl (.inl z))
      · exact .inl (.inr z)
      · exact .inl (.inl (.inr z))
      · exact .inr z
  -- a new thing lent
  have newt : ∀ t : Sl, SlOk K B H (some v) t f → s = t → ρ' = ρ → bo = none → WayRes K B H σ f0 f v s ρ' bo ws acc fa S := fun t ht es er eb => by
    subst es er eb
    have RA := W.arg.snoc (v := v) ht fun a ha => ⟨(off a ha).1, (off a ha).2.2⟩
    exact ⟨B, f0, fpSet fa acc.length f, ⟨W.rel, by rw [List.map_append]; exact RA, fun a z => (owned_set z).elim (W.apart a) fun q => (off a q).2.1⟩, fun _ _ q => q, fun a ha => ⟨(offS a ha).1, (offS a ha).2.1, fun z => (owned_set z).elim (offS a ha).2.2.1 (offS a ha).2.2.2⟩, fun q => q,
      Frm.refl.to fun a z => by
        rcases z with z | z
        · exact .inl (.inl (.inl z))
        · rcases owned_set z with q | q
          · exact .inl (.inl (.inr q))
          · exact .inl (.inr q), fun i z => (nomatch z)⟩
  cases b with
  | false =>
    have h : ((share ρ r).bind fun p => some (Sl.sh p.1, p.2, (none : Option Nat))) = some (s, ρ', bo) := h
    cases e : share ρ r with
    | none => rw [e] at h; cases h
    | some p =>
      rw [e] at h
      cases h
      exact good p.1 e rfl rfl
  | true =>
    cases r with
    | sh d => cases h; exact newt (.sh d) x rfl rfl rfl
    | own d => cases h; exact newt (.own d) x rfl rfl rfl
    | drw d => cases h; exact newt (.drw d) x rfl rfl rfl
    | ob d => cases h; exact newt (.ob d) x rfl rfl rfl
    | bor i =>
      obtain ⟨e0, e1⟩ := x
      subst e0
      have hj : (σ[i]?).join = some v := by rw [e1]; rfl
      cases e : ρ[i]? with
      | none => simp [take1, e] at h
      | some t =>
        have ok := W.rel.ok i t e
        rw [hj] at ok
        have hil : i < ρ.length := (List.getElem?_eq_some_iff.mp e).1
        -- what the name owned is lent
        have lend : SlOk K B H (some v) t (f0 i) → s = t → ρ' = ρ.set i .emp → bo = some i → WayRes K B H σ f0 [] v s ρ' bo ws acc fa S := fun ht es er eb => by
          subst es er eb
          have R2 := W.rel.empSl i (some v)
          rw [set_same e1] at R2
          have RA := W.arg.snoc (v := v) ht fun a ha => ⟨(W.rel.off i a ha).1, fun z => W.apart a z ⟨i, ha⟩⟩
          have nf : ∀ a, Owned (fpSet f0 i []) a → Owned f0 a ∧ a ∉ f0 i := fun a z => by
            obtain ⟨j, hj⟩ := z
            by_cases ej : j = i
            · subst ej
              rw [fpSet_same] at hj
              exact (nomatch hj)
            · rw [fpSet_ne ej] at hj
              exact ⟨⟨j, hj⟩, fun q => ej (W.rel.dis j i a hj q)⟩
          refine ⟨B, fpSet f0 i [], fpSet fa acc.length (f0 i), ⟨R2, by rw [List.map_append]; exact RA, fun a z q => ?_⟩, fun _ _ q => q, fun a ha => ⟨(offS a ha).1, fun z => (offS a ha).2.1 (nf a z).1, fun z => ?_⟩, fun q => q, Frm.refl.to fun a z => ?_, fun j z => ?_⟩
          · rcases owned_set z with z | z
            · exact W.apart a z (nf a q).1
            · exact (nf a q).2 z
          · rcases owned_set z with z | z
            · exact (offS a ha).2.2.1 z
            · exact (offS a ha).2.1 ⟨i, z⟩
          · rcases z with z | z
            · exact .inl (.inl (.inl (nf a z).1))
            · rcases owned_set z with z | z
              · exact .inl (.inl (.inr z))
              · exact .inl (.inl (.inl ⟨i, z⟩))
          · cases z
            exact ⟨by rw [List.length_set]; exact hil, e1⟩
        cases t with
        | emp => simp [take1, e] at h
        | own2 l => simp [take1, e] at h
        | tab T d => simp [take1, e] at h
        | own ds =>
          simp only [take1, e, Option.some.injEq, Prod.mk.injEq] at h
          exact lend ok h.1.symm h.2.1.symm h.2.2.symm
        | drw ds =>
          simp only [take1, e, Option.some.injEq, Prod.mk.injEq] at h
          exact lend ok h.1.symm h.2.1.symm h.2.2.symm
        | ob o =>
          simp only [take1, e, Option.some.injEq, Prod.mk.injEq] at h
          exact lend ok h.1.symm h.2.1.symm h.2.2.symm
        | sh d =>
          simp only [take1, e, Option.some.injEq, Prod.mk.injEq] at h
          obtain ⟨q1, y, q2, q3⟩ := ok
          exact newt (.sh d) ⟨rfl, y, q2, q3⟩ h.1.symm h.2.1.symm h.2.2.symm
def BackOk (σ : L2.St) (ρ : Env) (ws : List V) (l : List (Nat × Nat)) : Prop := ∀ k i, (k, i) ∈ l → i < ρ.length ∧ ∃ v, ws[k]? = some v ∧ σ[i]? = some (some v)
theorem takeArgs_ok : ∀ {bs : List Bool} {rs : List Vl} {vs ws : List V} {g : List Addr} {B : Hp} {ρ ρ' : Env} {f0 fa : Fps} {acc as : List Sl} {l : List (Nat × Nat)}, Way K B H σ ρ f0 ws acc fa → VlsOk K B H σ vs rs g → (∀ a ∈ g, B a = none ∧ ¬ Owned f0 a ∧ ¬ Owned fa a) →
    takeArgs bs rs ρ acc = some (as, ρ', l) →
    ∃ B' f' fa', Way K B' H σ ρ' f' (ws ++ vs) as fa' ∧ Frm B H (fun a => (Owned f0 a ∨ Owned fa a) ∨ a ∈ g) B' H (fun a => Owned f' a ∨ Owned fa' a) ∧ BackOk σ ρ' (ws ++ vs) l ∧ ρ'.length = ρ.length := by
  intro bs
  induction bs with
  | nil =>
    intro rs vs ws g B ρ ρ' f0 fa acc as l W x off h
    cases rs with
    | cons => cases h
    | nil =>
      obtain ⟨e1, e2⟩ := x.inv0
      subst e1 e2
      cases h
      rw [List.append_nil]
      exact ⟨B, f0, fa, W, Frm.refl.to fun a z => .inl (.inl z), fun k i z => (nomatch z), rfl⟩
  | cons b bs ih =>
    intro rs vs ws g B ρ ρ' f0 fa acc as l W x off h
    cases rs with
    | nil => cases h
    | cons r rs =>
      obtain ⟨v, vs', f, g', e1, e2, h1, h2, n⟩ := x.inv
      subst e1 e2
      unfold takeArgs at h
      cases e3 : take1 b r ρ with
      | none => rw [e3] at h; cases h
      | some p =>
        obtain ⟨s, ρ1, bo⟩ := p
        rw [e3] at h
        have h : ((takeArgs bs rs ρ1 (acc ++ [s])).bind fun q => some (q.1, q.2.1, bkAdd bo acc.length q.2.2)) = some (as, ρ', l) := h
        cases e4 : takeArgs bs rs ρ1 (acc ++ [s]) with
        | none => rw [e4] at h; cases h
        | some q =>
          obtain ⟨as', ρ2, l'⟩ := q
          rw [e4] at h
          have h : some (as', ρ2, bkAdd bo acc.length l') = some (as, ρ', l) := h
          simp only [Option.some.injEq, Prod.mk.injEq] at h
          obtain ⟨q1, q2, q3⟩ := h
          subst q1 q2 q3
          obtain ⟨B1, f1, fa1, W1, eB, oS, lift, fr, bk⟩ := way1 (S := g') W h1 (fun a ha => off a (List.mem_append_left _ ha)) (fun a ha => ⟨(off a (List.mem_append_right _ ha)).1, (off a (List.mem_append_right _ ha)).2.1, (off a (List.mem_append_right _ ha)).2.2, fun z => n a z ha⟩) e3
          obtain ⟨B2, f2, fa2, W2, fr2, bk2, len2⟩ := ih W1 (lift h2) oS e4
          have eapp : ws ++ [v] ++ vs' = ws ++ v :: vs' := by simp
          rw [eapp] at W2 bk2
          have fr' := (fr.side (· ∈ g')).trans fr2
          have len1 : ρ1.length = ρ.length := by rw [← W1.rel.len, ← W.rel.len]
          refine ⟨B2, f2, fa2, W2, ?_, fun k i z => ?_, len2.trans len1⟩
          · have mix : ∀ a, (((Owned f0 a ∨ Owned fa a) ∨ a ∈ f) ∨ a ∈ g') → ((Owned f0 a ∨ Owned fa a) ∨ a ∈ f ++ g') := fun a z => by
              rcases z with (z | z) | z
              · exact .inl z
              · exact .inr (List.mem_append_left _ z)
              · exact .inr (List.mem_append_right _ z)
            exact ⟨fr'.bb, fun a o q m => fr'.keep a o q fun z => m (mix a z), fun a q1 q2 m => fr'.off a q1 q2 fun z => m (mix a z), fun a z => (fr'.own a z).imp (mix a) id, fr'.dom⟩
          · cases bo with
            | none => exact bk2 k i z
            | some j =>
              rcases List.mem_cons.mp z with z | z
              · cases z
                obtain ⟨b1, b2⟩ := bk i rfl
                refine ⟨by rw [len2]; exact b1, v, ?_, b2⟩
                have la : acc.length = ws.length := by
                  have := W.arg.len
                  rw [List.length_map] at this
                  exact this.symm
                rw [la, List.getElem?_append_right (Nat.le_refl _), Nat.sub_self]
                rfl
              · exact bk2 k i z
theorem giveBack_ok : ∀ {l : List (Nat × Nat)} {ws : List V} {as : List Sl} {ρ : Env} {f0 fa : Fps}, Rel K B H σ ρ f0 → Rel K B H (ws.map some) as fa → (∀ a k i, (k, i) ∈ l → a ∈ fa k → ¬ Owned f0 a) → BackOk σ ρ ws l → (l.map (·.1)).Nodup →
    ∃ f', Rel K B H σ (giveBack l as ρ) f' ∧ ∀ a, Owned f' a → Owned f0 a ∨ Owned fa a
  | [], ws, as, ρ, f0, fa, R, RA, ap, bk, nd => ⟨f0, R, fun a z => .inl z⟩
  | (k, i) :: l, ws, as, ρ, f0, fa, R, RA, ap, bk, nd => by
    obtain ⟨hi, v, hv, hs⟩ := bk k i (by simp)
    rw [List.map_cons, List.nodup_cons] at nd
    cases e : as[k]? with
    | none =>
      have hk : k < ws.length := (List.getElem?_eq_some_iff.mp hv).1
      have := RA.len
      rw [List.length_map] at this
      rw [List.getElem?_eq_none_iff] at e
      omega
    | some s =>
      have ok := RA.ok k s e
      rw [List.getElem?_map, hv] at ok
      have R2 := R.setSl (v := v) hi ok fun a ha => ⟨(RA.off k a ha).1, ap a k i (by simp) ha⟩
      rw [set_same hs] at R2
      obtain ⟨f', R', o⟩ := giveBack_ok (l := l) R2 RA (fun a k' i' hm ha z => by
        rcases owned_set z with z | z
        · exact ap a k' i' (List.mem_cons_of_mem _ hm) ha z
        · have ek := RA.dis k' k a ha z
          exact nd.1 (by rw [← ek]; exact List.mem_map_of_mem (f := (·.1)) hm)) (fun k' i' hm => by
        obtain ⟨b1, b2⟩ := bk k' i' (List.mem_cons_of_mem _ hm)
        exact ⟨by rw [List.length_set]; exact b1, b2⟩) nd.2
      refine ⟨f', ?_, fun a z => ?_⟩
      · unfold giveBack
        rw [e]
        exact R'
      · rcases o a z with z | z
        · rcases owned_set z with z | z
          · exact .inl z
          · exact .inr ⟨k, z⟩
        · exact .inr z
theorem takeArgs_keys : ∀ {bs : List Bool} {rs : List Vl} {ρ ρ' : Env} {acc as : List Sl} {l : List (Nat × Nat)}, takeArgs bs rs ρ acc = some (as, ρ', l) → (l.map (·.1)).Nodup ∧ ∀ p ∈ l, acc.length ≤ p.1 := by
  intro bs
  induction bs with
  | nil =>
    intro rs ρ ρ' acc as l h
    cases rs with
    | cons => cases h
    | nil => cases h; exact ⟨List.nodup_nil, fun p z => (nomatch z)⟩
  | cons b bs ih =>
    intro rs ρ ρ' acc as l h
    cases rs with
    | nil => cases h
    | cons r rs =>
      unfold takeArgs at h
      cases e3 : take1 b r ρ with
      | none => rw [e3] at h; cases h
      | some p =>
        obtain ⟨s, ρ1, bo⟩ := p
        rw [e3] at h
        have h : ((takeArgs bs rs ρ1 (acc ++ [s])).bind fun q => some (q.1, q.2.1, bkAdd bo acc.length q.2.2)) = some (as, ρ', l) := h
        cases e4 : takeArgs bs rs ρ1 (acc ++ [s]) with
        | none => rw [e4] at h; cases h
        | some q =>
          obtain ⟨as', ρ2, l'⟩ := q
          rw [e4] at h
          have h : some (as', ρ2, bkAdd bo acc.length l') = some (as, ρ', l) := h
          simp only [Option.some.injEq, Prod.mk.injEq] at h
          obtain ⟨q1, q2, q3⟩ := h
          subst q1 q2 q3
          have q := ih e4
          rw [List.length_append] at q
          have h1 : ([s] : List Sl).length = 1 := rfl
          cases bo with
          | none => exact ⟨q.1, fun p hp => by have := q.2 p hp; omega⟩
          | some i =>
            refine ⟨?_, fun p hp => ?_⟩
            · show (acc.length :: l'.map (·.1)).Nodup
              rw [List.nodup_cons]
              refine ⟨fun z => ?_, q.1⟩
              obtain ⟨p, hp, e⟩ := List.mem_map.mp z
              have := q.2 p hp
              omega
            · rcases List.mem_cons.mp hp with z | z
              · rw [z]
                exact Nat.le_refl _
              · have := q.2 p z
                omega

abbrev Fn := List Sl → R (Vl × List Sl)
structure ResF (K : PySem.W.Frag) (B H : Hp) (vs : List V) (f : Fps) (v : V) (r : Vl) (args' : List Sl) (B' H' : Hp) (f' : Fps) (g : List Addr) : Prop where
  rel : Rel K B' H' (vs.map some) args' f'
  val : VlOk K B' H' [] v r g
  off : ∀ a ∈ g, B' a = none ∧ ¬ Owned f' a
  frm : Frm B H (Owned f) B' H' (fun a => Owned f' a ∨ a ∈ g)
def spM (K : PySem.W.Frag) (ct : Ct) (F : Fn) : Sp := fun vs H Q E => ∃ (B : Hp) (args : List Sl) (f : Fps), Rel K B H (vs.map some) args f ∧ Post ct E H f (F args) (fun p => ∀ v B' H' f' g, ResF K B H vs f v p.1 p.2 B' H' f' g → Q v H')
def xCall (bs : List Bool) (F : Fn) (m : MA) : MX := fun ρ => R.bind (m ρ) fun a => rdO (takeArgs bs a.1 a.2 []) fun w => R.bind (F w.1) fun p => .ok (p.1, giveBack w.2.2 p.2 w.2.1)
theorem Rel.nil (e : Ex B H) (hp : NoE B) : Rel K B H (([] : List V).map some) [] (fun _ => []) := ⟨rfl, e, hp, fun i s q => by simp at q, fun _ _ => rfl, fun _ _ _ h => (nomatch h), fun _ _ h => (nomatch h)⟩
theorem im_call {bs : List Bool} {F : Fn} {t : TA} {m : MA} (ha : ImpA K ct E t m) : Imp K ct E (tCall (spM K ct F) [] E t) (xCall bs F m) := by
  intro B H σ ρ f0 Q R h
  refine ha B H σ ρ f0 _ R (h.first fun a ea h vs B1 H1 f1 g x => ?_)
  obtain ⟨w, e1, h⟩ := h.get
  obtain ⟨as, ρ1, l⟩ := w
  have W0 : Way K B1 H1 σ a.2 f1 [] [] (fun _ => []) := ⟨x.rel, Rel.nil x.rel.ex x.rel.pl, fun a ⟨i, z⟩ => (nomatch z)⟩
  obtain ⟨B2, f2, fa, W, fr, bk, len⟩ := takeArgs_ok W0 x.val (fun a ha => ⟨(x.off a ha).1, (x.off a ha).2, fun ⟨i, z⟩ => (nomatch z)⟩) e1
  rw [List.nil_append] at W bk
  have frA : Frm B H (Owned f0) B2 H1 (fun a => Owned f2 a ∨ Owned fa a) := x.frm.trans ⟨fr.bb, fun a o q m => fr.keep a o q fun z => m (by
      rcases z with (z | ⟨i, z⟩) | z
      · exact .inl z
      · exact (nomatch z)
      · exact .inr z), fun a q1 q2 m => fr.off a q1 q2 fun z => m (by
      rcases z with (z | ⟨i, z⟩) | z
      · exact .inl z
      · exact (nomatch z)
      · exact .inr z), fun a z => by
      rcases fr.own a z with ((z | ⟨i, z⟩) | z) | z
      · exact .inl (.inl z)
      · exact (nomatch z)
      · exact .inl (.inr z)
      · exact .inr z, fr.dom⟩
  show spM K ct F (vs ++ []) H1 Q E
  rw [List.append_nil]
  refine ⟨B2, as, fa, W.arg, h.step frA (fun _ z => .inr z) fun p ep h v B3 H3 f3 k y => ?_⟩
  have R3 : Rel K B3 H3 σ ρ1 f2 := W.rel.frm y.frm y.rel.ex y.rel.pl fun a z q => W.apart a q z
  obtain ⟨f4, R4, o4⟩ := giveBack_ok (l := l) R3 y.rel (fun a j i _ ha z => by
    obtain ⟨q, hq⟩ := z
    exact y.frm.apart (W.rel.off q a hq).2 (fun z => W.apart a z ⟨q, hq⟩) (.inl ⟨j, ha⟩)) bk (takeArgs_keys e1).1
  have fin : Frm B H (Owned f0) B3 H3 (fun a => Owned f4 a ∨ a ∈ k) := frA.trans (((y.frm.side (Owned f2)).pre (fun a z => z.symm) fun a z => z.symm).to fun a z => by
    rcases z with z | z
    · rcases o4 a z with z | z
      · exact .inl (.inr z)
      · exact .inl (.inl (.inl z))
    · exact .inl (.inl (.inr z)))
  refine h v B3 H3 f4 k ⟨R4, y.val.any, fun a ha => ⟨(y.off a ha).1, fun z => ?_⟩, fin⟩
  rcases o4 a z with ⟨q, hq⟩ | z
  · exact y.frm.apart (W.rel.off q a hq).2 (fun z => W.apart a z ⟨q, hq⟩) (.inr ha)
  · exact (y.off a ha).2 z
def maskA (fix : Nat → Bool) (n : Nat) (ρ : Env) : List Sl := (List.range n).map fun i => if fix i = true then ρ[i]?.getD .emp else .emp
def runB (fix : Nat → Bool) (nl : Nat) (m : MS) : Fn := fun args => R.bind (m (args ++ List.replicate nl .emp)) fun o => match o with
  | .nx ρ => .ok (.sh .non, maskA fix args.length ρ)
  | .rt r ρ => .ok (r, maskA fix args.length ρ)
  | _ => .bad
theorem Rel.body {vs : List V} {args : List Sl} {N : List Str} (R : Rel K B H (vs.map some) args f0) {nl : Nat} (hN : N.length = args.length + nl) : Rel K B H (L2.start N vs) (args ++ List.replicate nl .emp) f0 where
  len := by
    have := R.len
    rw [List.length_map] at this
    unfold L2.start
    rw [List.length_append, List.length_append, List.length_map, List.length_replicate, List.length_replicate, this]
    omega
  ex := R.ex
  pl := R.pl
  ok := fun i s q => by
    have la : (vs.map some).length = args.length := R.len
    by_cases hi : i < args.length
    · rw [List.getElem?_append_left hi] at q
      unfold L2.start
      rw [List.getElem?_append_left (by rw [la]; exact hi)]
      exact R.ok i s q
    · rw [List.getElem?_append_right (by omega), List.getElem?_replicate] at q
      split at q
      · cases q
        exact R.out i (List.getElem?_eq_none (by omega))
      · cases q
  out := fun i q => R.out i (by
    rw [List.getElem?_eq_none_iff, List.length_append] at q
    exact List.getElem?_eq_none (by omega))
  dis := R.dis
  off := R.off
theorem Rel.mask {vs : List V} {args : List Sl} {N : List Str} {σ' : L2.St} {ρ' : Env} (la : vs.length = args.length) (R : Rel K B H σ' ρ' f0) (fx : ∀ i, fix i = true → σ'[i]? = (L2.start N vs)[i]?) :
    Rel K B H (vs.map some) (maskA fix args.length ρ') (fun i => if i < args.length ∧ fix i = true then f0 i else []) where
  len := by unfold maskA; rw [List.length_map, List.length_map, List.length_range, la]
  ex := R.ex
  pl := R.pl
  ok := fun i s q => by
    unfold maskA at q
    rw [List.getElem?_map] at q
    by_cases hi : i < args.length
    · rw [List.getElem?_range hi] at q
      by_cases hf : fix i = true
      · have q : some (if fix i = true then ρ'[i]?.getD .emp else .emp) = some s := q
        rw [if_pos hf] at q
        rw [if_pos ⟨hi, hf⟩]
        have e2 : (vs.map some)[i]? = σ'[i]? := by
          rw [fx i hf]
          unfold L2.start
          rw [List.getElem?_append_left (by rw [List.length_map, la]; exact hi)]
        rw [e2]
        cases e : ρ'[i]? with
        | none =>
          rw [e] at q
          cases q
          exact R.out i e
        | some t =>
          rw [e] at q
          have q : t = s := Option.some.inj q
          subst q
          exact R.ok i t e
      · have q : some (if fix i = true then ρ'[i]?.getD .emp else .emp) = some s := q
        rw [if_neg hf] at q
        cases q
        exact if_neg (fun z => hf z.2)
    · rw [List.getElem?_eq_none (by rw [List.length_range]; omega)] at q
      cases q
  out := fun i q => by
    unfold maskA at q
    rw [List.getElem?_eq_none_iff, List.length_map, List.length_range] at q
    exact if_neg (fun z => by omega)
  dis := fun i j a h1 h2 => by
    by_cases z1 : i < args.length ∧ fix i = true
    · by_cases z2 : j < args.length ∧ fix j = true
      · rw [if_pos z1] at h1
        rw [if_pos z2] at h2
        exact R.dis i j a h1 h2
      · rw [if_neg z2] at h2
        exact (nomatch h2)
    · rw [if_neg z1] at h1
      exact (nomatch h1)
  off := fun i a h => by
    by_cases z1 : i < args.length ∧ fix i = true
    · rw [if_pos z1] at h
      exact R.off i a h
    · rw [if_neg z1] at h
      exact (nomatch h)
theorem owned_mask {n : Nat} {a : Addr} (h : Owned (fun i => if i < n ∧ fix i = true then f0 i else []) a) : Owned f0 a := by
  obtain ⟨i, hi⟩ := h
  have hi : a ∈ (if i < n ∧ fix i = true then f0 i else []) := hi
  split at hi
  · exact ⟨i, hi⟩
  · exact (nomatch hi)
def runF (fix : Nat → Bool) (np nl : Nat) (m : MS) : Fn := fun as => if as.length = np then runB fix nl m as else .bad
theorem fn_body {N : List Str} {nl np : Nat} {t : TS} {m : MS} {vs : List V} {Q : VK} (hm : ImpS K ct E fix t m) (hN : N.length = np + nl) (h : spM K ct (runF fix np nl m) vs H Q E) :
    t { nx := fun _ H' => Q .non H', rt := Q } (L2.start N vs) H := by
  obtain ⟨B, args, f, R, h⟩ := h
  have h : Post ct E H f (if args.length = np then runB fix nl m args else .bad) _ := h
  by_cases hl : args.length = np
  · rw [if_pos hl] at h
    have la : vs.length = args.length := by
      have := R.len
      rw [List.length_map] at this
      exact this
    refine hm B H _ _ f _ (R.body (nl := nl) (by rw [hN, hl])) (h.first fun o eo h => ?_)
    cases o with
    | nx ρ' => exact fun σ' B' H' f' x => h .non B' H' _ [] ⟨x.rel.mask la x.fxd, ⟨rfl, _, rfl, .non⟩, fun _ z => (nomatch z), x.frm.to fun a z => by
        rcases z with z | z
        · exact .inl (owned_mask z)
        · exact (nomatch z)⟩
    | rt r ρ' => exact fun v σ' B' H' f' g x => h v B' H' _ g ⟨x.rel.mask la x.fxd, x.val, fun a ha => ⟨(x.off a ha).1, fun z => (x.off a ha).2 (owned_mask z)⟩, x.frm.to fun a z => by
        rcases z with z | z
        · exact .inl (.inl (owned_mask z))
        · exact .inl (.inr z)⟩
    | bk ρ' => exact h.elim
    | ct ρ' => exact h.elim
  · rw [if_neg hl] at h
    exact h.elim
theorem runF_len {np nl : Nat} {m : MS} (as : List Sl) (h : as.length ≠ np) : runF fix np nl m as = .bad := if_neg h
theorem sp_len {np : Nat} {F : Fn} {vs : List V} {Q : VK} (hF : ∀ as, as.length ≠ np → F as = .bad) (h : spM K ct F vs H Q E) : vs.length = np := by
  obtain ⟨B, args, f, R, h⟩ := h
  have := R.len
  rw [List.length_map] at this
  rw [this]
  apply Classical.byContradiction
  intro z
  rw [hF args z] at h
  exact h.elim
end
end DL
end
section
set_option maxRecDepth 100000
set_option maxHeartbeats 2000000
namespace DL
open PySem PySem.Spec PyProof.Rows L2
open Evl (Ex ex_rd ex_l ex_t)
section
variable {K : PySem.W.Frag} {B H : Hp} {X : Cx}

def gInt (C : Int → Int → Bool) (g : Int → Int → Int) : D → D → Option Vl
  | .int i, .int j => if C i j = true then some (.sh (.int (g i j))) else none
  | _, _ => none
theorem gi_int {C : Int → Int → Prop} {C' : Int → Int → Bool} {g : Int → Int → Int} (hC : ∀ i j, C' i j = true → C i j) : OpI K (rI C fun i j => .int (g i j)) (gInt C' g) := by
  intro B H x y dx dy z e hx hy h Q q
  cases dx <;> first | (cases h; done) | skip
  cases dy <;> first | (cases h; done) | skip
  rename_i i j
  have h : (if C' i j = true then some (Vl.sh (D.int (g i j))) else none) = some z := h
  by_cases hc : C' i j = true
  · rw [if_pos hc] at h
    cases h
    cases hx
    cases hy
    exact ⟨i, j, rfl, rfl, hC i j hc, q _ _ _ _ (New.sc e (.int _))⟩
  · rw [if_neg hc] at h
    cases h
def yes2 (_ _ : Int) : Bool := true
theorem gi_int0 {g : Int → Int → Int} : OpI K (rI0 fun i j => .int (g i j)) (gInt yes2 g) := by
  intro B H x y dx dy z e hx hy h Q q
  cases dx <;> first | (cases h; done) | skip
  cases dy <;> first | (cases h; done) | skip
  rename_i i j
  cases h
  cases hx
  cases hy
  exact ⟨i, j, rfl, rfl, q _ _ _ _ (New.sc e (.int _))⟩
def gAddS : D → D → Option Vl
  | .str a, .str b => if szOk (a.length + b.length) = true then some (.sh (.str (a ++ b))) else none
  | _, _ => none
theorem gi_addS : OpI K (fun x y H Q => ∃ i j, x = .str i ∧ y = .str j ∧ i.length + j.length ≤ sizeLine ∧ Q (.str (i ++ j)) H) gAddS := by
  intro B H x y dx dy z e hx hy h Q q
  cases dx <;> first | (cases h; done) | skip
  cases dy <;> first | (cases h; done) | skip
  rename_i i j
  have h : (if szOk (i.length + j.length) = true then some (Vl.sh (D.str (i ++ j))) else none) = some z := h
  by_cases hc : szOk (i.length + j.length) = true
  · rw [if_pos hc] at h
    cases h
    cases hx
    cases hy
    exact ⟨i, j, rfl, rfl, szOk_le hc, q _ _ _ _ (New.sc e (.str _))⟩
  · rw [if_neg hc] at h
    cases h
def gAddT : D → D → Option Vl
  | .tup a, .tup b => if szOk (a.length + b.length) = true then some (.sh (.tup (a ++ b))) else none
  | _, _ => none
theorem DVs.nil_iff {vs : List V} {ds : List D} (h : DVs K B vs ds) : vs = [] ↔ ds = [] := by
  cases h <;> simp
theorem gi_addT : OpI K (rCatA K) gAddT := by
  intro B H x y dx dy z e hx hy h Q q
  cases dx <;> first | (cases h; done) | skip
  cases dy <;> first | (cases h; done) | skip
  rename_i i j
  have h : (if szOk (i.length + j.length) = true then some (Vl.sh (D.tup (i ++ j))) else none) = some z := h
  by_cases hc : szOk (i.length + j.length) = true
  · rw [if_pos hc] at h
    cases h
    cases hx with
    | tup a1 a2 =>
    cases hy with
    | tup b1 b2 =>
    refine ⟨_, _, _, _, rfl, rfl, ex_t e a1, ex_t e b1, by rw [a2.len, b2.len]; exact szOk_le hc, fun z => ?_, fun _ z => ?_, fun _ _ p hp => ?_⟩
    · have k := (a2.nil_iff).mp z
      subst k
      exact q _ _ _ _ (New.sc e (.tup b1 b2))
    · have k := (b2.nil_iff).mp z
      subst k
      exact q _ _ _ _ (New.sc e (by rw [List.append_nil]; exact .tup a1 a2))
    · exact q _ _ _ _ (New.tup e hp (a2.app b2))
  · rw [if_neg hc] at h
    cases h
def gAddL : D → D → Option Vl
  | .lst a, .lst b => if szOk (a.length + b.length) = true then some (.own (a ++ b)) else none
  | _, _ => none
theorem gi_addL : OpI K rCat gAddL := by
  intro B H x y dx dy z e hx hy h Q q
  cases dx <;> first | (cases h; done) | skip
  cases dy <;> first | (cases h; done) | skip
  rename_i i j
  have h : (if szOk (i.length + j.length) = true then some (Vl.own (i ++ j)) else none) = some z := h
  by_cases hc : szOk (i.length + j.length) = true
  · rw [if_pos hc] at h
    cases h
    obtain ⟨p, xs, e1, a1, a2⟩ := hx
    obtain ⟨p', ys, e2, b1, b2⟩ := hy
    subst e1 e2
    exact ⟨p, p', xs, ys, rfl, rfl, a1, b1, by rw [a2.len, b2.len]; exact szOk_le hc, fun l hl => q _ _ _ _ (New.lst e hl (a2.app b2))⟩
  · rw [if_neg hc] at h
    cases h
def rAdds (K : PySem.W.Frag) : R2 := fun x y H Q => rI0 (fun i j => .int (i + j)) x y H Q ∨ (fun x y H Q => (fun x y H Q => ∃ i j, x = .str i ∧ y = .str j ∧ i.length + j.length ≤ sizeLine ∧ Q (.str (i ++ j)) H : R2) x y H Q ∨ (fun x y H Q => rCatA K x y H Q ∨ rCat x y H Q : R2) x y H Q : R2) x y H Q
theorem op_adds : OpR X (binaryOp .Add) (rAdds X.K) := OpR.or op_add (OpR.or op_add_str (OpR.or op_catA op_cat))
def gAdd : D → D → Option Vl := fun a b => (gInt yes2 (fun i j => i + j) a b).or ((gAddS a b).or ((gAddT a b).or (gAddL a b)))
theorem gi_add : OpI K (rAdds K) gAdd := OpI.or gi_int0 (OpI.or gi_addS (OpI.or gi_addT gi_addL))
theorem op_subs : OpR X (binaryOp .Sub) (rI0 fun i j => .int (i - j)) := op_sub
def gSub : D → D → Option Vl := gInt yes2 fun i j => i - j
theorem gi_sub : OpI K (rI0 fun i j => .int (i - j)) gSub := gi_int0
def cMul (i j : Int) : Bool := decide (i.natAbs.log2 + j.natAbs.log2 < 1000000)
def gRepL : D → D → Option Vl
  | .lst a, .int k => if (smallI k && szOk (a.length * k.toNat)) = true then some (.own (List.replicate k.toNat a).flatten) else none
  | _, _ => none
theorem DVs.reps {vs : List V} {ds : List D} (h : DVs K B vs ds) : ∀ n : Nat, DVs K B (List.replicate n vs).flatten (List.replicate n ds).flatten
  | 0 => .nil
  | n + 1 => by
    rw [List.replicate_succ, List.replicate_succ, List.flatten_cons, List.flatten_cons]
    exact h.app (DVs.reps h n)
theorem gi_repL : OpI K rRep gRepL := by
  intro B H x y dx dy z e hx hy h Q q
  cases dx <;> first | (cases h; done) | skip
  cases dy <;> first | (cases h; done) | skip
  rename_i i j
  have h : (if (smallI j && szOk (i.length * j.toNat)) = true then some (Vl.own (List.replicate j.toNat i).flatten) else none) = some z := h
  by_cases hc : (smallI j && szOk (i.length * j.toNat)) = true
  · rw [if_pos hc] at h
    cases h
    obtain ⟨p, xs, e1, a1, a2⟩ := hx
    subst e1
    cases hy
    rw [Bool.and_eq_true] at hc
    have := smallI_iff hc.1
    exact ⟨p, j, xs, rfl, rfl, a1, by omega, by omega, by rw [a2.len]; exact szOk_le hc.2, fun l hl => q _ _ _ _ (New.lst e hl (a2.reps _))⟩
  · rw [if_neg hc] at h
    cases h
def gRepT : D → D → Option Vl
  | .tup a, .int k => if (!a.isEmpty && decide (2 ≤ k) && decide (k ≤ 1000) && decide (a.length ≤ 1000)) = true then some (.sh (.tup (List.replicate k.toNat a).flatten)) else none
  | _, _ => none
theorem gi_repT : OpI K (rRepT K) gRepT := by
  intro B H x y dx dy z e hx hy h Q q
  cases dx <;> first | (cases h; done) | skip
  cases dy <;> first | (cases h; done) | skip
  rename_i i j
  have h : (if (!i.isEmpty && decide (2 ≤ j) && decide (j ≤ 1000) && decide (i.length ≤ 1000)) = true then some (Vl.sh (D.tup (List.replicate j.toNat i).flatten)) else none) = some z := h
  by_cases hc : (!i.isEmpty && decide (2 ≤ j) && decide (j ≤ 1000) && decide (i.length ≤ 1000)) = true
  · rw [if_pos hc] at h
    cases h
    cases hx with
    | tup a1 a2 =>
    cases hy
    simp only [Bool.and_eq_true, decide_eq_true_eq, Bool.not_eq_true'] at hc
    obtain ⟨⟨⟨h1, h2⟩, h3⟩, h4⟩ := hc
    refine ⟨_, j, _, rfl, rfl, ex_t e a1, fun z => ?_, h2, h3, by rw [a2.len]; exact h4, fun l hl => q _ _ _ _ (New.tup e hl (a2.reps _))⟩
    rw [(a2.nil_iff).mp z] at h1
    cases h1
  · rw [if_neg hc] at h
    cases h
def rMuls (K : PySem.W.Frag) : R2 := fun x y H Q => rI CMulW (fun i j => .int (i * j)) x y H Q ∨ (fun x y H Q => rRep x y H Q ∨ rRepT K x y H Q : R2) x y H Q
theorem op_muls : OpR X (binaryOp .Mult) (rMuls X.K) := OpR.or op_mulW (OpR.or op_rep op_repT)
def gMul : D → D → Option Vl := fun a b => (gInt cMul (fun i j => i * j) a b).or ((gRepL a b).or (gRepT a b))
theorem gi_mul : OpI K (rMuls K) gMul := OpI.or (gi_int fun i j (h : cMul i j = true) => show i.natAbs.log2 + j.natAbs.log2 < 1000000 from of_decide_eq_true h) (OpI.or gi_repL gi_repT)
def cDiv (_ j : Int) : Bool := decide (0 < j ∧ j < 1073741824)
def gFdiv : D → D → Option Vl := gInt cDiv fun i j => i / j
theorem gi_fdiv : OpI K (rI CDiv fun i j => .int (i / j)) gFdiv := gi_int fun i j (h : cDiv i j = true) => show 0 < j ∧ j < 1073741824 from of_decide_eq_true h
def cMod (_ j : Int) : Bool := decide (0 < j)
def gMod : D → D → Option Vl := gInt cMod fun i j => i % j
theorem gi_mod : OpI K (rI (fun _ j => 0 < j) fun i j => .int (i % j)) gMod := gi_int fun i j (h : cMod i j = true) => show 0 < j from of_decide_eq_true h
def cPow (i j : Int) : Bool := decide (0 ≤ j ∧ j ≤ 1000 ∧ i.natAbs < 2 ^ 64)
def gPow : D → D → Option Vl := gInt cPow fun i j => i ^ j.toNat
theorem gi_pow : OpI K (rI CPow fun i j => .int (i ^ j.toNat)) gPow := gi_int fun i j (h : cPow i j = true) => by
  have h : 0 ≤ j ∧ j ≤ 1000 ∧ i.natAbs < 2 ^ 64 := of_decide_eq_true h
  exact ⟨h.1, by omega, h.2.2⟩
def gNeg : D → Option Vl
  | .int i => some (.sh (.int (-i)))
  | _ => none
theorem gi_neg : UnI K (rU fun i => .int (-i)) gNeg := by
  intro B H x dx z e hx h Q q
  cases dx <;> first | (cases h; done) | skip
  cases h
  cases hx
  exact ⟨_, rfl, q _ _ _ _ (New.sc e (.int _))⟩
def gAugAdd : D → D → Option Vl := gInt yes2 fun i j => i + j
theorem gi_augAdd : OpI K (ipI fun i j => i + j) gAugAdd := gi_int0
def gAugSub : D → D → Option Vl := gInt yes2 fun i j => i - j
theorem gi_augSub : OpI K (ipI fun i j => i - j) gAugSub := gi_int0

def cmpI (g : Int → Int → Bool) : D → D → Option Bool
  | .int i, .int j => some (g i j)
  | _, _ => none
theorem ci_int {g : Int → Int → Bool} : CmpI K (rI0 fun i j => .bl (g i j)) (cmpI g) := by
  intro B H x y dx dy b e hx hy h Q q
  cases dx <;> first | (cases h; done) | skip
  cases dy <;> first | (cases h; done) | skip
  cases h
  cases hx
  cases hy
  exact ⟨_, _, rfl, rfl, q⟩
def cmpS (g : Str → Str → Bool) : D → D → Option Bool
  | .str i, .str j => some (g i j)
  | _, _ => none
theorem ci_str {g : Str → Str → Bool} : CmpI K (fun x y H Q => ∃ i j, x = .str i ∧ y = .str j ∧ Q (.bl (g i j)) H) (cmpS g) := by
  intro B H x y dx dy b e hx hy h Q q
  cases dx <;> first | (cases h; done) | skip
  cases dy <;> first | (cases h; done) | skip
  cases h
  cases hx
  cases hy
  exact ⟨_, _, rfl, rfl, q⟩
def rLts : R2 := fun x y H Q => rI0 (fun i j => .bl (decide (i < j))) x y H Q ∨ (fun x y H Q => ∃ i j, x = .str i ∧ y = .str j ∧ Q (.bl (decide (i.cps.toList < j.cps.toList))) H : R2) x y H Q
theorem op_lts : OpR X (compareOp .Lt) rLts := OpR.or op_lt op_lt_str
def gLt : D → D → Option Bool := fun a b => (cmpI (fun i j => decide (i < j)) a b).or (cmpS (fun i j => decide (i.cps.toList < j.cps.toList)) a b)
theorem ci_lt : CmpI K rLts gLt := CmpI.or ci_int ci_str
def rLes : R2 := fun x y H Q => rI0 (fun i j => .bl (decide (i ≤ j))) x y H Q ∨ (fun x y H Q => ∃ i j, x = .str i ∧ y = .str j ∧ Q (.bl (!decide (j.cps.toList < i.cps.toList))) H : R2) x y H Q
theorem op_les : OpR X (compareOp .LtE) rLes := OpR.or op_le op_le_str
def gLe : D → D → Option Bool := fun a b => (cmpI (fun i j => decide (i ≤ j)) a b).or (cmpS (fun i j => !decide (j.cps.toList < i.cps.toList)) a b)
theorem ci_le : CmpI K rLes gLe := CmpI.or ci_int ci_str
def rGts : R2 := rI0 fun i j => .bl (decide (j < i))
theorem op_gts : OpR X (compareOp .Gt) rGts := op_gt
def gGt : D → D → Option Bool := cmpI fun i j => decide (j < i)
theorem ci_gt : CmpI K rGts gGt := ci_int
def rGes : R2 := rI0 fun i j => .bl (decide (j ≤ i))
theorem op_ges : OpR X (compareOp .GtE) rGes := op_ge
def gGe : D → D → Option Bool := cmpI fun i j => decide (j ≤ i)
theorem ci_ge : CmpI K rGes gGe := ci_int
mutual
def pyd : D → Option PyData
  | .non => some .none
  | .bl b => some (.bool b)
  | .int i => some (.int i)
  | .str s => some (.str s)
  | .tup l => (pyds l).bind fun l => some (.tuple l)
  | .lst l => (pyds l).bind fun l => some (.list l)
  | _ => none
def pyds : List D → Option (List PyData)
  | [] => some []
  | d :: ds => (pyd d).bind fun p => (pyds ds).bind fun ps => some (p :: ps)
end
mutual
theorem DV.dp (e : Ex B H) : ∀ {v : V} {d : D} {p : PyData}, DV K B v d → pyd d = some p → Dp K H v p
  | _, _, p, .non, h => by unfold pyd at h; cases h; exact .non
  | _, _, p, .bl b, h => by unfold pyd at h; cases h; exact .bl b
  | _, _, p, .int b, h => by unfold pyd at h; cases h; exact .int b
  | _, _, p, .str b, h => by unfold pyd at h; cases h; exact .str b
  | _, _, p, .ref b, h => by unfold pyd at h; cases h
  | _, _, p, .edc _, h => by unfold pyd at h; cases h
  | _, _, p, .ty b, h => by unfold pyd at h; cases h
  | _, _, p, .scr b, h => by unfold pyd at h; cases h
  | _, _, p, .tup (ds := ds) h1 h2, h => by
    unfold pyd at h
    cases e1 : pyds ds with
    | none => rw [e1] at h; cases h
    | some l =>
      rw [e1] at h
      cases h
      exact .tup (ex_t e h1) (DVs.dp e h2 e1)
  | _, _, p, .lst (ds := ds) h1 h2, h => by
    unfold pyd at h
    cases e1 : pyds ds with
    | none => rw [e1] at h; cases h
    | some l =>
      rw [e1] at h
      cases h
      exact .lst (SqL.of (e _ _ h1)) (DVs.dp e h2 e1)
theorem DVs.dp (e : Ex B H) : ∀ {vs : List V} {ds : List D} {ps : List PyData}, DVs K B vs ds → pyds ds = some ps → DpAll K H vs ps
  | _, _, ps, .nil, h => by unfold pyds at h; cases h; exact .nil
  | _, _, ps, .cons (d := d) (ds := ds) h1 h2, h => by
    unfold pyds at h
    cases e1 : pyd d with
    | none => rw [e1] at h; cases h
    | some p =>
      rw [e1] at h
      cases e2 : pyds ds with
      | none => rw [e2] at h; cases h
      | some l =>
        rw [e2] at h
        cases h
        exact .cons (DV.dp e h1 e1) (DVs.dp e h2 e2)
end
theorem RdV.dp {v : V} {d : D} {p : PyData} (e : Ex B H) (h : RdV K B H v d) (hp : pyd d = some p) : Dp K H v p := by
  cases d with
  | lst ds =>
    obtain ⟨q, xs, e1, h1, h2⟩ := h
    subst e1
    unfold pyd at hp
    cases e2 : pyds ds with
    | none => rw [e2] at hp; cases hp
    | some l =>
      rw [e2] at hp
      cases hp
      exact .lst (SqL.of h1) (h2.dp e e2)
  | _ => exact DV.dp e h hp
def eqS : D → D → Option Bool
  | .non, .non => some true
  | .non, .int _ => some false
  | .int _, .non => some false
  | .int i, .int j => some (decide (i = j))
  | .bl i, .bl j => some (decide (i = j))
  | .str i, .str j => some (decide (i = j))
  | .int _, .str _ => some false
  | .str _, .int _ => some false
  | .non, .str _ => some false
  | .str _, .non => some false
  | _, _ => none
theorem dec_v {α : Type} [DecidableEq α] {f : α → V} (hf : ∀ a b, f a = f b → a = b) {a b : α} : decide (f a = f b) = decide (a = b) := by
  by_cases h : a = b
  · subst h; simp
  · rw [decide_eq_false h, decide_eq_false fun z => h (hf _ _ z)]
theorem eqS_ok {x y : V} {dx dy : D} {b : Bool} (hx : RdV K B H x dx) (hy : RdV K B H y dy) (h : eqS dx dy = some b) : scal x y = true ∧ decide (x = y) = b := by
  cases dx <;> cases dy <;> first | (cases h; done) | skip
  all_goals (cases h; cases hx; cases hy; first | exact ⟨rfl, rfl⟩ | exact ⟨rfl, dec_v fun _ _ z => by cases z; rfl⟩)
theorem ci_eqS : CmpI K rEq eqS := fun B H x y dx dy b e hx hy h Q q => by
  obtain ⟨h1, h2⟩ := eqS_ok hx hy h
  exact ⟨h1, by rw [h2]; exact q⟩
theorem ci_neS : CmpI K rNe (fun a b => (eqS a b).map (!·)) := fun B H x y dx dy b e hx hy h Q q => by
  cases e1 : eqS dx dy with
  | none => simp [e1] at h
  | some k =>
    simp [e1] at h
    obtain ⟨h1, h2⟩ := eqS_ok hx hy e1
    exact ⟨h1, by rw [h2, h, Bool.not_not]; exact q⟩
def eqP (p q : PyData) : Option Bool := if (SeqAt.shaped p && SeqAt.shaped q) = true then some (PyData.eqv p q) else none
def eqD (a b : D) : Option Bool := (pyd a).bind fun p => (pyd b).bind fun q => eqP p q
theorem eqD_ok {x y : V} {dx dy : D} {b : Bool} (e : Ex B H) (hx : RdV K B H x dx) (hy : RdV K B H y dy) (h : eqD dx dy = some b) : ∃ p q, Dp K H x p ∧ Dp K H y q ∧ SeqAt.shaped p = true ∧ SeqAt.shaped q = true ∧ PyData.eqv p q = b := by
  unfold eqD at h
  cases e1 : pyd dx with
  | none => rw [e1] at h; cases h
  | some p =>
    rw [e1] at h
    cases e2 : pyd dy with
    | none => rw [e2] at h; cases h
    | some q =>
      rw [e2] at h
      have h : (if (SeqAt.shaped p && SeqAt.shaped q) = true then some (PyData.eqv p q) else none) = some b := h
      by_cases hc : (SeqAt.shaped p && SeqAt.shaped q) = true
      · rw [if_pos hc] at h
        cases h
        rw [Bool.and_eq_true] at hc
        exact ⟨p, q, hx.dp e e1, hy.dp e e2, hc.1, hc.2, rfl⟩
      · rw [if_neg hc] at h
        cases h
theorem ci_eqD : CmpI K (rEqD K) eqD := fun B H x y dx dy b e hx hy h Q q => by
  obtain ⟨p, p', h1, h2, h3, h4, h5⟩ := eqD_ok e hx hy h
  exact ⟨p, p', h1, h2, h3, h4, by rw [h5]; exact q⟩
theorem ci_neD : CmpI K (rNeD K) (fun a b => (eqD a b).map (!·)) := fun B H x y dx dy b e hx hy h Q q => by
  cases e1 : eqD dx dy with
  | none => simp [e1] at h
  | some k =>
    simp [e1] at h
    obtain ⟨p, p', h1, h2, h3, h4, h5⟩ := eqD_ok e hx hy e1
    exact ⟨p, p', h1, h2, h3, h4, by rw [h5, h, Bool.not_not]; exact q⟩
def rEqs (K : PySem.W.Frag) : R2 := fun x y H Q => rEq x y H Q ∨ rEqD K x y H Q
theorem op_eqs (hu : X.A.units + 64 < cLine) : OpR X (compareOp .Eq) (rEqs X.K) := OpR.or op_eq (op_eqD hu)
def gEq : D → D → Option Bool := fun a b => (eqS a b).or (eqD a b)
theorem ci_eq : CmpI K (rEqs K) gEq := CmpI.or ci_eqS ci_eqD
def rNes (K : PySem.W.Frag) : R2 := fun x y H Q => rNe x y H Q ∨ rNeD K x y H Q
theorem op_nes (hu : X.A.units + 64 < cLine) : OpR X (compareOp .NotEq) (rNes X.K) := OpR.or op_ne (op_neD hu)
def gNe : D → D → Option Bool := fun a b => ((eqS a b).map (!·)).or ((eqD a b).map (!·))
theorem ci_ne : CmpI K (rNes K) gNe := CmpI.or ci_neS ci_neD
def isNonD : D → Bool
  | .non => true
  | _ => false
theorem RdV.isNon {x : V} {dx : D} (h : RdV K B H x dx) : decide (x = .non) = isNonD dx := by
  cases dx with
  | lst l =>
    obtain ⟨p, xs, e, _⟩ := h
    subst e
    rfl
  | _ => cases h <;> rfl
def gIsN : D → D → Option Bool
  | a, .non => some (isNonD a)
  | _, _ => none
theorem ci_isN : CmpI K (fun x y H Q => y = .non ∧ Q (.bl (decide (x = .non))) H) gIsN := fun B H x y dx dy b e hx hy h Q q => by
  cases dy <;> first | (cases h; done) | skip
  cases h
  cases hy
  exact ⟨rfl, by rw [hx.isNon]; exact q⟩
def gNotN : D → D → Option Bool
  | a, .non => some (!isNonD a)
  | _, _ => none
theorem ci_notN : CmpI K (fun x y H Q => y = .non ∧ Q (.bl (!decide (x = .non))) H) gNotN := fun B H x y dx dy b e hx hy h Q q => by
  cases dy <;> first | (cases h; done) | skip
  cases h
  cases hy
  exact ⟨rfl, by rw [hx.isNon]; exact q⟩
def flatD : D → Bool
  | .non => true
  | .bl _ => true
  | .int _ => true
  | .str _ => true
  | _ => false
def eqF : D → D → Bool
  | .non, .non => true
  | .bl a, .bl b => a == b
  | .bl a, .int b => (if a then 1 else 0) == b
  | .int a, .bl b => a == (if b then 1 else 0)
  | .int a, .int b => a == b
  | .str a, .str b => a == b
  | _, _ => false
theorem DV.flat {v : V} {d : D} (h : DV K B v d) (hf : flatD d = true) : flatV v = true := by
  cases h <;> first | rfl | cases hf
theorem DV.eqF {v w : V} {d e : D} (h : DV K B v d) (k : DV K B w e) (hd : flatD d = true) (he : flatD e = true) : eqV v w = DL.eqF d e := by
  cases h <;> first | (cases hd; done) | skip
  all_goals (cases k <;> first | (cases he; done) | rfl)
def itemsFlat : D → Option (List D)
  | .lst l => if l.all flatD = true then some l else none
  | .tup l => if l.all flatD = true then some l else none
  | _ => none
def gIn (neg : Bool) : D → D → Option Bool := fun x s => if flatD x = true then (itemsFlat s).map fun l => if neg then !(l.any fun y => eqF y x) else l.any fun y => eqF y x else none
theorem DVs.flats : ∀ {vs : List V} {ds : List D}, DVs K B vs ds → ds.all flatD = true → vs.all flatV = true
  | _, _, .nil, _ => rfl
  | _, _, .cons h r, e => by
    rw [List.all_cons, Bool.and_eq_true] at e ⊢
    exact ⟨h.flat e.1, DVs.flats r e.2⟩
theorem DVs.anyEq {x : V} {dx : D} (hx : DV K B x dx) (fx : flatD dx = true) : ∀ {vs : List V} {ds : List D}, DVs K B vs ds → ds.all flatD = true → (vs.any fun y => eqV y x) = ds.any fun y => eqF y dx
  | _, _, .nil, _ => rfl
  | _, _, .cons h r, e => by
    rw [List.all_cons, Bool.and_eq_true] at e
    rw [List.any_cons, List.any_cons, h.eqF hx e.1 fx, DVs.anyEq hx fx r e.2]
theorem ci_in {neg : Bool} : CmpI K (rIn K neg) (gIn neg) := fun B H x y dx dy b e hx hy h Q q => by
  unfold gIn at h
  by_cases hf : flatD dx = true
  · rw [if_pos hf] at h
    have hxv : DV K B x dx := by cases dx <;> first | exact hx | cases hf
    cases dy with
    | lst l =>
      obtain ⟨p, xs, e1, h1, h2⟩ := hy
      subst e1
      have h : (if l.all flatD = true then some l else none).map (fun l => if neg then !(l.any fun y => eqF y dx) else l.any fun y => eqF y dx) = some b := h
      by_cases hl : l.all flatD = true
      · rw [if_pos hl] at h
        cases h
        refine ⟨p, xs, rfl, .inl (SqL.of h1), hxv.flat hf, h2.flats hl, ?_⟩
        unfold inV
        rw [h2.anyEq hxv hf hl]
        exact q
      · rw [if_neg hl] at h
        cases h
    | tup l =>
      cases hy with
      | tup h1 h2 =>
      have h : (if l.all flatD = true then some l else none).map (fun l => if neg then !(l.any fun y => eqF y dx) else l.any fun y => eqF y dx) = some b := h
      by_cases hl : l.all flatD = true
      · rw [if_pos hl] at h
        cases h
        refine ⟨_, _, rfl, .inr (ex_t e h1), hxv.flat hf, h2.flats hl, ?_⟩
        unfold inV
        rw [h2.anyEq hxv hf hl]
        exact q
      · rw [if_neg hl] at h
        cases h
    | _ => cases h
  · rw [if_neg hf] at h
    cases h

def gIx : D → D → Option Vl
  | .lst l, .int i => (atI l i).map .sh
  | .tup l, .int i => (atI l i).map .sh
  | .str s, .int i => if szOk s.length = true then (atI s.cps.toList i).map fun c => .sh (.str (sgn c)) else none
  | _, _ => none
theorem DVs.at {vs : List V} {ds : List D} {i : Int} {d : D} (h : DVs K B vs ds) (e : atI ds i = some d) : ∃ v, atI vs i = some v ∧ DV K B v d := by
  unfold atI at e ⊢
  rw [h.len]
  cases q : ixN ds.length i with
  | none => rw [q] at e; cases e
  | some j =>
    rw [q] at e
    exact h.get e
theorem gi_ix : OpI K (rIx K) gIx := by
  intro B H x y dx dy z e hx hy h Q q
  cases dy <;> first | (cases dx <;> first | (cases h; done)) | skip
  rename_i i
  cases hy
  cases dx with
  | lst l =>
    obtain ⟨p, xs, e1, h1, h2⟩ := hx
    subst e1
    have h : (atI l i).map Vl.sh = some z := h
    cases e2 : atI l i with
    | none => rw [e2] at h; cases h
    | some d =>
      rw [e2] at h
      cases h
      obtain ⟨v, w1, w2⟩ := h2.at e2
      exact .inl ⟨p, xs, i, v, rfl, rfl, SqL.of h1, w1, q _ _ _ _ (New.sc e w2)⟩
  | tup l =>
    cases hx with
    | tup h1 h2 =>
    have h : (atI l i).map Vl.sh = some z := h
    cases e2 : atI l i with
    | none => rw [e2] at h; cases h
    | some d =>
      rw [e2] at h
      cases h
      obtain ⟨v, w1, w2⟩ := h2.at e2
      exact .inr (.inl ⟨_, _, i, v, rfl, rfl, ex_t e h1, w1, q _ _ _ _ (New.sc e w2)⟩)
  | str s =>
    cases hx
    have h : (if szOk s.length = true then (atI s.cps.toList i).map fun c => Vl.sh (.str (sgn c)) else none) = some z := h
    by_cases hz : szOk s.length = true
    · rw [if_pos hz] at h
      cases e2 : atI s.cps.toList i with
      | none => rw [e2] at h; cases h
      | some c =>
        rw [e2] at h
        cases h
        exact .inr (.inr ⟨s, i, c, rfl, rfl, szOk_le hz, e2, q _ _ _ _ (New.sc e (.str _))⟩)
    · rw [if_neg hz] at h
      cases h
  | _ => cases h
def cutD {α : Type} (xs : List α) (lo hi : Option Int) : List α := (xs.drop (HT.sIx xs.length 0 lo)).take (HT.sIx xs.length xs.length hi - HT.sIx xs.length 0 lo)
theorem DVs.cut {vs : List V} {ds : List D} {lo hi : Option Int} (h : DVs K B vs ds) : DVs K B (cutV vs lo hi) (cutD ds lo hi) := by
  unfold cutV cutD
  rw [h.len]
  exact (h.drop _).take _
def gSlL : D → Option Int → Option Int → Option Vl
  | .lst l, lo, hi => some (.own (cutD l lo hi))
  | _, _, _ => none
theorem si_lst : SlI K (rSlL K) gSlL := by
  intro B H x dx lo hi z e hx h Q q
  cases dx <;> first | (cases h; done) | skip
  cases h
  obtain ⟨p, xs, e1, h1, h2⟩ := hx
  subst e1
  exact ⟨p, xs, rfl, SqL.of h1, fun l hl => q _ _ _ _ (New.lst e hl h2.cut)⟩
def gSlT : D → Option Int → Option Int → Option Vl
  | .tup l, lo, hi => some (.sh (.tup (cutD l lo hi)))
  | _, _, _ => none
theorem si_tup : SlI K (rSlA K) gSlT := by
  intro B H x dx lo hi z e hx h Q q
  cases dx <;> first | (cases h; done) | skip
  rename_i ds
  cases h
  cases hx with
  | tup h1 h2 =>
  refine ⟨_, _, rfl, ex_t e h1, fun z => ?_, fun _ l hl => q _ _ _ _ (New.tup e hl h2.cut)⟩
  have ec : cutD ds lo hi = ds := by
    unfold cutD
    rw [← h2.len, z.1, z.2, List.drop_zero, Nat.sub_zero, h2.len, List.take_length]
  exact q _ _ _ _ (New.sc e (by rw [ec]; exact .tup h1 h2))
def gSlS : D → Option Int → Option Int → Option Vl
  | .str s, lo, hi => if szOk s.length = true then some (.sh (.str (cutS s lo hi))) else none
  | _, _, _ => none
theorem si_str : SlI K rSlS gSlS := by
  intro B H x dx lo hi z e hx h Q q
  cases dx <;> first | (cases h; done) | skip
  rename_i s
  have h : (if szOk s.length = true then some (Vl.sh (.str (cutS s lo hi))) else none) = some z := h
  by_cases hz : szOk s.length = true
  · rw [if_pos hz] at h
    cases h
    cases hx
    exact ⟨s, rfl, szOk_le hz, q _ _ _ _ (New.sc e (.str _))⟩
  · rw [if_neg hz] at h
    cases h
def rSls (K : PySem.W.Frag) : V → Option Int → Option Int → Hp → VK → Prop := fun x lo hi H Q => rSlL K x lo hi H Q ∨ (fun x lo hi H Q => rSlA K x lo hi H Q ∨ rSlS x lo hi H Q : V → Option Int → Option Int → Hp → VK → Prop) x lo hi H Q
theorem sl_all : SlR X (rSls X.K) := SlR.or sl_list (SlR.or sl_tupA sl_str)
def gSl : D → Option Int → Option Int → Option Vl := fun a l u => (gSlL a l u).or ((gSlT a l u).or (gSlS a l u))
theorem si_all : SlI K (rSls K) gSl := SlI.or si_lst (SlI.or si_tup si_str)
end
end DL
end
section
set_option maxRecDepth 100000
set_option maxHeartbeats 2000000
namespace DL
open PySem PySem.Spec PyProof.Rows L2
open Evl (Ex ex_rd ex_l ex_t)
section
variable {K : PySem.W.Frag} {ct : Ct} {E : XK} {B H B' H' B1 H1 B2 H2 : Hp} {σ σ' : L2.St} {ρ ρ' : Env} {f0 f1 f2 : Fps} {v : V} {r : Vl} {f g : List Addr} {X : Cx} {fix : Nat → Bool}

theorem sc1 {d : D} {Q : VK} (e : Ex B H) (h : DV K B v d) (q : ∀ v' B' H' f, New K B H v' (.sh d) B' H' f → Q v' H') : Q v H := q _ _ _ _ (New.sc e h)
def gLen : List D → Option Vl
  | [.lst l] => some (.sh (.int l.length))
  | [.tup l] => some (.sh (.int l.length))
  | [.scr l] => some (.sh (.int l.length))
  | [.str s] => if szOk s.length = true then some (.sh (.int s.length)) else none
  | _ => none
theorem gc_len : CallI K (fun xs H Q => ∃ x n, xs = [x] ∧ LenV K x H n ∧ Q (.int n) H) gLen := by
  intro B H xs ds z e hx h Q q
  cases hx with
  | nil => cases h
  | cons h1 h2 =>
    cases h2 with
    | cons => rename_i d _ _ _ _ _ _; cases d <;> cases h
    | nil =>
      rename_i v d
      cases d with
      | lst l =>
        cases h
        obtain ⟨p, xs, e1, h1, h2⟩ := h1
        subst e1
        exact ⟨_, l.length, rfl, .inl ⟨xs, SqL.of h1, h2.len.symm⟩, sc1 e (.int _) q⟩
      | scr l =>
        cases h
        cases h1 with
        | scr h1 => exact ⟨_, l.length, rfl, .inl ⟨_, ex_l e h1, by rw [List.length_map]⟩, sc1 e (.int _) q⟩
      | tup l =>
        cases h
        cases h1 with
        | tup h1 h2 => exact ⟨_, l.length, rfl, .inr ⟨_, ex_t e h1, h2.len.symm⟩, sc1 e (.int _) q⟩
      | str s =>
        have h : (if szOk s.length = true then some (Vl.sh (.int s.length)) else none) = some z := h
        by_cases hz : szOk s.length = true
        · rw [if_pos hz] at h
          cases h
          cases h1
          exact ⟨_, s.length, rfl, ⟨szOk_le hz, rfl⟩, sc1 e (.int _) q⟩
        · rw [if_neg hz] at h
          cases h
      | _ => cases h
theorem RdVs.lst1 {xs : List V} {l : List D} (h : RdVs K B H xs [.lst l]) : ∃ p ys, xs = [.ref p] ∧ H p = some (.lst ys) ∧ DVs K B ys l := by
  obtain ⟨v, e, hv⟩ := h.one
  subst e
  obtain ⟨p, ys, e1, h1, h2⟩ := hv
  subst e1
  exact ⟨p, ys, rfl, h1, h2⟩
def blsOf : List D → Option (List Bool)
  | [] => some []
  | .bl b :: r => (blsOf r).map (b :: ·)
  | _ => none
theorem blsOf_map : ∀ {l : List D} {bs : List Bool}, blsOf l = some bs → l = bs.map D.bl
  | [], bs, h => by cases h; rfl
  | .bl b :: r, bs, h => by
    unfold blsOf at h
    cases e : blsOf r with
    | none => rw [e] at h; cases h
    | some cs => rw [e] at h; cases h; rw [blsOf_map e]; rfl
  | .non :: r, bs, h => by cases h
  | .int _ :: r, bs, h => by cases h
  | .str _ :: r, bs, h => by cases h
  | .tup _ :: r, bs, h => by cases h
  | .lst _ :: r, bs, h => by cases h
  | .scr _ :: r, bs, h => by cases h
  | .ty _ :: r, bs, h => by cases h
  | .ref _ :: r, bs, h => by cases h
def intsOf : List D → Option (List Int)
  | [] => some []
  | .int b :: r => (intsOf r).map (b :: ·)
  | _ => none
theorem intsOf_map : ∀ {l : List D} {bs : List Int}, intsOf l = some bs → l = bs.map D.int
  | [], bs, h => by cases h; rfl
  | .int b :: r, bs, h => by
    unfold intsOf at h
    cases e : intsOf r with
    | none => rw [e] at h; cases h
    | some cs => rw [e] at h; cases h; rw [intsOf_map e]; rfl
  | .non :: r, bs, h => by cases h
  | .bl _ :: r, bs, h => by cases h
  | .str _ :: r, bs, h => by cases h
  | .tup _ :: r, bs, h => by cases h
  | .lst _ :: r, bs, h => by cases h
  | .scr _ :: r, bs, h => by cases h
  | .ty _ :: r, bs, h => by cases h
  | .ref _ :: r, bs, h => by cases h
def strsOf : List D → Option (List Str)
  | [] => some []
  | .str b :: r => (strsOf r).map (b :: ·)
  | _ => none
theorem strsOf_map : ∀ {l : List D} {bs : List Str}, strsOf l = some bs → l = bs.map D.str
  | [], bs, h => by cases h; rfl
  | .str b :: r, bs, h => by
    unfold strsOf at h
    cases e : strsOf r with
    | none => rw [e] at h; cases h
    | some cs => rw [e] at h; cases h; rw [strsOf_map e]; rfl
  | .non :: r, bs, h => by cases h
  | .bl _ :: r, bs, h => by cases h
  | .int _ :: r, bs, h => by cases h
  | .tup _ :: r, bs, h => by cases h
  | .lst _ :: r, bs, h => by cases h
  | .scr _ :: r, bs, h => by cases h
  | .ty _ :: r, bs, h => by cases h
  | .ref _ :: r, bs, h => by cases h
theorem blsOf_of : ∀ bs : List Bool, blsOf (bs.map D.bl) = some bs
  | [] => rfl
  | b :: r => by rw [List.map_cons]; unfold blsOf; rw [blsOf_of r]; rfl
theorem intsOf_of : ∀ bs : List Int, intsOf (bs.map D.int) = some bs
  | [] => rfl
  | b :: r => by rw [List.map_cons]; unfold intsOf; rw [intsOf_of r]; rfl
theorem strsOf_of : ∀ bs : List Str, strsOf (bs.map D.str) = some bs
  | [] => rfl
  | b :: r => by rw [List.map_cons]; unfold strsOf; rw [strsOf_of r]; rfl
def g1 {α : Type} (of : List D → Option α) (k : α → Option Vl) : List D → Option Vl
  | [.lst l] => (of l).bind k
  | _ => none
theorem g1_inv {α : Type} {of : List D → Option α} {k : α → Option Vl} {ds : List D} {z : Vl} (h : g1 of k ds = some z) : ∃ l a, ds = [.lst l] ∧ of l = some a ∧ k a = some z := by
  unfold g1 at h
  split at h
  · rename_i l
    cases e : of l with
    | none => rw [e] at h; cases h
    | some a => rw [e] at h; exact ⟨l, a, rfl, e, h⟩
  · cases h
def gAll : List D → Option Vl := g1 blsOf fun bs => some (.sh (.bl (bs.all id)))
def gAny : List D → Option Vl := g1 blsOf fun bs => some (.sh (.bl (bs.any id)))
def gSum : List D → Option Vl := g1 intsOf fun ns => some (.sh (.int ns.sum))
theorem gc_all : CallI K (rAll K) gAll := by
  intro B H xs ds z e hx h Q q
  obtain ⟨l, bs, e1, e2, e3⟩ := g1_inv h
  subst e1
  cases e3
  obtain ⟨p, ys, e4, h1, h2⟩ := hx.lst1
  subst e4
  have el := blsOf_map e2
  subst el
  have ey := h2.bls_of
  subst ey
  exact ⟨p, bs, rfl, SqL.of h1, sc1 e (.bl _) q⟩
theorem gc_any : CallI K (rAny K) gAny := by
  intro B H xs ds z e hx h Q q
  obtain ⟨l, bs, e1, e2, e3⟩ := g1_inv h
  subst e1
  cases e3
  obtain ⟨p, ys, e4, h1, h2⟩ := hx.lst1
  subst e4
  have el := blsOf_map e2
  subst el
  have ey := h2.bls_of
  subst ey
  exact ⟨p, bs, rfl, SqL.of h1, sc1 e (.bl _) q⟩
theorem gc_sum : CallI K (rSum K) gSum := by
  intro B H xs ds z e hx h Q q
  obtain ⟨l, bs, e1, e2, e3⟩ := g1_inv h
  subst e1
  cases e3
  obtain ⟨p, ys, e4, h1, h2⟩ := hx.lst1
  subst e4
  have el := intsOf_map e2
  subst el
  have ey := h2.ints_of
  subst ey
  exact ⟨p, bs, rfl, SqL.of h1, sc1 e (.int _) q⟩
def leS (a b : Str) : Bool := decide (a.cps.toList ≤ b.cps.toList)
def sortS (l : List Str) : List Str := l.mergeSort leS
def sortZ (l : List Int) : List Int := l.mergeSort fun a b => decide (a ≤ b)
def gSortedZ : List D → Option Vl := g1 intsOf fun ns => some (.own ((sortZ ns).map D.int))
def gSortedS : List D → Option Vl := g1 strsOf fun ns => if ns.length < 64 then some (.own ((sortS ns).map D.str)) else none
theorem leS_lt (a b : Str) : (!ltCps b.cps.toList a.cps.toList) = leS a b := by
  unfold leS
  rw [ltCps_eq, Bool.eq_iff_iff]
  simp
theorem leS_trans (a b c : Str) (h1 : leS a b = true) (h2 : leS b c = true) : leS a c = true := by
  unfold leS at *
  simp only [decide_eq_true_eq] at *
  exact List.le_trans h1 h2
theorem leS_total (a b : Str) : (leS a b || leS b a) = true := by
  unfold leS
  simp only [Bool.or_eq_true, decide_eq_true_eq]
  exact List.le_total _ _
theorem leS_anti (a b : Str) (h1 : leS a b = true) (h2 : leS b a = true) : a = b := by
  unfold leS at *
  simp only [decide_eq_true_eq] at *
  have h := List.le_antisymm h1 h2
  cases a
  cases b
  simp at h
  rw [h]
theorem risingS_pw : ∀ (l : List Str) (p : Str), risingS p l = true → (∀ x ∈ l, leS p x = true) ∧ l.Pairwise (fun a b => leS a b = true)
  | [], p, _ => ⟨fun _ h => (nomatch h), .nil⟩
  | x :: r, p, h => by
    have h : (!ltCps x.cps.toList p.cps.toList && risingS x r) = true := h
    rw [Bool.and_eq_true] at h
    have h0 := h.1
    rw [leS_lt] at h0
    have ih := risingS_pw r x h.2
    refine ⟨fun y hy => ?_, .cons ih.1 ih.2⟩
    rcases List.mem_cons.mp hy with e | hy
    · rw [e]; exact h0
    · exact leS_trans _ _ _ h0 (ih.1 y hy)
theorem sortedS_pw : ∀ {l : List Str}, sortedS l = true → l.Pairwise (fun a b => leS a b = true)
  | [], _ => .nil
  | x :: r, h => .cons (risingS_pw r x h).1 (risingS_pw r x h).2
theorem sortS_pw (l : List Str) : (sortS l).Pairwise (fun a b => leS a b = true) := List.pairwise_mergeSort (le := leS) leS_trans leS_total l
theorem sortS_perm (l : List Str) : (sortS l).Perm l := List.mergeSort_perm _ _
theorem sortS_uniq {l m : List Str} (hp : m.Perm l) (h : m.Pairwise (fun a b => leS a b = true)) : m = sortS l :=
  List.Perm.eq_of_pairwise (fun a b _ _ h1 h2 => leS_anti a b h1 h2) h (sortS_pw l) (hp.trans (sortS_perm l).symm)
theorem gc_sortedS : CallI K (rSortedS K) gSortedS := by
  intro B H xs ds z e hx h Q q
  obtain ⟨l, bs, e1, e2, e3⟩ := g1_inv h
  subst e1
  have e3 : (if bs.length < 64 then some (Vl.own ((sortS bs).map D.str)) else none) = some z := e3
  by_cases hz : bs.length < 64
  · rw [if_pos hz] at e3
    cases e3
    obtain ⟨p, ys, e4, h1, h2⟩ := hx.lst1
    subst e4
    have el := strsOf_map e2
    subst el
    have ey := h2.strs_of
    subst ey
    refine ⟨p, bs, rfl, SqL.of h1, hz, fun ns' a hp hs ha => ?_⟩
    have es : ns' = sortS bs := sortS_uniq hp (sortedS_pw hs)
    rw [← es] at q
    exact q _ _ _ _ (New.lst e ha (DVs.strs ns'))
  · rw [if_neg hz] at e3
    cases e3
def rSorteds (K : PySem.W.Frag) : List V → Hp → VK → Prop := fun xs H Q => rSortedS K xs H Q ∨ rSortedI K xs H Q
theorem call_sorteds (hc : X.calm = true) : CallR X (.builtin "sorted") (rSorteds X.K) := CallR.or cr_sortedS cr_sortedI
def gSorted : List D → Option Vl := fun ds => (gSortedS ds).or (gSortedZ ds)
theorem gc_sortedZ : CallI K (rSortedI K) gSortedZ := by
  intro B H xs ds z e hx h Q q
  obtain ⟨l, bs, e1, e2, e3⟩ := g1_inv h
  subst e1
  cases e3
  obtain ⟨p, ys, e4, h1, h2⟩ := hx.lst1
  subst e4
  have el := intsOf_map e2
  subst el
  have ey := h2.ints_of
  subst ey
  refine ⟨p, bs, rfl, SqL.of h1, fun ns' a hp hs ha => ?_⟩
  have es : ns' = sortZ bs := by
    refine PySem.W.ksm_same (hp.trans (List.mergeSort_perm _ _).symm) hs ?_
    have := List.pairwise_mergeSort (le := fun a b : Int => decide (a ≤ b)) (fun a b c h1 h2 => by simp at *; omega) (fun a b => by simp; omega) bs
    exact this.imp fun h => by simpa using h
  rw [← es] at q
  exact q _ _ _ _ (New.lst e ha (DVs.ints ns'))
theorem gc_sorted : CallI K (rSorteds K) gSorted := CallI.or gc_sortedS gc_sortedZ
def gZ2 (g : Int → Int → Int) : List D → Option Vl
  | [.int i, .int j] => some (.sh (.int (g i j)))
  | _ => none
theorem gc_z2 {g : Int → Int → Int} : CallI K (fun xs H Q => ∃ i j, xs = [.int i, .int j] ∧ Q (.int (g i j)) H) (gZ2 g) := by
  intro B H xs ds z e hx h Q q
  unfold gZ2 at h
  split at h
  · cases h
    obtain ⟨v, w, e1, h1, h2⟩ := hx.two
    subst e1
    cases h1
    cases h2
    exact ⟨_, _, rfl, sc1 e (.int _) q⟩
  · cases h
def gMin2 : List D → Option Vl := gZ2 fun i j => if j < i then j else i
def gMax2 : List D → Option Vl := gZ2 fun i j => if j > i then j else i
theorem gc_min2 : CallI K (fun xs H Q => ∃ i j, xs = [.int i, .int j] ∧ Q (.int (if j < i then j else i)) H) gMin2 := gc_z2
theorem gc_max2 : CallI K (fun xs H Q => ∃ i j, xs = [.int i, .int j] ∧ Q (.int (if j > i then j else i)) H) gMax2 := gc_z2
def gAbs : List D → Option Vl
  | [.int i] => some (.sh (.int (if i < 0 then -i else i)))
  | _ => none
theorem gc_abs : CallI K (fun xs H Q => ∃ i, xs = [.int i] ∧ Q (.int (if i < 0 then -i else i)) H) gAbs := by
  intro B H xs ds z e hx h Q q
  unfold gAbs at h
  split at h
  · cases h
    obtain ⟨v, e1, h1⟩ := hx.one
    subst e1
    cases h1
    exact ⟨_, rfl, sc1 e (.int _) q⟩
  · cases h
def gToInt : List D → Option Vl
  | [.int i] => some (.sh (.int i))
  | [.bl k] => some (.sh (.int (if k then 1 else 0)))
  | _ => none
theorem gc_toInt : CallI K (fun xs H Q => (∃ i, xs = [.int i] ∧ Q (.int i) H) ∨ ∃ k, xs = [.bl k] ∧ Q (.int (if k then 1 else 0)) H) gToInt := by
  intro B H xs ds z e hx h Q q
  unfold gToInt at h
  split at h
  · cases h
    obtain ⟨v, e1, h1⟩ := hx.one
    subst e1
    cases h1
    exact .inl ⟨_, rfl, sc1 e (.int _) q⟩
  · cases h
    obtain ⟨v, e1, h1⟩ := hx.one
    subst e1
    cases h1
    exact .inr ⟨_, rfl, sc1 e (.int _) q⟩
  · cases h
def gList : List D → Option Vl
  | [.lst l] => some (.own l)
  | [.tup l] => some (.own l)
  | _ => none
theorem gc_list : CallI K (fun xs H Q => ∃ p ys, xs = [.ref p] ∧ (SqL K H p ys ∨ SqT K H p ys) ∧ ∀ l, H l = none → Q (.ref l) (upd H l (.lst ys))) gList := by
  intro B H xs ds z e hx h Q q
  unfold gList at h
  split at h
  · cases h
    obtain ⟨p, ys, e1, h1, h2⟩ := hx.lst1
    subst e1
    exact ⟨p, ys, rfl, .inl (SqL.of h1), fun l hl => q _ _ _ _ (New.lst e hl h2)⟩
  · cases h
    obtain ⟨v, e1, h1⟩ := hx.one
    subst e1
    cases h1 with
    | tup h1 h2 => exact ⟨_, _, rfl, .inr (ex_t e h1), fun l hl => q _ _ _ _ (New.lst e hl h2)⟩
  · cases h
def gTuple : List D → Option Vl
  | [.lst l] => some (.sh (.tup l))
  | [.tup l] => some (.sh (.tup l))
  | _ => none
theorem gc_tuple : CallI K (fun xs H Q => ∃ p ys, xs = [.ref p] ∧ ((SqL K H p ys ∧ ∀ l, H l = none → Q (.ref l) (upd H l (.tup ys))) ∨ (SqT K H p ys ∧ Q (.ref p) H))) gTuple := by
  intro B H xs ds z e hx h Q q
  unfold gTuple at h
  split at h
  · cases h
    obtain ⟨p, ys, e1, h1, h2⟩ := hx.lst1
    subst e1
    exact ⟨p, ys, rfl, .inl ⟨SqL.of h1, fun l hl => q _ _ _ _ (New.tup e hl h2)⟩⟩
  · cases h
    obtain ⟨v, e1, h1⟩ := hx.one
    subst e1
    cases h1 with
    | tup h1 h2 => exact ⟨_, _, rfl, .inr ⟨ex_t e h1, sc1 e (.tup h1 h2) q⟩⟩
  · cases h
def tyD : D → Option String
  | .non => some "NoneType"
  | .bl _ => some "bool"
  | .int _ => some "int"
  | .str _ => some "str"
  | .tup _ => some "tuple"
  | .lst _ => some "list"
  | .scr _ => some "list"
  | .edc => some "dict"
  | _ => none
def instTab : List (String × String × Bool) :=
  [("NoneType", "int", false), ("NoneType", "bool", false), ("NoneType", "str", false), ("NoneType", "tuple", false), ("NoneType", "list", false),
   ("bool", "int", true), ("bool", "bool", true), ("bool", "str", false), ("bool", "tuple", false), ("bool", "list", false),
   ("int", "int", true), ("int", "bool", false), ("int", "str", false), ("int", "tuple", false), ("int", "list", false),
   ("str", "int", false), ("str", "bool", false), ("str", "str", true), ("str", "tuple", false), ("str", "list", false),
   ("tuple", "int", false), ("tuple", "bool", false), ("tuple", "str", false), ("tuple", "tuple", true), ("tuple", "list", false),
   ("list", "int", false), ("list", "bool", false), ("list", "str", false), ("list", "tuple", false), ("list", "list", true),
   ("dict", "int", false), ("dict", "bool", false), ("dict", "str", false), ("dict", "tuple", false), ("dict", "list", false)]
def instO (a b : String) : Option Bool := (instTab.find? fun p => p.1 == a && p.2.1 == b).map fun p => p.2.2
theorem instTab_ok : ∀ p ∈ instTab, kitB p.1 p.2.1 = some p.2.2 := by decide +kernel
theorem instO_ok {a b : String} {k : Bool} (h : instO a b = some k) : kitB a b = some k := by
  unfold instO at h
  cases e : instTab.find? (fun p => p.1 == a && p.2.1 == b) with
  | none => rw [e] at h; cases h
  | some p =>
    rw [e] at h
    cases h
    have h1 := List.mem_of_find?_eq_some e
    have h2 := List.find?_some e
    rw [Bool.and_eq_true] at h2
    have e1 : p.1 = a := by simpa using h2.1
    have e2 : p.2.1 = b := by simpa using h2.2
    rw [← e1, ← e2]
    exact instTab_ok p h1
def gIsi : List D → Option Vl
  | [d, .ty n] => (tyD d).bind fun t => (instO t n).map fun k => .sh (.bl k)
  | _ => none
theorem RdV.ty {d : D} {t : String} (e : Ex B H) (h : RdV K B H v d) (ht : tyD d = some t) : TyX K H v (.type t) := by
  cases d with
  | non => cases ht; cases h; exact .base .non
  | bl b => cases ht; cases h; exact .base (.bl _)
  | int b => cases ht; cases h; exact .base (.int _)
  | str b => cases ht; cases h; exact .base (.str _)
  | lst l =>
    cases ht
    obtain ⟨p, xs, e1, h1, _⟩ := h
    subst e1
    exact .base (.lst h1)
  | tup l =>
    cases ht
    cases h with
    | tup h1 h2 =>
      rcases ex_t e h1 with (q | ⟨o, q⟩) | ⟨o, its, n, q1, q2, _⟩
      · exact .base (.tup q)
      · exact .fTuple q
      · exact .kTuple q1 q2
  | scr l =>
    cases ht
    cases h with
    | scr h1 =>
      rcases ex_l e h1 with (q | ⟨o, q⟩) | ⟨o, its, n, q1, q2, _⟩
      · exact .base (.lst q)
      · exact .base (.frz q)
      · exact .kList q1 q2
  | ty n => cases ht
  | ref n => cases ht
  | edc =>
    cases ht
    cases h with
    | edc h1 => exact .base (.dK (e _ _ h1))
  | ins C ns ds => cases ht
theorem gc_isi : CallI K (rIsi K) gIsi := by
  intro B H xs ds z e hx h Q q
  unfold gIsi at h
  split at h
  · rename_i d n
    obtain ⟨x, c, e1, h1, h2⟩ := hx.two
    subst e1
    cases h2
    cases et : tyD d with
    | none => rw [et] at h; cases h
    | some t =>
      rw [et] at h
      have h : (instO t n).map (fun k => Vl.sh (.bl k)) = some z := h
      cases ek : instO t n with
      | none => rw [ek] at h; cases h
      | some k =>
        rw [ek] at h
        cases h
        exact ⟨x, .ty n, .type t, .type n, k, rfl, .ty n, h1.ty e et, kit_ty (instO_ok ek), sc1 e (.bl k) q⟩
  · cases h
def sSetI (i : Nat) (mv mi : MX) : MS := fun ρ => R.bind (mv ρ) fun a => rdO (share a.2 a.1) fun p => rdO (ownS p.2[i]?) fun _ => R.bind (mi p.2) fun b => rdO (rdv b.2 b.1) fun d => rdO (intOf d) fun k => rdO (ownS b.2[i]?) fun ds => rdO (ixN ds.length k) fun j =>
  .ok (.nx (b.2.set i (.own (ds.set j p.1))))
theorem is_setI {i : Nat} {te ti : TE} {mv mi : MX} (hv : Imp K ct E te mv) (hi : Imp K ct E ti mi) : ImpS K ct E fix (tAsg te (L2.gSub (tVar i) ti rSetL)) (sSetI i mv mi) := by
  intro B H σ ρ f0 Z R h
  refine hv B H σ ρ f0 _ R (h.first fun a ea h v B1 H1 f1 f x => ?_)
  obtain ⟨p, e1, h⟩ := h.get
  obtain ⟨B2, f2, y, hd⟩ := x.shared (ρ' := p.2) (d := p.1) e1
  obtain ⟨ds0, e0, h⟩ := h.get
  obtain ⟨l, xs, q1, q2, q3, q4, q5⟩ := y.rel.own e0
  refine ⟨_, q1, hi B2 H1 σ p.2 f2 _ y.rel (h.step y.frm (fun _ z => z) fun b eb h w B3 H3 f3 g z => ?_)⟩
  obtain ⟨d, e2, h⟩ := h.get
  obtain ⟨k, e3, h⟩ := h.get
  obtain ⟨ds, e4, h⟩ := h.get
  obtain ⟨j, e5, h⟩ := h.get
  have hw : RdV K B3 H3 w (.int k) := by
    rw [← intOf_eq e3]
    exact z.val.rd z.rel e2
  cases hw
  obtain ⟨l', xs', r1, r2, r3, r4, r5⟩ := z.rel.own e4
  rw [q1] at r1
  cases r1
  refine ⟨l, xs', k, j, rfl, rfl, r3, by rw [r4.len]; exact e5, ?_⟩
  exact h σ B3 _ f3 ⟨z.rel.mut r5 q1 r2 (DVs.set (hd.mono z.frm.bb) j r4), (y.frm.trans z.drop.frm).trans (frm_upd ⟨i, by rw [r2]; simp⟩), fun _ _ => rfl⟩
def zipT (xs ys : List D) : List D := (xs.zip ys).map fun p => .tup [p.1, p.2]
end
end DL
end
section
set_option maxRecDepth 100000
set_option maxHeartbeats 2000000
namespace DL
open PySem PySem.Spec PyProof.Rows L2
open Evl (Ex ex_rd ex_l ex_t)

structure FnG (P : Program) (w : World) (K : PySem.W.Frag) (mg : Str → Option Value) (base : Heap) (k : Nat) (f : Addr) (fd : FuncData) (ps : List Str) (sp : Sp) : Prop where
  len : ∀ vs H Q E, sp vs H Q E → vs.length = ps.length
  run : ∀ (A : Around) (outer : List PySem.Env) (s : Shared) (H : Hp) (args : Args) (us : List Value) (vs : List V) (Q : VK) (E : XK), Room k A → A.guards = some [] → Env0 P w K mg base A outer s H → BindsTo s fd args (ps.zip us) → Vals vs us → sp vs H Q E →
    codeAny (model P w) A (.call (.ref f) args) (CR (L2.CX P w) outer P w H s Q E) s
theorem FnG.of {P : Program} {w : World} {K : PySem.W.Frag} {mg : Str → Option Value} {base : Heap} {k : Nat} {f : Addr} {fd : FuncData} {ps : List Str} {sp : Sp} (F : FnOk P w K mg base (L2.CX P w) k f fd ps sp) : FnG P w K mg base k f fd ps sp :=
  ⟨F.len, fun A outer s H args us vs Q E hr _ => F.run A outer s H args us vs Q E hr⟩
theorem FnG.mono {P : Program} {w : World} {K : PySem.W.Frag} {mg : Str → Option Value} {base : Heap} {j k : Nat} {f : Addr} {fd : FuncData} {ps : List Str} {sp : Sp} (F : FnG P w K mg base j f fd ps sp) (h : j ≤ k) : FnG P w K mg base k f fd ps sp :=
  ⟨F.len, fun A outer s H args us vs Q E hr => F.run A outer s H args us vs Q E (hr.mono h)⟩
structure CanC (X : Cx) (f : Addr) (fd : FuncData) (ps : List Str) (sp : Sp) (E : XK) : Prop where
  len : ∀ vs H Q E, sp vs H Q E → vs.length = ps.length
  run : ∀ (pins : List (Addr × Obj)) (σ : L2.St) (s : Shared) (H : Hp) (args : Args) (us : List Value) (vs : List V) (Q : VK), Inv X pins σ H s → BindsTo s fd args (ps.zip us) → Vals vs us → sp vs H Q E →
    wpAny (model X.prog X.w) X.A (call (.ref f) args.pos args.kw) (EP X pins σ Q) X.xe s
section
variable {X : Cx} {k : Nat} {f : Addr} {fd : FuncData} {ps : List Str} {sp : Sp} {E : XK}
theorem canC_of {pins : List (Addr × Obj)} {σ : L2.St} {s : Shared} {H : Hp} {args : Args} {Q : VK} (I : Inv X pins σ H s) (hx : Passes (L2.CX X.prog X.w) X E) (h : codeAny (model X.prog X.w) X.A (.call (.ref f) args) (CR (L2.CX X.prog X.w) X.stack X.prog X.w H s Q E) s) :
    wpAny (model X.prog X.w) X.A (call (.ref f) args.pos args.kw) (EP X pins σ Q) X.xe s := by
  refine wpAny_call (codeAny_mono h fun r s' hq => ?_)
  cases r with
  | error e => exact hx pins σ H s e s' I hq
  | ok fl =>
    cases fl with
    | ret u => exact I.after hq
    | _ => exact False.elim hq
theorem CanC.ok (F : FnOk X.prog X.w X.K X.mg X.base (L2.CX X.prog X.w) k f fd ps sp) (hr : Room k X.A) (hx : Passes (L2.CX X.prog X.w) X E) : CanC X f fd ps sp E :=
  ⟨F.len, fun pins σ s H args us vs Q I hb r h => canC_of I hx (F.run X.A X.stack s H args us vs Q E hr I.env0 hb r h)⟩
theorem CanC.g (F : FnG X.prog X.w X.K X.mg X.base k f fd ps sp) (hr : Room k X.A) (hg : X.A.guards = some []) (hx : Passes (L2.CX X.prog X.w) X E) : CanC X f fd ps sp E :=
  ⟨F.len, fun pins σ s H args us vs Q I hb r h => canC_of I hx (F.run X.A X.stack s H args us vs Q E hr hg I.env0 hb r h)⟩
theorem pe_fn {x : Str} {p pos : Pos} {e : Expr} {es : List Expr} {t : TA} (C : CanC X f fd ps sp E) (hg : Gl X x) (hm : X.mg x = some (.ref f)) (hk : PySem.W.keepIn X.K (.ref f) = true) (hb : Binds X.K fd ps []) (ha : PA X (e :: es) t)
    (hdb : (x == ("__debug__" : Str)) = false := by decide) (he : starEach (e :: es) X.env = (false, eval e X.env) :: starEach es X.env := by rfl) (hpl : (backTo pos (starEach es X.env)).any (·.1) = false := by rfl) :
    PE X (.Call (.Name x p) (e :: es) [] pos) (tCall sp [] E t) := by
  constructor
  intro pins s σ H Q I h
  refine wpAny_Call_Name_kw (ld_glob I hg hm ?_ hdb)
  refine PySem.W.callWith_K (h₀ := X.base) I.ok.mod.kin hk (thn (ha.run pos pins s σ H _ I h) fun us s1 q => ?_) he hpl
  obtain ⟨vs, H1, I1, r, q⟩ := q
  refine ⟨I1.kIn, ?_⟩
  have q : sp (vs ++ []) H1 Q E := q
  rw [List.append_nil] at q
  have hl : (us ++ ([] : List Value)).length = ps.length := by rw [List.append_nil, ← r.length]; exact C.len _ _ _ _ q
  have hb' := hb s1 us I1.kIn hl
  rw [List.append_nil] at hb'
  exact C.run pins σ s1 H1 ⟨us, []⟩ us vs Q I1 hb' r q
def permL {α : Type} (idx : List Nat) (l : List α) : List α := idx.filterMap fun i => l[i]?
theorem permL_vals {vs : List V} {us : List Value} (r : Vals vs us) : ∀ idx : List Nat, Vals (permL idx vs) (permL idx us)
  | [] => .nil
  | i :: idx => by
    unfold permL
    rw [List.filterMap_cons, List.filterMap_cons]
    cases e : vs[i]? with
    | none =>
      rw [r.none_of e]
      exact permL_vals r idx
    | some v =>
      obtain ⟨u, h1, h2⟩ := r.get e
      rw [h1]
      exact .cons h2 (permL_vals r idx)
def BindsK (K : PySem.W.Frag) (fd : FuncData) (ps : List Str) (np : Nat) (ks : List Str) (idx : List Nat) : Prop := ∀ (s : Shared) (us ws : List Value), K.In s.heap → us.length = np → ws.length = ks.length → BindsTo s fd ⟨us, ks.zip ws⟩ (ps.zip (permL idx (us ++ ws)))
def tCallKw (np nk : Nat) (idx : List Nat) (sp : Sp) (E : XK) (t tk : TA) : TE := fun σ H Q => t σ H fun vs H1 => tk σ H1 fun zs H2 => vs.length = np ∧ zs.length = nk ∧ sp (permL idx (vs ++ zs)) H2 Q E
theorem pe_fnK0 {x : Str} {p pos : Pos} {kws : List Keyword} {tk : TA} {ks : List Str} {idx : List Nat} (C : CanC X f fd ps sp E) (hg : Gl X x) (hm : X.mg x = some (.ref f)) (hk : PySem.W.keepIn X.K (.ref f) = true) (hb : BindsK X.K fd ps 0 ks idx) (hkw : PK X kws tk)
    (hall : (backToKw pos (keywordEach kws X.env)).all (·.1.isSome) = true := by rfl) (hks : (backToKw pos (keywordEach kws X.env)).filterMap (·.1) = ks := by rfl) (hdb : (x == ("__debug__" : Str)) = false := by decide)
    (hpl : ((backTo pos (starEach [] X.env)).any (·.1) || (backToKw pos (keywordEach kws X.env)).any (·.1.isNone)) = false := by rfl) :
    PE X (.Call (.Name x p) [] kws pos) (tCallKw 0 ks.length idx sp E tNil tk) := by
  constructor
  intro pins s σ H Q I h
  refine wpAny_Call_Name_kw (ld_glob I hg hm ?_ hdb)
  refine PySem.W.callWith_KW0 (h₀ := X.base) I.ok.mod.kin hk hall ?_ hpl
  refine thn (hkw.run pos pins s σ H _ I h) fun ws s2 q => ?_
  obtain ⟨zs, H2, I2, rz, _, l2, q⟩ := q
  refine ⟨I2.kIn, ?_⟩
  rw [hks]
  have lw : ws.length = ks.length := by rw [← rz.length]; exact l2
  exact C.run pins σ s2 H2 ⟨[], ks.zip ws⟩ (permL idx ([] ++ ws)) (permL idx ([] ++ zs)) Q I2 (hb s2 [] ws I2.kIn rfl lw) (permL_vals rz idx) q
theorem pe_fnK {x : Str} {p pos : Pos} {e : Expr} {es : List Expr} {kws : List Keyword} {t tk : TA} {ks : List Str} {np : Nat} {idx : List Nat} (C : CanC X f fd ps sp E) (hg : Gl X x) (hm : X.mg x = some (.ref f)) (hk : PySem.W.keepIn X.K (.ref f) = true) (hb : BindsK X.K fd ps np ks idx) (ha : PA X (e :: es) t) (hkw : PK X kws tk)
    (hall : (backToKw pos (keywordEach kws X.env)).all (·.1.isSome) = true := by rfl) (hks : (backToKw pos (keywordEach kws X.env)).filterMap (·.1) = ks := by rfl) (hdb : (x == ("__debug__" : Str)) = false := by decide)
    (he : starEach (e :: es) X.env = (false, eval e X.env) :: starEach es X.env := by rfl) (hpl : ((backTo pos (starEach (e :: es) X.env)).any (·.1) || (backToKw pos (keywordEach kws X.env)).any (·.1.isNone)) = false := by rfl) :
    PE X (.Call (.Name x p) (e :: es) kws pos) (tCallKw np ks.length idx sp E t tk) := by
  constructor
  intro pins s σ H Q I h
  refine wpAny_Call_Name_kw (ld_glob I hg hm ?_ hdb)
  refine PySem.W.callWith_KW (h₀ := X.base) I.ok.mod.kin hk hall (thn (ha.run pos pins s σ H _ I h) fun us s1 q => ?_) hpl he
  obtain ⟨vs, H1, I1, r, q⟩ := q
  refine thn (hkw.run pos pins s1 σ H1 _ I1 q) fun ws s2 q => ?_
  obtain ⟨zs, H2, I2, rz, l1, l2, q⟩ := q
  refine ⟨I2.kIn, ?_⟩
  rw [hks]
  have lw : ws.length = ks.length := by rw [← rz.length]; exact l2
  have lu : us.length = np := by rw [← r.length]; exact l1
  exact C.run pins σ s2 H2 ⟨us, ks.zip ws⟩ (permL idx (us ++ ws)) (permL idx (vs ++ zs)) Q I2 (hb s2 us ws I2.kIn lu lw) (permL_vals (r.append rz) idx) q
end
section
variable {K : PySem.W.Frag} {ct : Ct} {E : XK} {B H B' H' B1 H1 B2 H2 : Hp} {σ σ' : L2.St} {ρ ρ' : Env} {f0 f1 f2 : Fps} {v : V} {r : Vl} {f g : List Addr} {X : Cx} {fix : Nat → Bool}
def shF (ds : List D) : List Sl := ds.map .sh
theorem Rel.shs {vs : List V} {ds : List D} (e : Ex B H) (hp : NoE B) (h : DVs K B vs ds) : Rel K B H (vs.map some) (shF ds) (fun _ => []) where
  len := by unfold shF; rw [List.length_map, List.length_map, h.len]
  ex := e
  pl := hp
  ok := fun i s q => by
    unfold shF at q
    rw [List.getElem?_map] at q
    cases e1 : ds[i]? with
    | none => rw [e1] at q; cases q
    | some d =>
      rw [e1] at q
      cases q
      obtain ⟨v, h1, h2⟩ := h.get e1
      rw [List.getElem?_map, h1]
      exact ⟨rfl, v, rfl, h2⟩
  out := fun _ _ => rfl
  dis := fun _ _ _ h => (nomatch h)
  off := fun _ _ h => (nomatch h)
theorem spM_sh {F : Fn} {vs : List V} {ds : List D} {Q : VK} (e : Ex B H) (hp : NoE B) (h : DVs K B vs ds) (q : Post ct E H (fun _ => []) (F (shF ds)) (fun p => ∀ v B' H' f' g, ResF K B H vs (fun _ => []) v p.1 p.2 B' H' f' g → Q v H')) : spM K ct F vs H Q E :=
  ⟨B, shF ds, fun _ => [], .shs e hp h, q⟩
theorem DVs.perm {vs : List V} {ds : List D} (h : DVs K B vs ds) : ∀ idx : List Nat, DVs K B (permL idx vs) (permL idx ds)
  | [] => .nil
  | i :: idx => by
    unfold permL
    rw [List.filterMap_cons, List.filterMap_cons]
    cases e : ds[i]? with
    | none =>
      have e2 : vs[i]? = none := by
        rw [List.getElem?_eq_none_iff] at e ⊢
        rw [h.len]
        exact e
      rw [e2]
      exact DVs.perm h idx
    | some d =>
      obtain ⟨v, h1, h2⟩ := h.get e
      rw [h1]
      exact .cons h2 (DVs.perm h idx)
def xCallK (np nk : Nat) (idx : List Nat) (F : Fn) (m mk : MA) : MX := fun ρ => R.bind (m ρ) fun a => rdO (shares a.2 a.1) fun p => R.bind (mk p.2) fun b => rdO (shares b.2 b.1) fun q => if p.1.length = np ∧ q.1.length = nk then R.bind (F (shF (permL idx (p.1 ++ q.1)))) fun w => .ok (w.1, q.2) else .bad
theorem im_callK {np nk : Nat} {idx : List Nat} {F : Fn} {t tk : TA} {m mk : MA} (ha : ImpA K ct E t m) (hk : ImpA K ct E tk mk) : Imp K ct E (tCallKw np nk idx (spM K ct F) E t tk) (xCallK np nk idx F m mk) := by
  intro B H σ ρ f0 Q R h
  refine ha B H σ ρ f0 _ R (h.first fun a ea h vs B1 H1 f1 g x => ?_)
  obtain ⟨p, e1, h⟩ := h.get
  obtain ⟨B2, f2, R2, hd, fr⟩ := x.shared (ρ' := p.2) (ds := p.1) e1
  refine hk B2 H1 σ p.2 f2 _ R2 (h.step fr (fun _ z => z) fun b eb h zs B3 H3 f3 g' y => ?_)
  obtain ⟨q, e2, h⟩ := h.get
  obtain ⟨B4, f4, R4, hd2, fr2⟩ := y.shared (ρ' := q.2) (ds := q.1) e2
  by_cases hl : p.1.length = np ∧ q.1.length = nk
  · rw [if_pos hl] at h
    have hd' : DVs K B4 vs p.1 := hd.mono fr2.bb
    refine ⟨by rw [hd.len]; exact hl.1, by rw [hd2.len]; exact hl.2, spM_sh R4.ex R4.pl ((hd'.app hd2).perm idx) ?_⟩
    refine h.step (fr.trans fr2) (fun _ z => by obtain ⟨i, z⟩ := z; exact (nomatch z)) fun w ew h v B5 H5 f5 k z => ?_
    have frz : Frm B4 H3 (Owned (fun _ => [])) B5 H5 (fun a => Owned f5 a ∨ a ∈ k) := z.frm
    have R5 : Rel K B5 H5 σ q.2 f4 := R4.frm frz z.rel.ex z.rel.pl fun a _ q => by obtain ⟨i, q⟩ := q; exact (nomatch q)
    refine h v B5 H5 f4 k ⟨R5, z.val.any, fun a ha => ⟨(z.off a ha).1, fun ⟨i, hi⟩ => ?_⟩, ((fr.trans fr2).trans (((frz.side (Owned f4)).pre (Q := Owned f4) (fun a z => z.elim (fun ⟨i, q⟩ => (nomatch q)) id) fun a z => .inr z).to (Q' := fun a => Owned f4 a ∨ a ∈ k) fun a z => ?_))⟩
    · exact frz.apart (R4.off i a hi).2 (fun ⟨i, q⟩ => (nomatch q)) (.inr ha)
    · rcases z with z | z
      · exact .inl (.inr z)
      · exact .inl (.inl (.inr z))
  · rw [if_neg hl] at h
    exact h.elim
def sRaise (c : String) : MS := fun _ => .exc c none
theorem is_raise {c : String} : ImpS K ct E fix (fun _ σ H => (fun (_ : L2.St) (H : Hp) (Q : XK) => Q (.ref (ct c)) none H) σ H fun cls d H' => (fun cls d (_ : L2.St) H => E cls d H) cls d σ H') (sRaise c) := fun B H σ ρ f0 Z R h => h none H (fun _ _ q _ => q) rfl
end
section
variable {P : Program} {w : World} {K : PySem.W.Frag} {mg : Str → Option Value} {base : Heap} {N : List Str} {qual : Str} {scope : Scope} {f : Addr} {cdv : Value} {A : Around} {outer : List PySem.Env} {s : Shared} {H : Hp} {E : XK}
theorem hxE : Passes (L2.CX P w) (cxOf (L2.CX P w) P w K mg base N qual scope f cdv A outer s H E) E := passes_call (takes_of rfl rfl rfl rfl) fun _ _ _ _ h => h
theorem tkE : Takes (cxOf (L2.CX P w) P w K mg base N qual scope f cdv A outer s H E) (fun cls d _ H => E cls d H) := takes_of rfl rfl rfl rfl
end
theorem hxB {X : Cx} : Passes (L2.CX X.prog X.w) X DL.E0 := L2.passL
theorem fnG_of {P : Program} {w : World} {K : PySem.W.Frag} {mg : Str → Option Value} {base : Heap} {x qual : Str} {st : Stmt} {f : Addr} {fd : FuncData} {N ps : List Str} {k : Nat} {sp : Sp} (F : Fun K x qual st f fd) (S : FnScope N ps (defScope st)) (len : ∀ vs H Q E, sp vs H Q E → vs.length = ps.length)
    (hbody : ∀ (cdv : Value) (A : Around) (outer : List PySem.Env) (s : Shared) (H : Hp) (vs : List V) (Q : VK) (E : XK), Room k (A.deeper (envOfC qual (defScope st) s.heap.objs.size f cdv)) → A.guards = some [] → sp vs H Q E →
      ∃ t, PSs (cxOf (L2.CX P w) P w K mg base N qual (defScope st) f cdv A outer s H E) (defBody st) t ∧ t { nx := fun _ H' => Q .non H', rt := Q } (L2.start N vs) H) : FnG P w K mg base (k + 1) f fd ps sp := by
  obtain ⟨oc, od, kV, doc, pm, an, cdv, ct, osl, e, lk, hcd⟩ := F.ex
  subst e
  refine ⟨len, fun A outer s H args us vs Q E hr hg e0 hb r h => ?_⟩
  exact LamX.run_ofS lk hcd S hr e0 hb r (len _ _ _ _ h) fun hr' => hbody cdv A outer s H vs Q E hr' hg h
end DL
end
section
set_option maxRecDepth 100000
set_option maxHeartbeats 2000000
namespace DL
open PySem PySem.Spec PyProof.Rows L2
open Evl (Ex ex_rd ex_l ex_t)
section
variable {K : PySem.W.Frag} {ct : Ct} {E : XK} {B H B' H' B1 H1 B2 H2 : Hp} {σ σ' : L2.St} {ρ ρ' : Env} {f0 f1 f2 : Fps} {v : V} {r : Vl} {f g : List Addr} {X : Cx} {fix : Nat → Bool}
theorem ip_of {op : Operator} {rr : R2} (h : OpR X (inplaceOp op) rr) : PIp X op rr := fun pins s σ H x y u v Q I rx ry q => h pins s σ H x y u v Q I rx ry q
def rIMuls : R2 := rI CMulW fun i j => .int (i * j)
theorem iop_mulW : OpR X (inplaceOp .Mult) rIMuls := opI fun _ _ _ _ _ _ _ hc q => imul_int q hc.ok
theorem gi_augMul : OpI K rIMuls (gInt cMul fun i j => i * j) := gi_int fun i j (h : cMul i j = true) => show i.natAbs.log2 + j.natAbs.log2 < 1000000 from of_decide_eq_true h
def Put1 (K : PySem.W.Frag) (B H : Hp) (σ : L2.St) (f0 : Fps) (f : List Addr) (v : V) (i : Nat) (ρ' : Env) (S : List Addr) : Prop :=
    ∃ B' f', Rel K B' H (σ.set i (some v)) ρ' f' ∧ (∀ a ∈ S, B' a = none ∧ ¬ Owned f' a) ∧ (∀ {vs : List V} {rs : List Vl} {g : List Addr}, VlsOk K B H σ vs rs g → VlsOk K B' H σ vs rs g) ∧
      Frm B H (fun a => Owned f0 a ∨ a ∈ f) B' H (Owned f')
theorem put1 {i : Nat} {S : List Addr} (R : Rel K B H σ ρ f0) (x : VlOk K B H σ v r f) (off : ∀ a ∈ f, B a = none ∧ ¬ Owned f0 a) (offS : ∀ a ∈ S, B a = none ∧ ¬ Owned f0 a ∧ a ∉ f) (h : put ρ i r = some ρ') :
    Put1 K B H σ f0 f v i ρ' S := by
  have go : ∀ (s : Sl), i < ρ.length → SlOk K B H (some v) s f → ρ' = ρ.set i s → Put1 K B H σ f0 f v i ρ' S := fun s hi q e => by
    subst e
    exact ⟨B, fpSet f0 i f, R.setSl hi q off, fun a ha => ⟨(offS a ha).1, fun z => (owned_set z).elim (offS a ha).2.1 (offS a ha).2.2⟩, fun q => q, Frm.refl.to fun a z => .inl ((owned_set z).elim Or.inl Or.inr)⟩
  cases r with
  | sh d =>
    have h : (if i < ρ.length then some (ρ.set i (.sh d)) else none) = some ρ' := h
    split at h
    · rename_i hi
      cases h
      exact go (.sh d) hi x rfl
    · cases h
  | own d =>
    have h : (if i < ρ.length then some (ρ.set i (.own d)) else none) = some ρ' := h
    split at h
    · rename_i hi
      cases h
      exact go (.own d) hi x rfl
    · cases h
  | drw d =>
    have h : (if i < ρ.length then some (ρ.set i (.drw d)) else none) = some ρ' := h
    split at h
    · rename_i hi
      cases h
      exact go (.drw d) hi x rfl
    · cases h
  | ob d =>
    have h : (if i < ρ.length then some (ρ.set i (.ob d)) else none) = some ρ' := h
    split at h
    · rename_i hi
      cases h
      exact go (.ob d) hi x rfl
    · cases h
  | bor j =>
    have h : ((share ρ (.bor j)).bind fun p => if i < p.2.length then some (p.2.set i (.sh p.1)) else none) = some ρ' := h
    cases e : share ρ (.bor j) with
    | none => rw [e] at h; cases h
    | some p =>
      rw [e] at h
      have h : (if i < p.2.length then some (p.2.set i (.sh p.1)) else none) = some ρ' := h
      split at h
      · rename_i hi
        cases h
        obtain ⟨B2, f2, R2, hd, eB, oS, lift, fr⟩ := share_ok (S := S) (d := p.1) (ρ' := p.2) R x off offS e
        exact ⟨B2, _, R2.setSl hi ⟨rfl, v, rfl, hd⟩ fun _ z => (nomatch z), fun a ha => ⟨(oS a ha).1, fun z => (owned_set z).elim (oS a ha).2 fun q => (nomatch q)⟩, lift, fr.to fun a z => .inl ((owned_set z).elim id fun q => (nomatch q))⟩
      · cases h
def notBor (i : Nat) : List Vl → Bool
  | [] => true
  | .bor j :: r => decide (j ≠ i) && notBor i r
  | _ :: r => notBor i r
def puts (ρ : Env) : List Nat → List Vl → Option Env
  | [], [] => some ρ
  | i :: is, r :: rs => if notBor i rs = true then (put ρ i r).bind fun ρ1 => puts ρ1 is rs else none
  | _, _ => none
def setsV (σ : L2.St) : List Nat → List V → L2.St
  | i :: is, v :: vs => setsV (σ.set i (some v)) is vs
  | _, _ => σ
theorem VlsOk.set {i : Nat} {w : V} : ∀ {vs : List V} {rs : List Vl} {g : List Addr}, VlsOk K B H σ vs rs g → notBor i rs = true → VlsOk K B H (σ.set i (some w)) vs rs g := by
  intro vs rs g x
  induction x with
  | nil => intro _; exact .nil
  | cons h _ n ih =>
    rename_i v r f vs rs g _
    intro hb
    cases r with
    | bor j =>
      have hb : (decide (j ≠ i) && notBor i rs) = true := hb
      rw [Bool.and_eq_true] at hb
      have ne : j ≠ i := of_decide_eq_true hb.1
      exact .cons (f := f) ⟨h.1, by rw [List.getElem?_set_ne (Ne.symm ne)]; exact h.2⟩ (ih hb.2) n
    | sh d => exact .cons (r := .sh d) h (ih hb) n
    | own d => exact .cons (r := .own d) h (ih hb) n
    | drw d => exact .cons (r := .drw d) h (ih hb) n
    | ob d => exact .cons (r := .ob d) h (ih hb) n
theorem puts_ok : ∀ {is : List Nat} {rs : List Vl} {vs : List V} {g : List Addr} {B : Hp} {σ : L2.St} {ρ ρ' : Env} {f0 : Fps}, Rel K B H σ ρ f0 → VlsOk K B H σ vs rs g → (∀ a ∈ g, B a = none ∧ ¬ Owned f0 a) → puts ρ is rs = some ρ' →
    ∃ B' f', Rel K B' H (setsV σ is vs) ρ' f' ∧ Frm B H (fun a => Owned f0 a ∨ a ∈ g) B' H (Owned f') ∧ vs.length = is.length := by
  intro is
  induction is with
  | nil =>
    intro rs vs g B σ ρ ρ' f0 R x off h
    cases rs with
    | cons => cases h
    | nil =>
      obtain ⟨e1, e2⟩ := x.inv0
      subst e1 e2
      cases h
      exact ⟨B, f0, R, Frm.refl.to fun a z => .inl (.inl z), rfl⟩
  | cons i is ih =>
    intro rs vs g B σ ρ ρ' f0 R x off h
    cases rs with
    | nil => cases h
    | cons r rs =>
      obtain ⟨v, vs', f, g', e1, e2, h1, h2, n⟩ := x.inv
      subst e1 e2
      have h : (if notBor i rs = true then (put ρ i r).bind fun ρ1 => puts ρ1 is rs else none) = some ρ' := h
      by_cases hb : notBor i rs = true
      · rw [if_pos hb] at h
        cases e : put ρ i r with
        | none => rw [e] at h; cases h
        | some ρ1 =>
          rw [e] at h
          have h : puts ρ1 is rs = some ρ' := h
          obtain ⟨B1, f1, R1, oS, lift, fr⟩ := put1 (S := g') R h1 (fun a ha => off a (List.mem_append_left _ ha)) (fun a ha => ⟨(off a (List.mem_append_right _ ha)).1, (off a (List.mem_append_right _ ha)).2, fun z => n a z ha⟩) e
          obtain ⟨B2, f2, R2, fr2, len⟩ := ih R1 ((lift h2).set hb) oS h
          have fr' := (fr.side (· ∈ g')).trans fr2
          refine ⟨B2, f2, R2, fr'.pre (fun a z => ?_) fun a z => ?_, by rw [List.length_cons, List.length_cons, len]⟩
          · rcases z with (z | z) | z
            · exact .inl z
            · exact .inr (List.mem_append_left _ z)
            · exact .inr (List.mem_append_right _ z)
          · rcases z with z | z
            · exact .inl (.inl z)
            · rcases List.mem_append.mp z with z | z
              · exact .inl (.inr z)
              · exact .inr z
      · rw [if_neg hb] at h
        cases h
def sPars (is : List Nat) (m : MA) : MS := fun ρ => R.bind (m ρ) fun a => rdO (puts a.2 is a.1) fun ρ' => .ok (.nx ρ')
theorem setsV_out {i : Nat} : ∀ {is : List Nat} {vs : List V} {σ : L2.St}, i ∉ is → (setsV σ is vs)[i]? = σ[i]?
  | [], _, _, _ => rfl
  | _ :: _, [], _, _ => rfl
  | j :: is, v :: vs, σ, h => by
    show (setsV (σ.set j (some v)) is vs)[i]? = _
    rw [setsV_out fun z => h (List.mem_cons_of_mem _ z), List.getElem?_set_ne (fun e => h (by rw [e]; simp))]
theorem pars_aux {is : List Nat} {t : TA} {m : MA} (ha : ImpA K ct E t m) (hf : ∀ i ∈ is, fix i = false) (R : Rel K B H σ ρ f0) {Z : Ends} (h : Post ct E H f0 (sPars is m ρ) (OutOk K B H σ f0 fix Z)) :
    t σ H fun vs H1 => vs.length = is.length ∧ Z.nx (setsV σ is vs) H1 := by
  refine ha B H σ ρ f0 _ R (h.first fun a ea h vs B1 H1 f1 g x => ?_)
  obtain ⟨ρ', e, h⟩ := h.get
  obtain ⟨B2, f2, R2, fr, len⟩ := puts_ok x.rel x.val x.off e
  refine ⟨len, h _ B2 H1 f2 ⟨R2, x.frm.trans fr, fun i hi => setsV_out fun z => ?_⟩⟩
  rw [hf i z] at hi
  cases hi
def MonoA (t : TA) : Prop := ∀ σ H (Q Q' : List V → Hp → Prop), (∀ vs H', Q vs H' → Q' vs H') → t σ H Q → t σ H Q'
theorem is_par {i j : Nat} {t : TA} {m : MA} (ha : ImpA K ct E t m) (hf : ∀ k ∈ [i, j], fix k = false) : ImpS K ct E fix (tPar i j t) (sPars [i, j] m) := by
  intro B H σ ρ f0 Z R h
  refine ha B H σ ρ f0 _ R (h.first fun a ea h vs B1 H1 f1 g x => ?_)
  obtain ⟨ρ', e, h⟩ := h.get
  obtain ⟨B2, f2, R2, fr, len⟩ := puts_ok x.rel x.val x.off e
  match vs, len, R2 with
  | [v, w], _, R2 => exact ⟨v, w, rfl, h _ B2 H1 f2 ⟨R2, x.frm.trans fr, fun k hk => setsV_out (is := [i, j]) (vs := [v, w]) fun z => by rw [hf k z] at hk; cases hk⟩⟩
theorem is_par3 {i j l : Nat} {t : TA} {m : MA} (ha : ImpA K ct E t m) (hf : ∀ k ∈ [i, j, l], fix k = false) : ImpS K ct E fix (tPar3 i j l t) (sPars [i, j, l] m) := by
  intro B H σ ρ f0 Z R h
  refine ha B H σ ρ f0 _ R (h.first fun a ea h vs B1 H1 f1 g x => ?_)
  obtain ⟨ρ', e, h⟩ := h.get
  obtain ⟨B2, f2, R2, fr, len⟩ := puts_ok x.rel x.val x.off e
  match vs, len, R2 with
  | [u, v, w], _, R2 => exact ⟨u, v, w, rfl, h _ B2 H1 f2 ⟨R2, x.frm.trans fr, fun k hk => setsV_out (is := [i, j, l]) (vs := [u, v, w]) fun z => by rw [hf k z] at hk; cases hk⟩⟩
end
end DL
end
section
set_option maxRecDepth 100000
set_option maxHeartbeats 2000000
namespace DL
open PySem PySem.Spec PyProof.Rows L2
open Evl (Ex ex_rd ex_l ex_t)

def SqK (K : PySem.W.Frag) : Bool → Hp → Addr → List V → Prop
  | false, H, a, xs => SqL K H a xs
  | true, H, a, xs => SqT K H a xs
def ItIs : Bool → Heap → Addr → Addr → Nat → Prop
  | false, h, it, l, i => h.IsListIter it l i
  | true, h, it, l, i => h.IsTupleIter it l i
def SqIs : Bool → Heap → Addr → Array Value → Prop
  | false, h, l, its => h.IsList l its
  | true, h, l, its => h.IsTuple l its
theorem ItIs.at {k : Bool} {h h' : Heap} {it l : Addr} {i : Nat} (x : ItIs k h it l i) (e : ∀ o, h.get? it = some o → h'.get? it = some o) : ItIs k h' it l i := by
  cases k with
  | false => exact Heap.IsListIter.at x e
  | true => exact Heap.IsTupleIter.at x e
theorem ItIs.there {k : Bool} {h : Heap} {it l : Addr} {i : Nat} (x : ItIs k h it l i) : ∃ o vs, h.get? it = some o ∧ o.data = .fields vs := by
  cases k with
  | false => obtain ⟨o, e, _, d⟩ := x; exact ⟨o, _, e, d⟩
  | true => obtain ⟨o, e, _, d⟩ := x; exact ⟨o, _, e, d⟩
theorem drawsK {prog : Program} {w : World} {A : Around} (k : Bool) (hh : A.handled = none) (it l : Addr) (hne : l ≠ it) (items : Array Value) :
    Draws prog w A it [it, l] items.size (fun i v => items[i]? = some v) (fun i h => ItIs k h it l i ∧ SqIs k h l items) := by
  cases k with
  | false => exact Draws.list hh it l hne items
  | true => exact Draws.tuple hh it l hne items
theorem invK {X : Cx} {pins : List (Addr × Obj)} {σ : L2.St} {H : Hp} {s : Shared} (I : Inv X pins σ H s) {k : Bool} {a : Addr} {xs : List V} (h : SqK X.K k H a xs) : ∃ its, Vals xs its ∧ SqIs k s.heap a its.toArray ∧ a < s.heap.objs.size := by
  cases k with
  | false =>
    obtain ⟨its, rv, p, _⟩ := I.list h
    exact ⟨its, rv, p.isList, p.lt⟩
  | true =>
    obtain ⟨its, rv, p, _⟩ := I.tuple h
    obtain ⟨o, ho, _⟩ := id p
    exact ⟨its, rv, p, Heap.lt_size ho⟩
theorem injK {X : Cx} {pins : List (Addr × Obj)} {σ : L2.St} {H : Hp} {s : Shared} (I : Inv X pins σ H s) {k : Bool} {a : Addr} {xs ys : List V} (h : SqK X.K k H a xs) (h' : SqK X.K k H a ys) : xs = ys := by
  cases k with
  | false => exact I.list_inj h h'
  | true => exact I.tuple_inj h h'
theorem exK {K : PySem.W.Frag} {k : Bool} {B H : Hp} {a : Addr} {xs : List V} (e : Ex B H) (h : SqK K k B a xs) : SqK K k H a xs := by
  cases k with
  | false => exact ex_l e h
  | true => exact ex_t e h

def ItzK (K : PySem.W.Frag) (k1 k2 : Bool) (a b : Addr) : It :=
  ⟨fun i H => ∃ (xs ys : List V) (x y : V), SqK K k1 H a xs ∧ SqK K k2 H b ys ∧ xs[i]? = some x ∧ ys[i]? = some y,
    fun i H v H' => ∃ T x y, v = .ref T ∧ H T = none ∧ H' = upd H T (.tup [x, y]) ∧ (∀ xs, SqK K k1 H a xs → xs[i]? = some x) ∧ ∀ ys, SqK K k2 H b ys → ys[i]? = some y,
    fun i H => ∃ xs ys : List V, SqK K k1 H a xs ∧ SqK K k2 H b ys ∧ xs.length ≤ xs.length ∧ i ≤ xs.length ∧ i ≤ ys.length ∧ (xs.length ≤ i ∨ ys.length ≤ i)⟩
theorem sep_of {z TI TO i1 i2 a b : Addr} (D : ZipApart z TI TO i1 i2 a b) : ZipSep2 z TI TO i1 i2 [i1, a] [i2, b] where
  TIz := D.TIz
  TOz := D.TOz
  TITO := D.TITO
  TIi1 := D.TIi1
  mem1 := by simp
  zf1 := by simp only [List.mem_cons, List.not_mem_nil, or_false, not_or]; exact ⟨fun e => D.i1z e.symm, fun e => D.l1z e.symm⟩
  Tf1 := by simp only [List.mem_cons, List.not_mem_nil, or_false, not_or]; exact ⟨D.TOi1, fun e => D.l1TO e.symm⟩
  TIi2 := D.TIi2
  mem2 := by simp
  zf2 := by simp only [List.mem_cons, List.not_mem_nil, or_false, not_or]; exact ⟨fun e => D.i2z e.symm, fun e => D.l2z e.symm⟩
  Tf2 := by simp only [List.mem_cons, List.not_mem_nil, or_false, not_or]; exact ⟨D.TOi2, fun e => D.l2TO e.symm⟩
  sep1_2 := by simp only [List.mem_cons, List.not_mem_nil, or_false, not_or]; exact ⟨D.i12, fun e => D.l2i1 e.symm⟩
  sep2_1 := by simp only [List.mem_cons, List.not_mem_nil, or_false, not_or]; exact ⟨fun e => D.i12 e.symm, fun e => D.l1i2 e.symm⟩
theorem turn_zipK {P : Program} {w : World} {K : PySem.W.Frag} {k1 k2 : Bool} {elts : List Expr} {kk : Nat} {tpos : Pos} {a b z TI TO i1 i2 : Addr} (D : ZipApart z TI TO i1 i2 a b) :
    Turn P w K (.Tuple elts kk tpos) (ItzK K k1 k2 a b) [z, TI, TO, i1, i2] z (fun i h => IsZip h z TI TO .none ∧ IsPair h TI (.ref i1) (.ref i2) ∧ (∃ x y, IsPair h TO x y) ∧ ItIs k1 h i1 a i ∧ ItIs k2 h i2 b i) where
  mem := by simp
  obj := fun i h st c hc => by
    obtain ⟨hz, hTI, ⟨x, y, hTO⟩, q1, q2⟩ := st
    obtain ⟨o1, v1, e1, d1⟩ := q1.there
    obtain ⟨o2, v2, e2, d2⟩ := q2.there
    have e' : c = z ∨ c = TI ∨ c = TO ∨ c = i1 ∨ c = i2 := by simpa using hc
    rcases e' with q | q | q | q | q
    · rw [q]; exact ⟨_, hz, fun v q => nomatch q⟩
    · rw [q]; exact ⟨_, hTI, fun v q => nomatch q⟩
    · rw [q]; exact ⟨_, hTO, fun v q => nomatch q⟩
    · rw [q]; exact ⟨o1, e1, fun v q => by rw [d1] at q; cases q⟩
    · rw [q]; exact ⟨o2, e2, fun v q => by rw [d2] at q; cases q⟩
  keep := fun i h h' st k => by
    obtain ⟨hz, hTI, ⟨x, y, hTO⟩, h1, h2⟩ := st
    exact ⟨k z (by simp) _ hz, k TI (by simp) _ hTI, ⟨x, y, k TO (by simp) _ hTO⟩, h1.at fun o q => k i1 (by simp) o q, h2.at fun o q => k i2 (by simp) o q⟩
  item := by
    intro X hP hw hK hc i pins s σ H E I hf st hg
    subst hP hw hK
    obtain ⟨hz, hTI, ⟨x0, y0, hTO⟩, h1, h2⟩ := st
    obtain ⟨xs, ys, x, y, hqx, hqy, hx, hy⟩ := hg
    obtain ⟨its, rv, p, _⟩ := invK I hqx
    obtain ⟨its2, rv2, p2, _⟩ := invK I hqy
    obtain ⟨u, hu, ru⟩ := rv.get hx
    obtain ⟨u2, hu2, ru2⟩ := rv2.get hy
    have hzl : z < s.heap.objs.size := Heap.lt_size hz
    have hd : X.A.handled = none := I.ok.hd hc
    have li : i < its.toArray.size := by
      have := (List.getElem?_eq_some_iff.mp hu).1
      simpa using this
    have li2 : i < its2.toArray.size := by
      have := (List.getElem?_eq_some_iff.mp hu2).1
      simpa using this
    refine wpAny_pyNext_zipD2_item (sep_of D) (drawsK k1 (show X.A.in1.handled = none from hd) i1 a D.l1i1 its.toArray) (drawsK k2 (show X.A.in1.handled = none from hd) i2 b D.l2i2 its2.toArray) hz hTI hTO ⟨h1, p⟩ ⟨h2, p2⟩ li li2 fun x1 x2 h' tk px1 px2 z' TO' h1' h2' hT hsz hk => ?_
    have ex1 : x1 = u := by
      have px1 : its.toArray[i]? = some x1 := px1
      rw [List.getElem?_toArray, hu] at px1
      exact (Option.some.inj px1).symm
    have ex2 : x2 = u2 := by
      have px2 : its2.toArray[i]? = some x2 := px2
      rw [List.getElem?_toArray, hu2] at px2
      exact (Option.some.inj px2).symm
    subst ex1 ex2
    refine ⟨_, rfl, wpAny_letOwnedTupleGo_zip (s := { s with heap := h', toks := tk }) z' fun h'' z'' sb => ?_⟩
    have hT2 : h''.get? s.heap.objs.size = some { cls := .type "tuple", data := .seq #[x1, x2] } := (sb.2 _ (Nat.ne_of_gt hzl)).trans hT
    have new : ObjOk X.prog X.w (upd H s.heap.objs.size (.tup [x, y])) h'' s.heap.objs.size (.tup [x, y]) :=
      ⟨by show 2 ≤ sizeLine; decide, [x1, x2], .cons ru (.cons ru2 .nil), ⟨_, hT2, rfl, _, rfl⟩⟩
    have I1 : Inv X pins σ (upd H s.heap.objs.size (.tup [x, y])) { s with heap := h'', toks := tk } :=
      I.turnedNew (t' := tk) (ch := [z, TI, TO, i1, i2]) (fun c o hb q => (sb.2 c (fun q' => hb (by simp [q']))).trans (hk c o (fun q' => hb (by simp [q'])) (fun q' => hb (by simp [q'])) (fun q' => hb (by simp [q'])) (fun q' => hb (by simp [q'])) q)) hf (Nat.le_refl _) new
    refine ⟨.ref s.heap.objs.size, _, I1, rfl, ⟨_, x, y, rfl, I.hok.fresh (Nat.le_refl _), rfl, fun l hl => by rw [injK I hl hqx]; exact hx, fun l hl => by rw [injK I hl hqy]; exact hy⟩, ⟨z'', ?_, ⟨x1, x2, ?_⟩, ?_, ?_⟩, fun c hcm => ?_⟩
    · exact (sb.2 _ D.TIz).trans (hk _ _ D.TIz D.TITO D.TIi1 D.TIi2 hTI)
    · exact (sb.2 _ D.TOz).trans TO'
    · exact h1'.1.at fun o q => (sb.2 _ D.i1z).trans q
    · exact h2'.1.at fun o q => (sb.2 _ D.i2z).trans q
    · have hlt : c < s.heap.objs.size := by
        obtain ⟨o1, v1, e1, _⟩ := h1.there
        obtain ⟨o2, v2, e2, _⟩ := h2.there
        have e' : c = z ∨ c = TI ∨ c = TO ∨ c = i1 ∨ c = i2 := by simpa using hcm
        rcases e' with q | q | q | q | q
        · rw [q]; exact hzl
        · rw [q]; exact Heap.lt_size hTI
        · rw [q]; exact Heap.lt_size hTO
        · rw [q]; exact Heap.lt_size e1
        · rw [q]; exact Heap.lt_size e2
      rw [upd_ne (Nat.ne_of_lt hlt)]
      exact (hf c hcm).1
  done := by
    intro X hP hw hK hc i pins s σ H E I hf st hg
    subst hP hw hK
    obtain ⟨hz, hTI, ⟨x0, y0, hTO⟩, h1, h2⟩ := st
    obtain ⟨xs, ys, hqx, hqy, _, ix, iy, hend⟩ := hg
    obtain ⟨its, rv, p, _⟩ := invK I hqx
    obtain ⟨its2, rv2, p2, _⟩ := invK I hqy
    have l1 := rv.length
    have l2 := rv2.length
    have hd : X.A.handled = none := I.ok.hd hc
    refine wpAny_pyNext_zipD2_end (sep_of D) (drawsK k1 (show X.A.in1.handled = none from hd) i1 a D.l1i1 its.toArray) (drawsK k2 (show X.A.in1.handled = none from hd) i2 b D.l2i2 its2.toArray) hz hTI hTO ⟨h1, p⟩ ⟨h2, p2⟩ (by simp; omega) (by simp; omega) (by simp; omega) fun h' tk hk => ⟨rfl, I.turnedL (t' := tk) (ch := [z, TI, TO, i1, i2]) (fun c o hb q =>
      hk c o (fun q' => hb (by simp [q'])) (fun q' => hb (by simp [q'])) (fun q' => hb (by simp [q'])) (fun q' => hb (by simp [q'])) q) hf⟩
  self := fun A i s Q E st h => wpAny_pyIter_zip st.1 h
theorem begK (k : Bool) (l : Addr) (items : Array Value) : ∃ o : Obj, Begins (.ref l) o (fun h => SqIs k h l items) ∧ ∀ (h' : Heap) (it : Addr), h'.get? it = some o → ItIs k h' it l 0 := by
  cases k with
  | false => exact ⟨_, begins_list l items, fun h' it e => ⟨_, e, rfl, rfl⟩⟩
  | true => exact ⟨_, begins_tuple l items, fun h' it e => ⟨_, e, rfl, rfl⟩⟩
def iZipK (K : PySem.W.Frag) (ta : TA) : TI := fun σ H R => ta σ H fun vs H1 => ∃ a b xs ys k1 k2, vs = [.ref a, .ref b] ∧ SqK K k1 H1 a xs ∧ SqK K k2 H1 b ys ∧ R (ItzK K k1 k2 a b) H1
theorem pi_zipK {X : Cx} {e e2 : Expr} {ta : TA} {p pos tpos : Pos} {elts : List Expr} {kk : Nat} (hg : Gl X "zip") (hm : X.mg "zip" = none) (ha : PA X [e, e2] ta)
    (hs : starEach [e, e2] X.env = (false, eval e X.env) :: starEach [e2] X.env := by rfl) (hpl : (backTo pos (starEach [e2] X.env)).any (·.1) = false := by rfl) :
    PI X (.Tuple elts kk tpos) (.Call (.Name "zip" p) [e, e2] [] pos) (iZipK X.K ta) := by
  refine ⟨fun pins s σ H R I h => ?_⟩
  refine Call_ (ld_blt I hg hm PyProof.Rows.boot_zip (PyProof.Rows.callWith_type1 (thn (ha.run pos pins s σ H _ I h) fun us s1 ⟨vs, H1, I1, r1, q1⟩ => ?_) hs hpl))
  obtain ⟨a, b, xs, ys, k1, k2, ex, hqx, hqy, q⟩ := q1
  subst ex
  cases r1 with
  | cons r rr =>
    cases rr with
    | cons r' rr =>
      cases rr
      cases r
      cases r'
      have fresh5 : ∀ c, c ∈ [s1.heap.objs.size + 4, s1.heap.objs.size + 2, s1.heap.objs.size + 3, s1.heap.objs.size, s1.heap.objs.size + 1] → FpOk X pins H1 c := fun c hcm => by
        have e' : c = s1.heap.objs.size + 4 ∨ c = s1.heap.objs.size + 2 ∨ c = s1.heap.objs.size + 3 ∨ c = s1.heap.objs.size ∨ c = s1.heap.objs.size + 1 := by simpa using hcm
        have hle : s1.heap.objs.size ≤ c := by
          rcases e' with z | z | z | z | z
          · rw [z]; exact Nat.le_add_right _ _
          · rw [z]; exact Nat.le_add_right _ _
          · rw [z]; exact Nat.le_add_right _ _
          · rw [z]; exact Nat.le_refl _
          · rw [z]; exact Nat.le_add_right _ _
        exact I1.fpOk hle (I1.hok.fresh hle)
      obtain ⟨its, rv, p1, la⟩ := invK I1 hqx
      obtain ⟨its2, rv2, p2, lb⟩ := invK I1 hqy
      obtain ⟨o1, B1, it1⟩ := begK k1 a its.toArray
      obtain ⟨o2, B2, it2⟩ := begK k2 b its2.toArray
      refine zip_begins2 B1 B2 p1 p2 fun h' hz hTI hTO h1 h2 hsz hk => wpAny_pyIter_zip hz ?_
      have I2 : Inv X pins σ H1 { s1 with heap := h' } := I1.kept (t' := s1.toks) hk
      exact ⟨s1.heap.objs.size + 4, [s1.heap.objs.size + 4, s1.heap.objs.size + 2, s1.heap.objs.size + 3, s1.heap.objs.size, s1.heap.objs.size + 1], _, _, H1, rfl, I2, turn_zipK (PySem.W.ktu_apart s1.heap.objs.size a b la lb), ⟨hz, hTI, ⟨_, _, hTO⟩, it1 _ _ h1, it2 _ _ h2⟩, fresh5, q⟩

section
variable {K : PySem.W.Frag} {ct : Ct} {E : XK} {B H B' H' B1 H1 B2 H2 : Hp} {σ σ' : L2.St} {ρ ρ' : Env} {f0 f1 f2 : Fps} {v : V} {r : Vl} {f g : List Addr}
def zipD : List D → List D → List D
  | d :: ds, e :: es => .tup [d, e] :: zipD ds es
  | _, _ => []
theorem zipD_len : ∀ ds es : List D, (zipD ds es).length = min ds.length es.length
  | [], es => by simp [zipD]
  | _ :: _, [] => by simp [zipD]
  | d :: ds, e :: es => by
    show (zipD ds es).length + 1 = _
    rw [zipD_len ds es, List.length_cons, List.length_cons]
    omega
theorem zipD_get : ∀ {ds es : List D} {i : Nat} {x : D}, (zipD ds es)[i]? = some x → ∃ d e, ds[i]? = some d ∧ es[i]? = some e ∧ x = .tup [d, e]
  | [], es, i, x, h => by simp [zipD] at h
  | _ :: _, [], i, x, h => by simp [zipD] at h
  | d :: ds, e :: es, 0, x, h => by
    have h : some (D.tup [d, e]) = some x := h
    cases h
    exact ⟨d, e, rfl, rfl, rfl⟩
  | d :: ds, e :: es, i + 1, x, h => by
    obtain ⟨d', e', h1, h2, h3⟩ := zipD_get (i := i) (x := x) h
    exact ⟨d', e', h1, h2, h3⟩
def kindOf : D → Option (List D × Bool)
  | .lst ds => some (ds, false)
  | .scr ns => some (ns.map D.int, false)
  | .tup ds => some (ds, true)
  | _ => none
theorem kindOf_ok {d : D} {ds : List D} {k : Bool} (h : DV K B v d) (e : kindOf d = some (ds, k)) : ∃ a xs, v = .ref a ∧ SqK K k B a xs ∧ DVs K B xs ds := by
  cases h with
  | lst h1 h2 => cases e; exact ⟨_, _, rfl, SqL.of h1, h2⟩
  | scr h1 => cases e; exact ⟨_, _, rfl, h1, DVs.ints _⟩
  | tup h1 h2 => cases e; exact ⟨_, _, rfl, h1, h2⟩
  | _ => cases e
theorem itd_zip {a b : Addr} {xs ys : List V} {ds es : List D} {k1 k2 : Bool} (h1 : SqK K k1 B a xs) (h2 : SqK K k2 B b ys) (hd : DVs K B xs ds) (he : DVs K B ys es) : ItD K B (ItzK K k1 k2 a b) (zipD ds es) := by
  intro B' H' e1 e2 i
  have q1 : SqK K k1 H' a xs := exK (e1.trans e2) h1
  have q2 : SqK K k2 H' b ys := exK (e1.trans e2) h2
  have l1 := hd.len
  have l2 := he.len
  have lz := zipD_len ds es
  refine ⟨fun hi => ?_, fun hi => ?_, fun x H'' d hx y => ?_⟩
  · have i1 : i < xs.length := by omega
    have i2 : i < ys.length := by omega
    exact ⟨xs, ys, xs[i], ys[i], q1, q2, by simp, by simp⟩
  · exact ⟨xs, ys, q1, q2, Nat.le_refl _, by omega, by omega, by omega⟩
  · obtain ⟨T, u, w, rfl, hT, rfl, g1, g2⟩ := y
    obtain ⟨d1, d2, g3, g4, rfl⟩ := zipD_get hx
    obtain ⟨u', hu, ru⟩ := hd.get g3
    obtain ⟨w', hw, rw'⟩ := he.get g4
    rw [g1 xs q1] at hu
    cases hu
    rw [g2 ys q2] at hw
    cases hw
    have n := New.tup (K := K) (xs := [u, w]) (ds := [d1, d2]) e2 hT (.cons (ru.mono e1) (.cons (rw'.mono e1) .nil))
    obtain ⟨_, y, e3, h3⟩ := n.val
    cases e3
    exact ⟨_, n.bb, n.hh, n.bh, n.off, n.pl, h3⟩
def xIZip (ma : MA) : MI := fun ρ => R.bind (ma ρ) fun a => rdO (shares a.2 a.1) fun p => match p.1 with
  | [d, e] => match kindOf d, kindOf e with
    | some (ds, _), some (es, _) => .ok (zipD ds es, p.2)
    | _, _ => .bad
  | _ => .bad
theorem ii_zip {t : TA} {m : MA} (ha : ImpA K ct E t m) : ImpI K ct E (iZipK K t) (xIZip m) := by
  intro B H σ ρ f0 Q R h
  refine ha B H σ ρ f0 _ R (h.first fun a ea h vs B1 H1 f1 f x => ?_)
  obtain ⟨p, e1, h⟩ := h.get
  obtain ⟨B2, f2, R2, hd, fr⟩ := x.shared e1
  split at h
  · rename_i d e ep
    split at h
    · rename_i ds kd es ke q1 q2
      rw [ep] at hd
      cases hd with
      | cons h1 hd =>
        cases hd with
        | cons h2 hd =>
          cases hd
          obtain ⟨a1, xs, rfl, s1, v1⟩ := kindOf_ok h1 q1
          obtain ⟨a2, ys, rfl, s2, v2⟩ := kindOf_ok h2 q2
          exact ⟨_, _, _, _, _, _, rfl, exK R2.ex s1, exK R2.ex s2, h _ _ _ _ ⟨R2, fr⟩ (itd_zip s1 s2 v1 v2)⟩
    · exact h.elim
  · exact h.elim
end

theorem zip_no_len : typeLookup (.type "zip") "__len__" = pure none := am_miss_of_fast (by decide +kernel)
theorem zip_no_hint : typeLookup (.type "zip") "__length_hint__" = pure none := am_miss_of_fast (by decide +kernel)
def ZSt (z TI TO i1 i2 a b S : Addr) (i : Nat) (h : Heap) : Prop := IsPair h TI (.ref i1) (.ref i2) ∧ h.IsListIter i1 a i ∧ h.IsListIter i2 b i ∧
  (∃ o, h.get? TO = some o) ∧ ((IsZip h z TI TO .none ∧ ∃ x y, IsPair h TO x y) ∨ ∃ T f oT, IsZipHeld h z TI TO T f ∧ h.get? T = some oT ∧ T ≠ z ∧ T ≠ i1 ∧ T ≠ i2 ∧ T ≠ S)
structure ZAcc (H0 H : Hp) (xs ys : List V) (ts : List Addr) (i : Nat) : Prop where
  len : ts.length = i
  ex : Ex H0 H
  at_ : ∀ (j : Nat) (T : Addr), ts[j]? = some T → H0 T = none ∧ ∃ x y, xs[j]? = some x ∧ ys[j]? = some y ∧ H T = some (.tup [x, y])
theorem lt_of_some {α : Type} {l : List α} {i : Nat} {x : α} (h : l[i]? = some x) : i < l.length := (List.getElem?_eq_some_iff.mp h).1
section
variable {X : Cx} {A : Around} {pins : List (Addr × Obj)} {σ : L2.St} {H0 : Hp} {xs ys : List V} {z TI TO i1 i2 a b S : Addr} {R : Result → Shared → Prop} {res : Value}
theorem zip_fill (hh : A.handled = none) (D : ZipApart z TI TO i1 i2 a b) (dz : S ≠ z) (dTI : S ≠ TI) (dTO : S ≠ TO) (di1 : S ≠ i1) (di2 : S ≠ i2) (hn : min xs.length ys.length ≤ sizeLine)
    (hR : ∀ s' H' ts acc c, Inv X pins σ H' s' → ZAcc H0 H' xs ys ts (min xs.length ys.length) → acc.toList = ts.map Value.ref → s'.heap.get? S = some { cls := .type "list", dict := none, data := .seq acc c, slots := #[] } → R (.ok (.ret res)) s') :
    ∀ (k i : Nat) (s : Shared) (H : Hp) (ts : List Addr) (acc : Array Value) (c : Nat), min xs.length ys.length - i = k → i ≤ min xs.length ys.length → Inv X pins σ H s → (∀ b ∈ [z, TI, TO, i1, i2, S], FpOk X pins H b) → ZSt z TI TO i1 i2 a b S i s.heap →
      s.heap.get? S = some { cls := .type "list", dict := none, data := .seq acc c, slots := #[] } → acc.toList = ts.map Value.ref → ZAcc H0 H xs ys ts i → SqL X.K H a xs → SqL X.K H b ys →
      codeAny (model X.prog X.w) A (.builtin "list.extend.loop" ⟨[.ref S, .ref z, res], []⟩) R s := by
  intro k
  induction k with
  | zero =>
    intro i s H ts acc c hk hi I hf st hS hacc za hqx hqy
    have hin : i = min xs.length ys.length := by omega
    subst hin
    obtain ⟨its, rv, p, _⟩ := I.list hqx
    obtain ⟨its2, rv2, p2, _⟩ := I.list hqy
    have l1 := rv.length
    have l2 := rv2.length
    have he : its.toArray[min xs.length ys.length]? = none ∨ its2.toArray[min xs.length ys.length]? = none := by
      rcases Nat.le_total xs.length ys.length with h | h
      · exact .inl (by rw [Nat.min_eq_left h]; simp; omega)
      · exact .inr (by rw [Nat.min_eq_right h]; simp; omega)
    refine codeAny_builtin F.entry_extend_loop ?_
    rw [Around.under_plainId F.plain_extend_loop _]
    show wpAny _ A.in1 (pyNext (.ref z) >>= _) _ _ s
    obtain ⟨hTI, h1, h2, ⟨oTO, eTO⟩, hz⟩ := st
    have fin : ∀ h', (∀ c o, c ∉ [z, TO, i1, i2] → s.heap.get? c = some o → h'.get? c = some o) → R (.ok (.ret res)) { s with heap := h' } := fun h' hk => by
      refine hR _ H ts acc c (I.turnedL (t' := s.toks) (ch := [z, TO, i1, i2]) (fun c o hc e => hk c o hc e) fun c hc => hf c ?_) za hacc (hk _ _ ?_ hS)
      · simp only [List.mem_cons, List.not_mem_nil, or_false] at hc ⊢
        rcases hc with q | q | q | q <;> simp [q]
      · simp only [List.mem_cons, List.not_mem_nil, or_false, not_or]
        exact ⟨dz, dTO, di1, di2⟩
    rcases hz with ⟨hz, x, y, hTO⟩ | ⟨T, f, oT, hz, hT, r1, r2, r3, r4⟩
    · refine wpAny_bind (wpAny_pyNext_zip_end (A := A.in1) hh D hz hTI hTO h1 h2 p.isList p2.isList he fun h' hk => wpAny_pure (fin h' fun c o hc e => ?_))
      simp only [List.mem_cons, List.not_mem_nil, or_false, not_or] at hc
      exact hk c o hc.1 hc.2.1 hc.2.2.1 hc.2.2.2 e
    · refine wpAny_bind (wpAny_pyNext_zip_end_held (A := A.in1) hh D hz hT hTI h1 h2 p.isList p2.isList he fun h' hk => wpAny_pure (fin h' fun c o hc e => ?_))
      simp only [List.mem_cons, List.not_mem_nil, or_false, not_or] at hc
      exact hk c o hc.1 hc.2.2.1 hc.2.2.2 e
  | succ k ih =>
    intro i s H ts acc c hk hi I hf st hS hacc za hqx hqy
    have hlt : i < min xs.length ys.length := by omega
    obtain ⟨its, rv, p, _⟩ := I.list hqx
    obtain ⟨its2, rv2, p2, _⟩ := I.list hqy
    have hx : xs[i]? = some (xs[i]'(by omega)) := List.getElem?_eq_getElem (by omega)
    have hy : ys[i]? = some (ys[i]'(by omega)) := List.getElem?_eq_getElem (by omega)
    obtain ⟨u, hu, ru⟩ := rv.get hx
    obtain ⟨u2, hu2, ru2⟩ := rv2.get hy
    refine codeAny_builtin F.entry_extend_loop ?_
    rw [Around.under_plainId F.plain_extend_loop _]
    show wpAny _ A.in1 (pyNext (.ref z) >>= _) _ _ s
    obtain ⟨hTI, h1, h2, ⟨oTO, eTO⟩, hz⟩ := st
    have hnT : ∀ c o, s.heap.get? c = some o → c ≠ s.heap.objs.size := fun c o e => Nat.ne_of_lt (Heap.lt_size e)
    have lSS : s.heap.objs.size ≠ S := fun e => hnT S _ hS e.symm
    have go : ∀ h', ZSt z TI TO i1 i2 a b S (i + 1) h' → IsPair h' s.heap.objs.size u u2 → (∀ c o, c ∉ [z, TO, i1, i2] → s.heap.get? c = some o → h'.get? c = some o) →
        wpAny (model X.prog X.w) A.in1 (updateSeq S (·.push (.ref s.heap.objs.size)) >>= fun _ => again (.builtin "list.extend.loop" ⟨[.ref S, .ref z, res], []⟩))
          (fun fin s' => match fin with | .done f => R (.ok f) s' | .again c' => c'.quiet = true ∧ codeAny (model X.prog X.w) A c' R s') (fun e s' => R (.error e) s') { s with heap := h' } := fun h' st' hp hkk => by
      have hS' : h'.get? S = some { cls := .type "list", dict := none, data := .seq acc c, slots := #[] } := hkk _ _ (by simp only [List.mem_cons, List.not_mem_nil, or_false, not_or]; exact ⟨dz, dTO, di1, di2⟩) hS
      have hf4 : ∀ c ∈ [z, TO, i1, i2], FpOk X pins H c := fun c hc => hf c (by
        simp only [List.mem_cons, List.not_mem_nil, or_false] at hc ⊢
        rcases hc with q | q | q | q <;> simp [q])
      have hfresh : H s.heap.objs.size = none := I.hok.fresh (Nat.le_refl _)
      have I1 : Inv X pins σ (upd H s.heap.objs.size (.tup [xs[i]'(by omega), ys[i]'(by omega)])) { s with heap := h' } :=
        I.turnedNew (t' := s.toks) (ch := [z, TO, i1, i2]) (fun c o hc e => hkk c o hc e) hf4 (Nat.le_refl _) ⟨by show 2 ≤ sizeLine; decide, [u, u2], .cons ru (.cons ru2 .nil), ⟨_, hp, rfl, _, rfl⟩⟩
      have exH : Ex H (upd H s.heap.objs.size (.tup [xs[i]'(by omega), ys[i]'(by omega)])) := Ex.new hfresh
      have lts : ts.length = i := za.len
      have lacc : acc.size = i := by rw [← Array.length_toList, hacc, List.length_map, lts]
      have there : ∀ c ∈ [z, TI, TO, i1, i2, S], c ≠ s.heap.objs.size → FpOk X pins (upd H s.heap.objs.size (.tup [xs[i]'(by omega), ys[i]'(by omega)])) c := fun c hc ne => ⟨by rw [upd_ne ne]; exact (hf c hc).1, (hf c hc).2⟩
      have z0 : ∃ o, s.heap.get? z = some o := by
        rcases hz with ⟨hz, _⟩ | ⟨_, _, _, hz, _⟩
        · exact ⟨_, hz⟩
        · exact ⟨_, hz⟩
      have hf2 : ∀ c ∈ [z, TI, i1, i2, S], c ≠ s.heap.objs.size := fun c hc => by
        obtain ⟨oz, hz0⟩ := z0
        obtain ⟨o1, e1, _⟩ := id h1
        obtain ⟨o2, e2, _⟩ := id h2
        simp only [List.mem_cons, List.not_mem_nil, or_false] at hc
        rcases hc with q | q | q | q | q
        · rw [q]; exact hnT _ _ hz0
        · rw [q]; exact hnT _ _ hTI
        · rw [q]; exact hnT _ _ e1
        · rw [q]; exact hnT _ _ e2
        · rw [q]; exact hnT _ _ hS
      have hf3 : ∀ c ∈ [z, TI, TO, i1, i2, S], c ≠ s.heap.objs.size := fun c hc => by
        by_cases e : c = TO
        · rw [e]; exact hnT _ _ eTO
        · refine hf2 c ?_
          simp only [List.mem_cons, List.not_mem_nil, or_false] at hc ⊢
          rcases hc with q | q | q | q | q | q
          · exact .inl q
          · exact .inr (.inl q)
          · exact absurd q e
          · exact .inr (.inr (.inl q))
          · exact .inr (.inr (.inr (.inl q)))
          · exact .inr (.inr (.inr (.inr q)))
      refine wpAny_bind (wpAny_updateSeq hS' rfl (wpAny_pure ⟨plainId_quiet F.plain_extend_loop _, ?_⟩) (by rw [lacc]; omega) (by show (acc.push (.ref s.heap.objs.size)).size ≤ sizeLine + 1; rw [Array.size_push, lacc]; omega))
      have oth : ∀ (c : Addr) (o : Obj), c ≠ S → h'.get? c = some o → (h'.update S (Obj.mapSeq (·.push (.ref s.heap.objs.size)))).get? c = some o := fun c o hc e => (Heap.get?_update_other _ _ (Ne.symm hc)).trans e
      have I2 := I1.turnedL (t' := s.toks) (ch := [S]) (h' := h'.update S (Obj.mapSeq (·.push (.ref s.heap.objs.size)))) (fun c o hc e => oth c o (fun q => hc (by rw [q]; simp)) e) fun c hc => by
        have e : c = S := by simpa using hc
        rw [e]
        exact there S (by simp) (hf3 S (by simp))
      have hS2 := Heap.get?_update_self (Obj.mapSeq (·.push (Value.ref s.heap.objs.size))) hS' rfl
      refine ih (i + 1) _ _ (ts ++ [s.heap.objs.size]) _ _ (by omega) hlt I2 (fun c hc => there c hc (hf3 c hc)) ?_ hS2 ?_ ⟨by rw [List.length_append, lts]; rfl, za.ex.trans exH, fun j T e => ?_⟩ (ex_l exH hqx) (ex_l exH hqy)
      · obtain ⟨q1, ⟨p1, e1, r1⟩, ⟨p2, e2, r2⟩, ⟨oT, eT⟩, q2⟩ := st'
        refine ⟨oth _ _ (Ne.symm dTI) q1, ⟨p1, oth _ _ (Ne.symm di1) e1, r1⟩, ⟨p2, oth _ _ (Ne.symm di2) e2, r2⟩, ⟨oT, oth _ _ (Ne.symm dTO) eT⟩, ?_⟩
        rcases q2 with ⟨q2, x, y, q3⟩ | ⟨T, f, o, q2, q3, n1, n2, n3, n4⟩
        · exact .inl ⟨oth _ _ (Ne.symm dz) q2, x, y, oth _ _ (Ne.symm dTO) q3⟩
        · exact .inr ⟨T, f, o, oth _ _ (Ne.symm dz) q2, oth _ _ n4 q3, n1, n2, n3, n4⟩
      · rw [Array.toList_push, hacc, List.map_append]; rfl
      · by_cases hj : j < ts.length
        · rw [List.getElem?_append_left hj] at e
          obtain ⟨g0, x, y, g1, g2, g3⟩ := za.at_ j T e
          exact ⟨g0, x, y, g1, g2, exH _ _ g3⟩
        · have hj' : j = i := by
            have := lt_of_some e
            rw [List.length_append, List.length_singleton] at this
            omega
          subst hj'
          rw [List.getElem?_append_right (by omega), lts, Nat.sub_self] at e
          have e : s.heap.objs.size = T := Option.some.inj e
          subst e
          refine ⟨?_, _, _, hx, hy, upd_same⟩
          cases q : H0 s.heap.objs.size with
          | none => rfl
          | some o =>
            rw [za.ex _ _ q] at hfresh
            cases hfresh
    have sn : ∀ c o, s.heap.get? c = some o → s.heap.objs.size ≠ c := fun c o e => (hnT c o e).symm
    have s1 : s.heap.objs.size ≠ i1 := let ⟨_, e, _⟩ := h1; sn _ _ e
    have s2 : s.heap.objs.size ≠ i2 := let ⟨_, e, _⟩ := h2; sn _ _ e
    rcases hz with ⟨hz, x, y, hTO⟩ | ⟨T, f, oT, hz, hT, r1, r2, r3, r4⟩
    · refine wpAny_bind (wpAny_pyNext_zip_item (A := A.in1) D hz hTI hTO h1 h2 p.isList p2.isList (x := u) (y := u2) (by simpa using hu) (by simpa using hu2) fun h' a1 a2 a3 a4 a5 a6 hk => ?_)
      refine go h' ⟨hk _ _ D.TIz D.TITO D.TIi1 D.TIi2 hTI, a3, a4, ⟨_, a2⟩, .inr ⟨s.heap.objs.size, false, _, a1, a5, sn _ _ hz, s1, s2, lSS⟩⟩ a5 fun c o hc e => ?_
      simp only [List.mem_cons, List.not_mem_nil, or_false, not_or] at hc
      exact hk c o hc.1 hc.2.1 hc.2.2.1 hc.2.2.2 e
    · refine wpAny_bind (wpAny_pyNext_zip_item_held (A := A.in1) D hz hT hTI h1 h2 p.isList p2.isList (x := u) (y := u2) (by simpa using hu) (by simpa using hu2) fun h' a1 a3 a4 a5 a6 hk => ?_)
      refine go h' ⟨hk _ _ D.TIz D.TIi1 D.TIi2 hTI, a3, a4, ⟨_, hk _ _ D.TOz D.TOi1 D.TOi2 eTO⟩, .inr ⟨T, true, oT, a1, hk _ _ r1 r2 r3 hT, r1, r2, r3, r4⟩⟩ a5 fun c o hc e => ?_
      simp only [List.mem_cons, List.not_mem_nil, or_false, not_or] at hc
      exact hk c o hc.1 hc.2.2.1 hc.2.2.2 e
theorem collect_zip {Q : List Value → Shared → Prop} {s : Shared} {H : Hp} {E : Value → Shared → Prop} (hh : A.handled = none) (D : ZipApart z TI TO i1 i2 a b) (hn : min xs.length ys.length ≤ sizeLine) (I : Inv X pins σ H s) (hf : ∀ b ∈ [z, TI, TO, i1, i2], FpOk X pins H b)
    (hz : IsZip s.heap z TI TO .none) (hTI : IsPair s.heap TI (.ref i1) (.ref i2)) (hTO : ∃ x y, IsPair s.heap TO x y) (h1 : s.heap.IsListIter i1 a 0) (h2 : s.heap.IsListIter i2 b 0) (hqx : SqL X.K H a xs) (hqy : SqL X.K H b ys)
    (hQ : ∀ s' H' ts, Inv X pins σ H' s' → ZAcc H H' xs ys ts (min xs.length ys.length) → Q (ts.map Value.ref) s') : wpAny (model X.prog X.w) A (collect (.ref z)) Q E s := by
  obtain ⟨x0, y0, hTO⟩ := hTO
  have nz := Heap.lt_size hz
  have nTI := Heap.lt_size hTI
  have nTO := Heap.lt_size hTO
  have n1 : i1 < s.heap.objs.size := let ⟨_, e, _⟩ := h1; Heap.lt_size e
  have n2 : i2 < s.heap.objs.size := let ⟨_, e, _⟩ := h2; Heap.lt_size e
  unfold collect
  refine wpAny_bind (wpAny_runValue (codeAny_builtin F.entry_proto_collect ?_))
  rw [Around.under_plainId F.plain_proto_collect _]
  show wpAny _ A.in1 (newList [] >>= fun l => again (.builtin "list.__iadd__" ⟨[l, .ref z], []⟩)) _ _ s
  refine wpAny_bind (wpAny_newObj_type ?_)
  refine wpAny_pure ⟨plainId_quiet F.plain_list_iadd _, codeAny_builtin F.entry_list_iadd ?_⟩
  rw [Around.under_plainId F.plain_list_iadd _]
  generalize hob : ({ cls := .type "list", data := .seq ([] : List Value).toArray } : Obj) = ob
  have hS₁ : (s.heap.push ob).get? s.heap.objs.size = some ob := Heap.get?_push_size _ (by rw [← hob]; rfl)
  have keep1 : ∀ c o, s.heap.get? c = some o → (s.heap.push ob).get? c = some o := fun c o e => Heap.get?_push_of_some _ e
  have I1 : Inv X pins σ H { s with heap := s.heap.push ob } := I.kept (t' := s.toks) keep1
  show wpAny _ A.in1 (Builtin.List.listExtendWith (.ref s.heap.objs.size) (.ref z) (.ref s.heap.objs.size)) _ _ _
  unfold Builtin.List.listExtendWith
  have hTy : ∀ s1 : Shared, IsZip s1.heap z TI TO .none → s1.TypeIs (.ref z) "zip" := fun s1 e => ⟨_, e, rfl⟩
  have hz1 : IsZip (s.heap.push ob) z TI TO .none := keep1 _ _ hz
  refine wpAny_bind (wpAny_typeOf (hTy _ hz1) ?_)
  have e1 : Builtin.List.listSameRef (.ref s.heap.objs.size) (.ref z) = false := by simp [Builtin.List.listSameRef, Nat.ne_of_gt nz]
  have e2 : (Value.type "zip" == Value.type "list") = false := by decide
  have e3 : (Value.type "zip" == Value.type "tuple") = false := by decide
  simp only [e1, e2, e3, Bool.or_false, Bool.false_eq_true, if_false]
  refine wpAny_bind (wpAny_pyIter_zip hz1 ?_)
  refine wpAny_bind (wpAny_holding ?_)
  unfold Builtin.List.listLengthHint
  refine wpAny_bind (wpAny_specialOf (hTy _ hz1) zip_no_len ?_)
  show wpAny _ A.in1 (specialOf (Value.ref z) (Str.ofString "__length_hint__") >>= _) _ _ _
  refine wpAny_bind (wpAny_specialOf (hTy _ hz1) zip_no_hint ?_)
  refine wpAny_pure ?_
  show wpAny _ A.in1 (rule "list.extend.makes-room" >>= fun _ => Builtin.List.listTouch (.ref s.heap.objs.size) >>= fun _ =>
    again (.builtin "list.extend.loop" ⟨[.ref s.heap.objs.size, .ref z, .ref s.heap.objs.size], []⟩)) _ _ _
  refine wpAny_bind (wpAny_rule ?_)
  refine wpAny_bind ?_
  show wpAny _ A.in1 (updateSeq s.heap.objs.size (·.push .none) >>= fun _ => updateSeq s.heap.objs.size (·.pop)) _ _ _
  have hS₁ : (s.heap.push ob).get? s.heap.objs.size = some { cls := .type "list", data := .seq ([] : List Value).toArray } := by rw [hS₁, ← hob]
  refine wpAny_bind (wpAny_updateSeq hS₁ rfl ?_)
  have hS₂ := Heap.get?_update_self (Obj.mapSeq (·.push Value.none)) hS₁ rfl
  refine wpAny_updateSeq hS₂ rfl ?_
  have hS₃ := Heap.get?_update_self (Obj.mapSeq (·.pop)) hS₂ rfl
  have oth : ∀ b o, b ≠ s.heap.objs.size → (s.heap.push ob).get? b = some o →
      (((s.heap.push ob).update s.heap.objs.size (Obj.mapSeq (·.push Value.none))).update s.heap.objs.size (Obj.mapSeq (·.pop))).get? b = some o :=
    fun b o hb e => (Heap.get?_update_other _ _ (Ne.symm hb)).trans ((Heap.get?_update_other _ _ (Ne.symm hb)).trans e)
  have fS : FpOk X pins H s.heap.objs.size := I.fpOk (Nat.le_refl _) (I.hok.fresh (Nat.le_refl _))
  have I3 := I1.turnedL (t' := s.toks) (ch := [s.heap.objs.size]) (h' := ((s.heap.push ob).update s.heap.objs.size (Obj.mapSeq (·.push Value.none))).update s.heap.objs.size (Obj.mapSeq (·.pop))) (fun c o hc e => oth c o (fun q => hc (by rw [q]; simp)) e) fun c hc => by
    have e : c = s.heap.objs.size := by simpa using hc
    rw [e]
    exact fS
  have old : ∀ c o, s.heap.get? c = some o → (((s.heap.push ob).update s.heap.objs.size (Obj.mapSeq (·.push Value.none))).update s.heap.objs.size (Obj.mapSeq (·.pop))).get? c = some o := fun c o e => oth c o (Nat.ne_of_lt (Heap.lt_size e)) (keep1 c o e)
  refine wpAny_pure ⟨plainId_quiet F.plain_extend_loop _, zip_fill (H0 := H) (R := _) hh D (Nat.ne_of_gt nz) (Nat.ne_of_gt nTI) (Nat.ne_of_gt nTO) (Nat.ne_of_gt n1) (Nat.ne_of_gt n2) hn (fun s' H' ts acc c I' za hacc hS' => ?_) _ 0 _ H [] _ _ rfl (Nat.zero_le _) I3 (fun c hc => ?_) ?_ hS₃ rfl ⟨rfl, fun _ _ q => q, fun j T e => (by simp at e)⟩ hqx hqy⟩
  · show wpAny _ A (load s.heap.objs.size >>= _) _ _ s'
    refine wpAny_bind (wpAny_load hS' ?_)
    refine wpAny_pure ?_
    have q := hQ s' H' ts I' za
    rw [← hacc] at q
    exact q
  · simp only [List.mem_cons, List.not_mem_nil, or_false] at hc
    rcases hc with q | q | q | q | q | q
    · exact hf c (by simp [q])
    · exact hf c (by simp [q])
    · exact hf c (by simp [q])
    · exact hf c (by simp [q])
    · exact hf c (by simp [q])
    · rw [q]; exact fS
  · obtain ⟨o1, q1, r1⟩ := h1
    obtain ⟨o2, q2, r2⟩ := h2
    exact ⟨old _ _ hTI, ⟨o1, old _ _ q1, r1⟩, ⟨o2, old _ _ q2, r2⟩, ⟨_, old _ _ hTO⟩, .inl ⟨old _ _ hz, x0, y0, old _ _ hTO⟩⟩
theorem code_tuple_new_zip {Q₁ : Value → Shared → Prop} {s : Shared} {H : Hp} {E : Value → Shared → Prop} (hh : A.handled = none) (D : ZipApart z TI TO i1 i2 a b) (hn : min xs.length ys.length ≤ sizeLine) (I : Inv X pins σ H s) (hf : ∀ b ∈ [z, TI, TO, i1, i2], FpOk X pins H b)
    (hz : IsZip s.heap z TI TO .none) (hTI : IsPair s.heap TI (.ref i1) (.ref i2)) (hTO : ∃ x y, IsPair s.heap TO x y) (h1 : s.heap.IsListIter i1 a 0) (h2 : s.heap.IsListIter i2 b 0) (hqx : SqL X.K H a xs) (hqy : SqL X.K H b ys)
    (h : ∀ s' H' ts, Inv X pins σ H' s' → ZAcc H H' xs ys ts (min xs.length ys.length) → Q₁ (.ref s'.heap.objs.size) { s' with heap := s'.heap.push { cls := .type "tuple", data := .seq (ts.map Value.ref).toArray } }) :
    codeAny (model X.prog X.w) A (.call (.builtin "tuple.__new__") ⟨[.type "tuple", .ref z], []⟩) (wants Q₁ E) s := by
  refine codeAny_of_tree ?_
  show wpAny _ A.in1 (do checkBuiltinCall "tuple.__new__" ⟨[.type "tuple", .ref z], []⟩; again (.builtin "tuple.__new__" ⟨[.type "tuple", .ref z], []⟩)) _ _ s
  refine wpAny_bind (wpAny_of_eq (F.newCall_tuple_1 _) (wpAny_pure ⟨plainId_quiet F.plain_tuple_new _, codeAny_builtin F.entry_tuple_new ?_⟩))
  rw [Around.under_plainId F.plain_tuple_new _]
  have hsub := sub_tuple_self
  have hinit := init_tuple_lookup
  have hmh := madeHere_tuple
  have hTI0 : s.TypeIs (.ref z) "zip" := ⟨_, hz, rfl⟩
  have hh1 : A.in1.handled = none := hh
  have goal := fun (Q : List Value → Shared → Prop) (E : Value → Shared → Prop) (hQ : ∀ s' H' ts, Inv X pins σ H' s' → ZAcc H H' xs ys ts (min xs.length ys.length) → Q (ts.map Value.ref) s') => collect_zip (A := A.in1) (E := E) hh1 D hn I hf hz hTI hTO h1 h2 hqx hqy hQ
  wp_walk using wpAny_typeOf hTI0, goal
  intro s' H' ts I' za
  show wpAny _ _ (Builtin.Tuple.tupleExact (ts.map Value.ref).toArray >>= fun v => ret v) _ _ _
  unfold Builtin.Tuple.tupleExact
  refine wpAny_bind (wpAny_newObj_type ?_ (by show (ts.map Value.ref).toArray.size ≤ sizeLine; rw [List.size_toArray, List.length_map, za.len]; exact hn))
  exact wpAny_pure (h s' H' ts I' za)
theorem call_tuple_zip {Q : Value → Shared → Prop} {s : Shared} {H : Hp} {E : Value → Shared → Prop} (hh : A.handled = none) (D : ZipApart z TI TO i1 i2 a b) (hn : min xs.length ys.length ≤ sizeLine) (I : Inv X pins σ H s) (hf : ∀ b ∈ [z, TI, TO, i1, i2], FpOk X pins H b)
    (hz : IsZip s.heap z TI TO .none) (hTI : IsPair s.heap TI (.ref i1) (.ref i2)) (hTO : ∃ x y, IsPair s.heap TO x y) (h1 : s.heap.IsListIter i1 a 0) (h2 : s.heap.IsListIter i2 b 0) (hqx : SqL X.K H a xs) (hqy : SqL X.K H b ys)
    (hQ : ∀ s' H' ts, Inv X pins σ H' s' → ZAcc H H' xs ys ts (min xs.length ys.length) → Q (.ref s'.heap.objs.size) { s' with heap := s'.heap.push { cls := .type "tuple", data := .seq (ts.map Value.ref).toArray } }) :
    wpAny (model X.prog X.w) A (call (.type "tuple") [.ref z]) Q E s := by
  refine callType_codes (Q₁ := fun obj s₁ => s₁.TypeIs obj "tuple" ∧ Q obj s₁) F.called_tuple (F.typeCall_tuple_1 _) F.entry_object_init
    (code_tuple_new_zip (A := A.in1) hh D hn I hf hz hTI hTO h1 h2 hqx hqy fun s' H' ts I' za => ⟨⟨_, Heap.get?_push_size _ rfl, rfl⟩, hQ s' H' ts I' za⟩) fun obj s₁ h₁ => ?_
  exact ⟨h₁.1, F.args_object_init_2 obj _, object_init_meets F.called_tuple.init.lookup F.called_tuple.made (by decide) X.prog X.w A.in1 _ s₁ ⟨h₁.1, rfl, h₁.2⟩⟩
end
def tTupZip (K : PySem.W.Frag) (ta : TA) : TE := fun σ H Q => ta σ H fun vs H1 => ∃ a b xs ys, vs = [.ref a, .ref b] ∧ SqL K H1 a xs ∧ SqL K H1 b ys ∧ min xs.length ys.length ≤ sizeLine ∧
  ∀ H2 ts q, ZAcc H1 H2 xs ys ts (min xs.length ys.length) → H2 q = none → Q (.ref q) (upd H2 q (.tup (ts.map V.ref)))
theorem vals_refs : ∀ ts : List Addr, Vals (ts.map V.ref) (ts.map Value.ref)
  | [] => .nil
  | _ :: ts => .cons rfl (vals_refs ts)
theorem pe_tupZip {X : Cx} {e e2 : Expr} {ta : TA} {p p2 q pos : Pos} (hc : X.calm = true) (hg : Gl X "tuple") (hm : X.mg "tuple" = none) (hg2 : Gl X "zip") (hm2 : X.mg "zip" = none) (ha : PA X [e, e2] ta)
    (hs : starEach [e, e2] X.env = (false, eval e X.env) :: starEach [e2] X.env := by rfl) (hpl : (backTo q (starEach [e2] X.env)).any (·.1) = false := by rfl)
    (na : starEach [(Expr.Call (.Name "zip" p2) [e, e2] [] q)] X.env = (false, eval (Expr.Call (.Name "zip" p2) [e, e2] [] q) X.env) :: starEach [] X.env := by rfl) :
    PE X (.Call (.Name "tuple" p) [.Call (.Name "zip" p2) [e, e2] [] q] [] pos) (tTupZip X.K ta) := by
  refine ⟨fun pins s σ H Q I h => ?_⟩
  refine Call_ (ld_blt I hg hm boot_tuple (PyProof.Rows.callWith_type1 (PyProof.Rows.args_cons ?_ na) na rfl))
  refine Call_ (ld_blt I hg2 hm2 PyProof.Rows.boot_zip (PyProof.Rows.callWith_type1 (thn (ha.run q pins s σ H _ I h) fun us s1 ⟨vs, H1, I1, r1, q1⟩ => ?_) hs hpl))
  obtain ⟨a, b, xs, ys, ex, hqx, hqy, hn, q1⟩ := q1
  subst ex
  cases r1 with
  | cons r rr =>
    cases rr with
    | cons r' rr =>
      cases rr
      cases r
      cases r'
      obtain ⟨its, rv, p1, _⟩ := I1.list hqx
      obtain ⟨its2, rv2, p2, _⟩ := I1.list hqy
      refine call_zip_2 p1.isList p2.isList fun h' hz hTI hTO h1 h2 hsz hk => args_nil ?_
      have I2 : Inv X pins σ H1 { s1 with heap := h' } := I1.kept (t' := s1.toks) hk
      refine call_tuple_zip (A := X.A) (s := { s1 with heap := h' }) (I.ok.hd hc) (PySem.W.ktu_apart s1.heap.objs.size a b p1.lt p2.lt) hn I2 (fun c hcm => ?_) hz hTI ⟨_, _, hTO⟩ h1 h2 hqx hqy fun s' H' ts I' za => ?_
      · have e' : c = s1.heap.objs.size + 4 ∨ c = s1.heap.objs.size + 2 ∨ c = s1.heap.objs.size + 3 ∨ c = s1.heap.objs.size ∨ c = s1.heap.objs.size + 1 := by simpa using hcm
        have hle : s1.heap.objs.size ≤ c := by
          rcases e' with z | z | z | z | z
          · rw [z]; exact Nat.le_add_right _ _
          · rw [z]; exact Nat.le_add_right _ _
          · rw [z]; exact Nat.le_add_right _ _
          · rw [z]; exact Nat.le_refl _
          · rw [z]; exact Nat.le_add_right _ _
        exact I1.fpOk hle (I1.hok.fresh hle)
      · have hq : H' s'.heap.objs.size = none := I'.hok.fresh (Nat.le_refl _)
        have I3 : Inv X pins σ (upd H' s'.heap.objs.size (.tup (ts.map V.ref))) { s' with heap := s'.heap.push { cls := .type "tuple", data := .seq (ts.map Value.ref).toArray } } :=
          I'.laid (t' := s'.toks) (fun c o e => Heap.get?_push_of_some _ e) (Nat.le_refl _) (show ObjOk X.prog X.w _ _ _ (.tup (ts.map V.ref)) from ⟨by rw [List.length_map, za.len]; exact hn, ts.map Value.ref, vals_refs ts, IsTup.new _ _⟩)
        exact ⟨.ref s'.heap.objs.size, _, I3, rfl, q1 _ _ _ za hq⟩
section
variable {K : PySem.W.Frag} {ct : Ct} {E : XK} {B H B' H' B1 H1 B2 H2 : Hp} {σ σ' : L2.St} {ρ ρ' : Env} {f0 f1 f2 : Fps} {v : V} {r : Vl} {f g : List Addr}
def noExt : Option HO → Option HO
  | some (.ext _) => none
  | o => o
theorem noExt_some {o : Option HO} {u : HO} (h : noExt o = some u) : o = some u := by
  unfold noExt at h
  split at h
  · cases h
  · exact h
theorem noExt_of {u : HO} (h : ∀ φ, u ≠ .ext φ) : noExt (some u) = some u := by
  unfold noExt
  split
  · rename_i e
    exact absurd (Option.some.inj e) (h _)
  · rfl
theorem noExt_ne {o : Option HO} {φ : Heap → Prop} : noExt o ≠ some (.ext φ) := fun h => by
  have e := noExt_some h
  rw [e] at h
  cases h
def grown (B H H' : Hp) : Hp := fun a => match H a with
  | none => noExt (H' a)
  | some _ => B a
theorem New.grown {d : D} (e1 : Ex B H) (e2 : Ex H H') (h : DV K (grown B H H') v d) : New K B H v (.sh d) (grown B H H') H' [] where
  bb := fun a o q => by
    unfold DL.grown
    rw [e1 a o q]
    exact q
  hh := e2
  bh := fun a o q => by
    unfold DL.grown at q
    split at q
    · exact noExt_some q
    · exact e2 a o (e1 a o q)
  off := fun a q1 q2 => by
    unfold DL.grown
    split
    · rename_i h; exact absurd h q2
    · exact q1
  val := ⟨rfl, v, rfl, h⟩
  fr := fun _ q => (nomatch q)
  pl := fun n a φ q => by
    unfold DL.grown at q
    split at q
    · exact noExt_ne q
    · exact n a φ q
theorem grown_new {a : Addr} {xs : List V} (h : H a = none) (e : H' a = some (.tup xs)) : grown B H H' a = some (.tup xs) := by
  unfold grown
  rw [h, e]
  rfl
theorem grown_ex (e : Ex B H) : Ex B (grown B H H') := fun a o q => by
  unfold DL.grown
  rw [e a o q]
  exact q
def xTupZip (ma : MA) : MX := fun ρ => R.bind (ma ρ) fun a => rdO (shares a.2 a.1) fun p => match p.1 with
  | [d, e] => match kindOf d, kindOf e with
    | some (ds, false), some (es, false) => if szOk ds.length = true then .ok (.sh (.tup (zipD ds es)), p.2) else .bad
    | _, _ => .bad
  | _ => .bad
theorem dvs_of {xs : List V} : ∀ {ts : List Addr} {ds : List D}, ts.length = ds.length → (∀ (j : Nat) (T : Addr) (d : D), ts[j]? = some T → ds[j]? = some d → DV K B (.ref T) d) → DVs K B (ts.map V.ref) ds
  | [], [], _, _ => .nil
  | [], _ :: _, h, _ => by simp at h
  | _ :: _, [], h, _ => by simp at h
  | T :: ts, d :: ds, h, f => .cons (f 0 T d rfl rfl) (dvs_of (xs := xs) (by simpa using h) fun j T d h1 h2 => f (j + 1) T d (by simpa using h1) (by simpa using h2))
theorem im_tupZip {t : TA} {m : MA} (ha : ImpA K ct E t m) : Imp K ct E (tTupZip K t) (xTupZip m) := by
  intro B H σ ρ f0 Q R h
  refine ha B H σ ρ f0 _ R (h.first fun a ea h vs B1 H1 f1 f x => ?_)
  obtain ⟨p, e1, h⟩ := h.get
  obtain ⟨B2, f2, R2, hd, fr⟩ := x.shared e1
  split at h
  · rename_i d e ep
    split at h
    · rename_i ds es q1 q2
      by_cases hz : szOk ds.length = true
      · rw [if_pos hz] at h
        rw [ep] at hd
        cases hd with
        | cons h1 hd =>
          cases hd with
          | cons h2 hd =>
            cases hd
            obtain ⟨a1, xs, rfl, s1, v1⟩ := kindOf_ok h1 q1
            obtain ⟨a2, ys, rfl, s2, v2⟩ := kindOf_ok h2 q2
            refine ⟨_, _, _, _, rfl, ex_l R2.ex s1, ex_l R2.ex s2, ?_, fun H3 ts q za hq => ?_⟩
            · have := szOk_le hz
              rw [v1.len]
              omega
            · have hHq : H1 q = none := by
                cases e : H1 q with
                | none => rfl
                | some o => rw [za.ex _ _ e] at hq; cases hq
              have e3 : Ex H1 (upd H3 q (.tup (ts.map V.ref))) := za.ex.trans (Ex.new hq)
              refine h _ _ _ _ _ (R2.newRes fr (New.grown R2.ex e3 (.tup (xs := ts.map V.ref) (Or.inl (Or.inl (grown_new hHq upd_same))) ?_)))
              refine dvs_of (xs := []) (by rw [za.len, zipD_len, v1.len, v2.len]) fun j T w g1 g2 => ?_
              obtain ⟨d', e', g3, g4, rfl⟩ := zipD_get g2
              obtain ⟨n0, u, u2, g5, g6, g7⟩ := za.at_ j T g1
              obtain ⟨u', hu, ru⟩ := v1.get g3
              obtain ⟨w', hw, rw'⟩ := v2.get g4
              rw [g5] at hu
              cases hu
              rw [g6] at hw
              cases hw
              have hTq : T ≠ q := fun z => by rw [z, hq] at g7; cases g7
              refine .tup (xs := [u, u2]) (Or.inl (Or.inl (grown_new n0 (by rw [upd_ne hTq]; exact g7)))) (.cons (ru.mono (grown_ex R2.ex)) (.cons (rw'.mono (grown_ex R2.ex)) .nil))
      · rw [if_neg hz] at h
        exact h.elim
    · exact h.elim
  · exact h.elim
def xYes : MT := fun ρ => .ok (true, ρ)
theorem it_yes : ImpT K ct E tYes xYes := fun B H σ ρ f0 Q R q => q B H f0 (.refl R)
theorem spM_bad {vs : List V} {Q : VK} (h : spM K ct (fun _ => .bad) vs H Q E) : False := by
  obtain ⟨_, _, _, _, h⟩ := h
  exact h
theorem okBad {P : Program} {w : World} {mg : Str → Option Value} {base : Heap} {k : Nat} {a : Addr} {fd : FuncData} {ps : List Str} : FnOk P w K mg base (L2.CX P w) k a fd ps (spM K ct fun _ => .bad) :=
  ⟨fun _ _ _ _ h => (spM_bad h).elim, fun _ _ _ _ _ _ _ _ _ _ _ _ _ h => (spM_bad h).elim⟩
end
end DL
end
section
set_option maxRecDepth 100000
set_option maxHeartbeats 2000000
namespace DL
open PySem PySem.Spec PyProof.Rows L2
open Evl (Ex ex_rd ex_l ex_t)
section
variable {K : PySem.W.Frag} {ct : Ct} {E : XK} {B H B' H' B1 H1 B2 H2 : Hp} {σ σ' : L2.St} {ρ ρ' : Env} {f0 f1 f2 : Fps} {v : V} {r : Vl} {f g : List Addr} {fix : Nat → Bool}
theorem Rel.mutS {i : Nat} {p : Addr} {o : HO} {s : Sl} (R : Rel K B H σ ρ f0) (hi : i < ρ.length) (hp : p ∈ f0 i) (ok : SlOk K B (upd H p o) (σ[i]?).join s (f0 i)) : Rel K B (upd H p o) σ (ρ.set i s) f0 where
  len := by rw [List.length_set]; exact R.len
  ex := fun a o q => by
    rw [upd_ne (fun e => by rw [e, (R.off i p hp).1] at q; cases q)]
    exact R.ex a o q
  pl := R.pl
  ok := fun j t q => by
    by_cases e : j = i
    · subst e
      rw [List.getElem?_set_self hi] at q
      cases q
      exact ok
    · rw [List.getElem?_set_ne (Ne.symm e)] at q
      have ok := R.ok j t q
      have ne : ∀ a ∈ f0 j, a ≠ p := fun a ha z => e (R.dis j i a ha (by rw [z]; exact hp))
      cases t with
      | emp => exact ok
      | sh d => exact ok
      | own es =>
        obtain ⟨p', ys, e1, e2, e3, e4⟩ := ok
        refine ⟨p', ys, e1, e2, ?_, e4⟩
        rw [upd_ne (ne p' (by rw [e2]; simp))]
        exact e3
      | own2 l =>
        obtain ⟨p', ps, e1, e2, e3, e4, e5⟩ := ok
        refine ⟨p', ps, e1, e2, e3, ?_, e5.to (fun _ _ q => q) fun q hq o e => ?_⟩
        · rw [upd_ne (ne p' (by rw [e2]; simp))]
          exact e4
        · rw [upd_ne (ne q (by rw [e2]; exact List.mem_cons_of_mem _ hq))]
          exact e
      | drw st =>
        obtain ⟨a, w, c, e1, e2, e3, e4, e5, e6⟩ := ok
        refine ⟨a, w, c, e1, e2, e3, ?_, ?_, e6⟩
        · rw [upd_ne (ne a (by rw [e2]; simp))]
          exact e4
        · rw [upd_ne (ne w (by rw [e2]; simp))]
          exact e5
      | ob o => exact ObOk.to ok (fun _ _ q => q) fun a ha u e => by rw [upd_ne (ne a ha)]; exact e
      | tab T d => exact ⟨ok.1.to fun a ha o e => by rw [upd_ne (ne a ha)]; exact e, ok.2⟩
  out := fun j q => by
    by_cases e : j = i
    · subst e
      rw [List.getElem?_set_self hi] at q
      cases q
    · rw [List.getElem?_set_ne (Ne.symm e)] at q
      exact R.out j q
  dis := R.dis
  off := fun j a ha => ⟨(R.off j a ha).1, by
    by_cases e : a = p
    · rw [e, upd_same]; simp
    · rw [upd_ne e]
      exact (R.off j a ha).2⟩
def drwS : Option Sl → Option Draw
  | some (.drw st) => some st
  | _ => none
def dkOf (st : Draw) (w c : Addr) : List (Key × V) := [(.inr "wide", .ref w), (.inr "cells", .ref c), (.inr "rest", .int st.rest), (.inr "turn", .int st.turn)]
theorem Rel.drw {i : Nat} {st : Draw} (R : Rel K B H σ ρ f0) (h : drwS ρ[i]? = some st) : ∃ a w c, σ[i]? = some (some (.ref a)) ∧ f0 i = [a, w] ∧ a ≠ w ∧ H a = some (.dK (dkOf st w c)) ∧ H w = some (.lst (st.wide.map V.int)) ∧ SqL K B c (st.cells.map V.int) ∧ i < ρ.length := by
  cases e : ρ[i]? with
  | none => rw [e] at h; cases h
  | some s =>
    rw [e] at h
    have ok := R.ok i s e
    cases s with
    | drw st' =>
      cases h
      obtain ⟨a, w, c, q1, q2, q3, q4, q5, q6⟩ := ok
      refine ⟨a, w, c, ?_, q2, q3, q4, q5, q6, (List.getElem?_eq_some_iff.mp e).1⟩
      cases q : σ[i]? with
      | none => rw [q] at q1; cases q1
      | some o => rw [q] at q1; exact congrArg some q1
    | _ => cases h
def xDrw (g : Draw → Vl) (i : Nat) : MX := fun ρ => rdO (drwS ρ[i]?) fun st => .ok (g st, ρ)
theorem valV_wide {st : Draw} {w c : Addr} : valV (dkOf st w c) (.inr "wide") = some (.ref w) := rfl
theorem valV_cells {st : Draw} {w c : Addr} : valV (dkOf st w c) (.inr "cells") = some (.ref c) := rfl
theorem valV_rest {st : Draw} {w c : Addr} : valV (dkOf st w c) (.inr "rest") = some (.int st.rest) := rfl
theorem valV_turn {st : Draw} {w c : Addr} : valV (dkOf st w c) (.inr "turn") = some (.int st.turn) := rfl
theorem putK_rest {st : Draw} {w c : Addr} {k : Int} : putK (dkOf st w c) (.inr "rest") (.int k) = dkOf { st with rest := k } w c := rfl
theorem putK_turn {st : Draw} {w c : Addr} {k : Int} : putK (dkOf st w c) (.inr "turn") (.int k) = dkOf { st with turn := k } w c := rfl
theorem im_drest {i : Nat} : Imp K ct E (tDGet (tVar i) (tC (.str "rest"))) (xDrw (fun st => .sh (.int st.rest)) i) := by
  intro B H σ ρ f0 Q R h
  obtain ⟨st, e, h⟩ := h.get
  obtain ⟨a, w, c, q1, q2, q3, q4, q5, q6, q7⟩ := R.drw e
  exact ⟨_, q1, a, .int st.rest, rfl, DGet.k (k := .inr "rest") q4, h _ _ _ _ _ (.refl R (.int _))⟩
theorem im_dturn {i : Nat} : Imp K ct E (tDGet (tVar i) (tC (.str "turn"))) (xDrw (fun st => .sh (.int st.turn)) i) := by
  intro B H σ ρ f0 Q R h
  obtain ⟨st, e, h⟩ := h.get
  obtain ⟨a, w, c, q1, q2, q3, q4, q5, q6, q7⟩ := R.drw e
  exact ⟨_, q1, a, .int st.turn, rfl, DGet.k (k := .inr "turn") q4, h _ _ _ _ _ (.refl R (.int _))⟩
theorem im_dcells {i : Nat} : Imp K ct E (tDGet (tVar i) (tC (.str "cells"))) (xDrw (fun st => .sh (.scr st.cells)) i) := by
  intro B H σ ρ f0 Q R h
  obtain ⟨st, e, h⟩ := h.get
  obtain ⟨a, w, c, q1, q2, q3, q4, q5, q6, q7⟩ := R.drw e
  exact ⟨_, q1, a, .ref c, rfl, DGet.k (k := .inr "cells") q4, h _ _ _ _ _ (.refl R (.scr q6))⟩
def okL (ds : List D) : Prop := ∃ ps, pyds ds = some ps ∧ PyData.canLayAll0 ps = true ∧ PyData.depthAll ps ≤ 63
theorem eqD_nil {ds : List D} (h : okL ds) : eqD (.lst ds) (.lst []) = some ds.isEmpty := by
  obtain ⟨ps, e1, e2, e3⟩ := h
  have p1 : pyd (.lst ds) = some (.list ps) := by
    unfold pyd
    rw [e1]
    rfl
  have p2 : pyd (.lst []) = some (.list []) := by
    unfold pyd pyds
    rfl
  have s1 : SeqAt.shaped (.list ps) = true := by
    unfold SeqAt.shaped PyData.canLay0 PyData.depth
    rw [e2]
    simp
    omega
  have s2 : SeqAt.shaped (.list []) = true := by
    unfold SeqAt.shaped PyData.canLay0 PyData.canLayAll0 PyData.depth PyData.depthAll
    simp
  unfold eqD
  rw [p1, p2]
  show (if (SeqAt.shaped (.list ps) && SeqAt.shaped (.list [])) = true then some (PyData.eqv (.list ps) (.list [])) else none) = _
  rw [s1, s2]
  show some (PyData.eqv (.list ps) (.list [])) = _
  have l : ps.isEmpty = ds.isEmpty := by
    cases ds with
    | nil => unfold pyds at e1; cases e1; rfl
    | cons d r =>
      unfold pyds at e1
      cases q : pyd d with
      | none => rw [q] at e1; cases e1
      | some p =>
        rw [q] at e1
        cases q2 : pyds r with
        | none => rw [q2] at e1; cases e1
        | some qs => rw [q2] at e1; cases e1; rfl
  rw [← l]
  cases ps with
  | nil => unfold PyData.eqv PyData.eqvAll; rfl
  | cons p r => unfold PyData.eqv PyData.eqvAll; rfl
theorem gEq_nil {ds : List D} (h : okL ds) : gEq (.lst ds) (.lst []) = some ds.isEmpty := by
  unfold gEq
  rw [eqD_nil h]
  rfl
theorem gNe_nil {ds : List D} (h : okL ds) : gNe (.lst ds) (.lst []) = some (!ds.isEmpty) := by
  unfold gNe
  rw [eqD_nil h]
  rfl
theorem okL_ints : ∀ ns : List Int, okL (ns.map D.int)
  | [] => ⟨[], by unfold List.map pyds; rfl, by unfold PyData.canLayAll0; rfl, by unfold PyData.depthAll; omega⟩
  | n :: r => by
    obtain ⟨ps, e1, e2, e3⟩ := okL_ints r
    refine ⟨.int n :: ps, ?_, ?_, ?_⟩
    · rw [List.map_cons]
      unfold pyds
      rw [e1]
      unfold pyd
      rfl
    · unfold PyData.canLayAll0 PyData.canLay0
      rw [e2]
      rfl
    · unfold PyData.depthAll PyData.depth
      omega
theorem im_dwide {i : Nat} : Imp K ct E (tOp (rNes K) (tDGet (tVar i) (tC (.str "wide"))) (tLst tNil)) (xDrw (fun st => .sh (.bl (!st.wide.isEmpty))) i) := by
  intro B H σ ρ f0 Q R h
  obtain ⟨st, e, h⟩ := h.get
  obtain ⟨a, w, c, q1, q2, q3, q4, q5, q6, q7⟩ := R.drw e
  refine ⟨_, q1, a, .ref w, rfl, DGet.k (k := .inr "wide") q4, Nat.zero_le _, fun q hq => ?_⟩
  have n := New.lst (K := K) (xs := []) (ds := []) R.ex hq .nil
  have nw : w ≠ q := fun z => by rw [z, hq] at q5; cases q5
  have R2 := n.rel R
  have e2 : gNe (.lst (st.wide.map D.int)) (.lst []) = some (!st.wide.isEmpty) := by
    rw [gNe_nil (okL_ints _)]
    cases st.wide <;> rfl
  refine ci_ne _ _ (.ref w) (.ref q) (.lst (st.wide.map D.int)) (.lst []) (!st.wide.isEmpty) R2.ex ⟨w, _, rfl, by rw [upd_ne nw]; exact q5, DVs.ints _⟩ ⟨q, [], rfl, upd_same, .nil⟩ e2 Q ?_
  exact h _ _ _ _ _ (Res.refl' R2 (.bl _) ((n.frm0 _)))
def xDPop (i : Nat) : MX := fun ρ => rdO (drwS ρ[i]?) fun st => match st.wide with
  | [] => .bad
  | k :: r => if szOk st.wide.length = true then .ok (.sh (.int k), ρ.set i (.drw { st with wide := r })) else .bad
theorem im_dpop {i : Nat} : Imp K ct E (tBM K "list" rPopAt (tDGet (tVar i) (tC (.str "wide"))) (tCons (tC (.int 0)) tNil)) (xDPop i) := by
  intro B H σ ρ f0 Q R h
  obtain ⟨st, e, h⟩ := h.get
  obtain ⟨a, w, c, q1, q2, q3, q4, q5, q6, q7⟩ := R.drw e
  cases ew : st.wide with
  | nil =>
    simp only [ew] at h
    exact h.elim
  | cons k r =>
    simp only [ew] at h
    by_cases hz : szOk (k :: r).length = true
    · rw [if_pos hz] at h
      rw [ew] at q5
      refine ⟨_, q1, a, .ref w, rfl, DGet.k (k := .inr "wide") q4, .inl ⟨rfl, _, SqL.of q5⟩, w, _, 0, 0, .int k, rfl, rfl, q5, by omega, by omega, ?_, rfl, ?_⟩
      · rw [List.length_map]
        show seqIndex? 0 (r.length + 1) = some 0
        unfold seqIndex?
        simp
      · refine h _ _ _ _ _ (Res.refl' (R.mutS (p := w) (o := .lst (r.map V.int)) (s := .drw { st with wide := r }) q7 (by rw [q2]; simp) ?_) (.int k) (frm_upd ⟨i, by rw [q2]; simp⟩))
        rw [q1]
        exact ⟨a, w, c, rfl, q2, q3, by rw [upd_ne q3]; exact q4, upd_same, q6⟩
    · rw [if_neg hz] at h
      exact h.elim
def sDPut (g : Draw → Int → Draw) (i : Nat) (m : MX) : MS := fun ρ => R.bind (m ρ) fun a => rdO (rdv a.2 a.1) fun d => rdO (intOf d) fun k => rdO (drwS a.2[i]?) fun st => .ok (.nx (a.2.set i (.drw (g st k))))
theorem is_dput_aux {i : Nat} {x : Str} {gg : Draw → Int → Draw} {t : TE} {m : MX} (hg : ∀ st w c k, putK (dkOf st w c) (.inr x) (.int k) = dkOf (gg st k) w c) (hw : ∀ st k, (gg st k).wide = st.wide) (hc : ∀ st k, (gg st k).cells = st.cells)
    (ha : Imp K ct E t m) : ImpS K ct E fix (L2.sDPut (tVar i) (tC (.str x)) t) (DL.sDPut gg i m) := by
  intro B H σ ρ f0 Z R h
  refine ha B H σ ρ f0 _ R (h.first fun a ea h v B1 H1 f1 g y => ?_)
  obtain ⟨d, e1, h⟩ := h.get
  obtain ⟨k, e2, h⟩ := h.get
  obtain ⟨st, e3, h⟩ := h.get
  have hv : RdV K B1 H1 v (.int k) := by
    rw [← intOf_eq e2]
    exact y.val.rd y.rel e1
  cases hv
  obtain ⟨a', w, c, q1, q2, q3, q4, q5, q6, q7⟩ := y.rel.drw e3
  refine ⟨_, q1, a', _, rfl, DPut.k (k := .inr x) q4 ?_, h _ _ _ f1 ⟨y.rel.mutS q7 (by rw [q2]; simp) ?_, y.drop.frm.trans (frm_upd ⟨i, by rw [q2]; simp⟩), fun j _ => rfl⟩⟩
  · show 4 < sizeLine
    rw [sizeLine_eq]
    omega
  · rw [q1, hg]
    refine ⟨a', w, c, rfl, q2, q3, upd_same, ?_, ?_⟩
    · rw [upd_ne (Ne.symm q3), hw]; exact q5
    · rw [hc]; exact q6
theorem is_drest {i : Nat} {t : TE} {m : MX} (ha : Imp K ct E t m) : ImpS K ct E fix (L2.sDPut (tVar i) (tC (.str "rest")) t) (DL.sDPut (fun st k => { st with rest := k }) i m) :=
  is_dput_aux (fun _ _ _ _ => rfl) (fun _ _ => rfl) (fun _ _ => rfl) ha
theorem is_dturn {i : Nat} {t : TE} {m : MX} (ha : Imp K ct E t m) : ImpS K ct E fix (L2.sDPut (tVar i) (tC (.str "turn")) t) (DL.sDPut (fun st k => { st with turn := k }) i m) :=
  is_dput_aux (fun _ _ _ _ => rfl) (fun _ _ => rfl) (fun _ _ => rfl) ha
def intsD : List D → Option (List Int)
  | [] => some []
  | .int i :: r => (intsD r).map (i :: ·)
  | _ => none
theorem intsD_eq : ∀ {l : List D} {ns : List Int}, intsD l = some ns → l = ns.map D.int
  | [], ns, h => by cases h; rfl
  | d :: r, ns, h => by
    cases d with
    | int i =>
      have h : (intsD r).map (i :: ·) = some ns := h
      cases e : intsD r with
      | none => rw [e] at h; cases h
      | some ms =>
        rw [e] at h
        cases h
        rw [intsD_eq e]
        rfl
    | _ => cases h
def xDraw (i : Nat) (m : MX) : MX := fun ρ => rdO (ownS ρ[i]?) fun _ => R.bind (m ρ) fun a => rdO (share a.2 a.1) fun p => match p.1 with
  | .lst cs => rdO (ownS p.2[i]?) fun ws => rdO (intsD ws) fun wi => rdO (intsD cs) fun ci => .ok (.drw ⟨wi, ci, 0, 0⟩, p.2.set i .emp)
  | _ => .bad
theorem merge4 {w c : Addr} : mergeK [] [((.inr "wide" : Key), V.ref w), (.inr "cells", .ref c), (.inr "rest", .int 0), (.inr "turn", .int 0)] = dkOf ⟨[], [], 0, 0⟩ w c := rfl
theorem set_self {i : Nat} {w : Option V} (h : σ[i]? = some w) : σ.set i w = σ := by
  apply List.ext_getElem?
  intro j
  by_cases e : j = i
  · subst e
    rw [List.getElem?_set_self (List.getElem?_eq_some_iff.mp h).1, h]
  · rw [List.getElem?_set_ne (Ne.symm e)]
theorem im_draw {i : Nat} {t : TE} {m : MX} (ha : Imp K ct E t m) : Imp K ct E (tDisp [(tC (.str "wide"), tVar i), (tC (.str "cells"), t), (tC (.str "rest"), tC (.int 0)), (tC (.str "turn"), tC (.int 0))]) (xDraw i m) := by
  intro B H σ ρ f0 Q R h
  intro p hp
  obtain ⟨w0, e0, h⟩ := h.get
  obtain ⟨w, ys, q1, q2, q3, q4, q5⟩ := R.own e0
  have bp : B p = none := Rel.fresh R.ex hp
  have np : ¬ Owned f0 p := fun ⟨j, z⟩ => (R.off j p z).2 hp
  have fr0 : Frm B H (Owned f0) B (upd H p (.dK [])) (fun a => Owned f0 a ∨ a = p) := ⟨fun _ _ q => q, fun a o q n => by rw [upd_ne (ne_of_none q hp)]; exact q, fun a q _ _ => q, fun a q => q.elim .inl fun z => .inr (by rw [z]; exact hp), fun a q => by
    by_cases z : a = p
    · rw [z, upd_same]; simp
    · rw [upd_ne z]; exact q⟩
  have R1 : Rel K B (upd H p (.dK [])) σ ρ f0 := R.frm (P := fun _ => False) (P' := fun _ => False) ⟨fun _ _ q => q, fun a o q n => by rw [upd_ne (ne_of_none q hp)]; exact q, fun a q _ _ => q, fun a q => .inl q, fr0.dom⟩ (fun a o q => by rw [upd_ne (fun z => by rw [z, bp] at q; cases q)]; exact R.ex a o q) R.pl fun _ _ z => z
  refine ⟨_, q1, ha B _ σ ρ f0 _ R1 (h.step fr0 (fun _ z => .inl z) fun a ea h v B2 H2 f2 g x => ?_)⟩
  obtain ⟨s, e1, h⟩ := h.get
  have hp1 : (upd H p (.dK []) : Hp) p ≠ none := by rw [upd_same]; simp
  have hp2 : H2 p = some (.dK []) := x.frm.keep p _ upd_same np
  have ap := x.frm.apart hp1 np
  obtain ⟨B3, f3, R3, hd, e3, off3, _, fr3⟩ := share_ok (S := [p]) (d := s.1) (ρ' := s.2) x.rel x.val x.off (fun b hb => by
    have eb : b = p := by simpa using hb
    rw [eb]
    exact ⟨x.frm.off p bp hp1 np, fun z => ap (.inl z), fun z => ap (.inr z)⟩) e1
  have o3 := off3 p (by simp)
  obtain ⟨d, ρ3⟩ := s
  cases d with
  | lst cs =>
    have h : Post ct E H f0 (rdO (ownS ρ3[i]?) fun ws => rdO (intsD ws) fun wi => rdO (intsD cs) fun ci => .ok (.drw ⟨wi, ci, 0, 0⟩, ρ3.set i .emp)) (XOk K B H σ f0 Q) := h
    obtain ⟨ws, e4, h⟩ := h.get
    obtain ⟨wi, e5, h⟩ := h.get
    obtain ⟨ci, e6, h⟩ := h.get
    obtain ⟨w', xs, r1, r2, r3, r4, r5⟩ := R3.own e4
    rw [q1] at r1
    cases r1
    rw [intsD_eq e5] at r4
    have ex := r4.ints_of
    subst ex
    cases hd with
    | lst h1 h2 =>
    rename_i c zs
    rw [intsD_eq e6] at h2
    have ez := h2.ints_of
    subst ez
    have nw : p ≠ w := fun z => o3.2 ⟨i, by rw [r2, z]; simp⟩
    refine ⟨hp2, [((.inr "wide" : Key), V.ref w), (.inr "cells", .ref c), (.inr "rest", .int 0), (.inr "turn", .int 0)], rfl, by show 4 ≤ 15; decide, ?_⟩
    refine h _ B3 _ (fpSet f3 i []) [p, w] ⟨?_, ⟨p, w, c, rfl, rfl, nw, upd_same, by rw [upd_ne (Ne.symm nw)]; exact r3, R3.ex |> fun _ => SqL.of h1⟩, fun b hb => ?_, ?_⟩
    · have R4 := R3.empSl i (some (.ref w))
      rw [set_self q1] at R4
      refine R4.frm (P := fun a => a = p) (P' := fun a => a = p) (frm_upd rfl) (fun a o q => ?_) R3.pl fun a z e => ?_
      · rw [upd_ne (fun z => by rw [z, o3.1] at q; cases q)]
        exact R3.ex a o q
      · subst e
        rcases owned_set z with z | z
        · exact o3.2 z
        · exact (nomatch z)
    · have hb' : b = p ∨ b = w := by simpa using hb
      rcases hb' with e | e
      · rw [e]
        refine ⟨o3.1, fun z => ?_⟩
        rcases owned_set z with z | z
        · exact o3.2 z
        · exact (nomatch z)
      · rw [e]
        refine ⟨(R3.off i w (by rw [r2]; simp)).1, fun ⟨j, z⟩ => ?_⟩
        by_cases ej : j = i
        · subst ej
          rw [fpSet_same] at z
          exact (nomatch z)
        · rw [fpSet_ne ej] at z
          exact ej (R3.dis j i w z (by rw [r2]; simp))
    · have F1 := (fr0.trans (x.frm.side (· = p))).trans (fr3.side (· = p))
      refine (F1.trans (frm_upd (P := fun a => Owned f3 a ∨ a = p) (.inr rfl))).to fun b z => .inl ?_
      rcases z with z | z
      · rcases owned_set z with z | z
        · exact .inl z
        · exact (nomatch z)
      · have hb' : b = p ∨ b = w := by simpa using z
        rcases hb' with e | e
        · exact .inr e
        · exact .inl ⟨i, by rw [r2, e]; simp⟩
  | _ => exact h.elim
end
end DL
end
section
set_option maxRecDepth 100000
set_option maxHeartbeats 2000000
namespace DL
open PySem PySem.Spec PyProof.Rows L2
open Evl (Ex ex_rd ex_l ex_t)
section
variable {K : PySem.W.Frag} {ct : Ct} {E : XK} {B H B' H' B1 H1 B2 H2 : Hp} {σ σ' : L2.St} {ρ ρ' : Env} {f0 f1 f2 : Fps} {v : V} {r : Vl} {f g : List Addr} {fix : Nat → Bool} {X : Cx}
def frz : Sl → Sl
  | .own ds => .sh (.lst ds)
  | .own2 l => .sh (.lst (l.map D.lst))
  | .drw _ => .emp
  | .ob _ => .emp
  | .tab _ d => .sh d
  | s => s
def noF : Fps := fun _ => []
theorem noF_owned {a : Addr} (h : Owned noF a) : False := by
  obtain ⟨i, z⟩ := h
  exact (nomatch z)
def strip (H : Hp) : Hp := fun a => noExt (H a)
theorem strip_no : NoE (strip H) := fun a φ h => noExt_ne h
theorem strip_ex : Ex (strip H) H := fun a o h => noExt_some h
theorem strip_of {a : Addr} {o : HO} (h : H a = some o) (n : ∀ φ, o ≠ .ext φ) : strip H a = some o := by
  unfold strip
  rw [h]
  exact noExt_of n
theorem strip_lst {a : Addr} {xs : List V} (h : H a = some (.lst xs)) : strip H a = some (.lst xs) := strip_of h fun _ z => by cases z
theorem ex_strip (e : Ex B H) (n : NoE B) : Ex B (strip H) := fun a o h => strip_of (e a o h) fun φ z => n a φ (by rw [h, z])
theorem RowsOk.dvs : ∀ {ps : List Addr} {l : List (List D)}, RowsOk K B H ps l → Ex B (strip H) → DVs K (strip H) (ps.map V.ref) (l.map D.lst)
  | _, _, .nil, _ => .nil
  | _, _, .cons h d r, e => .cons (.lst (strip_lst h) (d.mono e)) (RowsOk.dvs r e)
theorem Rel.frz (R : Rel K B H σ ρ f0) : Rel K (strip H) H σ (ρ.map DL.frz) noF where
  len := by rw [List.length_map]; exact R.len
  ex := strip_ex
  pl := strip_no
  ok := fun i s q => by
    have eS := ex_strip R.ex R.pl
    rw [List.getElem?_map] at q
    cases e : ρ[i]? with
    | none => rw [e] at q; cases q
    | some t =>
      rw [e] at q
      cases q
      have ok := R.ok i t e
      cases t with
      | emp => rfl
      | sh d =>
        obtain ⟨_, x, h1, h2⟩ := ok
        exact ⟨rfl, x, h1, h2.mono eS⟩
      | own ds =>
        obtain ⟨p, xs, h1, h2, h3, h4⟩ := ok
        exact ⟨rfl, _, h1, .lst (strip_lst h3) (h4.mono eS)⟩
      | own2 l =>
        obtain ⟨p, ps, h1, h2, h3, h4, h5⟩ := ok
        exact ⟨rfl, _, h1, .lst (strip_lst h4) (h5.dvs eS)⟩
      | drw st => rfl
      | ob o => rfl
      | tab T d =>
        obtain ⟨_, x, h1, h2⟩ := ok
        exact ⟨rfl, x, h1, h2.mono eS⟩
  out := fun _ _ => rfl
  dis := fun _ _ _ h => (nomatch h)
  off := fun _ _ h => (nomatch h)
def scalD : D → Bool
  | .non | .bl _ | .int _ | .str _ => true
  | _ => false
theorem DV.scal {d : D} (h : DV K B v d) (hs : scalD d = true) (B' : Hp) : DV K B' v d := by
  cases h <;> first | (cases hs; done) | skip
  · exact .non
  · exact .bl _
  · exact .int _
  · exact .str _
theorem DVs.scal : ∀ {vs : List V} {ds : List D}, DVs K B vs ds → ds.all scalD = true → ∀ B', DVs K B' vs ds
  | _, _, .nil, _, _ => .nil
  | _, _, .cons h r, hs, B' => by
    rw [List.all_cons, Bool.and_eq_true] at hs
    exact .cons (h.scal hs.1 B') (DVs.scal r hs.2 B')
theorem RdV.scal {d : D} (h : RdV K B H v d) (hs : scalD d = true) (B' : Hp) : DV K B' v d := by
  cases d <;> first | (cases hs; done) | skip
  all_goals exact DV.scal (d := _) h hs B'
def xFrz (m : MX) : MX := fun ρ => R.bind (m (ρ.map frz)) fun a => rdO (rdv a.2 a.1) fun d => if scalD d = true then .ok (.sh d, ρ) else .bad
theorem Kept.ofNo (k : Kept H noF H') (f0 : Fps) : Kept H f0 H' := fun a o h _ => k a o h fun z => noF_owned z
theorem Frm.ofNo {P' : Addr → Prop} (fr : Frm B H (Owned noF) B' H' P') : Ex H H' := fun a o q => fr.keep a o q fun z => noF_owned z
theorem Rel.unfrz (R : Rel K B H σ ρ f0) (e : Ex H H') : Rel K B H' σ ρ f0 :=
  R.frm (P := fun _ => False) (P' := fun _ => False) (Frm.new (fun _ _ q => q) e fun _ q _ => q) (R.ex.trans e) R.pl fun _ _ z => z
theorem frz_frm (f0 : Fps) (e : Ex H H') : Frm B H (Owned f0) B H' (Owned f0) := Frm.new (fun _ _ q => q) e fun _ q _ => q
theorem Post.frz {α β : Type} {m : R α} {k : α → R β} {ok : β → Prop} {ok1 : α → Prop} (h : Post ct E H f0 (R.bind m k) ok) (st : ∀ a, m = .ok a → Post ct E H f0 (k a) ok → ok1 a) : Post ct E H noF m ok1 := by
  cases e : m with
  | bad => rw [e] at h; exact h
  | ok a =>
    rw [e] at h
    exact st a e h
  | exc c p =>
    rw [e] at h
    exact fun d H' kk pk => h d H' (kk.ofNo f0) pk
theorem im_frz {t : TE} {m : MX} (ha : Imp K ct E t m) : Imp K ct E t (xFrz m) := by
  intro B H σ ρ f0 Q R h
  refine ha (strip H) H σ (ρ.map DL.frz) noF _ R.frz (h.frz fun a ea h v B1 H1 f1 f x => ?_)
  obtain ⟨d, e1, h⟩ := h.get
  by_cases hs : scalD d = true
  · rw [if_pos hs] at h
    have e := x.frm.ofNo
    exact h v B H1 f0 [] (Res.refl' (R.unfrz e) ((x.val.rd x.rel e1).scal hs B) (frz_frm f0 e))
  · rw [if_neg hs] at h
    exact h.elim
def own2S : Option Sl → Option (List (List D))
  | some (.own2 l) => some l
  | _ => none
def intS : Option Sl → Option Int
  | some (.sh (.int k)) => some k
  | _ => none
theorem Rel.intS {i : Nat} {k : Int} (R : Rel K B H σ ρ f0) (h : DL.intS ρ[i]? = some k) : σ[i]? = some (some (.int k)) := by
  cases e : ρ[i]? with
  | none => rw [e] at h; cases h
  | some s =>
    rw [e] at h
    have ok := R.ok i s e
    cases s with
    | sh d =>
      cases d <;> first | (cases h; done) | skip
      cases h
      obtain ⟨_, x, h1, h2⟩ := ok
      cases h2
      cases q : σ[i]? with
      | none => rw [q] at h1; cases h1
      | some o => rw [q] at h1; exact congrArg some h1
    | _ => cases h
theorem Rel.own2 {i : Nat} {l : List (List D)} (R : Rel K B H σ ρ f0) (h : own2S ρ[i]? = some l) : ∃ p ps, σ[i]? = some (some (.ref p)) ∧ f0 i = p :: ps ∧ (p :: ps).Nodup ∧ H p = some (.lst (ps.map V.ref)) ∧ RowsOk K B H ps l ∧ i < ρ.length := by
  cases e : ρ[i]? with
  | none => rw [e] at h; cases h
  | some s =>
    rw [e] at h
    have ok := R.ok i s e
    cases s with
    | own2 es =>
      cases h
      obtain ⟨p, ps, q1, q2, q3, q4, q5⟩ := ok
      refine ⟨p, ps, ?_, q2, by rw [← q2]; exact q3, q4, q5, (List.getElem?_eq_some_iff.mp e).1⟩
      cases q : σ[i]? with
      | none => rw [q] at q1; cases q1
      | some o => rw [q] at q1; exact congrArg some q1
    | _ => cases h
theorem RowsOk.len : ∀ {ps : List Addr} {l : List (List D)}, RowsOk K B H ps l → ps.length = l.length
  | _, _, .nil => rfl
  | _, _, .cons _ _ r => by rw [List.length_cons, List.length_cons, RowsOk.len r]
theorem RowsOk.get : ∀ {ps : List Addr} {l : List (List D)} {j : Nat} {row : List D}, RowsOk K B H ps l → l[j]? = some row → ∃ p xs, ps[j]? = some p ∧ H p = some (.lst xs) ∧ DVs K B xs row
  | _, _, j, row, .nil, e => by simp at e
  | _, _, 0, row, .cons (p := p) (xs := xs) h d _, e => by
    have e' := Option.some.inj e
    subst e'
    exact ⟨p, xs, rfl, h, d⟩
  | _, _, j + 1, row, .cons _ _ r, e => RowsOk.get (j := j) (row := row) r e
theorem RowsOk.put {q : Addr} {ys : List V} {row : List D} (hd : DVs K B ys row) : ∀ {ps : List Addr} {l : List (List D)} {j : Nat}, RowsOk K B H ps l → ps.Nodup → ps[j]? = some q → RowsOk K B (upd H q (.lst ys)) ps (l.set j row)
  | _, _, j, .nil, _, e => by simp at e
  | _, _, 0, .cons h d r, n, e => by
    have e' := Option.some.inj e
    subst e'
    refine .cons upd_same hd (r.to (fun _ _ z => z) fun p hp o ho => ?_)
    rw [upd_ne (fun z => (List.nodup_cons.mp n).1 (by rw [← z]; exact hp))]
    exact ho
  | _, _, j + 1, .cons h d r, n, e => by
    refine .cons ?_ d (RowsOk.put hd r (List.nodup_cons.mp n).2 e)
    rw [upd_ne (fun z => (List.nodup_cons.mp n).1 (by rw [z]; exact List.mem_of_getElem? e))]
    exact h
def rGetL (K : PySem.W.Frag) : V → V → Hp → VK → Prop := fun x y H Q => ∃ p xs i v, x = .ref p ∧ y = .int i ∧ SqL K H p xs ∧ atI xs i = some v ∧ Q v H
theorem get_list : PGet X (rGetL X.K) := by
  intro pins s σ H x y v u Q I rx ry h
  obtain ⟨p, xs, i, z, rfl, rfl, hq, he, q⟩ := h
  cases rx
  obtain ⟨t, rfl⟩ := ry
  obtain ⟨its, r, pl, hz⟩ := I.list hq
  obtain ⟨j, h1, h2, h3, h4, h5⟩ := atI_get he
  obtain ⟨w, ew, rw'⟩ := r.get h2
  have hl := r.length
  have hn := line63
  have fin : EP X pins σ Q w s := ⟨z, H, I, rw', q⟩
  by_cases h0 : 0 ≤ i
  · have hj : i.toNat = j := by
      rw [seqIndex_of h0 h5] at h1
      exact Option.some.inj h1
    exact wpAny_getItem_list pl.isList h0 (by omega) (by rw [hj]; simpa using ew) fin
  · have hj : (i + (its.toArray.size : Int)).toNat = j := by
      rw [seqIndex_neg (by omega) h4] at h1
      rw [List.size_toArray, ← hl]
      exact Option.some.inj h1
    exact wpAny_getItem_list_neg pl.isList (by omega) (by rw [List.size_toArray] <;> omega) (by omega) (by rw [hj]; simpa using ew) fin
def sRowAug (c g t : Nat) (me : MX) : MS := fun ρ => rdO (own2S ρ[c]?) fun l => rdO (DL.intS ρ[g]?) fun k => rdO (DL.intS ρ[t]?) fun m => rdO (ixN l.length k) fun j => rdO l[j]? fun row => rdO (ixN row.length m) fun i => rdO row[i]? fun d => rdO (intOf d) fun old =>
  R.bind (me (ρ.map frz)) fun a => rdO (rdv a.2 a.1) fun d => rdO (intOf d) fun z => .ok (.nx (ρ.set c (.own2 (l.set j (row.set i (.int (old + z)))))))
theorem atI_ix {α : Type} {xs : List α} {k : Int} {j : Nat} {x : α} (h : ixN xs.length k = some j) (e : xs[j]? = some x) : atI xs k = some x := by
  unfold atI
  rw [h]
  exact e
theorem is_rowAug {c g t : Nat} {te : TE} {me : MX} (ha : Imp K ct E te me) : ImpS K ct E fix (tAugS (tOp (rIx K) (tVar c) (tVar g)) (tVar t) te (rGetL K) (ipI fun i j => i + j) rSetL) (sRowAug c g t me) := by
  intro B H σ ρ f0 Z R h
  obtain ⟨l, e1, h⟩ := h.get
  obtain ⟨k, e2, h⟩ := h.get
  obtain ⟨m, e3, h⟩ := h.get
  obtain ⟨j, e4, h⟩ := h.get
  obtain ⟨row, e5, h⟩ := h.get
  obtain ⟨i, e6, h⟩ := h.get
  obtain ⟨d, e7, h⟩ := h.get
  obtain ⟨old, e8, h⟩ := h.get
  obtain ⟨p, ps, q1, q2, q3, q4, q5, q6⟩ := R.own2 e1
  obtain ⟨pr, xs, r1, r2, r3⟩ := q5.get e5
  have hl := q5.len
  rw [intOf_eq e8] at e7
  obtain ⟨w, w1, w2⟩ := r3.get e7
  cases w2
  have hr := r3.len
  refine ⟨_, q1, _, R.intS e2, .inl ⟨p, _, k, .ref pr, rfl, rfl, SqL.of q4, atI_ix (by rw [List.length_map, hl]; exact e4) (by rw [List.getElem?_map, r1]; rfl), _, R.intS e3, pr, xs, m, .int old, rfl, rfl, SqL.of r2, atI_ix (by rw [hr]; exact e6) w1, ?_⟩⟩
  refine ha (strip H) H σ (ρ.map DL.frz) noF _ R.frz (h.frz fun a ea h v B1 H1 f1 f x => ?_)
  obtain ⟨dz, e9, h⟩ := h.get
  obtain ⟨z, e10, h⟩ := h.get
  rw [intOf_eq e10] at e9
  have hv := x.val.rd x.rel e9
  cases hv
  have e := x.frm.ofNo
  have R1 := R.unfrz e
  refine ⟨old, z, rfl, rfl, pr, xs, m, i, rfl, rfl, e _ _ r2, by rw [hr]; exact e6, ?_⟩
  obtain ⟨p', ps', t1, t2, t3, t4, t5, t6⟩ := R1.own2 e1
  rw [q1] at t1
  cases t1
  have eps : ps' = ps := by
    rw [q2] at t2
    exact (List.cons.inj t2).2.symm
  subst eps
  have hm : pr ∈ f0 c := by
    rw [q2]
    exact List.mem_cons_of_mem _ (List.mem_of_getElem? r1)
  have nd := List.nodup_cons.mp q3
  have npr : p ≠ pr := fun z => nd.1 (by rw [z]; exact List.mem_of_getElem? r1)
  refine h _ B _ f0 ⟨R1.mutS (p := pr) (o := .lst (xs.set i (.int (old + z)))) (s := .own2 (l.set j (row.set i (.int (old + z))))) q6 hm ?_, (frz_frm f0 e).trans (frm_upd ⟨c, hm⟩), fun _ _ => rfl⟩
  rw [q1]
  exact ⟨p, ps', rfl, q2, by rw [q2]; exact q3, by rw [upd_ne npr]; exact t4, t5.put (r3.set (.int _) i) nd.2 r1⟩
def rowsLoop (mg : MG) (me : MX) (ρf : Env) : List DL.D → List (List DL.D) → R (List (List DL.D))
  | [], acc => .ok acc
  | d :: ds, acc => rdO (mg d ρf) fun ρ1 => R.bind (R.noX (me ρ1)) fun v => match v.1 with
    | .own row => if (row.all scalD && szOk (acc.length + 1)) = true then rowsLoop mg me ρf ds (acc ++ [row]) else .bad
    | _ => .bad
def sAsgR (i : Nat) (mi : MI) (mg : MG) (me : MX) (vs : List Nat) : MS := fun ρ => R.bind (mi ρ) fun a => R.bind (rowsLoop mg me ((emps a.2 vs).map frz) a.1 []) fun l => if i < a.2.length then .ok (.nx (a.2.set i (.own2 l))) else .bad
theorem RowsOk.app {p : Addr} {xs : List V} {row : List D} (h : H p = some (.lst xs)) (d : DVs K B xs row) : ∀ {ps : List Addr} {l : List (List D)}, RowsOk K B H ps l → RowsOk K B H (ps ++ [p]) (l ++ [row])
  | _, _, .nil => .cons h d .nil
  | _, _, .cons h1 d1 r => .cons h1 d1 (RowsOk.app h d r)
theorem is_asgR {i0 : Nat} {js vs : List Nat} {wi : TI} {gg : TG} {te : TE} {mi : MI} {mg : MG} {me : MX} (hi : ImpI K ct E wi mi) (hg : ImpG K js gg mg) (he : Imp K ct E0 te me) (hj : ∀ j ∈ js, j ∈ vs) (hf : fix i0 = false) :
    ImpS K ct E fix (tAsg (tLc wi gg tYes te vs) (gName i0)) (sAsgR i0 mi mg me vs) := by
  intro B H σ ρ f0 Z R h
  refine hi B H σ ρ f0 _ R (h.first fun a ea h J B1 H1 f1 x itd => ?_)
  intro D0 hD
  generalize eρ : ((emps a.2 vs).map DL.frz) = ρf at h
  refine ⟨fun i m Hc => m = a.1.length - i ∧ i ≤ a.1.length ∧ ∃ (ps : List Addr) (acc : List (List DL.D)), Ex H1 Hc ∧ Hc D0 = some (.lst (ps.map V.ref)) ∧ RowsOk K B1 Hc ps acc ∧ ps.Nodup ∧ (∀ p ∈ ps, H1 p = none ∧ p ≠ D0) ∧
      Post ct E H f0 (DL.R.bind (rowsLoop mg me ρf (a.1.drop i) acc) fun l => if i0 < a.2.length then .ok (.nx (a.2.set i0 (.own2 l))) else .bad) (OutOk K B H σ f0 fix Z), ⟨a.1.length, by simp, Nat.zero_le _, [], [], Ex.new hD, upd_same, .nil, List.nodup_nil, fun _ z => (nomatch z), h⟩, ?_⟩
  rintro i m Hc ⟨rfl, hile, ps, acc, eH, hD0, rows, nd, fresh, h⟩
  have Rc : Rel K B1 Hc σ a.2 f1 := x.rel.unfrz eH
  have Rf : Rel K (strip Hc) Hc (L2.wipe σ vs) ρf noF := by
    rw [← eρ]
    exact (Rc.wipe vs).frz
  by_cases hlt : i < a.1.length
  · have dr : a.1.drop i = a.1[i] :: a.1.drop (i + 1) := (List.drop_eq_getElem_cons hlt)
    rw [dr] at h
    have q := itd (strip Hc) Hc (ex_strip Rc.ex Rc.pl) strip_ex i
    refine .inr ⟨q.1 hlt, fun H2 => ∃ (ps : List Addr) (acc : List (List DL.D)), Ex H1 H2 ∧ H2 D0 = some (.lst (ps.map V.ref)) ∧ RowsOk K B1 H2 ps acc ∧ ps.Nodup ∧ (∀ p ∈ ps, H1 p = none ∧ p ≠ D0) ∧
      Post ct E H f0 (DL.R.bind (rowsLoop mg me ρf (a.1.drop (i + 1)) acc) fun l => if i0 < a.2.length then .ok (.nx (a.2.set i0 (.own2 l))) else .bad) (OutOk K B H σ f0 fix Z), fun H2 hN => ⟨a.1.length - (i + 1), by omega, rfl, hlt, hN⟩, fun y H2 hy => ?_⟩
    obtain ⟨B2, e1, e2, e3, e4, e4', hd⟩ := q.2.2 y H2 a.1[i] (by simp) hy
    have R2 : Rel K B2 H2 (L2.wipe σ vs) ρf noF := Rf.frm (P := fun _ => False) (P' := fun _ => False) (Frm.new e1 e2 e4) e3 (e4' Rf.pl) fun _ _ z => z
    have h : Post ct E H f0 (DL.R.bind (rdO (mg a.1[i] ρf) fun ρ1 => DL.R.bind (DL.R.noX (me ρ1)) fun v => match v.1 with
      | .own row => if (row.all scalD && szOk (acc.length + 1)) = true then rowsLoop mg me ρf (a.1.drop (i + 1)) (acc ++ [row]) else .bad
      | _ => .bad) fun l => if i0 < a.2.length then .ok (.nx (a.2.set i0 (.own2 l))) else .bad) (OutOk K B H σ f0 fix Z) := h
    cases eg : mg a.1[i] ρf with
    | none => rw [eg] at h; exact h.elim
    | some ρ1 =>
    rw [eg] at h
    refine hg B2 H2 _ ρf ρ1 noF y a.1[i] R2 hd eg _ fun σ3 f3 R3 l3 k3 o3 => ⟨mem_wipe_eq hj (l3.trans (wipe_length σ vs)) k3, ?_⟩
    show te σ3 H2 _
    have h : Post ct E H f0 (DL.R.bind (DL.R.bind (DL.R.noX (me ρ1)) fun v => match v.1 with
      | .own row => if (row.all scalD && szOk (acc.length + 1)) = true then rowsLoop mg me ρf (a.1.drop (i + 1)) (acc ++ [row]) else .bad
      | _ => .bad) fun l => if i0 < a.2.length then .ok (.nx (a.2.set i0 (.own2 l))) else .bad) (OutOk K B H σ f0 fix Z) := h
    rw [DL.R.bind_assoc] at h
    obtain ⟨w, ew, h⟩ := Post.noX (m := me ρ1) h
    refine he B2 H2 σ3 ρ1 f3 _ R3 ?_
    rw [ew]
    intro u B5 H5 f5 f z
    have no3 : ∀ a, ¬ Owned f3 a := fun a q => noF_owned (o3 a q)
    have e5 : Ex H2 H5 := fun a o q => z.frm.keep a o q (no3 a)
    obtain ⟨w1, w2⟩ := w
    cases w1 with
    | own row =>
      have h : Post ct E H f0 (DL.R.bind (if (row.all scalD && szOk (acc.length + 1)) = true then rowsLoop mg me ρf (a.1.drop (i + 1)) (acc ++ [row]) else .bad) fun l => if i0 < a.2.length then .ok (.nx (a.2.set i0 (.own2 l))) else .bad) (OutOk K B H σ f0 fix Z) := h
      by_cases hc : (row.all scalD && szOk (acc.length + 1)) = true
      · rw [if_pos hc] at h
        rw [Bool.and_eq_true] at hc
        obtain ⟨p, xs, t1, t2, t3, t4⟩ := z.val
        cases t1
        have hp : H2 p = none := (z.frm.own p (.inr (by rw [t2]; simp))).elim (fun q => (no3 p q).elim) id
        have hpc : Hc p = none := by
          cases e : Hc p with
          | none => rfl
          | some o => rw [e2 _ _ e] at hp; cases hp
        have hp1 : H1 p = none := by
          cases e : H1 p with
          | none => rfl
          | some o => rw [eH _ _ e] at hpc; cases hpc
        have npD : p ≠ D0 := fun q => by rw [q, hD0] at hpc; cases hpc
        have npps : p ∉ ps := fun q => by
          obtain ⟨j, ej⟩ := List.mem_iff_getElem?.mp q
          have hj : j < acc.length := by rw [← rows.len]; exact (List.getElem?_eq_some_iff.mp ej).1
          obtain ⟨p', xs', g1, g2, _⟩ := rows.get (j := j) (List.getElem?_eq_getElem hj)
          rw [ej] at g1
          cases g1
          rw [hpc] at g2
          cases g2
        have e25 := e2.trans e5
        refine ⟨ps.map V.ref, e25 _ _ hD0, ?_, ps ++ [p], acc ++ [row], ?_, ?_, ?_, ?_, ?_, h⟩
        · rw [List.length_map, rows.len]
          exact Nat.lt_of_lt_of_le (Nat.lt_succ_self _) (szOk_le hc.2)
        · intro b o q
          rw [upd_ne (ne_of_none q hD)]
          exact e25 _ _ (eH _ _ q)
        · rw [upd_same, List.map_append]
          rfl
        · refine RowsOk.app (by rw [upd_ne npD]; exact t3) (t4.scal hc.1 B1) (rows.to (fun _ _ q => q) fun b hb o q => ?_)
          rw [upd_ne (fresh b hb).2]
          exact e25 _ _ q
        · rw [List.nodup_append]
          refine ⟨nd, by simp, fun b hb c hc' => ?_⟩
          have ec : c = p := by simpa using hc'
          rw [ec]
          exact fun q => npps (by rw [← q]; exact hb)
        · intro b hb
          rcases List.mem_append.mp hb with hb | hb
          · exact fresh b hb
          · have eb : b = p := by simpa using hb
            rw [eb]
            exact ⟨hp1, npD⟩
      · rw [if_neg hc] at h
        exact h.elim
    | _ => exact h.elim
  · have e : i = a.1.length := by omega
    subst e
    have q := itd (strip Hc) Hc (ex_strip Rc.ex Rc.pl) strip_ex a.1.length
    refine .inl ⟨q.2.1 rfl, ?_⟩
    rw [List.drop_length] at h
    have h : Post ct E H f0 (if i0 < a.2.length then .ok (.nx (a.2.set i0 (.own2 acc))) else .bad) (OutOk K B H σ f0 fix Z) := h
    by_cases hl : i0 < a.2.length
    · rw [if_pos hl] at h
      have bD : B1 D0 = none := Rel.fresh x.rel.ex hD
      have ownf : ∀ b, b ∈ D0 :: ps → H1 b = none := fun b hb => by
        rcases List.mem_cons.mp hb with q | q
        · rw [q]; exact hD
        · exact (fresh b q).1
      refine h _ B1 Hc (fpSet f1 i0 (D0 :: ps)) ⟨Rc.setSl hl (s := .own2 acc) (f := D0 :: ps) ⟨D0, ps, rfl, rfl, List.nodup_cons.mpr ⟨fun z => (fresh D0 z).2 rfl, nd⟩, hD0, rows⟩ fun b hb => ⟨Rel.fresh x.rel.ex (ownf b hb), fun ⟨j, z⟩ => (x.rel.off j b z).2 (ownf b hb)⟩, ?_, fun j hj => ?_⟩
      · exact x.frm.trans ⟨fun _ _ q => q, fun b o q _ => eH b o q, fun b q _ _ => q, fun b z => (owned_set z).elim .inl fun z => .inr (ownf b z), fun b q z => by
          cases e : H1 b with
          | none => exact q e
          | some o => rw [eH _ _ e] at z; cases z⟩
      · by_cases ej : j = i0
        · rw [ej, hf] at hj
          cases hj
        · rw [List.getElem?_set_ne (Ne.symm ej)]
    · rw [if_neg hl] at h
      exact h.elim
end
end DL
end
section
set_option maxRecDepth 100000
set_option maxHeartbeats 2000000
namespace DL
open PySem PySem.Spec PyProof.Rows L2
open Evl (Ex ex_rd ex_l ex_t)
section
variable {X : Cx} {pins : List (Addr × Obj)} {σ : L2.St} {H : Hp} {s : Shared}
theorem Inv.track {a : Addr} {o : HO} (I : Inv X pins σ H s) (hn : H a = none) (h0 : X.s_0.heap.get? a = none) (hp : ∀ p ∈ X.pn ++ pins, p.1 ≠ a) (hL : a ≠ X.env.locals) (hc : ∀ x c, X.env.cells.lookup x = some c → c ≠ a)
    (new : ObjOk X.prog X.w (upd H a o) s.heap a o) : Inv X pins σ (upd H a o) s := by
  have ne0 : ∀ b u, X.s_0.heap.get? b = some u → b ≠ a := fun b u e z => by rw [z, h0] at e; cases e
  refine ⟨I.ok, I.os, I.bare, ⟨I.base.keep, I.base.slot, fun b u e n hx => ?_, I.base.there, fun b xs e => ?_, fun b u w e => ?_, fun b ps e => ?_⟩, I.loc, I.cell, ?_, fun x c e => ?_, fun p hm => ?_, fun b u e => ?_, I.len⟩
  · rw [upd_ne (ne0 b u e)]
    exact I.base.free b u e n hx
  · have q := I.base.tups b xs e
    rw [upd_ne (ne_of_none q hn)]
    exact q
  · have q := I.base.frzs b u w e
    rw [upd_ne (ne_of_none q hn)]
    exact q
  · obtain ⟨m, q⟩ := I.base.tbls b ps e
    exact ⟨m, by rw [upd_ne (ne_of_none q hn)]; exact q⟩
  · rw [upd_ne (Ne.symm hL)]
    exact I.free
  · rw [upd_ne (hc x c e)]
    exact I.freeC x c e
  · obtain ⟨q1, q2, q3⟩ := I.pin p hm
    exact ⟨q1, by rw [upd_ne (hp p hm)]; exact q2, q3⟩
  · by_cases e1 : b = a
    · subst e1
      rw [upd_same] at e
      cases e
      exact new
    · rw [upd_ne e1] at e
      exact (I.hok b u e).stay (fun c w _ q => q) (fun c q => by rw [upd_ne (ne_of_none q hn)]; exact q) fun c xs q => by rw [upd_ne (ne_of_none q hn)]; exact q
end
def noK : L2.St → Hp → Prop := fun _ _ => False
def wKeep (K : PySem.W.Frag) (n : Nat) (c : Value) (i : Nat) (ts : Addr → Value → Option Addr → TS) (D : Ends) : WX := fun cls d σ H => PySem.W.exmOne K cls c = some true ∧
  ∀ a, H a = none → σ.length = n → ts a cls d { nx := fun σ' H' => H' a = none ∧ D.nx (σ'.set i none) (upd H' a (HeldX cls d a)), rt := fun _ _ => False, bk := noK, ct := noK } (σ.set i (some (.ref a))) H
section
variable {X : Cx} {x n : Str} {c : Value} {i : Nat} {body suite : List Stmt} {b₀ : Stmt} {np pos pos' : Pos} {tb : WX → TS} {ts : Addr → Value → Option Addr → TS}
theorem ps_keep (st : X.stack = X.env :: X.outer) (fr : X.env.frame = some X.env.locals) (nd : X.N.Nodup) (at_ : X.N[i]? = some n) (kl : X.env.kindOf n = some .local) (nm : Names X x c) (ne : X.ex = [])
    (hb : ∀ (W : WX) (pn : List (Addr × Obj)) (xe : Value → Shared → Prop), Takes (X.tr pn xe) W → PassesOwn (model X.prog X.w) X.A X.env xe → PSs (X.tr pn xe) body (tb W))
    (hsu : ∀ (a : Addr) (oe : Obj) (cls : Value) (d : Option Addr) (pn : List (Addr × Obj)), Zc cls d oe → (∃ vs, oe.data = .fields vs) → PSs (X.suite a ((a, oe) :: pn)) (b₀ :: suite) (ts a cls d)) :
    PS X (.Try body [.ExceptHandler (some (.Name x np)) (some n) (b₀ :: suite) pos'] [] [] pos) (fun D σ H => tb (wKeep X.K X.N.length c i ts D) D σ H) := by
  constructor
  intro pins s σ H D I wish
  have okX := I.ok
  have frames : X.A.frames = some (X.env :: X.outer) := by
    rw [okX.frames]
    rw [st]
  apply wpAny_Try_except
  refine wpAny_mono ((hb (wKeep X.K X.N.length c i ts D) (X.pn ++ pins) (fun err sx => wpAny (model X.prog X.w) X.A (noteFrame err X.env) (fun _ sy => wpAny (model X.prog X.w) X.A (setFlight err none) (fun _ sz =>
    wpAny (model X.prog X.w) X.A (handleBy err X.env [.ExceptHandler (some (.Name x np)) (some n) (b₀ :: suite) pos']) (SP X pins D) X.xe sz) X.xe sy) X.xe sx) (fun err sx caught => ?_) PassesOwn.looking).run [] s σ H D (I.toTry _) wish) (fun fl se ended => ?_) (fun _ _ z => z)
  · obtain ⟨a, G, sg, pg, σg, Hg, cls, d, rfl, Jt, grd, upS, sky, na, osE, bareE, matches_, suiteW⟩ := caught
    have Jg : Inv X pins σg Hg sg := Jt.ofTry okX
    show wpAny (model X.prog X.w) X.A (noteFrame (.ref a) X.env) _ _ _
    refine Sky.land Zc.steady frames fr (by rw [← st]; exact sky) fun hA flA upA => ?_
    have JA : Inv X pins σg Hg { sx with heap := hA } := Jg.landed grd flA.1 (upS.trans upA) osE bareE
    obtain ⟨oA, vA, getA, zA, datA⟩ := flA.there
    have offFrames : a ∉ frs (X.env :: X.outer) := fun hm => by
      obtain ⟨_, o2, e2, notF⟩ := flA.2.2.1.mem hm
      rw [getA] at e2
      cases e2
      exact notF _ datA
    have offL : a ≠ X.env.locals := fun z => offFrames (List.mem_filterMap.mpr ⟨X.env, List.mem_cons_self, by rw [fr, z]⟩)
    have offF : a ∉ X.fs := fun hm => by
      obtain ⟨ev, hev, q⟩ := List.mem_filterMap.mp hm
      exact offFrames (List.mem_filterMap.mpr ⟨ev, List.mem_cons_of_mem _ hev, q⟩)
    have gone : sg.heap.get? a = none := by
      cases e : sg.heap.get? a with
      | none => rfl
      | some o =>
        have z := grd a o e (by rw [st]; exact offFrames)
        rw [flA.2.1] at z
        cases z
    have new0 : X.s_0.heap.get? a = none := by
      cases e : X.s_0.heap.get? a with
      | none => rfl
      | some o =>
        obtain ⟨o', z⟩ := Jg.base.there a o e (by rw [ne]; exact fun z => nomatch z)
        rw [gone] at z
        cases z
    have SA := JA.suite getA datA na offL offF
    refine wpAny_handleBy_cons (codeAny_handlers_test ?_) (fun z => by cases z)
    have type_ : PySem.W.Looks (model X.prog X.w) hA (typeOf (.ref a)) cls := fun _ _ _ _ k q => wpAny_typeOf_ref (k _ _ getA) (by rw [zA.1]; exact q)
    have mtc := PySem.W.exm_one (M := model X.prog X.w) (JA.kIn) type_ matches_
    have clsAt : ∀ {Q : Value → Shared → Prop} {E : Value → Shared → Prop}, Q c { sx with heap := hA } → wpAny (model X.prog X.w) (X.A.mark (some (.ref a))) (eval (.Name x np) X.env) Q E { sx with heap := hA } := fun {Q E} q => by
      obtain ⟨isG, notD, byMg | ⟨noMg, isB, notN⟩⟩ := nm
      · exact ld_glob (X := X.suite a ((a, oA) :: (X.pn ++ pins))) SA isG byMg q notD
      · exact ld_blt (X := X.suite a ((a, oA) :: (X.pn ++ pins))) SA isG noMg isB q notN notD
    refine clsAt (mtc.here ?_)
    refine codeAny_handlers_suite_as ?_
    refine HandSPX.lands_againZ flA fun hB flB upB => ?_
    have JB : Inv X pins σg Hg { sx with heap := hB } := Jg.landed grd flB.1 ((upS.trans upA).trans upB) osE bareE
    obtain ⟨oB, vB, getB, zB, datB⟩ := flB.there
    have SB := JB.suite getB datB na offL offF
    refine store_ok (X := X.suite a ((a, oB) :: (X.pn ++ pins))) (v := .ref a) SB nd at_ (.inl kl) rfl (fun sC SC => ?_) (.inr kl)
    refine wpAny_mono ((hsu a oB cls d (X.pn ++ pins) zB ⟨_, datB⟩).run [] sC _ Hg _ SC (suiteW a na Jg.len)) (fun fl sD endD => ?_) (fun _ _ z => z.elim)
    cases fl with
    | next =>
      obtain ⟨σD, HD, SD, nD, qD⟩ := endD
      have JD : Inv X pins σD HD sD := SD.unsuite okX
      obtain ⟨getD_, _⟩ := SD.pin (a, oB) (List.mem_append_left _ List.mem_cons_self)
      have TD : Inv X pins σD (upd HD a (HeldX cls d a)) sD := DL.Inv.track JD nD new0 (fun p hp z => ?_) offL (fun y cc e z => ?_) ⟨⟨oB, vB, getD_, zB, datB⟩, ⟨oB, getD_⟩, fun _ _ ⟨o1, v1, q1, q2⟩ k => ⟨o1, v1, k o1 q1, q2⟩⟩
      · exact gone_ok TD nd at_ kl fun sE JE => ⟨_, _, JE, qD⟩
      · have q := (Jg.pin p hp).1
        rw [z, gone] at q
        cases q
      · obtain ⟨v, oc, q, _⟩ := Jg.cell y cc e
        rw [z, gone] at q
        cases q
    | brk =>
      obtain ⟨_, _, _, z⟩ := endD
      exact z.elim
    | cont =>
      obtain ⟨_, _, _, z⟩ := endD
      exact z.elim
    | ret u =>
      obtain ⟨_, _, _, _, _, z⟩ := endD
      exact z.elim
  · cases fl with
    | next =>
      obtain ⟨σe, He, Je, q⟩ := ended
      exact wpAny_execs_nil ⟨σe, He, Je.ofTry okX, q⟩
    | brk =>
      obtain ⟨σe, He, Je, q⟩ := ended
      exact ⟨σe, He, Je.ofTry okX, q⟩
    | cont =>
      obtain ⟨σe, He, Je, q⟩ := ended
      exact ⟨σe, He, Je.ofTry okX, q⟩
    | ret u =>
      obtain ⟨w, σe, He, Je, r, q⟩ := ended
      exact ⟨w, σe, He, Je.ofTry okX, r, q⟩
end

open PySem.W in
theorem kitx_excO {K : PySem.W.Frag} {x D : Addr} {ox : Obj} {od : Option Obj} (hga : findIn K (.ref D) "__getattribute__" = some (some (.builtin "BaseException.__getattribute__"))) (hgt : findIn K (.ref D) "__getattr__" = some none) (hsub : subIn K (.ref D) (.type "BaseException") = some true) (hdct : hasDictIn K D = true) (ha : findIn K (.ref D) "__class__" = some (some (.builtin "object.__class__")))
    (hn : specialIn K (.builtin "object.__class__") "__get__" = some (some (.builtin "getset_descriptor.__get__"))) (htk : takesIn K (.builtin "object.__class__") = some true) (hm : mroIn K D (.type "object") = some true) :
    KitX K (.ref x) (.ref D) (fun h => PySem.W.InstAt h x ox D od) where
  ty := fun _ _ _ I => I.type
  it := fun _ _ X _ => by
    obtain ⟨cdD, hcD, _⟩ := any_some hdct
    unfold clsIn at hcD
    split at hcD
    · rename_i c' d' cd' sl' ho
      intro A' Q' E' s' k q
      unfold isType loadHead
      exact wpAny_bind (wpAny_loadPart (k _ _ (X _ _ ho)) (wpAny_pure q))
    · cases hcD
  ne := fun h tp dd its n sl X htp => by
    obtain ⟨cdD, hcD, _⟩ := any_some hdct
    refine Bool.eq_false_iff.mpr fun q => ?_
    have e : D = tp := Value.ref.inj (beq_iff_eq.mp q)
    subst e
    unfold clsIn at hcD
    split at hcD
    · rename_i c' d' cd' sl' ho
      have z := (X _ _ ho).symm.trans htp
      cases z
    · cases hcD
  ca := fun X I k => kx_classE X I hga hgt hsub (findObj_dataE (by obtain ⟨cd, hc, _⟩ := any_some hdct; rw [hc]; rfl) ha hn htk) hm k
def rIsH (K : PySem.W.Frag) : List V → Hp → VK → Prop := fun xs H Q => ∃ (x c : V) (cv : Value) (b : Bool), xs = [x, c] ∧ (∀ u, RelV c u → u = cv) ∧
  ((∃ a D d, x = .ref a ∧ H a = some (HeldX (.ref D) d a) ∧ (d = none ∨ ∃ dd fs, d = some dd ∧ H dd = some (.xd fs)) ∧ ExcC K D ∧ PySem.W.kitOne K (.ref D) cv = some b) ∨ (x = .non ∧ PySem.W.kitOne K (.type "NoneType") cv = some b)) ∧ Q (.bl b) H
theorem call_isH {X : Cx} : CallR X (.builtin "isinstance") (rIsH X.K) := by
  intro pins s σ H xs us Q I r h
  obtain ⟨x, c, cv, b, rfl, hc, hx, q⟩ := h
  obtain ⟨u1, u2, rfl, r1, r2⟩ := vals2 r
  have e2 := hc _ r2
  subst e2
  rcases hx with ⟨a, D, d, rfl, hH, hd, C, e⟩ | ⟨rfl, e⟩
  · obtain rfl : u1 = Value.ref a := r1
    obtain ⟨⟨oe, vs, g, z, dd⟩, _, _⟩ := I.hok a _ hH
    obtain ⟨odd, J⟩ : ∃ odd, PySem.W.InstAt s.heap a oe D odd := by
      obtain ⟨oc, od, oda, osl⟩ := oe
      obtain ⟨z1, z2⟩ := z
      dsimp only at z1 z2 dd
      subst z1 z2 dd
      rcases hd with hd | ⟨b, fs, hd, hb⟩
      · subst hd
        exact ⟨none, g, rfl, rfl, trivial⟩
      · subst hd
        obtain ⟨_, ⟨ob, gb⟩, _⟩ := I.hok b _ hb
        exact ⟨some ob, g, rfl, rfl, by obtain ⟨_, _, gb, _⟩ := gb; exact gb⟩
    exact PySem.W.kia_one (kitx_excO C.hg C.hk C.hs C.hd C.ha C.hn C.ht C.hm) I.kIn J e (fun z => nomatch z) fun tk => ⟨.bl b, H, I.kept (t' := tk) fun _ _ z => z, rfl, q⟩
  · exact isinst_ok I r1 .non e fun tk => ⟨.bl b, H, I.kept (t' := tk) fun _ _ z => z, rfl, q⟩
def rRepr (K : PySem.W.Frag) : List V → Hp → VK → Prop := fun xs H Q => ∃ a p, xs = [.ref a] ∧ Dp K H (.ref a) p ∧ p.showable = true ∧ p.hasDict = false ∧ p.depth ≤ 60 ∧ p.shown.length ≤ sizeLine ∧ Q (.str p.shown) H
theorem call_reprD {X : Cx} (hg : X.A.guards = some []) (hu : X.A.units + 64 < cLine) : CallR X (.builtin "repr") (rRepr X.K) := by
  intro pins s σ H xs us Q I r h
  obtain ⟨a, p, rfl, hp, h1, h2, h3, h4, q⟩ := h
  obtain ⟨u, rfl, r1⟩ := vals1 r
  obtain rfl : u = Value.ref a := r1
  obtain ⟨as, rd⟩ := Dp.reads I p _ _ hp rfl
  exact repr_of_reads' rd h1 (PyData.noDict_hsm h2) hg (by omega) (fun _ _ e => e) (fun h' t tk k => ⟨.str p.shown, H, I.kept (t' := tk) k, ⟨t, rfl⟩, q⟩) h4
def gRepr : List D → Option Vl
  | [d] => (pyd d).bind fun p => if (p.showable && !p.hasDict && decide (p.depth ≤ 60) && szOk p.shown.length) = true then (match d with
    | .lst _ | .tup _ => some (.sh (.str p.shown))
    | _ => none) else none
  | _ => none
section
variable {K : PySem.W.Frag} {ct : Ct} {E : XK} {B H B' H' B1 H1 B2 H2 : Hp} {σ σ' : L2.St} {ρ ρ' : Env} {f0 f1 f2 : Fps} {v : V} {r : Vl} {f g : List Addr} {fix : Nat → Bool} {X : Cx}
theorem gc_repr : CallI K (rRepr K) gRepr := by
  intro B H xs ds z e hx hz Q q
  match ds, hx, hz with
  | [d], hx, hz =>
    obtain ⟨v, rfl, hv⟩ := hx.one
    have hz : (pyd d).bind (fun p => if (p.showable && !p.hasDict && decide (p.depth ≤ 60) && szOk p.shown.length) = true then (match d with
      | .lst _ | .tup _ => some (Vl.sh (.str p.shown))
      | _ => none) else none) = some z := hz
    cases ep : pyd d with
    | none => rw [ep] at hz; cases hz
    | some p =>
      rw [ep] at hz
      have hz : (if (p.showable && !p.hasDict && decide (p.depth ≤ 60) && szOk p.shown.length) = true then (match d with
        | .lst _ | .tup _ => some (Vl.sh (.str p.shown))
        | _ => none) else none) = some z := hz
      by_cases hc : (p.showable && !p.hasDict && decide (p.depth ≤ 60) && szOk p.shown.length) = true
      · rw [if_pos hc] at hz
        simp only [Bool.and_eq_true, Bool.not_eq_true', decide_eq_true_eq] at hc
        obtain ⟨⟨⟨c1, c2⟩, c3⟩, c4⟩ := hc
        have hd := RdV.dp e hv ep
        cases d with
        | lst l =>
          cases hz
          obtain ⟨a, xs, rfl, _⟩ := hv
          exact ⟨a, p, rfl, hd, c1, c2, c3, szOk_le c4, q _ _ _ _ (New.sc e (.str _))⟩
        | tup l =>
          cases hz
          have hv' : DV K B v (.tup l) := hv
          cases hv' with
          | tup g1 g2 => exact ⟨_, p, rfl, hd, c1, c2, c3, szOk_le c4, q _ _ _ _ (New.sc e (.str _))⟩
        | _ => cases hz
      · rw [if_neg hc] at hz
        cases hz
end
def TCaught (K : PySem.W.Frag) (CW : Addr) : (XK → Hp → VK → Prop) → Hp → VK → Prop := fun tl H Q =>
  tl (fun cls d H' => PySem.W.exmOne K cls (.ref CW) = some true ∧ ∀ a, H' a = none → Q (.ref a) (upd H' a (HeldX cls d a))) H fun _ H' => ∃ v : V, (some (some V.non) : Option (Option V)) = some (some v) ∧ Q v H'
end DL
end
section
set_option maxRecDepth 100000
set_option maxHeartbeats 2000000
namespace DL
open PySem PySem.Spec PyProof.Rows L2
open Evl (Ex ex_rd ex_l ex_t)
structure ExtT (T : List (Addr × Str)) (H H1 : Hp) : Prop where
  keep : ∀ b o, H b = some o → b ∉ T.map Prod.fst → H1 b = some o
  new : ∀ p ∈ T, ∀ (ps1 : Array Value) (pos : Pos) (c : Addr), H1 p.1 = some (.tbl ps1) → codeAmong pos ps1.toList = some (.ref c) → (∃ ps : Array Value, H p.1 = some (.tbl ps) ∧ codeAmong pos ps.toList = some (.ref c)) ∨ H c = none
section
variable {X : Cx} {pins : List (Addr × Obj)} {σ : L2.St} {H : Hp} {s : Shared}
theorem lam_mk {T : List (Addr × Str)} {c P : Addr} {params : Arguments} {body : Expr} {scope : Scope} {pos : Pos} {E : Value → Shared → Prop} {Q : Value → Shared → Prop} (I : Inv X pins σ H s) (tb : LamX.TabB X.base X.mg c P) (code : X.env.code = .ref c)
    (mem : (P, X.env.qual ++ "<lambda>") ∈ T) (uniq : ∀ p ∈ T, p.1 = P → p.2 = X.env.qual ++ "<lambda>") (tabs : LamX.Tabs T H) (nodef : defaultsOf params X.env = ([], [])) (free : ∀ y ∈ scope.names, y.2 = .free → ∃ c, X.env.cells.lookup y.1 = some c)
    (goal : ∀ (f d : Addr) (pm ctv : Value) (H1 : Hp) (s' : Shared), Inv X pins σ H1 s' → ExtT T H H1 → LamX.Tabs T H1 →
      s'.heap.get? f = some (PySem.W.kla_obj "<lambda>" (X.env.qual ++ "<lambda>") params body scope (cloFrom X.env.cells scope.names []) pm d ctv) → H1 f = none → f ∉ frs X.stack → H1 d = some (LamX.CodeO d (X.env.qual ++ "<lambda>")) → Q (.ref f) s') :
    wpAny (model X.prog X.w) X.A (eval (.Lambda params body scope pos) X.env) Q E s := by
  have memA : P ∈ T.map Prod.fst := List.mem_map.mpr ⟨_, mem, rfl⟩
  obtain ⟨rows, atP, triples, known⟩ := tabs _ mem
  apply PySem.W.kla_eval nodef
  have bi : s.heap.BuiltinsAt X.mg P := tb.bm.keeps I.bk
  have raw : s.heap.get? P = some { cls := .none, data := .fields rows } := I.hok P _ atP
  have young : ∀ f, s.heap.objs.size ≤ f → f ∉ frs X.stack := fun f hf hm => by
    rcases List.mem_cons.mp (I.stkSub _ hm) with z | z
    · have l := I.lt
      rw [← z] at l
      exact absurd (Nat.lt_of_lt_of_le l hf) (Nat.lt_irrefl _)
    · exact I.nofs hf z
  cases look : codeAmong pos rows.toList with
  | none =>
    refine PySem.W.kla_makeFunction (mg := X.mg) (c := c) (P := P) (ps := rows) (closure_ok free) I.ok.glob (I.mod.glob.keeps I.bk) code (tb.code.keeps I.bk) raw triples look tb.gP bi fun d ctv h' tk kept big lt rec table => ?_
    obtain ⟨d2, oc, vs, t, ed, goc, dat, nameAt⟩ := rec
    cases ed
    have up : s.heap.objs.size ≤ h'.objs.size := by omega
    have newD : H d = none := I.hok.fresh big
    have ndP : P ≠ d := ne_of_none atP newD
    have I1 := LamX.inv_table (t' := tk) (more := #[rawInt pos.line, rawInt pos.col, .ref d]) (h' := h'.push (PySem.W.kla_obj "<lambda>" (X.env.qual ++ "<lambda>") params body scope (cloFrom X.env.cells scope.names []) ((X.mg "__name__").getD .none) d ctv)) I atP
      (fun b o hb e => Heap.get?_push_of_some _ (kept b o hb e)) (Heap.get?_push_of_some _ table) big ⟨oc, vs, t, Heap.get?_push_of_some _ goc, dat, nameAt⟩
    have stayN : ∀ b o, H b = some o → (∀ ps, o ≠ .tbl ps) → upd (upd H P (.tbl (rows ++ #[rawInt pos.line, rawInt pos.col, .ref d]))) d (LamX.CodeO d (X.env.qual ++ "<lambda>")) b = some o := fun b o e nt => by
      rw [upd_ne (ne_of_none e newD), upd_ne (fun z => by rw [z, atP] at e; exact nt _ (Option.some.inj e).symm)]
      exact e
    have list_ : (rows ++ #[rawInt pos.line, rawInt pos.col, .ref d]).toList = rows.toList ++ [rawInt pos.line, rawInt pos.col, .ref d] := by simp
    have stay : ExtT T H (upd (upd H P (.tbl (rows ++ #[rawInt pos.line, rawInt pos.col, .ref d]))) d (LamX.CodeO d (X.env.qual ++ "<lambda>"))) := ⟨fun b o e nb => by
      rw [upd_ne (ne_of_none e newD), upd_ne (fun z => nb (by rw [z]; exact memA))]
      exact e, fun p hp ps1 p' c1 e1 e2 => by
      obtain ⟨ro, a1, a2, a3⟩ := tabs p hp
      rw [upd_ne (ne_of_none a1 newD)] at e1
      by_cases isP : p.1 = P
      · rw [isP, upd_same] at e1
        cases e1
        rw [list_] at e2
        rcases LamX.among_app _ triples e2 with z | z
        · exact .inl ⟨rows, by rw [isP]; exact atP, z⟩
        · cases z
          exact .inr newD
      · rw [upd_ne isP] at e1
        exact .inl ⟨ps1, e1, e2⟩⟩
    refine goal h'.objs.size d ((X.mg "__name__").getD .none) ctv _ _ I1 stay (fun p hp => ?_) (Heap.get?_push_size _ rfl) ?_ (young _ up) upd_same
    · by_cases isP : p.1 = P
      · rw [uniq p hp isP, isP]
        refine ⟨_, by rw [upd_ne ndP, upd_same], by rw [list_]; exact PySem.TriplesOk_snoc _ _ _ _ triples, fun p' cv hcv => ?_⟩
        rw [list_] at hcv
        rcases LamX.among_app _ triples hcv with z | z
        · obtain ⟨d0, e1, e2⟩ := known p' cv z
          exact ⟨d0, e1, stayN _ _ e2 LamX.codeO_ne⟩
        · exact ⟨d, z, upd_same⟩
      · obtain ⟨rows', a1, a2, a3⟩ := tabs p hp
        refine ⟨rows', by rw [upd_ne (ne_of_none a1 newD), upd_ne isP]; exact a1, a2, fun p' cv hcv => ?_⟩
        obtain ⟨d0, e1, e2⟩ := a3 p' cv hcv
        exact ⟨d0, e1, stayN _ _ e2 LamX.codeO_ne⟩
    · have n1 : h'.objs.size ≠ d := Nat.ne_of_gt lt
      have n2 : h'.objs.size ≠ P := Nat.ne_of_gt (Nat.lt_of_lt_of_le (Heap.lt_size raw) up)
      rw [upd_ne n1, upd_ne n2]
      exact I.hok.fresh up
  | some cv =>
    obtain ⟨d, e, hco⟩ := known pos cv look
    subst e
    refine PySem.W.kla_makeFunctionHit (mg := X.mg) (c := c) (P := P) (ps := rows) (closure_ok free) I.ok.glob (I.mod.glob.keeps I.bk) code (tb.code.keeps I.bk) raw triples look bi fun ctv h' tk kept up => ?_
    have I1 : Inv X pins σ H { s with heap := h'.push (PySem.W.kla_obj "<lambda>" (X.env.qual ++ "<lambda>") params body scope (cloFrom X.env.cells scope.names []) ((X.mg "__name__").getD .none) d ctv), toks := tk } := I.kept fun b o e => Heap.get?_push_of_some _ (kept b o e)
    exact goal h'.objs.size d ((X.mg "__name__").getD .none) ctv H _ I1 ⟨fun _ _ e _ => e, fun p hp ps1 _ _ e1 e2 => .inl ⟨ps1, e1, e2⟩⟩ tabs (Heap.get?_push_size _ rfl) (I.hok.fresh up) (young _ up) hco
end
def tLamT (T : List (Addr × Str)) (TT : (XK → Hp → VK → Prop) → Hp → VK → Prop) (t : XK → TE) : TE := fun σ H Q => LamX.Tabs T H ∧ ∀ H1, ExtT T H H1 → LamX.Tabs T H1 → TT (fun E H' Q' => t E σ H' Q') H1 Q
section
variable {X : Cx}
theorem pe_lamT {T : List (Addr × Str)} {TT : (XK → Hp → VK → Prop) → Hp → VK → Prop} {x a : Str} {g c P : Addr} {k : Nat} {pg : Arguments} {bg : List Stmt} {sg : Scope} {dV kV doc pm cdv ct oc : Value} {an od : Option Addr} {osl : Array (Option Value)} {Ng : List Str}
    {params : Arguments} {body : Expr} {scope : Scope} {t : XK → TE} {p lpos pos : Pos} (gl : Gl X x) (hm : X.mg x = some (.ref g)) (kp : PySem.W.keepIn X.K (.ref g) = true)
    (lk : X.K.lookup g = some ⟨oc, od, .func (PySem.W.fnOf x x pg bg sg dV kV doc pm an cdv ct), osl⟩) (cg : PySem.W.codeIn X.K cdv x = true) (bi : L2.Binds X.K (PySem.W.fnOf x x pg bg sg dV kV doc pm an cdv ct) [a] []) (Sg : FnScope Ng [a] sg) (at0 : Ng[0]? = some a) (va : Vis sg a)
    (gives : LamX.GivesTo X Ng x sg g cdv bg a (X.env.qual ++ "<lambda>") TT)
    (tb : LamX.TabB X.base X.mg c P) (code : X.env.code = .ref c) (mem : (P, X.env.qual ++ "<lambda>") ∈ T) (uniq : ∀ p ∈ T, p.1 = P → p.2 = X.env.qual ++ "<lambda>") (hr : Room (k + 2) X.A) (L : LamX.LamS X.env.scope scope) (nodef : defaultsOf params X.env = ([], []))
    (bindL : ∀ (q : Str) (cl : List (Str × Addr)) (pm cv ctv : Value), bindArgs (PySem.W.kla_fn "<lambda>" q params body scope cl pm cv ctv) ⟨[], []⟩ = pure [])
    (bodyOk : ∀ (A : Around) (outer : List PySem.Env) (s : Shared) (H : Hp) (E : XK) (f d : Addr), Room k (A.deeper (LamX.lamEnv X scope s.heap.objs.size f d)) → PE (LamX.lamCx X A outer s H E scope f d) body (t E))
    (n1 : (x == ("__debug__" : Str)) = false := by decide) (n2 : (a == ("__debug__" : Str)) = false := by decide) (n3 : (a == ("__classdict__" : Str)) = false := by decide) :
    PE X (.Call (.Name x p) [.Lambda params body scope lpos] [] pos) (tLamT T TT t) := by
  constructor
  intro pins s σ H Q I wish
  obtain ⟨tabs, wish⟩ := wish
  refine wpAny_Call_Name_kw (ld_glob I gl hm ?_ n1)
  refine PySem.W.callWith_K (h₀ := X.base) I.ok.mod.kin kp ?_ (by rfl) (by rfl)
  show wpAny _ _ (spliced ((false, eval (.Lambda params body scope lpos) X.env) :: backTo pos (starEach [] X.env))) _ _ s
  refine Calls.spliced_cons (lam_mk I tb code mem uniq tabs nodef (L.has I.ok) fun f d pm' ctv H1 s1 I1 ext tabs1 objF freeF offF codeD => ?_)
  refine Calls.spliced_nil ⟨I1.kIn, ?_⟩
  have called : codeAny (model X.prog X.w) X.A (.call (.ref g) ⟨[.ref f], []⟩) (CR C8.CX0 X.stack X.prog X.w H1 s1 Q C8.E0) s1 := by
    refine LamX.run_ofS (N := Ng) (ps := [a]) (us := [.ref f]) (vs := [.ref f]) lk cg Sg hr I1.env0 (bi s1 [.ref f] I1.kIn rfl) (.cons rfl .nil) rfl fun hr1 => ?_
    obtain ⟨tg, runs, holds⟩ := gives f d s1 H1 Q (fun E H' Q' => t E σ H' Q') (fun W pn xe E p1 p2 tk hW => LamX.pe_act (i := 0) I1 L objF freeF offF (bindL _ _ _ _ _) tk hW hr1 (fun A outer s H hr2 => bodyOk A outer s H E f d hr2) at0 va n2 n3) codeD (wish H1 ext tabs1)
    exact ⟨tg, runs.nox, holds⟩
  refine wpAny_call (codeAny_mono called fun res s2 out => ?_)
  cases res with
  | error e => exact (show False from out).elim
  | ok fl =>
    cases fl with
    | ret u => exact I1.after out
    | next => exact False.elim out
    | brk => exact False.elim out
    | cont => exact False.elim out
end
section
variable {K : PySem.W.Frag} {ct : Ct} {E : XK} {B H B' H' B1 H1 B2 H2 : Hp} {σ σ' : L2.St} {ρ ρ' : Env} {f0 f1 f2 : Fps} {v : V} {r : Vl} {f g : List Addr} {fix : Nat → Bool} {X : Cx}
def isExtO : Option HO → Bool
  | some (.ext _) => true
  | _ => false
def refO : Value → Option Addr
  | .ref a => some a
  | _ => none
def tblO : Option HO → List Addr
  | some (.tbl ps) => ps.toList.filterMap refO
  | _ => []
def codesOf (T : List (Addr × Str)) (H : Hp) : List Addr := (T.flatMap fun p => tblO (H p.1)).filter fun c => isExtO (H c)
theorem among_mem {pos : Pos} {cv : Value} : ∀ {l : List Value}, codeAmong pos l = some cv → cv ∈ l := by
  intro l
  fun_induction codeAmong pos l with
  | case1 l1 t1 c1 t2 c rest h =>
    intro e
    cases e
    simp
  | case2 l1 t1 c1 t2 c rest h ih =>
    intro e
    have := ih e
    simp [this]
  | case3 => intro e; cases e
theorem Rel.tabs {it : Nat} {T : List (Addr × Str)} {d : D} (R : Rel K B H σ ρ f0) (h : ρ[it]? = some (.tab T d)) (e : ExtT T H H1) (t : LamX.Tabs T H1) : ∃ f1, Rel K B H1 σ ρ f1 ∧ Frm B H (Owned f0) B H1 (Owned f1) := by
  obtain ⟨⟨tf1, tf2⟩, x, hx, hd⟩ := R.ok it _ h
  have inT : ∀ a, a ∈ T.map Prod.fst → a ∈ f0 it := fun a ha => by
    obtain ⟨p, hp, ep⟩ := List.mem_map.mp ha
    rw [← ep]
    exact (tf1 p hp).1
  have off0 : ∀ j a, j ≠ it → a ∈ f0 j → a ∉ T.map Prod.fst := fun j a hj ha z => hj (R.dis j it a ha (inT a z))
  have bT : ∀ a, a ∈ T.map Prod.fst → B a = none := fun a ha => (R.off it a (inT a ha)).1
  have exB : Ex B H1 := fun a o q => e.keep a o (R.ex a o q) fun z => by rw [bT a z] at q; cases q
  have alive : ∀ a, H a ≠ none → H1 a ≠ none := fun a q => by
    by_cases z : a ∈ T.map Prod.fst
    · obtain ⟨p, hp, ep⟩ := List.mem_map.mp z
      obtain ⟨ps, h1, _⟩ := t p hp
      rw [← ep, h1]
      simp
    · cases q1 : H a with
      | none => exact absurd q1 q
      | some o => rw [e.keep a o q1 z]; simp
  let F := f0 it ++ (codesOf T H1).filter fun c => (H c).isNone
  have newN : ∀ a, a ∈ (codesOf T H1).filter (fun c => (H c).isNone) → H a = none ∧ H1 a ≠ none := fun a ha => by
    obtain ⟨h1, h2⟩ := List.mem_filter.mp ha
    have h3 := (List.mem_filter.mp h1).2
    exact ⟨Option.isNone_iff_eq_none.mp h2, fun z => by rw [z] at h3; cases h3⟩
  have TF : TabsF T H1 F := by
    refine ⟨fun p hp => ⟨List.mem_append_left _ (tf1 p hp).1, ?_⟩, fun a ha => ?_⟩
    · obtain ⟨ps, h1, h2, h3⟩ := t p hp
      refine ⟨ps, h1, h2, fun pos cv ec => ?_⟩
      obtain ⟨c, e1, e2⟩ := h3 pos cv ec
      subst e1
      refine ⟨c, ?_, rfl, e2⟩
      rcases e.new p hp ps pos c h1 ec with ⟨ps0, g1, g2⟩ | g
      · obtain ⟨ps0', k1, _, k3⟩ := (tf1 p hp).2
        rw [k1] at g1
        cases g1
        obtain ⟨c', k4, k5, _⟩ := k3 pos _ g2
        cases k5
        exact List.mem_append_left _ k4
      · refine List.mem_append_right _ (List.mem_filter.mpr ⟨List.mem_filter.mpr ⟨List.mem_flatMap.mpr ⟨p, hp, ?_⟩, ?_⟩, by rw [g]; rfl⟩)
        · rw [h1]
          exact List.mem_filterMap.mpr ⟨_, among_mem ec, rfl⟩
        · rw [e2]
          rfl
    · rcases List.mem_append.mp ha with ha | ha
      · exact alive a (tf2 a ha)
      · exact (newN a ha).2
  refine ⟨fpSet f0 it F, ⟨R.len, exB, R.pl, fun j s q => ?_, fun j q => ?_, fun j k a h1 h2 => ?_, fun j a ha => ?_⟩, ⟨fun _ _ q => q, fun a o q n => e.keep a o q fun z => n ⟨it, inT a z⟩, fun a q _ _ => q, fun a z => ?_, fun a q => alive a q⟩⟩
  · by_cases hj : j = it
    · subst hj
      rw [h] at q
      cases q
      rw [fpSet_same]
      exact ⟨TF, x, hx, hd⟩
    · rw [fpSet_ne hj]
      have ok := R.ok j s q
      have keep : ∀ a ∈ f0 j, ∀ o, H a = some o → H1 a = some o := fun a ha o e1 => e.keep a o e1 (off0 j a hj ha)
      generalize (σ[j]?).join = w at ok ⊢
      generalize f0 j = ff at ok keep
      cases s with
      | emp => exact ok
      | sh d => exact ok
      | own ds =>
        obtain ⟨p, xs, e1, e2, e3, e4⟩ := ok
        exact ⟨p, xs, e1, e2, keep p (by rw [e2]; simp) _ e3, e4⟩
      | own2 l =>
        obtain ⟨p, ps, e1, e2, e3, e4, e5⟩ := ok
        exact ⟨p, ps, e1, e2, e3, keep p (by rw [e2]; simp) _ e4, e5.to (fun _ _ z => z) fun q hq o eo => keep q (by rw [e2]; exact List.mem_cons_of_mem _ hq) o eo⟩
      | drw st =>
        obtain ⟨p, w', c, e1, e2, e3, e4, e5, e6⟩ := ok
        exact ⟨p, w', c, e1, e2, e3, keep p (by rw [e2]; simp) _ e4, keep w' (by rw [e2]; simp) _ e5, e6⟩
      | ob o => exact ObOk.to ok (fun _ _ z => z) keep
      | tab T' d' => exact ⟨ok.1.to keep, ok.2⟩
  · have hj : j ≠ it := fun z => by rw [z, h] at q; cases q
    rw [fpSet_ne hj]
    exact R.out j q
  · have sep : ∀ j, j ≠ it → a ∈ f0 j → a ∉ F := fun j hj ha z => by
      rcases List.mem_append.mp z with z | z
      · exact hj (R.dis j it a ha z)
      · exact (R.off j a ha).2 (newN a z).1
    by_cases hj : j = it
    · by_cases hk : k = it
      · rw [hj, hk]
      · subst hj
        rw [fpSet_same] at h1
        rw [fpSet_ne hk] at h2
        exact absurd h1 (sep k hk h2)
    · by_cases hk : k = it
      · subst hk
        rw [fpSet_same] at h2
        rw [fpSet_ne hj] at h1
        exact absurd h2 (sep j hj h1)
      · rw [fpSet_ne hj] at h1
        rw [fpSet_ne hk] at h2
        exact R.dis j k a h1 h2
  · by_cases hj : j = it
    · subst hj
      rw [fpSet_same] at ha
      rcases List.mem_append.mp ha with z | z
      · exact ⟨(R.off j a z).1, alive a (R.off j a z).2⟩
      · exact ⟨Rel.fresh R.ex (newN a z).1, (newN a z).2⟩
    · rw [fpSet_ne hj] at ha
      exact ⟨(R.off j a ha).1, alive a (R.off j a ha).2⟩
  · rcases owned_set z with z | z
    · exact .inl z
    · rcases List.mem_append.mp z with z | z
      · exact .inl ⟨it, z⟩
      · exact .inr (newN a z).1
structure IsaOk (K : PySem.W.Frag) (ct : Ct) (CW CC : Addr) (isa : String → Option Bool) : Prop where
  non : PySem.W.kitOne K (.type "NoneType") (.ref CC) = some false
  ok : ∀ c b, isa c = some b → PySem.W.exmOne K (.ref (ct c)) (.ref CW) = some true ∧ ExcC K (ct c) ∧ PySem.W.kitOne K (.ref (ct c)) (.ref CC) = some b
def xCaught (T : List (Addr × Str)) (it : Nat) (isa : String → Option Bool) (m : MX) : MX := fun ρ => match ρ[it]? with
  | some (.tab T' _) => if T' = T then (match m (ρ.map frz) with
    | .ok _ => .ok (.sh (.bl false), ρ)
    | .exc c _ => rdO (isa c) fun b => .ok (.sh (.bl b), ρ)
    | .bad => .bad) else .bad
  | _ => .bad
theorem im_caught {T : List (Addr × Str)} {it : Nat} {CW CC : Addr} {isa : String → Option Bool} {m : MX} {t : XK → TE} (I : IsaOk K ct CW CC isa) (ht : ∀ E', Imp K ct E' (t E') m) :
    Imp K ct E (tCB (rIsH K) (tCons (tLamT T (TCaught K CW) t) (tCons (tC (.ref CC)) tNil))) (xCaught T it isa m) := by
  intro B H σ ρ f0 Q R h
  unfold xCaught at h
  split at h
  · rename_i T' d e0
    by_cases hT : T' = T
    · subst hT
      rw [if_pos rfl] at h
      have ok := R.ok it _ e0
      have tabs : LamX.Tabs T' H := fun p hp => by
        obtain ⟨ps, h1, h2, h3⟩ := (ok.1.1 p hp).2
        exact ⟨ps, h1, h2, fun pos cv ec => by
          obtain ⟨c, _, e1, e2⟩ := h3 pos cv ec
          exact ⟨c, e1, e2⟩⟩
      refine ⟨tabs, fun H1 eT t1 => ?_⟩
      obtain ⟨f1, R1, fr1⟩ := Rel.tabs R e0 eT t1
      have cc : ∀ u, RelV (.ref CC) u → u = Value.ref CC := fun u z => z
      refine ht _ (strip H1) H1 σ (ρ.map DL.frz) noF _ R1.frz ?_
      cases em : m (ρ.map DL.frz) with
      | bad =>
        rw [em] at h
        exact h.elim
      | ok a =>
        rw [em] at h
        intro v B' H' f' f x
        have e := x.frm.ofNo
        refine ⟨.non, rfl, .non, .ref CC, .ref CC, false, rfl, cc, .inr ⟨rfl, I.non⟩, ?_⟩
        exact h _ _ _ _ _ (Res.refl' (R1.unfrz e) (.bl false) (fr1.trans (frz_frm f1 e)))
      | exc c p =>
        rw [em] at h
        have h : Post ct E H f0 (rdO (isa c) fun b => .ok (.sh (.bl b), ρ)) (XOk K B H σ f0 Q) := h
        obtain ⟨b, eb, h⟩ := h.get
        obtain ⟨i1, i2, i3⟩ := I.ok c b eb
        intro dd H' kk pk
        have hd : ∀ a, H' a = none → (dd = none ∨ ∃ x fs, dd = some x ∧ upd H' a (HeldX (.ref (ct c)) dd a) x = some (.xd fs)) := fun a ha => by
          cases p with
          | none => exact .inl pk
          | some p =>
            obtain ⟨x, v, e1, _, e2, _⟩ := pk
            exact .inr ⟨x, _, e1, by rw [upd_ne (fun z => by rw [z, ha] at e2; cases e2)]; exact e2⟩
        refine ⟨i1, fun a ha => ⟨.ref a, .ref CC, .ref CC, b, rfl, cc, .inl ⟨a, ct c, dd, rfl, upd_same, hd a ha, i2, i3⟩, ?_⟩⟩
        have e : Ex H1 (upd H' a (HeldX (.ref (ct c)) dd a)) := Ex.trans (fun b o q => kk b o q fun z => noF_owned z) (Ex.new ha)
        exact h _ _ _ _ _ (Res.refl' (R1.unfrz e) (.bl b) (fr1.trans (frz_frm f1 e)))
    · rw [if_neg hT] at h
      exact h.elim
  · exact h.elim
end
theorem hxL {X : Cx} {P : Program} {w : World} {A : Around} {outer : List PySem.Env} {s : Shared} {H : Hp} {E : XK} {scope : Scope} {f d : Addr} (h1 : X.prog = P) (h2 : X.w = w) : Passes (L2.CX P w) (LamX.lamCx X A outer s H E scope f d) E := by
  subst h1 h2
  exact passes_call (takes_of rfl rfl rfl rfl) fun _ _ _ _ h => h
theorem fnC_of {P : Program} {w : World} {K : PySem.W.Frag} {mg : Str → Option Value} {base : Heap} {x qual : Str} {st : Stmt} {f : Addr} {N ps : List Str} {k : Nat} {sp : Sp} {oc kV doc pm cdv ctv : Value} {od an : Option Addr} {osl : Array (Option Value)}
    (lk : K.lookup f = some ⟨oc, od, .func (PySem.W.fnOf x qual (defArgs st) (defBody st) (defScope st) .none kV doc pm an cdv ctv), osl⟩) (hcd : PySem.W.codeIn K cdv qual = true) (S : FnScope N ps (defScope st)) (len : ∀ vs H Q E, sp vs H Q E → vs.length = ps.length)
    (hbody : ∀ (A : Around) (outer : List PySem.Env) (s : Shared) (H : Hp) (vs : List V) (Q : VK) (E : XK), Room k (A.deeper (envOfC qual (defScope st) s.heap.objs.size f cdv)) → A.guards = some [] → sp vs H Q E →
      ∃ t, PSs (cxOf (L2.CX P w) P w K mg base N qual (defScope st) f cdv A outer s H E) (defBody st) t ∧ t { nx := fun _ H' => Q .non H', rt := Q } (L2.start N vs) H) :
    FnG P w K mg base (k + 1) f (PySem.W.fnOf x qual (defArgs st) (defBody st) (defScope st) .none kV doc pm an cdv ctv) ps sp :=
  ⟨len, fun A outer s H args us vs Q E hr hg e0 hb r h => LamX.run_ofS lk hcd S hr e0 hb r (len _ _ _ _ h) fun hr' => hbody A outer s H vs Q E hr' hg h⟩
def isaOf (c : String) : String → Option Bool := fun x => if x = c then some true else none
theorem isaOk_of {K : PySem.W.Frag} {ct : Ct} {CW : Addr} {c : String} (h0 : PySem.W.kitOne K (.type "NoneType") (.ref (ct c)) = some false) (h1 : PySem.W.exmOne K (.ref (ct c)) (.ref CW) = some true) (h2 : ExcC K (ct c)) (h3 : PySem.W.kitOne K (.ref (ct c)) (.ref (ct c)) = some true) : IsaOk K ct CW (ct c) (isaOf c) :=
  ⟨h0, fun x b e => by
    unfold isaOf at e
    by_cases z : x = c
    · rw [if_pos z] at e
      cases e
      rw [z]
      exact ⟨h1, h2, h3⟩
    · rw [if_neg z] at e
      cases e⟩
end DL
end
section
set_option maxRecDepth 100000
set_option maxHeartbeats 2000000
namespace DL
open PySem PySem.Spec PyProof.Rows L2
open Evl (Ex ex_rd ex_l ex_t)
section
variable {P : Program} {w : World} {K : PySem.W.Frag} {mg mb : Str → Option Value} {k : Nat} {fa a c Pt : Addr} {fd : FuncData} {x : Str} {sp : Sp} {s₁ : Shared} {vs : List Value} {ns : List Int}
def hEnd (K : PySem.W.Frag) (Pt a : Addr) (vs : List Value) (ns : List Int) : Hp := fun b => if b = Pt then some (.tbl #[]) else if b = a ∧ K.lookup a = none then some (.frz { cls := .type "list", data := .seq vs.toArray } (.lst (ns.map V.int))) else none
theorem hEnd_t : hEnd K Pt a vs ns Pt = some (.tbl #[]) := if_pos rfl
theorem hEnd_cases {b : Addr} {u : HO} (h : hEnd K Pt a vs ns b = some u) : (b = Pt ∧ u = .tbl #[]) ∨ (b ≠ Pt ∧ b = a ∧ K.lookup a = none ∧ u = .frz { cls := .type "list", data := .seq vs.toArray } (.lst (ns.map V.int))) := by
  unfold hEnd at h
  by_cases h1 : b = Pt
  · rw [if_pos h1] at h
    exact .inl ⟨h1, (Option.some.inj h).symm⟩
  · rw [if_neg h1] at h
    by_cases h2 : b = a ∧ K.lookup a = none
    · rw [if_pos h2] at h
      exact .inr ⟨h1, h2.1, h2.2, (Option.some.inj h).symm⟩
    · rw [if_neg h2] at h
      cases h
theorem end_call (inK : K.In s₁.heap) (glob : s₁.heap.Ns mainGlobals mg) (blt : s₁.heap.Ns builtinsNs mb) (boot : ∀ x : Str, x ≠ "__name__" → mb x = bootBuiltins x) (lim : s₁.heap.NoLimit) (gens : s₁.gens = #[])
    (atT : s₁.heap.get? Pt = some { cls := .none, data := .fields #[] }) (noT : K.lookup Pt = none) (code : PySem.W.CodeHd s₁.heap c Pt)
    (bmod : ∃ (bm : Addr) (ob : Obj), mg "__builtins__" = some (.ref bm) ∧ bm ≠ builtinsNs ∧ s₁.heap.get? bm = some ob ∧ ob.cls = .type "module" ∧ ob.dict = some builtinsNs ∧ ob.data = .plain)
    (atA : s₁.heap.get? a = some { cls := .type "list", data := .seq vs.toArray }) (intsA : IntsAre vs ns) (short : ns.length ≤ sizeLine) (room : Room k callerA)
    (F : ∀ base : Heap, K.In base → base.Ns mainGlobals mg → LamX.TabB base mg c Pt → FnG P w K mg base k fa fd [x] sp) (bind : ∀ (s : Shared) (u : Value), BindsTo s fd ⟨[u], []⟩ [(x, u)])
    (want : ∀ H : Hp, H Pt = some (.tbl #[]) → Pt ≠ a → (∀ b u, H b = some u → b = Pt ∨ ∃ o xs, u = .frz o (.lst xs)) → SqL K H a (ns.map V.int) → sp [.ref a] H (fun v _ => v = .bl true) fun _ _ _ => False) :
    codeAny (model P w) callerA (.call (.ref fa) ⟨[.ref a], []⟩) (fun r s' => r = .ok (.ret (.bool true)) ∧ OldK s₁.heap s'.heap ∧ s'.os = s₁.os ∧ AllBare s'.gens) s₁ := by
  have vals := vals_ints intsA
  have lv := intsA.length
  have sep : Pt ≠ a := fun z => by
    rw [z, atA] at atT
    cases atT
  generalize eH : hEnd K Pt a vs ns = H
  have H_t : H Pt = some (.tbl #[]) := by rw [← eH]; exact hEnd_t
  have H_c : ∀ {b u}, H b = some u → (b = Pt ∧ u = .tbl #[]) ∨ (b ≠ Pt ∧ b = a ∧ K.lookup a = none ∧ u = .frz { cls := .type "list", data := .seq vs.toArray } (.lst (ns.map V.int))) := fun {b u} q => by
    rw [← eH] at q
    exact hEnd_cases q
  -- the script is read
  have script : SqL K H a (ns.map V.int) := by
    cases q : K.lookup a with
    | none =>
      refine .inl (.inr ⟨{ cls := .type "list", data := .seq vs.toArray }, ?_⟩)
      rw [← eH]
      unfold hEnd
      rw [if_neg (Ne.symm sep), if_pos ⟨rfl, q⟩]
    | some o =>
      have e := inK a o q
      rw [atA] at e
      cases e
      exact .inr ⟨_, vs.toArray, _, q, rfl, rfl, rfl, by rw [List.size_toArray, lv]; exact short, by simpa using vals⟩
  have good : HOk P w H s₁.heap := fun b u q => by
    rcases H_c q with ⟨rfl, rfl⟩ | ⟨_, rfl, _, rfl⟩
    · exact atT
    · exact ⟨atA, by rw [List.length_map]; exact short, vs, _, vals, atA⟩
  -- the ground: all that is not told by H
  have down : ∀ {b : Addr} {o : Obj}, s₁.heap.get? b = some o → H b = none → (hidT s₁.heap H).get? b = some o := fun e n => hidT_get e n
  have free : ∀ {b : Addr} {o : Obj}, s₁.heap.get? b = some o → (∀ us n, o.data ≠ .seq us n) → o.data ≠ .fields #[] → H b = none := fun {b o} e h1 h2 => by
    cases q : H b with
    | none => rfl
    | some u =>
      rcases H_c q with ⟨rfl, _⟩ | ⟨_, rfl, _, _⟩
      · rw [atT] at e
        cases e
        exact absurd rfl h2
      · rw [atA] at e
        cases e
        exact absurd rfl (h1 _ _)
  have dictFree : ∀ {b : Addr} {o : Obj} {es : Array DictEntry} {ep : Nat}, s₁.heap.get? b = some o → o.data = .dict es ep → H b = none := fun {b o es ep} e d => free e (fun us n z => by rw [d] at z; cases z) fun z => by rw [d] at z; cases z
  have nsDown : ∀ {b : Addr} {m : Str → Option Value}, s₁.heap.Ns b m → (hidT s₁.heap H).Ns b m := fun {b m} q => by
    obtain ⟨o, es, ep, e, d, r⟩ := q
    exact ⟨o, es, ep, down e (dictFree e d), d, r⟩
  have kDown : K.In (hidT s₁.heap H) := fun b o e => down (inK b o e) (by
    cases q : H b with
    | none => rfl
    | some u =>
      rcases H_c q with ⟨rfl, _⟩ | ⟨_, rfl, z, _⟩
      · rw [noT] at e
        cases e
      · rw [z] at e
        cases e)
  have modl : L2.Mod K mg (hidT s₁.heap H) := by
    obtain ⟨mc, l1, l2⟩ := lim
    exact ⟨kDown, nsDown glob, ⟨mb, nsDown blt, boot⟩, mc, nsDown l1, l2⟩
  have tabB : LamX.TabB (hidT s₁.heap H) mg c Pt := by
    refine ⟨?_, ?_, fun z => ?_⟩
    · obtain ⟨o, us, file, tf, flags, tg, inF, text, tt, e1, r1, r2, r3, r⟩ := code
      refine ⟨o, us, file, tf, flags, tg, inF, text, tt, down e1 (free e1 (fun us n z => ?_) fun z => ?_), r1, r2, r3, r⟩
      · rw [r2] at z
        cases z
      · rw [r2] at z
        cases z
        simp at r3
    · obtain ⟨bm, ob, b1, b2, b3, b4, b5, b6⟩ := bmod
      refine ⟨bm, ob, b1, b2, fun q => ?_, fun q => ?_, down b3 (free b3 (fun us n z => by rw [b6] at z; cases z) fun z => by rw [b6] at z; cases z), b4, b5, b6⟩
      · obtain ⟨o, es, ep, e, hd, _⟩ := glob
        rw [q, e] at b3
        cases b3
        rw [hd] at b6
        cases b6
      · rw [q, atT] at b3
        cases b3
        cases b6
    · obtain ⟨o, es, ep, e, hd, _⟩ := glob
      rw [z, atT] at e
      cases e
      cases hd
  have entry : Env0 P w K mg (hidT s₁.heap H) callerA [] s₁ H := ⟨rfl, modl, fun b o e => of_hidT e, Nat.le_of_eq (hidT_size _ _), trivial, fun b hb => (nomatch (show b ∈ ([] : List Addr) from hb)), good, .of_eq gens⟩
  refine codeAny_mono ((F _ kDown (nsDown glob) tabB).run callerA [] s₁ H ⟨[.ref a], []⟩ [.ref a] [.ref a] (fun v _ => v = .bl true) (fun _ _ _ => False) room rfl entry (bind s₁ (.ref a)) (.cons rfl .nil) (want H H_t sep (fun b u q => (H_c q).imp (·.1) fun z => ⟨_, _, z.2.2.2⟩) script)) fun r s' out => ?_
  cases r with
  | error e =>
    obtain ⟨_, _, _, _, _, _, _, _, _, _, _, _, z⟩ := out
    exact z.elim
  | ok fl =>
    cases fl with
    | next => exact False.elim out
    | brk => exact False.elim out
    | cont => exact False.elim out
    | ret u =>
      obtain ⟨v, H', osE, bareE, un, good', rel, q⟩ := out
      have q : v = .bl true := q
      subst q
      obtain rfl : u = Value.bool true := rel
      have same : ∀ b o, b ≠ Pt → s₁.heap.get? b = some o → s'.heap.get? b = some o := fun b o nb e => by
        cases q : H b with
        | none => exact un.keep b o e q (fun z => by cases z) (by simp)
        | some u =>
          rcases H_c q with ⟨z, _⟩ | ⟨_, rfl, _, rfl⟩
          · exact absurd z nb
          · obtain ⟨e1, _⟩ := good _ _ q
            obtain ⟨e2, _⟩ := good' _ _ (un.frzs _ _ _ q)
            rw [e] at e1
            cases e1
            exact e2
      obtain ⟨more, grownT⟩ := un.tbls Pt #[] H_t
      have atT' : s'.heap.get? Pt = some { cls := .none, data := .fields (#[] ++ more) } := good' Pt _ grownT
      refine ⟨rfl, ⟨fun b o e => ?_, fun b o e => ?_⟩, osE, bareE⟩
      · by_cases hb : b = Pt
        · subst hb
          rw [atT] at e
          cases e
          exact .inr (.inl ⟨(code.tab atT).isCodeTable, rfl, #[], more, rfl, atT'⟩)
        · exact .inl (same b o hb e)
      · by_cases hb : b = Pt
        · subst hb
          exact ⟨_, atT'⟩
        · exact ⟨o, same b o hb e⟩
def EndAt (l : PySem.W.OpenLaw) (w : World) (K : PySem.W.Frag) (k n : Nat) (x : Str) (mg : Str → Option Value) (fa : Addr) (h : Heap) : Prop :=
  ∃ (fd : FuncData) (c Pt : Addr) (sp : Sp), h.get? Pt = some { cls := .none, data := .fields #[] } ∧ K.lookup Pt = none ∧ PySem.W.CodeHd h c Pt ∧ (∀ (s : Shared) (u : Value), BindsTo s fd ⟨[u], []⟩ [(x, u)]) ∧
    (∀ (H : Hp) (a : Addr) (ns : List Int), ns.length ≤ n → (∀ z ∈ ns, Builtin.Int.intBits z ≤ 1048576) → H Pt = some (.tbl #[]) → Pt ≠ a → (∀ b u, H b = some u → b = Pt ∨ ∃ o xs, u = .frz o (.lst xs)) → SqL K H a (ns.map V.int) → sp [.ref a] H (fun v _ => v = .bl true) fun _ _ _ => False) ∧
    ∀ base : Heap, K.In base → base.Ns mainGlobals mg → LamX.TabB base mg c Pt → FnG l.prog w K mg base k fa fd [x] sp
theorem end_walk {l : PySem.W.OpenLaw} {n k : Nat} {q : Program} {loose : List Str} {XP : (Str → Option Value) → Heap → Prop} {YP : World → Heap → Prop} {d : DefRec} {K : Params → PySem.W.Frag} {x : Str}
    (most : l.most = some n) (few : n ≤ sizeLine) (nodef : d.params.defaults = []) (room : Room k callerA) (has : ∀ (w : World) (h : Heap), YP w h → (K w.params).In h)
    (F : ∀ (w : World) (mg : Str → Option Value) (fa : Addr) (h : Heap), YP w h → (K w.params).In h → h.Ns mainGlobals mg → mg d.name = some (.ref fa) → EndAt l w (K w.params) k n x mg fa h) :
    PySem.W.WalkO q loose XP YP l.row.toRowW d [] (fun f vs => PySem.call f vs) := by
  refine Att.attach_callB most nodef fun w s₀ s₁ mg mb fa o pm cd doc a vs ns G Y ho hd hcd hmg atA intsA len bits gens => ?_
  obtain ⟨fd, c, Pt, sp, atT, noT, code, bind, want, run⟩ := F w mg fa _ Y (has w _ Y) G.T.g hmg
  exact end_call (has w _ Y) G.T.g G.T.b G.T.builtins G.T.nolimit gens atT noT code G.T.bmain atA intsA (Nat.le_trans len few) room run bind fun H h1 h2 h3 h4 => want H a ns len bits h1 h2 h3 h4
end
section
variable {K : PySem.W.Frag} {ct : Ct} {H : Hp} {a Pt : Addr} {ns : List Int}
theorem law_spM {F : Fn} {q : Str} {ρ' : List Sl} (hF : F [.tab [(Pt, q)] (.scr ns)] = .ok (.sh (.bl true), ρ')) (h1 : H Pt = some (.tbl #[])) (h2 : Pt ≠ a) (h3 : ∀ b u, H b = some u → b = Pt ∨ ∃ o xs, u = .frz o (.lst xs)) (h4 : SqL K H a (ns.map V.int)) :
    spM K ct F [.ref a] H (fun v _ => v = .bl true) fun _ _ _ => False := by
  let B : Hp := fun b => if b = Pt then none else H b
  have bP : B Pt = none := if_pos rfl
  have bn : ∀ b, b ≠ Pt → B b = H b := fun b hb => if_neg hb
  have eB : Ex B H := fun b o q => by
    by_cases hb : b = Pt
    · rw [hb, bP] at q
      cases q
    · rw [bn b hb] at q
      exact q
  have pl : NoE B := fun b φ q => by
    by_cases hb : b = Pt
    · rw [hb, bP] at q
      cases q
    · rw [bn b hb] at q
      rcases h3 b _ q with z | ⟨o, xs, z⟩
      · exact hb z
      · cases z
  have sB : SqL K B a (ns.map V.int) := by
    rcases h4 with z | z
    · refine .inl ?_
      rcases z with z | ⟨o, z⟩
      · exact .inl (by rw [bn a (Ne.symm h2)]; exact z)
      · exact .inr ⟨o, by rw [bn a (Ne.symm h2)]; exact z⟩
    · exact .inr z
  refine ⟨B, [.tab [(Pt, q)] (.scr ns)], fun i => if i = 0 then [Pt] else [], ⟨rfl, eB, pl, fun i s e => ?_, fun i e => ?_, fun i j b e1 e2 => ?_, fun i b e => ?_⟩, ?_⟩
  · match i, e with
    | 0, e =>
      cases e
      refine ⟨⟨fun p hp => ?_, fun b hb => ?_⟩, .ref a, rfl, .scr sB⟩
      · have ep : p = (Pt, q) := List.mem_singleton.mp hp
        subst ep
        refine ⟨List.mem_singleton.mpr rfl, #[], h1, trivial, fun pos cv z => ?_⟩
        simp [codeAmong] at z
      · have eb : b = Pt := List.mem_singleton.mp hb
        rw [eb, h1]
        simp
  · match i, e with
    | i + 1, _ => rfl
  · match i, j, e1, e2 with
    | 0, 0, _, _ => rfl
    | _ + 1, _, e1, _ => exact (nomatch (show b ∈ ([] : List Addr) from e1))
    | 0, _ + 1, _, e2 => exact (nomatch (show b ∈ ([] : List Addr) from e2))
  · match i, e with
    | 0, e =>
      have eb : b = Pt := List.mem_singleton.mp e
      rw [eb]
      exact ⟨bP, by rw [h1]; simp⟩
    | _ + 1, e => exact (nomatch (show b ∈ ([] : List Addr) from e))
  · rw [hF]
    intro v B' H' f' g x
    obtain ⟨_, y, e1, e2⟩ := x.val
    cases e1
    cases e2
    rfl
def ctOf : List (String × Addr) → Ct
  | [], _ => 0
  | (n, a) :: r, s => if s = n then a else ctOf r s
theorem ct_hd {n : String} {r : List (String × Addr)} : ctOf ((n, a) :: r) n = a := if_pos rfl
theorem ct_tl {n m : String} {b : Addr} {r : List (String × Addr)} (h : m ≠ n) (e : ctOf r m = a) : ctOf ((n, b) :: r) m = a := (if_neg h).trans e
end
end DL
end
section
set_option maxRecDepth 100000
set_option maxHeartbeats 1000000
namespace DL
open PySem
theorem at0 {α : Type} (a b : α) : L2.atI [a, b] 0 = some a := rfl
theorem at1 {α : Type} (a b : α) : L2.atI [a, b] 1 = some b := rfl
theorem maskA1 (f : Nat → Bool) (ρ : DL.Env) : maskA f 1 ρ = [if f 0 = true then ρ[0]?.getD .emp else .emp] := rfl
theorem maskA2 (f : Nat → Bool) (ρ : DL.Env) : maskA f 2 ρ = [if f 0 = true then ρ[0]?.getD .emp else .emp, if f 1 = true then ρ[1]?.getD .emp else .emp] := rfl
theorem maskA3 (f : Nat → Bool) (ρ : DL.Env) : maskA f 3 ρ = [if f 0 = true then ρ[0]?.getD .emp else .emp, if f 1 = true then ρ[1]?.getD .emp else .emp, if f 2 = true then ρ[2]?.getD .emp else .emp] := rfl
theorem R_bind_ok {α β : Type} (a : α) (f : α → R β) : R.bind (.ok a) f = f a := Eq.trans rfl rfl
theorem R_bind_bad {α β : Type} (f : α → R β) : R.bind .bad f = .bad := Eq.trans rfl rfl
theorem R_bind_exc {α β : Type} (c : String) (p : Option (Str × D)) (f : α → R β) : R.bind (.exc c p) f = .exc c p := Eq.trans rfl rfl
theorem rdO_some {α β : Type} (a : α) (f : α → R β) : rdO (some a) f = f a := Eq.trans rfl rfl
theorem rdO_none {α β : Type} (f : α → R β) : rdO none f = .bad := Eq.trans rfl rfl


theorem sz_0 : szOk 0 = true := by unfold szOk; simp
theorem sz_1 : szOk 1 = true := by unfold szOk; simp
theorem sz_2 : szOk 2 = true := by unfold szOk; simp
theorem sz_3 : szOk 3 = true := by unfold szOk; simp
theorem sz_4 : szOk 4 = true := by unfold szOk; simp
theorem sz_5 : szOk 5 = true := by unfold szOk; simp
theorem sz_6 : szOk 6 = true := by unfold szOk; simp
theorem sz_7 : szOk 7 = true := by unfold szOk; simp
theorem sz_8 : szOk 8 = true := by unfold szOk; simp
theorem gAdd_int (a b : Int) : gAdd (.int a) (.int b) = some (.sh (.int (a + b))) := by simp [gAdd, gInt, yes2]
theorem gSub_int (a b : Int) : gSub (.int a) (.int b) = some (.sh (.int (a - b))) := by simp [gSub, gInt, yes2]
theorem gAug_int (a b : Int) : gAugAdd (.int a) (.int b) = some (.sh (.int (a + b))) := by simp [gAugAdd, gInt, yes2]
def rng2C (i j : Int) (ρ : DL.Env) : R (List D × DL.Env) := if (smallI i && smallI j) = true then .ok ((List.range (j - i).toNat).map fun (k : Nat) => D.int (i + (k : Int)), ρ) else .bad
def rng1C (j : Int) (ρ : DL.Env) : R (List D × DL.Env) := if smallI j = true then .ok ((List.range j.toNat).map fun (i : Nat) => D.int (0 + (i : Int)), ρ) else .bad
def rngV : Option (List D) → DL.Env → R (List D × DL.Env)
  | some [.int i, .int j], ρ => rng2C i j ρ
  | _, _ => .bad
def rngU : Option (List D) → DL.Env → R (List D × DL.Env)
  | some [.int j], ρ => rng1C j ρ
  | _, _ => .bad
theorem rngV_ints (i j : Int) (ρ : DL.Env) : rngV (some [.int i, .int j]) ρ = rng2C i j ρ := by simp [rngV]
theorem rngU_ints (j : Int) (ρ : DL.Env) : rngU (some [.int j]) ρ = rng1C j ρ := by simp [rngU]
theorem xIRng2_eq (ma : MA) (ρ : DL.Env) : xIRng2 ma ρ = R.bind (ma ρ) fun a => rngV (rdvs a.2 a.1) a.2 := by
  unfold xIRng2
  congr 1
  funext a
  cases rdvs a.2 a.1 with
  | none => simp [rngV]
  | some l =>
    match l with
    | [] => simp [rngV]
    | [d] => cases d <;> simp [rngV]
    | [d, e] => cases d <;> cases e <;> simp [rngV, rng2C]
    | d :: e :: f :: r => cases d <;> cases e <;> simp [rngV]
theorem xIRng1_eq (ma : MA) (ρ : DL.Env) : xIRng1 ma ρ = R.bind (ma ρ) fun a => rngU (rdvs a.2 a.1) a.2 := by
  unfold xIRng1
  congr 1
  funext a
  cases rdvs a.2 a.1 with
  | none => simp [rngU]
  | some l =>
    match l with
    | [] => simp [rngU]
    | [d] => cases d <;> simp [rngU, rng1C]
    | d :: e :: r => cases d <;> cases e <;> simp [rngU]
theorem rng2C_ok {i j : Int} {ρ : DL.Env} (hi : smallI i = true) (hj : smallI j = true) : rng2C i j ρ = .ok ((List.range (j - i).toNat).map fun (k : Nat) => D.int (i + (k : Int)), ρ) := by
  unfold rng2C
  rw [hi, hj]
  rfl
theorem rng1C_ok {j : Int} {ρ : DL.Env} (hj : smallI j = true) : rng1C j ρ = .ok ((List.range j.toNat).map fun (i : Nat) => D.int (0 + (i : Int)), ρ) := by
  unfold rng1C
  rw [hj]
  rfl
theorem isi_tt (l : List D) : gIsi [.tup l, .ty "tuple"] = some (.sh (.bl true)) := by simp [gIsi, tyD, instO, instTab]
theorem isi_ss (l : Str) : gIsi [.str l, .ty "str"] = some (.sh (.bl true)) := by simp [gIsi, tyD, instO, instTab]
theorem lc_nil (mg : MG) (mt : MT) (me : MX) (vs : List Nat) (ρ : Env) (acc : List D) : lcLoop mg mt me vs [] ρ acc = .ok (acc, ρ) := by unfold lcLoop; exact Eq.trans rfl rfl
theorem gEq_int (a b : Int) : gEq (.int a) (.int b) = some (decide (a = b)) := by simp [gEq, eqS]
theorem gNe_int (a b : Int) : gNe (.int a) (.int b) = some (!decide (a = b)) := by simp [gNe, eqS]
theorem gLt_int (a b : Int) : gLt (.int a) (.int b) = some (decide (a < b)) := by simp [gLt, cmpI]
theorem gLe_int (a b : Int) : gLe (.int a) (.int b) = some (decide (a ≤ b)) := by simp [gLe, cmpI]
theorem gGt_int (a b : Int) : gGt (.int a) (.int b) = some (decide (b < a)) := by simp [gGt, cmpI]
theorem gGe_int (a b : Int) : gGe (.int a) (.int b) = some (decide (b ≤ a)) := by simp [gGe, cmpI]

theorem lc_pure {mg : MG} {me : MX} {vs : List Nat} {ρ : Env} {f : D → D} : ∀ {ds acc : List D}, (∀ d ∈ ds, ∃ ρ1 v ρ2 p, mg d ρ = some ρ1 ∧ me ρ1 = .ok (v, ρ2) ∧ share ρ2 v = some (f d, p) ∧ emps p vs = ρ) → acc.length + ds.length ≤ 1000000 →
    lcLoop mg xYes me vs ds ρ acc = .ok (acc ++ ds.map f, ρ)
  | [], acc, _, _ => by simp [lcLoop]
  | d :: ds, acc, h, hz => by
    obtain ⟨ρ1, v, ρ2, p, h1, h2, h3, h4⟩ := h d (by simp)
    have ih := lc_pure (acc := acc ++ [f d]) (fun e he => h e (List.mem_cons_of_mem _ he)) (by simp at hz ⊢; omega)
    have hz1 : szOk (acc.length + 1) = true := by
      unfold szOk
      simp at hz ⊢
      omega
    unfold lcLoop
    simp only [h1, rdO, xYes, R.noX, R.bind, h2, h3, hz1, h4, if_true]
    show lcLoop mg xYes me vs ds ρ (acc ++ [f d]) = _
    rw [ih]
    simp
theorem lc_test {mg : MG} {mt : MT} {me : MX} {vs : List Nat} {ρ : Env} {t : D → Bool} {f : D → D} : ∀ {ds acc : List D}, (∀ d ∈ ds, ∃ ρ1 ρ2, mg d ρ = some ρ1 ∧ mt ρ1 = .ok (t d, ρ2) ∧ emps ρ2 vs = ρ ∧ (t d = true → ∃ v ρ3 p, me ρ2 = .ok (v, ρ3) ∧ share ρ3 v = some (f d, p) ∧ emps p vs = ρ)) → acc.length + ds.length ≤ 1000000 →
    lcLoop mg mt me vs ds ρ acc = .ok (acc ++ (ds.filter t).map f, ρ)
  | [], acc, _, _ => by simp [lcLoop]
  | d :: ds, acc, h, hz => by
    obtain ⟨ρ1, ρ2, h1, h2, h5, h6⟩ := h d (by simp)
    unfold lcLoop
    simp only [h1, rdO, R.noX, R.bind, h2]
    cases ht : t d with
    | false =>
      simp only [Bool.false_eq_true, if_false]
      rw [h5, lc_test (fun e he => h e (List.mem_cons_of_mem _ he)) (by simp at hz ⊢; omega), List.filter_cons, ht]
      simp
    | true =>
      obtain ⟨v, ρ3, p, g1, g2, g3⟩ := h6 ht
      have hz1 : szOk (acc.length + 1) = true := by
        unfold szOk
        simp at hz ⊢
        omega
      simp only [if_true, g1, g2, hz1]
      rw [g3, lc_test (fun e he => h e (List.mem_cons_of_mem _ he)) (by simp at hz ⊢; omega), List.filter_cons, ht]
      simp
theorem lc_state {S : Type} {mg : MG} {me : MX} {vs : List Nat} {ρs : S → Env} {Inv : Nat → S → Prop} {Ok : D → D → Prop} : ∀ {ds acc : List D} {n : Nat} {s : S}, Inv n s →
    (∀ d ∈ ds, ∀ k s, n ≤ k → k < n + ds.length → Inv k s → ∃ ρ1 v ρ2 x p s', mg d (ρs s) = some ρ1 ∧ me ρ1 = .ok (v, ρ2) ∧ share ρ2 v = some (x, p) ∧ emps p vs = ρs s' ∧ Inv (k + 1) s' ∧ Ok d x) → acc.length + ds.length ≤ 1000000 →
    ∃ out s', lcLoop mg xYes me vs ds (ρs s) acc = .ok (acc ++ out, ρs s') ∧ Inv (n + ds.length) s' ∧ out.length = ds.length ∧ ∀ (i : Nat) (d x : D), ds[i]? = some d → out[i]? = some x → Ok d x
  | [], acc, n, s, hI, _, _ => ⟨[], s, by simp [lcLoop], hI, rfl, fun i d x e => by simp at e⟩
  | d :: ds, acc, n, s, hI, h, hz => by
    obtain ⟨ρ1, v, ρ2, x, p, s1, h1, h2, h3, h4, h5, h6⟩ := h d (by simp) n s (Nat.le_refl _) (by simp) hI
    have hz1 : szOk (acc.length + 1) = true := by
      unfold szOk
      simp at hz ⊢
      omega
    obtain ⟨out, s2, g1, g2, g3, g4⟩ := lc_state (ds := ds) (acc := acc ++ [x]) (n := n + 1) (s := s1) h5 (fun e he k s hk hk2 => h e (List.mem_cons_of_mem _ he) k s (by omega) (by simp; omega)) (by simp at hz ⊢; omega)
    refine ⟨x :: out, s2, ?_, by rw [List.length_cons]; rw [show n + (ds.length + 1) = n + 1 + ds.length by omega]; exact g2, by simp [g3], fun i e y ei ey => ?_⟩
    · unfold lcLoop
      simp only [h1, rdO, xYes, R.noX, R.bind, h2, h3, hz1, h4, if_true]
      show lcLoop mg xYes me vs ds (ρs s1) (acc ++ [x]) = _
      rw [g1]
      simp
    · cases i with
      | zero =>
        simp at ei ey
        subst ei ey
        exact h6
      | succ i => exact g4 i e y (by simpa using ei) (by simpa using ey)
theorem for_inv {mg : MG} {mb : MS} {Inv : Nat → Env → Prop} : ∀ {ds : List D} {n : Nat} {ρ : Env}, Inv n ρ → (∀ (i : Nat) (d : D) (ρ : Env), ds[i]? = some d → Inv (n + i) ρ → ∃ ρ1 ρ2, mg d ρ = some ρ1 ∧ mb ρ1 = .ok (.nx ρ2) ∧ Inv (n + i + 1) ρ2) →
    ∃ ρ', forLoop mg mb ds ρ = .ok (.nx ρ') ∧ Inv (n + ds.length) ρ'
  | [], n, ρ, h, _ => ⟨ρ, by simp [forLoop], h⟩
  | d :: ds, n, ρ, h, hs => by
    obtain ⟨ρ1, ρ2, h1, h2, h3⟩ := hs 0 d ρ rfl h
    obtain ⟨ρ', g1, g2⟩ := for_inv (ds := ds) (n := n + 1) (ρ := ρ2) h3 (fun i e ρ ei hi => by
      obtain ⟨a, b, k1, k2, k3⟩ := hs (i + 1) e ρ (by simpa using ei) (by rw [show n + (i + 1) = n + 1 + i by omega]; exact hi)
      exact ⟨a, b, k1, k2, by rw [show n + 1 + i + 1 = n + (i + 1) + 1 by omega]; exact k3⟩)
    refine ⟨ρ', ?_, by rw [List.length_cons, show n + (ds.length + 1) = n + 1 + ds.length by omega]; exact g2⟩
    unfold forLoop
    simp only [h1, rdO_some, rdO_none, R_bind_ok, R_bind_bad, R_bind_exc, h2]
    exact g1
theorem for_inv0 {mg : MG} {mb : MS} {ds : List D} {ρ : Env} (Inv : Nat → Env → Prop) (h : Inv 0 ρ) (hs : ∀ (i : Nat) (d : D) (ρ : Env), ds[i]? = some d → Inv i ρ → ∃ ρ1 ρ2, mg d ρ = some ρ1 ∧ mb ρ1 = .ok (.nx ρ2) ∧ Inv (i + 1) ρ2) :
    ∃ ρ', forLoop mg mb ds ρ = .ok (.nx ρ') ∧ Inv ds.length ρ' := by
  obtain ⟨ρ', h1, h2⟩ := for_inv (mg := mg) (mb := mb) (ds := ds) (n := 0) (Inv := Inv) h fun i d ρ hd hi => by
    rw [Nat.zero_add] at hi ⊢
    exact hs i d ρ hd hi
  exact ⟨ρ', h1, by rwa [Nat.zero_add] at h2⟩
end DL
end
section
set_option maxRecDepth 100000
set_option maxHeartbeats 2000000
namespace DL
open PySem PySem.Spec PyProof.Rows L2
open PySem.W (Looks KxsFacts kxs_mw)
open NdefX (NScope NF CellsAt ncx inv_startN startF envF)
structure SupC (K : PySem.W.Frag) (P : Program) (C fI cc cda : Addr) (fld : Str) : Prop where
  ox : OexC K C
  ini : PySem.W.findIn K (.ref C) "__init__" = some (some (.ref fI))
  tyI : PySem.W.typeIn K (.ref fI) = some (.type "function")
  cell : ∃ cl cld csl, K.lookup cc = some ⟨cl, cld, .cell (some (.ref C)), csl⟩
  sub : PySem.W.mroIn K C (.ref C) = some true
  any : PySem.W.nsIn K cStatics "thirdparty.any" = some none
  sup : PySem.W.ks_superIn K C C "__init__" = some (some (.builtin "ValueError.__init__"))
  isV : PySem.W.subIn K (.ref C) (.type "ValueError") = some true
  code : ∃ ccl cdd vs ccs file tf, K.lookup cda = some ⟨ccl, cdd, .fields vs, ccs⟩ ∧ vs[2]? = some (.str file tf) ∧ ((P.main.file : Str) == file) = true
  top : (P.main.scope.names.lookup ("super" : Str)).isSome = false
  fno : PySem.W.findIn K (.ref C) fld = some none
def spInit (C : Addr) (fld : Str) : Sp := fun vs H Q _ => ∃ a y, vs = [.ref a, y] ∧ H a = some (exo a C none) ∧ ∀ dx, H dx = none → dx ≠ a → Q .non (upd (upd H dx (exd dx [(fld, y)])) a (exo a C (some dx)))
theorem look1 {z k : Str} {a c : Addr} (e : List.lookup z [(k, a)] = some c) : z = k ∧ a = c := by
  unfold List.lookup at e
  split at e
  · rename_i h
    cases e
    exact ⟨eq_of_beq h, rfl⟩
  · cases e
abbrev supCall (p0 p1 p2 p3 p4 : Pos) (kd : Nat) (txt : Str) : Expr := .Call (.Attribute (.Call (.Name "super" p0) [] [] p1) "__init__" p2) [.Constant (.str txt) kd p3] [] p4
abbrev envS (qual : Str) (params : Arguments) (body : List Stmt) (scope : Scope) (cc cda fI L : Addr) : PySem.Env := envF ⟨"__init__", qual, params, body, scope, [("__class__", cc)], cda⟩ fI L
theorem fn_super {P : Program} {w : World} {K : PySem.W.Frag} {mg : Str → Option Value} {base : Heap} {k : Nat} {C fI cc cda : Addr} {fld qual txt : Str} {params : Arguments} {body : List Stmt} {scope : Scope} {doc pm ct oc : Value} {od : Option Addr} {osl : Array (Option Value)}
    {p0 p1 p2 p3 p4 p5 q0 q1 q2 q3 : Pos} {kd : Nat}
    (lk : K.lookup fI = some ⟨oc, od, .func (PySem.W.fnX "__init__" qual params body scope [("__class__", cc)] .none .none doc pm none (.ref cda) ct), osl⟩) (hcd : PySem.W.codeIn K (.ref cda) qual = true)
    (T : SupC K P C fI cc cda fld) (S : NScope (["self", fld, "__class__"] : List Str) (["self", fld] : List Str) (["__class__"] : List Str) scope) (hsup : scope.names.lookup ("super" : Str) = some .globalImplicit) (hmg : mg "super" = none)
    (hp : ∃ ar, (params.posonlyargs ++ params.args).head? = some ar ∧ ar.arg = "self")
    (hb : body = [.Expr (supCall p0 p1 p2 p3 p4 kd txt) p5, .Assign [.Attribute (.Name "self" q0) fld q1] (.Name fld q2) q3])
    (he : ∀ L, ∃ pl, eval (supCall p0 p1 p2 p3 p4 kd txt) (envS qual params body scope cc cda fI L) = (do
      let ov ← attributeBase (.Call (.Name "super" p0) [] [] p1) "__init__" (envS qual params body scope cc cda fI L) (eval (.Call (.Name "super" p0) [] [] p1) (envS qual params body scope cc cda fI L))
      standAt p2.atName
      let (f, first) ← holding [ov] (getMethod ov "__init__" pl)
      callWith p4 f first (backTo p4 (starEach [.Constant (.str txt) kd p3] (envS qual params body scope cc cda fI L))) []))
    (hi : ∀ L, interactive (envS qual params body scope cc cda fI L) = false) (hs : ∀ L, swapsWith (supCall p0 p1 p2 p3 p4 kd txt) none p5.line (envS qual params body scope cc cda fI L) = pure false)
    (hf1 : (fld == ("__debug__" : Str)) = false) (hf2 : (fld == ("__classdict__" : Str)) = false)
    (hs2 : ∀ L, swapsWith (.Name fld q2) (some (.Attribute (.Name "self" q0) fld q1)) q3.line (envS qual params body scope cc cda fI L) = pure false) :
    FnOk P w K mg base (L2.CX P w) (k + 1) fI (PySem.W.fnX "__init__" qual params body scope [("__class__", cc)] .none .none doc pm none (.ref cda) ct) (["self", fld] : List Str) (spInit C fld) := by
  refine ⟨fun vs H Q E h => by obtain ⟨a, y, rfl, _⟩ := h; rfl, fun A outer s H args us vs Q E hr e0 hbind r hsp => ?_⟩
  obtain ⟨a, y, rfl, ea, q⟩ := hsp
  have KX : K.In s.heap := e0.mod.kin.keeps fun b o e => (e0.bs b o e).1
  have lim : s.heap.NoLimit := e0.mod.nolimit.keeps fun b o e => (e0.bs b o e).1
  obtain ⟨ua, uy, rfl, rfl, ry⟩ : ∃ ua uy, us = [ua, uy] ∧ ua = Value.ref a ∧ RelV y uy := by
    cases r with
    | cons h1 r =>
      cases r with
      | cons h2 r =>
        cases r
        exact ⟨_, _, rfl, h1, h2⟩
  let F : NF := ⟨"__init__", qual, params, body, scope, [("__class__", cc)], cda⟩
  obtain ⟨cl, cld, csl, hcell⟩ := T.cell
  have C0 : CellsAt F.cl ["__class__"] [none] s.heap H := {
    len := rfl
    all := fun z c e => by
      obtain ⟨_, rfl⟩ := look1 e
      exact ⟨(e0.bs _ _ (e0.mod.kin _ _ hcell)).2, _, _, KX _ _ hcell, rfl⟩
    inj := fun x z c e1 e2 => (look1 e1).1.trans (look1 e2).1.symm
    has := fun i z e => by
      match i, e with
      | 0, e =>
        cases e
        exact ⟨cc, rfl, fun v e => by cases e⟩ }
  have r2 : Vals [V.ref a, y] [Value.ref a, uy] := .cons rfl (.cons ry .nil)
  refine ks_codeAny_call_defAt hr.depth (KX _ _ lk) rfl lim (PySem.W.codeRec_of KX hcd) rfl hbind S.nocell (fun x hx => S.par _ (List.of_mem_zip hx).1) (fun h₁ hns kp => ?_) S.co S.gen S.kind
  have I : L2.Inv (ncx (L2.CX P w) P w K mg base (["self", fld, "__class__"] : List Str) F fI A outer s H E) [] (startF (["self", fld, "__class__"] : List Str) [V.ref a, y] [none]) H { s with heap := h₁, toks := s.toks + ((["self", fld] : List Str).zip [Value.ref a, uy]).length } := inv_startN S hr.hd e0 rfl r2 C0 hns kp
  have X1 : K.In h₁ := KX.keeps kp
  obtain ⟨t1, hx0⟩ := exo_at e0.hok ea
  have hx := kp _ _ hx0
  show PySem.wpAt (model P w) (A.deeper (envS qual params body scope cc cda fI s.heap.objs.size)) (.func body (envS qual params body scope cc cda fI s.heap.objs.size)) (execs body (envS qual params body scope cc cda fI s.heap.objs.size)) _ _ _
  obtain ⟨pl, he⟩ := he s.heap.objs.size
  have hi := hi s.heap.objs.size
  have hs := hs s.heap.objs.size
  have hs2 := hs2 s.heap.objs.size
  rw [show execs body (envS qual params body scope cc cda fI s.heap.objs.size) = execs [.Expr (supCall p0 p1 p2 p3 p4 kd txt) p5, .Assign [.Attribute (.Name "self" q0) fld q1] (.Name fld q2) q3] (envS qual params body scope cc cda fI s.heap.objs.size) by rw [← hb]]
  refine ks_wpAt_execs_cons (ks_wpAt_Expr_any (ks_wpAt_MethodCall ?_ he) hi hs)
  obtain ⟨ar, hp1, hp2⟩ := hp
  obtain ⟨ccl, cdd, vs, ccs, file, tf, hc1, hc2, hc3⟩ := T.code
  refine ks_wpAt_super_base hsup (S.frk "__class__" (by simp)) (by decide) rfl (X1 _ _ lk) rfl hp1 rfl (X1 _ _ hc1) rfl hc2 hc3 T.top ?_
  obtain ⟨mb, g1, g2⟩ := e0.mod.blt
  have bk : ∀ b o, base.get? b = some o → h₁.get? b = some o := fun b o e => kp _ _ (e0.bs b o e).1
  refine PySem.W.ks_loadName_global S.kind hsup (Calls.loadGlobal_builtin (e0.mod.glob.keeps bk) hmg (g1.keeps bk) ((g2 "super" (by decide)).trans PyProof.Rows.Boot.«super») ⟨rfl, ?_⟩)
  refine wpAny_loadName_free S.kind (S.frk "__class__" (by simp)) rfl ⟨_, X1 _ _ hcell, rfl⟩ ?_
  rw [hp2]
  have nd : (["self", fld] : List Str).Nodup := S.nd.sublist (show (List.take 2 (["self", fld, "__class__"] : List Str)).Sublist _ from List.take_sublist 2 _)
  refine wpAny_loadName_local (v := Value.ref a) S.kind (S.par "self" (by simp)) hns (NdefX.zip_look (i := 0) nd rfl rfl) ?_
  obtain ⟨nm, qn, Nc, bs, bm, sn, sub, ab, col, dd, k0, k1, k2, k3, k5, hC, hbm⟩ := T.ox.cls
  have hcl : PySem.W.clsIn K C = some { name := nm, bases := bs, mro := .ref C :: bm, ns := Nc, qualname := qn, hasDict := true, slotNames := sn, subclasses := sub, abstract := ab, collection := col, hasDel := false } := by unfold PySem.W.clsIn; rw [hC] <;> rfl
  have hC1 := X1 _ _ hC
  refine ks_wpAny_isType_cls hC1 rfl ⟨rfl, ?_⟩
  refine ks_wpAny_call_super hC1 rfl hx rfl (fun c e => by cases e) (PySem.W.looks_mroIn X1 T.sub) (fun h2 hso kp2 => ?_)
  have X2 : K.In h2 := X1.keeps kp2
  have hx2 := kp2 _ _ hx
  have I2 : PySem.W.InstAt h2 a _ C none := ⟨hx2, rfl, rfl, trivial⟩
  have hI : Looks (model P w) h2 (isInstance (.ref a) (.type "ValueError")) true := I2.type.andThen (PySem.W.looks_subIn X2 T.isV)
  have hsu := T.sup
  unfold PySem.W.ks_superIn at hsu
  rw [hcl] at hsu
  refine PySem.W.kxs_getMethod PySem.W.kxs_ValueError hso (PySem.W.looks_opaque X2 T.any) (l₀ := .ref C :: bm) (fun A Q E s k q => wpAny_bind ((PySem.W.looks_clsIn X2 hcl) A _ E s k (wpAny_pure q))) rfl X2 hsu hI (PySem.W.ks_ne X2 I2 hcl) (by decide) ?_
  have u3 : (h2.push (kxs_mw "ValueError.__init__" a)).get? h2.objs.size = some (kxs_mw "ValueError.__init__" a) := Heap.get?_push_at rfl rfl
  have kp3 : ∀ b o, h2.get? b = some o → (h2.push (kxs_mw "ValueError.__init__" a)).get? b = some o := fun b o e => Heap.get?_push_of_some _ e
  generalize hh3 : h2.push (kxs_mw "ValueError.__init__" a) = h3 at u3 kp3
  have X3 : K.In h3 := X2.keeps kp3
  have hx3 := kp3 _ _ hx2
  have hC3 := X3 _ _ hC
  refine PySem.W.kxs_callWith (i := "ValueError.__init__") (u := h2.objs.size) (x := a) (by rfl) ?_
  refine Calls.evalArgs_plain (Calls.spliced_cons (Calls.Constant_str (pos := p3) (k := kd) (Calls.spliced_nil ⟨u3, ?_⟩)))
  refine wpAny_call (codeAny_of_tree ?_)
  simp only [callAny]
  refine wpAny_bind (wpAny_load u3 ?_)
  simp only [kxs_mw, show (Value.type "method-wrapper" == Value.type "method" || Value.type "method-wrapper" == Value.type "builtin_function_or_method" || Value.type "method-wrapper" == Value.type "method-wrapper") = true by decide, if_true]
  refine PySem.W.KFB.if_so (by decide) ?_
  refine wpAny_bind (PySem.W.check_bound_init PySem.F.excBase_ValueError.toExcCallFacts hC3 hx3 rfl ?_)
  refine wpAny_bind (wpAny_pure (wpAny_pure ?_))
  refine ⟨plainId_quiet PySem.F.excBase_ValueError.init.plain _, codeAny_builtin PySem.F.excBase_ValueError.initEntry ?_⟩
  refine PySem.W.exc_init_tree (cls := .ref C) (t0 := t1) (dv := none) (c2 := .none) (c3 := .none) (b4 := .bool false) hx3 (by rw [sizeLine_eq]; show 1 ≤ 16777216; decide) fun h4 kp4 hx4 _ => ?_
  have kpA : ∀ b o, h₁.get? b = some o → h3.get? b = some o := fun b o e => kp3 _ _ (kp2 _ _ e)
  have J3 := I.kept (h' := h3) (t' := 0) kpA
  have J4 := J3.write (h' := h4) (t' := s.toks + ((["self", fld] : List Str).zip [Value.ref a, uy]).length + 1 + 1) (x := a) (e := a) (o := exo a C none) (by rw [ea]; exact True.intro) (.inl rfl) kp4 ⟨_, hx4⟩ (exo_ok hx4)
  rw [show upd H a (exo a C none) = H by
    funext b
    by_cases hb : b = a
    · rw [hb, upd_same, ea]
    · rw [upd_ne hb]] at J4
  have ht := pss_one (ps_ost (X := ncx (L2.CX P w) P w K mg base (["self", fld, "__class__"] : List Str) F fI A outer s H E) (f := fld) (p' := q1) (pos := q3) (pe_var (i := 0) (x := "self") (pos := q0) rfl (.inl (S.par "self" (by simp)))) (pe_var (i := 1) (x := fld) (pos := q2) rfl (.inl (S.par fld (by simp))) hf1 hf2) hs2)
  refine PySem.wpAt_of_wpAny (wpAny_mono (ht.run [] _ _ H { nx := fun _ H' => Q .non H', rt := Q } J4 ?_) (fun fl s' hs => ?_) fun e s' hs => hs)
  · exact ⟨y, rfl, .ref a, rfl, a, C, rfl, T.ox, T.fno, .inl ⟨ea, q⟩⟩
  · have fin : ∀ {σ' : L2.St} {H' : Hp} {v : V} {u : Value}, L2.Inv (ncx (L2.CX P w) P w K mg base (["self", fld, "__class__"] : List Str) F fI A outer s H E) [] σ' H' s' → RelV v u → Q v H' → CE outer P w H s Q u s' :=
      fun {σ' H' v u} J rv q => ⟨v, H', J.os, J.bare, J.base, J.hok, rv, q⟩
    cases fl with
    | ret u =>
      obtain ⟨v, σ', H', J, rv, q⟩ := hs
      exact fin J rv q
    | next =>
      obtain ⟨σ', H', J, q⟩ := hs
      exact fin (v := V.non) (u := Value.none) J rfl q
    | brk =>
      obtain ⟨_, _, _, q⟩ := hs
      exact False.elim q
    | cont =>
      obtain ⟨_, _, _, q⟩ := hs
      exact False.elim q
section
variable {K : PySem.W.Frag} {ct : Ct} {E : XK} {B H : Hp} {fix : Nat → Bool}
theorem RdV.sc {v vv : V} {d : D} (h : RdV K B H v d) (e : scV d = some vv) : v = vv := by
  cases d <;> first | (cases e; done) | skip
  all_goals
    cases e
    cases h
    rfl
def sRaiseX (c : String) (fld : Str) (m : MX) : MS := fun ρ => R.bind (m ρ) fun a => rdO (rdv a.2 a.1) fun d => rdO (scV d) fun _ => .exc c (some (fld, d))
theorem is_raiseX {c : String} {fld : Str} {C : Addr} {t : TE} {m : MX} (hC : C = ct c) (ha : Imp K ct E t m) :
    ImpS K ct E fix (fun _ σ H => tMkO C (spInit C fld) [] (tCons t tNil) σ H fun cls d H' => (fun cls d (_ : L2.St) H => E cls d H) cls d σ H') (sRaiseX c fld m) := by
  subst hC
  intro B H σ ρ f0 Z R h
  refine ha B H σ ρ f0 _ R (h.first fun a ea h v B1 H1 f1 g y => ?_)
  obtain ⟨d, e1, h⟩ := h.get
  obtain ⟨vv, e2, h⟩ := h.get
  have ev := RdV.sc (y.val.rd y.rel e1) e2
  have h : ∀ dd H', Kept H f0 H' → PayOk dd H H' (some (fld, d)) → E (.ref (ct c)) dd H' := h
  refine ⟨by show 1 ≤ 1000; decide, fun a ha => ⟨a, v, rfl, upd_same, fun dx ndx ne => ?_⟩⟩
  have n1 : H1 dx = none := by
    rw [upd_ne ne] at ndx
    exact ndx
  refine ⟨rfl, dx, [(fld, v)], upd_same, by rw [upd_ne ne, upd_same], n1, h _ _ (fun b o e n => ?_) ⟨dx, vv, rfl, ?_, ?_, e2⟩⟩
  · have e3 := y.frm.keep b o e n
    have nb : b ≠ dx := fun z => by rw [z, n1] at e3; cases e3
    have na : b ≠ a := fun z => by rw [z, ha] at e3; cases e3
    rw [upd_ne nb, del_ne na, upd_ne na, upd_ne nb, upd_ne na]
    exact e3
  · cases e : H dx with
    | none => rfl
    | some o => exact absurd n1 (y.frm.dom dx (by rw [e]; simp))
  · rw [upd_same, ev]
end
structure SupT (K : PySem.W.Frag) (mg : Str → Option Value) (P : Program) (C : Addr) (fld : Str) : Prop where
  ok : ∀ (w : World) (base : Heap), ∃ (fI : Addr) (fd : FuncData), OexC K C ∧ PySem.W.findIn K (.ref C) "__init__" = some (some (.ref fI)) ∧ PySem.W.typeIn K (.ref fI) = some (.type "function") ∧
    FnOk P w K mg base (L2.CX P w) 1 fI fd (["self", fld] : List Str) (spInit C fld) ∧ Binds K fd (["self", fld] : List Str) []
theorem pmk_sup {P : Program} {w : World} {K : PySem.W.Frag} {mg : Str → Option Value} {base : Heap} {X : Cx} {C : Addr} {fld x : Str} {e : Expr} {te : TE} {p pos : Pos} (T : SupT K mg P C fld) (hP : X.prog = P) (hw : X.w = w) (hK : X.K = K) (hmg : X.mg = mg) (hbase : X.base = base)
    (hr : Room 2 X.A) (hg : Gl X x) (hm : X.mg x = some (.ref C)) (he : PE X e te)
    (hdb : (x == ("__debug__" : Str)) = false := by decide) (hs : starEach [e] X.env = (false, eval e X.env) :: starEach [] X.env := by rfl) (hs0 : starEach [] X.env = [] := by rfl) :
    PMk X (.Call (.Name x p) [e] [] pos) (tMkO C (spInit C fld) [] (tCons te tNil)) := by
  subst hP hw hK hmg hbase
  obtain ⟨fI, fd, T1, T2, T3, F1, hb⟩ := T.ok X.w X.base
  exact pmk_oex T1 T2 T3 F1 hr hb .nil (fun pins σ H s e s' I h => by
    obtain ⟨_, _, _, _, _, _, _, _, _, _, _, _, q⟩ := h
    exact q.elim) hg hm (pa_cons he pa_nil hs) hdb hs (by rw [hs0]; rfl)
end DL
end
section
set_option maxRecDepth 100000
set_option maxHeartbeats 2000000
namespace DL
open PySem PySem.Spec PyProof.Rows L2
open Evl (Ex ex_rd ex_l ex_t)
section
variable {K : PySem.W.Frag} {ct : Ct} {E : XK} {B H B' H' B1 H1 B2 H2 : Hp} {σ σ' : L2.St} {ρ ρ' : Env} {f0 f1 f2 : Fps} {v : V} {r : Vl} {f g : List Addr} {fix : Nat → Bool}
def xCaughtV (ct : Ct) (T : List (Addr × Str)) (it : Nat) (isc : String → Bool) (m : MX) : MX := fun ρ => match ρ[it]? with
  | some (.tab T' _) => if T' = T then (match m (ρ.map frz) with
    | .ok _ => .ok (.sh .non, ρ)
    | .exc c p => if isc c = true then .ok (.ob (.exc (ct c) p), ρ) else .bad
    | .bad => .bad) else .bad
  | _ => .bad
theorem im_caughtV {T : List (Addr × Str)} {it : Nat} {CW : Addr} {isc : String → Bool} {m : MX} {t : XK → TE} (I : ∀ c, isc c = true → PySem.W.exmOne K (.ref (ct c)) (.ref CW) = some true) (ht : ∀ E', Imp K ct E' (t E') m) :
    Imp K ct E (tLamT T (TCaught K CW) t) (xCaughtV ct T it isc m) := by
  intro B H σ ρ f0 Q R h
  unfold xCaughtV at h
  split at h
  · rename_i T' d e0
    by_cases hT : T' = T
    · subst hT
      rw [if_pos rfl] at h
      have ok := R.ok it _ e0
      have tabs : LamX.Tabs T' H := fun p hp => by
        obtain ⟨ps, h1, h2, h3⟩ := (ok.1.1 p hp).2
        exact ⟨ps, h1, h2, fun pos cv ec => by
          obtain ⟨c, _, e1, e2⟩ := h3 pos cv ec
          exact ⟨c, e1, e2⟩⟩
      refine ⟨tabs, fun H1 eT t1 => ?_⟩
      obtain ⟨f1, R1, fr1⟩ := Rel.tabs R e0 eT t1
      refine ht _ (strip H1) H1 σ (ρ.map DL.frz) noF _ R1.frz ?_
      cases em : m (ρ.map DL.frz) with
      | bad =>
        rw [em] at h
        exact h.elim
      | ok a =>
        rw [em] at h
        intro v B' H' f' f x
        have e := x.frm.ofNo
        exact ⟨.non, rfl, h _ _ _ _ _ (Res.refl' (R1.unfrz e) .non (fr1.trans (frz_frm f1 e)))⟩
      | exc c p =>
        rw [em] at h
        have h : Post ct E H f0 (if isc c = true then DL.R.ok (Vl.ob (.exc (ct c) p), ρ) else DL.R.bad) (XOk K B H σ f0 Q) := h
        by_cases hc : isc c = true
        · rw [if_pos hc] at h
          intro dd H' kk pk
          refine ⟨I c hc, fun a ha => ?_⟩
          have e1 : Ex H1 H' := fun b o q => kk b o q fun z => noF_owned z
          have e : Ex H1 (upd H' a (HeldX (.ref (ct c)) dd a)) := Ex.trans e1 (Ex.new ha)
          have n1 : H1 a = none := by
            cases z : H1 a with
            | none => rfl
            | some o => rw [e1 a o z] at ha; cases ha
          have R2 := R1.unfrz e
          have fr2 : Frm B H (Owned f0) B (upd H' a (HeldX (.ref (ct c)) dd a)) (Owned f1) := fr1.trans (frz_frm f1 e)
          have fre : ∀ b, H1 b = none → B b = none ∧ ¬ Owned f1 b := fun b hb => ⟨Rel.fresh R1.ex hb, fun ⟨j, z⟩ => (R1.off j b z).2 hb⟩
          have old : ∀ b, H1 b = none → H b = none := fun b hb => by
            cases z : H b with
            | none => rfl
            | some o => exact absurd hb (fr1.dom b (by rw [z]; simp))
          cases p with
          | none =>
            have pk : dd = none := pk
            subst pk
            exact h (.ref a) B _ f1 [a] ⟨R2, ObOk.exc0 upd_same, fun b hb => by
              have hb : b = a := by simpa using hb
              rw [hb]
              exact fre a n1, fr2.to fun b z => by
              rcases z with z | z
              · exact .inl z
              · have z : b = a := by simpa using z
                rw [z]
                exact .inr (.inr (old a n1))⟩
          | some p =>
            obtain ⟨x, y, e2, e3, e4, e5⟩ := pk
            subst e2
            have ne : a ≠ x := fun z => by rw [z] at ha; rw [ha] at e4; cases e4
            exact h (.ref a) B _ f1 [a, x] ⟨R2, ObOk.exc1 ne upd_same (by rw [upd_ne (Ne.symm ne)]; exact e4) e5, fun b hb => by
              rcases (by simpa using hb : b = a ∨ b = x) with z | z
              · rw [z]; exact fre a n1
              · rw [z]; exact fre x e3, fr2.to fun b z => by
              rcases z with z | z
              · exact .inl z
              · rcases (by simpa using z : b = a ∨ b = x) with z | z
                · rw [z]; exact .inr (.inr (old a n1))
                · rw [z]; exact .inr (.inr (old x e3))⟩
        · rw [if_neg hc] at h
          exact h.elim
    · rw [if_neg hT] at h
      exact h.elim
  · exact h.elim
structure IsaAt (K : PySem.W.Frag) (CC : Addr) (isa : Addr → Option Bool) : Prop where
  non : PySem.W.kitOne K (.type "NoneType") (.ref CC) = some false
  ok : ∀ C b, isa C = some b → ExcC K C ∧ PySem.W.kitOne K (.ref C) (.ref CC) = some b
def isaC (C0 : Addr) : Addr → Option Bool := fun C => if C = C0 then some true else none
theorem IsaOk.at {CW : Addr} {c : String} (h : IsaOk K ct CW (ct c) (isaOf c)) : IsaAt K (ct c) (isaC (ct c)) :=
  ⟨h.non, fun C b e => by
    unfold isaC at e
    by_cases z : C = ct c
    · rw [if_pos z] at e
      cases e
      rw [z]
      obtain ⟨_, h2, h3⟩ := h.ok c true (by unfold isaOf; rw [if_pos rfl])
      exact ⟨h2, h3⟩
    · rw [if_neg z] at e
      cases e⟩
def xIsE (isa : Addr → Option Bool) (i : Nat) : MX := fun ρ => match ρ[i]? with
  | some (.ob (.exc C _)) => rdO (isa C) fun b => .ok (.sh (.bl b), ρ)
  | some (.sh .non) => .ok (.sh (.bl false), ρ)
  | _ => .bad
theorem Rel.slot {i : Nat} {s : Sl} (R : Rel K B H σ ρ f0) (h : ρ[i]? = some s) : SlOk K B H (σ[i]?).join s (f0 i) := R.ok i s h
theorem join_some {i : Nat} {v : V} (q : (σ[i]?).join = some v) : σ[i]? = some (some v) := by
  cases q1 : σ[i]? with
  | none => rw [q1] at q; cases q
  | some o =>
    rw [q1] at q
    exact congrArg some q
theorem im_isE {CC : Addr} {isa : Addr → Option Bool} {i : Nat} (I : IsaAt K CC isa) : Imp K ct E (tCB (rIsH K) (tCons (tVar i) (tCons (tC (.ref CC)) tNil))) (xIsE isa i) := by
  intro B H σ ρ f0 Q R h
  have cc : ∀ u, RelV (.ref CC) u → u = Value.ref CC := fun u z => z
  unfold xIsE at h
  split at h
  · rename_i C p e
    obtain ⟨b, eb, h⟩ := h.get
    obtain ⟨i1, i2⟩ := I.ok C b eb
    have ok : ObOk K B H (σ[i]?).join (.exc C p) (f0 i) := R.slot e
    generalize hv : (σ[i]?).join = v at ok
    generalize f0 i = ff at ok
    cases ok with
    | exc0 g =>
      exact ⟨_, join_some hv, _, .ref CC, .ref CC, b, rfl, cc, .inl ⟨_, C, none, rfl, g, .inl rfl, i1, i2⟩, h _ _ _ _ _ (.refl R (.bl b))⟩
    | exc1 g1 g2 g3 g4 =>
      exact ⟨_, join_some hv, _, .ref CC, .ref CC, b, rfl, cc, .inl ⟨_, C, _, rfl, g2, .inr ⟨_, _, rfl, g3⟩, i1, i2⟩, h _ _ _ _ _ (.refl R (.bl b))⟩
  · rename_i e
    obtain ⟨_, x, h1, h2⟩ := R.slot e
    cases h2
    exact ⟨_, join_some h1, .non, .ref CC, .ref CC, false, rfl, cc, .inr ⟨rfl, I.non⟩, h _ _ _ _ _ (.refl R (.bl false))⟩
  · exact h.elim
def tXh (K : PySem.W.Frag) (n : Str) (te : TE) : TE := fun σ H Q => te σ H fun x H1 => ∃ a C dd fs v, x = .ref a ∧ H1 a = some (HeldX (.ref C) (some dd) a) ∧ XfC K C ∧ PySem.W.findIn K (.ref C) n = some none ∧ H1 dd = some (.xd fs) ∧ fs.lookup n = some v ∧ Q v H1
theorem pe_xh {X : Cx} {e : Expr} {te : TE} {pos : Pos} {n : Str} (he : PE X e te) (hb : attributeBase e n X.env (eval e X.env) = eval e X.env := by rfl) : PE X (.Attribute e n pos) (tXh X.K n te) := by
  refine ⟨fun pins s σ H Q I h => ?_⟩
  refine attr_of hb (thn (he.run pins s σ H _ I h) fun u s1 hh => ?_)
  obtain ⟨x, H1, I1, rx, a, C, dd, fs, v, ex, ea, T, hno, ed, l, q⟩ := hh
  subst ex
  obtain rfl : u = Value.ref a := rx
  obtain ⟨⟨oe, vs, ha, hz, hd⟩, _, _⟩ := I1.hok a _ ea
  have hx : ObjOk X.prog X.w H1 s1.heap dd (.xd fs) := I1.hok dd _ ed
  obtain ⟨mA, hns, hr⟩ := hx
  obtain ⟨od, ho, hl⟩ := lookIn_ns hns
  obtain ⟨u, hu, ru⟩ := RelO.some_of (v := v) (o := mA n) (by rw [← l]; exact hr n)
  have J : PySem.W.InstAt s1.heap a oe C (some od) := ⟨ha, hz.1, by unfold PySem.W.notCls; rw [hd] <;> rfl, by rw [hz.2]; exact ho⟩
  exact HandSPX.exc_get I1.kIn J T.ga T.gg T.exC (PySem.W.findObj_own T.hdC hno rfl (by rw [hl, hu])) (handed_of ru) ⟨v, H1, I1.tok _, ru, q⟩
structure FldAt (K : PySem.W.Frag) (n : Str) (C : Addr) : Prop where
  x : XfC K C
  no : PySem.W.findIn K (.ref C) n = some none
def xFldE (C0 : Addr) (n : Str) (i : Nat) : MX := fun ρ => match ρ[i]? with
  | some (.ob (.exc C (some (m, d)))) => if C = C0 ∧ m = n then .ok (.sh d, ρ) else .bad
  | _ => .bad
theorem scV_dv {d : D} {y : V} (e : scV d = some y) : DV K B y d := by
  cases d <;> first | (cases e; done) | skip
  all_goals
    cases e
  · exact .non
  · exact .bl _
  · exact .int _
  · exact .str _
theorem im_fldE {C0 : Addr} {n : Str} {i : Nat} (F : FldAt K n C0) : Imp K ct E (tXh K n (tVar i)) (xFldE C0 n i) := by
  intro B H σ ρ f0 Q R h
  unfold xFldE at h
  split at h
  · rename_i C m d e
    by_cases hc : C = C0 ∧ m = n
    · rw [if_pos hc] at h
      obtain ⟨rfl, rfl⟩ := hc
      have ok : ObOk K B H (σ[i]?).join (.exc C (some (m, d))) (f0 i) := R.slot e
      generalize hv : (σ[i]?).join = v at ok
      generalize f0 i = ff at ok
      cases ok with
      | exc1 g1 g2 g3 g4 =>
        exact ⟨_, join_some hv, _, C, _, _, _, rfl, g2, F.x, F.no, g3, by simp [List.lookup], h _ _ _ _ _ (.refl R (scV_dv g4))⟩
    · rw [if_neg hc] at h
      exact h.elim
  · exact h.elim
end
end DL
end
section
set_option maxRecDepth 100000
set_option maxHeartbeats 2000000
namespace DL
open PySem PySem.Spec PyProof.Rows L2
open Evl (Ex ex_rd ex_l ex_t)

theorem meets_en1 {v : Value} {o : Obj} {Hh : Heap → Prop} (B : Begins v o Hh) :
    Meets (Builtin.«enumerate.__new__» ⟨[.type "enumerate", v], []⟩) (fun _ Rr s => Hh s.heap ∧
      Rr (.ok (.ret (.ref (s.heap.push o).objs.size))) { s with heap := (s.heap.push o).push { cls := .type "enumerate", data := .fields #[.none, .bool false, .ref s.heap.objs.size, rawInt 0, .none, .none] } }) :=
  .of_wp fun prog w A Rr s h => by
    obtain ⟨hp, g, d, tk, os⟩ := s
    obtain ⟨h1, h⟩ := h
    have hsub := sub_enumerate
    have q1 : ∀ {A' : Around} {E : Value → Shared → Prop} {Q : Value → Shared → Prop}, Q (.ref hp.objs.size) ⟨hp.push o, g, d, tk, os⟩ → wpAny (model prog w) A' (pyIter v) Q E ⟨hp, g, d, tk, os⟩ :=
      fun q => B.iter prog w _ _ ⟨hp, g, d, tk, os⟩ _ h1 q
    wp_walk using q1
    refine wpAny_stack_any fun st => wpAny_pure ?_
    split
    · rename_i c _ _ _ _ _
      cases (c == Value.type "enumerate") <;> (wp_walk using q1; exact ⟨_, rfl, h⟩)
    · wp_walk using q1
      exact ⟨_, rfl, h⟩
theorem en1_begins {prog : Program} {w : World} {A : Around} {E : Value → Shared → Prop} {s : Shared} {v : Value} {o : Obj} {Hh : Heap → Prop} {Q : Value → Shared → Prop} (B : Begins v o Hh) (h1 : Hh s.heap)
    (h : ∀ h', IsEnum h' (s.heap.objs.size + 1) s.heap.objs.size 0 .none → h'.get? s.heap.objs.size = some o →
      (∀ b o, s.heap.get? b = some o → h'.get? b = some o) → Q (.ref (s.heap.objs.size + 1)) { s with heap := h' }) :
    wpAny (model prog w) A (call (.type "enumerate") [v]) Q E s := by
  refine callType_new F.called_enumerate (by decide) (F.typeCall_enumerate_1 _) (F.newCall_enumerate_1 _) (fun obj => F.args_object_init_2 obj _) F.entry_enumerate_new (meets_en1 B) ⟨h1, ?_⟩
  have hz : (s.heap.push o).objs.size = s.heap.objs.size + 1 := Heap.size_push ..
  show _ ∧ _
  rw [hz]
  have he := Heap.get?_push_size (s.heap.push o) (o := { cls := .type "enumerate", data := .fields #[.none, .bool false, .ref s.heap.objs.size, rawInt 0, .none, .none] }) rfl
  rw [hz] at he
  exact ⟨⟨_, he, rfl⟩, h _ he (Heap.get?_push_of_some _ (Heap.get?_push_size _ B.free)) fun b u x => Heap.get?_push_of_some _ (Heap.get?_push_of_some _ x)⟩

def IteK (K : PySem.W.Frag) (k : Bool) (a : Addr) : It :=
  ⟨fun i H => ∃ (xs : List V) (x : V), SqK K k H a xs ∧ xs[i]? = some x,
    fun i H v H' => ∃ T x, v = .ref T ∧ H T = none ∧ H' = upd H T (.tup [.int (i : Nat), x]) ∧ ∀ xs, SqK K k H a xs → xs[i]? = some x,
    fun i H => ∃ xs : List V, SqK K k H a xs ∧ i = xs.length⟩
theorem turn_enumK {P : Program} {w : World} {K : PySem.W.Frag} {k : Bool} {elts : List Expr} {kk : Nat} {tpos : Pos} {a e it : Addr} (hne : e ≠ it) (hea : e ≠ a) (hai : a ≠ it) :
    Turn P w K (.Tuple elts kk tpos) (IteK K k a) [e, it] e (fun i h => (∃ old, IsEnum h e it ((i : Nat) : Int) old) ∧ ItIs k h it a i) where
  mem := by simp
  obj := fun i h st b hb => by
    obtain ⟨⟨old, he⟩, q1⟩ := st
    obtain ⟨o1, v1, e1, d1⟩ := q1.there
    have e' : b = e ∨ b = it := by simpa using hb
    rcases e' with z | z
    · rw [z]; exact ⟨_, he, fun v q => nomatch q⟩
    · rw [z]; exact ⟨o1, e1, fun v q => by rw [d1] at q; cases q⟩
  keep := fun i h h' st kp => by
    obtain ⟨⟨old, he⟩, q1⟩ := st
    exact ⟨⟨old, kp e (by simp) _ he⟩, q1.at fun o q => kp it (by simp) o q⟩
  item := by
    intro X hP hw hK hc i pins s σ H E I hf st hg
    subst hP hw hK
    obtain ⟨⟨old, he⟩, hit⟩ := st
    obtain ⟨xs, x, hq, hx⟩ := hg
    obtain ⟨its, rv, p, _⟩ := invK I hq
    obtain ⟨u, hu, ru⟩ := rv.get hx
    have hel : e < s.heap.objs.size := Heap.lt_size he
    have hd : X.A.handled = none := I.ok.hd hc
    have li : i < its.toArray.size := by
      have := (List.getElem?_eq_some_iff.mp hu).1
      simpa using this
    refine wpAny_pyNext_enum_itemD (drawsK k (show X.A.in1.handled = none from hd) it a hai its.toArray) he ⟨hit, p⟩ li hne (by simp only [List.mem_cons, List.not_mem_nil, or_false, not_or]; exact ⟨hne, hea⟩) fun x1 h' tk px ho hst' hT hsz hk => ?_
    have ex1 : x1 = u := by
      have px : its.toArray[i]? = some x1 := px
      rw [List.getElem?_toArray, hu] at px
      exact (Option.some.inj px).symm
    subst ex1
    refine ⟨_, rfl, wpAny_letOwnedTupleGo_enum (s := { s with heap := h', toks := tk + 1 }) ho fun h'' he' sb => ?_⟩
    have hT2 : h''.get? s.heap.objs.size = some { cls := .type "tuple", data := .seq #[.int i tk, x1] } := (sb.2 _ (Nat.ne_of_gt hel)).trans hT
    have new : ObjOk X.prog X.w (upd H s.heap.objs.size (.tup [.int (i : Nat), x])) h'' s.heap.objs.size (.tup [.int (i : Nat), x]) :=
      ⟨by show 2 ≤ sizeLine; decide, [.int i tk, x1], .cons ⟨_, rfl⟩ (.cons ru .nil), ⟨_, hT2, rfl, _, rfl⟩⟩
    have I1 : Inv X pins σ (upd H s.heap.objs.size (.tup [.int (i : Nat), x])) { s with heap := h'', toks := tk + 1 } :=
      I.turnedNew (ch := [e, it]) (fun b ob hb q => (sb.2 b (fun z => hb (by simp [z]))).trans (hk b ob (fun z => hb (by simp [z])) (fun z => hb (by simp [z])) q)) hf (Nat.le_refl _) new
    refine ⟨.ref s.heap.objs.size, _, I1, rfl, ⟨_, x, rfl, I.hok.fresh (Nat.le_refl _), rfl, fun ys hy => by rw [injK I hy hq]; exact hx⟩, ⟨⟨x1, ?_⟩, hst'.1.at fun o q => (sb.2 it (Ne.symm hne)).trans q⟩, fun b hb => ?_⟩
    · have e1 : ((i + 1 : Nat) : Int) = (i : Int) + 1 := by omega
      rw [e1]; exact he'
    · have hb' : b < s.heap.objs.size := by
        obtain ⟨o1, v1, e1, _⟩ := hit.there
        have e' : b = e ∨ b = it := by simpa using hb
        rcases e' with z | z
        · rw [z]; exact hel
        · rw [z]; exact Heap.lt_size e1
      rw [upd_ne (Nat.ne_of_lt hb')]
      exact (hf b hb).1
  done := by
    intro X hP hw hK hc i pins s σ H E I hf st hg
    subst hP hw hK
    obtain ⟨⟨old, he⟩, hit⟩ := st
    obtain ⟨xs, hq, hi⟩ := hg
    obtain ⟨its, rv, p, _⟩ := invK I hq
    have hl := rv.length
    have hd : X.A.handled = none := I.ok.hd hc
    have hz : its.toArray.size = i := by
      rw [List.size_toArray]
      omega
    subst hz
    exact wpAny_pyNext_enum_endD (drawsK k (show X.A.in1.handled = none from hd) it a hai its.toArray) he ⟨hit, p⟩ fun h' eb => ⟨rfl, I.turnedL (t' := s.toks) (ch := [e, it]) (fun b o hb q => eb b o (fun z => hb (by simp [z])) q) hf⟩
  self := fun A i s Q E st h => let ⟨⟨_, he⟩, _⟩ := st; wpAny_pyIter_enum he h
def iEnumK (K : PySem.W.Frag) (ta : TA) : TI := fun σ H R => ta σ H fun vs H1 => ∃ a xs k, vs = [.ref a] ∧ SqK K k H1 a xs ∧ R (IteK K k a) H1
theorem pi_enumK {X : Cx} {e : Expr} {ta : TA} {p pos tpos : Pos} {elts : List Expr} {kk : Nat} (hg : Gl X "enumerate") (hm : X.mg "enumerate" = none) (ha : PA X [e] ta) (hs : starEach [e] X.env = [(false, eval e X.env)] := by rfl) :
    PI X (.Tuple elts kk tpos) (.Call (.Name "enumerate" p) [e] [] pos) (iEnumK X.K ta) := by
  refine ⟨fun pins s σ H R I h => ?_⟩
  refine Call_ (ld_blt I hg hm PyProof.Rows.boot_enumerate (PyProof.Rows.callWith_type1 (thn (ha.run pos pins s σ H _ I h) fun us s1 ⟨vs, H1, I1, r1, q1⟩ => ?_) hs rfl))
  obtain ⟨a, xs, k, ex, hq, q⟩ := q1
  subst ex
  cases r1 with
  | cons r rr =>
    cases rr
    cases r
    obtain ⟨its, rv, p', la⟩ := invK I1 hq
    obtain ⟨o1, B1, it1⟩ := begK k a its.toArray
    refine en1_begins B1 p' fun h' he ho hk => wpAny_pyIter_enum he ?_
    have I2 : Inv X pins σ H1 { s1 with heap := h' } := I1.kept (t' := s1.toks) hk
    refine ⟨s1.heap.objs.size + 1, [s1.heap.objs.size + 1, s1.heap.objs.size], _, _, H1, rfl, I2, turn_enumK (Nat.succ_ne_self _) (fun z => ?_) (Nat.ne_of_lt la), ⟨⟨.none, he⟩, it1 _ _ ho⟩, fun b hb => ?_, q⟩
    · rw [← z] at la
      exact absurd la (Nat.not_lt.mpr (Nat.le_succ _))
    · have e' : b = s1.heap.objs.size + 1 ∨ b = s1.heap.objs.size := by simpa using hb
      have hle : s1.heap.objs.size ≤ b := by
        rcases e' with z | z
        · rw [z]; exact Nat.le_add_right _ _
        · rw [z]; exact Nat.le_refl _
      exact I1.fpOk hle (I1.hok.fresh hle)
section
variable {K : PySem.W.Frag} {ct : Ct} {E : XK} {B H B' H' B1 H1 B2 H2 : Hp} {σ σ' : L2.St} {ρ ρ' : Env} {f0 f1 f2 : Fps} {v : V} {r : Vl} {f g : List Addr}
def enumD : Nat → List D → List D
  | _, [] => []
  | i, d :: ds => .tup [.int (i : Nat), d] :: enumD (i + 1) ds
theorem enumD_len : ∀ (i : Nat) (ds : List D), (enumD i ds).length = ds.length
  | i, [] => rfl
  | i, d :: ds => by
    show (enumD (i + 1) ds).length + 1 = ds.length + 1
    rw [enumD_len]
theorem enumD_get : ∀ {ds : List D} {k i : Nat} {x : D}, (enumD k ds)[i]? = some x → ∃ d, ds[i]? = some d ∧ x = .tup [.int ((k + i : Nat) : Int), d]
  | [], k, i, x, h => by simp [enumD] at h
  | d :: ds, k, 0, x, h => by
    have h : some (D.tup [.int (k : Nat), d]) = some x := h
    cases h
    exact ⟨d, rfl, rfl⟩
  | d :: ds, k, i + 1, x, h => by
    obtain ⟨d', h1, h2⟩ := enumD_get (ds := ds) (k := k + 1) (i := i) (x := x) h
    refine ⟨d', h1, ?_⟩
    rw [h2, show k + 1 + i = k + (i + 1) by omega]
theorem itd_enum {a : Addr} {xs : List V} {ds : List D} {k : Bool} (h1 : SqK K k B a xs) (hd : DVs K B xs ds) : ItD K B (IteK K k a) (enumD 0 ds) := by
  intro B' H' e1 e2 i
  have q1 : SqK K k H' a xs := exK (e1.trans e2) h1
  have l1 := hd.len
  have lz := enumD_len 0 ds
  refine ⟨fun hi => ?_, fun hi => ?_, fun x H'' d hx y => ?_⟩
  · have i1 : i < xs.length := by omega
    exact ⟨xs, xs[i], q1, by simp⟩
  · exact ⟨xs, q1, by omega⟩
  · obtain ⟨T, u, rfl, hT, rfl, g1⟩ := y
    obtain ⟨d1, g3, rfl⟩ := enumD_get hx
    obtain ⟨u', hu, ru⟩ := hd.get g3
    rw [g1 xs q1] at hu
    cases hu
    rw [Nat.zero_add]
    have n := New.tup (K := K) (xs := [.int (i : Nat), u]) (ds := [.int (i : Nat), d1]) e2 hT (.cons (.int _) (.cons (ru.mono e1) .nil))
    obtain ⟨_, y, e3, h3⟩ := n.val
    cases e3
    exact ⟨_, n.bb, n.hh, n.bh, n.off, n.pl, h3⟩
def xIEnum (ma : MA) : MI := fun ρ => R.bind (ma ρ) fun a => rdO (shares a.2 a.1) fun p => match p.1 with
  | [d] => match kindOf d with
    | some (ds, _) => .ok (enumD 0 ds, p.2)
    | none => .bad
  | _ => .bad
theorem ii_enum {t : TA} {m : MA} (ha : ImpA K ct E t m) : ImpI K ct E (iEnumK K t) (xIEnum m) := by
  intro B H σ ρ f0 Q R h
  refine ha B H σ ρ f0 _ R (h.first fun a ea h vs B1 H1 f1 f x => ?_)
  obtain ⟨p, e1, h⟩ := h.get
  obtain ⟨B2, f2, R2, hd, fr⟩ := x.shared e1
  split at h
  · rename_i d ep
    split at h
    · rename_i ds kd q1
      rw [ep] at hd
      cases hd with
      | cons h1 h2 =>
        cases h2
        obtain ⟨a', xs, rfl, s1, d1⟩ := kindOf_ok h1 q1
        exact ⟨a', xs, kd, rfl, exK R2.ex s1, h _ _ _ _ ⟨R2, fr⟩ (itd_enum s1 d1)⟩
    · exact h.elim
  · exact h.elim
end
end DL
end
section
set_option maxRecDepth 100000
set_option maxHeartbeats 2000000
namespace DL
open PySem PySem.Spec PyProof.Rows L2
open Evl (Ex ex_rd ex_l ex_t)
section
variable {K : PySem.W.Frag} {ct : Ct} {E : XK} {B H B' H' B1 H1 B2 H2 : Hp} {σ σ' : L2.St} {ρ ρ' : Env} {f0 f1 f2 : Fps} {v : V} {r : Vl} {f g : List Addr} {X : Cx}
theorem New.edc {p : Addr} (e : Ex B H) (hp : H p = none) : New K B H (.ref p) (.sh .edc) (upd B p (.dK [])) (upd H p (.dK [])) [] where
  bb := Ex.new (Rel.fresh e hp)
  hh := Ex.new hp
  bh := fun a o q => by
    by_cases ha : a = p
    · subst ha; rw [upd_same] at q ⊢; exact q
    · rw [upd_ne ha] at q ⊢; exact e a o q
  off := fun a q1 q2 => by rw [upd_ne (fun z => q2 (by rw [z]; exact hp))]; exact q1
  val := ⟨rfl, _, rfl, .edc upd_same⟩
  fr := fun _ q => (nomatch q)
  pl := fun n => n.upd fun _ z => by cases z
def xEdc : MX := fun ρ => .ok (.sh .edc, ρ)
theorem im_edc : Imp K ct E tDNewK xEdc := fun B H σ ρ f0 Q R h p hp => h _ _ _ _ _ (R.newRes .refl (New.edc R.ex hp))
theorem sliceApplied_rev {prog : Program} {w : World} {A : Around} {Ee : Value → Shared → Prop} {s : Shared} {sl : Addr} {vl vu vs : Value} {n : Nat} {Q : Int × Int × Nat → Shared → Prop} (hs : s.heap.IsSliceOf sl vl vu vs) (pl : IsPart vl none) (pu : IsPart vu none) (ps : IsPart vs (some (-1)))
    (h : Q ((n : Int) - 1, -1, n) s) : wpAny (model prog w) A (Builtin.Slice.sliceApplied (.ref sl) (pure (n : Int))) Q Ee s := by
  obtain ⟨os, hos, hcs, hds⟩ := id hs
  unfold Builtin.Slice.sliceApplied Builtin.Slice.sliceFields
  refine wpAny_bind (wpAny_bind (wpAny_field hos hds (x := vl) rfl (wpAny_bind (wpAny_field hos hds (x := vu) rfl (wpAny_bind (wpAny_field hos hds (x := vs) rfl (wpAny_pure ?_)))))))
  cases ps with
  | int i t =>
  cases pl
  cases pu
  refine wpAny_bind (slicePart_int ?_)
  show wpAny _ _ (if ((-1 : Int) == 0) = true then _ else _) _ _ s
  rw [if_neg (by decide)]
  refine wpAny_bind (slicePart_none (wpAny_bind (slicePart_none (wpAny_bind (wpAny_pure ?_)))))
  have e1 : Builtin.Slice.sliceAdjust none none (-1) (n : Int) = ((n : Int) - 1, -1) := rfl
  show wpAny _ _ (match Builtin.Slice.sliceAdjust none none (-1) (n : Int) with | (lo, hi) => pure (lo, (-1 : Int), Builtin.Slice.slicePlaces lo hi (-1))) _ _ s
  rw [e1]
  have e2 : Builtin.Slice.slicePlaces ((n : Int) - 1) (-1) (-1) = n := by
    unfold Builtin.Slice.slicePlaces
    have h1 : ¬ ((-1 : Int) > 0) := by decide
    simp only [h1, if_false]
    have h2 : (-(-1 : Int)) = 1 := by decide
    rw [h2, Int.ediv_one]
    by_cases hn : (n : Int) - 1 > -1
    · simp only [hn, if_true]; omega
    · simp only [hn, if_false]; omega
  show wpAny _ _ (pure ((n : Int) - 1, (-1 : Int), Builtin.Slice.slicePlaces ((n : Int) - 1) (-1) (-1))) _ _ s
  rw [e2]
  exact wpAny_pure h
theorem pick_rev (xs : Array Value) : ((List.range xs.size).filterMap fun (m : Nat) => xs[(((xs.size : Int) - 1) + (m : Int) * (-1)).toNat]?).toArray = xs.toList.reverse.toArray := by
  rw [← PySem.W.krv_all xs, ← List.filterMap_reverse, ← PySem.W.krv_range, List.filterMap_map]
  have key : ∀ l : List Nat, (∀ m ∈ l, m < xs.size) → (l.filterMap fun (m : Nat) => xs[(((xs.size : Int) - 1) + (m : Int) * (-1)).toNat]?) = l.filterMap ((xs[·]?) ∘ fun k => xs.size - 1 - k) := by
    intro l
    induction l with
    | nil => intro _; rfl
    | cons m l ih =>
      intro hl
      have hm := hl m (by simp)
      have e : (((xs.size : Int) - 1) + (m : Int) * (-1)).toNat = xs.size - 1 - m := by omega
      rw [List.filterMap_cons, List.filterMap_cons, ih fun k hk => hl k (List.mem_cons_of_mem _ hk), e]
      rfl
  rw [key _ fun m hm => List.mem_range.mp hm]
theorem getItem_tup_rev {prog : Program} {w : World} {A : Around} {Ee : Value → Shared → Prop} {s : Shared} {t sl : Addr} {items : Array Value} {vl vu vs : Value} {Q : Value → Shared → Prop} (ht : IsTup s.heap t items) (hs : s.heap.IsSliceOf sl vl vu vs) (pl : IsPart vl none) (pu : IsPart vu none) (ps : IsPart vs (some (-1)))
    (h : Q (.ref s.heap.objs.size) { s with heap := s.heap.push { cls := .type "tuple", data := .seq items.toList.reverse.toArray } })
    (hsz : items.size ≤ sizeLine) : wpAny (model prog w) A (getItem (.ref t) (.ref sl)) Q Ee s := by
  have hok : sizeOk (.seq items.toList.reverse.toArray) := by
    show items.toList.reverse.toArray.size ≤ sizeLine
    rw [List.size_toArray, List.length_reverse, Array.length_toList]
    exact hsz
  obtain ⟨os, hos, hcs, hds⟩ := id hs
  have hTs : s.TypeIs (.ref sl) "slice" := ⟨os, hos, hcs⟩
  unfold getItem
  try with_reducible refine wpAny_holding ?_
  first | refine wpAny_bind (wpAny_pure ?_) | skip
  refine wpAny_bind (wpAny_sequenceKey ht.typeIs (by decide) ?_)
  refine wpAny_bind (wpAny_callSpecial?_slot (name := Str.ofString "__getitem__") ht.typeIs PyProof.Rows.slot_tuple_getitem
    (wpAny_call_entry PyProof.Rows.slot_tuple_getitem ht.typeIs entry_tuple_getitem ?_ (args_tuple_getitem _ _)))
  show wpAny _ _ (Builtin.Tuple.tupleItemsOf (.ref t) >>= _) _ _ s
  refine wpAny_bind (tupleItemsOf_ ht ?_)
  refine wpAny_bind (wpAny_typeOf hTs ?_)
  rw [if_pos (by decide)]
  refine wpAny_bind (sliceApplied_rev hs pl pu ps ?_)
  have hno : ¬ ((((items.size : Int) - 1) == 0 && (-1 : Int) == 1 && items.size == items.size) = true) := by
    intro q
    rw [Bool.and_eq_true, Bool.and_eq_true] at q
    exact absurd (eq_of_beq q.1.2) (by decide)
  show wpAny _ _ (if (((items.size : Int) - 1) == 0 && (-1 : Int) == 1 && items.size == items.size) = true then _ else _) _ _ s
  rw [if_neg hno, pick_rev]
  first
    | exact wpAny_bind (m := Builtin.Tuple.tupleExact _) (wpAny_newObj_type (wpAny_pure ⟨_, rfl, wpAny_pure h⟩) hok)
    | exact wpAny_bind (m := Builtin.Tuple.tupleExact _) (wpAny_newObj_type (wpAny_bind (wpAny_pure (wpAny_pure ⟨_, rfl, wpAny_pure h⟩))) hok)
    | exact wpAny_bind (wpAny_bind (m := Builtin.Tuple.tupleExact _) (wpAny_newObj_type (wpAny_pure (wpAny_pure ⟨_, rfl, wpAny_pure h⟩)) hok))
    | exact wpAny_bind (wpAny_bind (m := Builtin.Tuple.tupleExact _) (wpAny_newObj_type (wpAny_pure ⟨_, rfl, wpAny_pure h⟩) hok))
def tRevT (K : PySem.W.Frag) (te : TE) : TE := fun σ H Q => te σ H fun x H1 => ∃ a xs, x = .ref a ∧ SqT K H1 a xs ∧ ∀ p, H1 p = none → Q (.ref p) (upd H1 p (.tup xs.reverse))
theorem pe_revT {e : Expr} {te : TE} {k : Nat} {p1 p2 p3 pos : Pos} (he : PE X e te) : PE X (.Subscript e (.Slice none none (some (.UnaryOp .USub (.Constant (.int 1) k p1) p2)) p3) pos) (tRevT X.K te) := by
  refine ⟨fun pins s σ H Q I h => ?_⟩
  refine Subscript_ (thn (he.run pins s σ H _ I h) fun v s1 ⟨x, H1, I1, r1, q1⟩ => ?_)
  obtain ⟨a, xs, ex, hx, q⟩ := q1
  subst ex
  cases r1
  have hst : PO X (some (.UnaryOp .USub (.Constant (.int 1) k p1) p2)) (tPart (tUn (rU fun i => .int (-i)) (tC (.int 1)))) := po_some (pe_un un_neg pe_int)
  refine wpAny_Slice (thn (po_none.run pins s1 σ H1 (fun o H2 => o = none ∧ H2 = H1) I1 ⟨rfl, rfl⟩) fun vl s2 ⟨l, H2, I2, pl, el, e2⟩ => ?_)
  subst el e2
  refine thn (po_none.run pins s2 σ H2 (fun o H3 => o = none ∧ H3 = H2) I2 ⟨rfl, rfl⟩) fun vu s3 ⟨u, H3, I3, pu, eu, e3⟩ => ?_
  subst eu e3
  refine thn (hst.run pins s3 σ H3 (fun o H4 => o = some (-1) ∧ H4 = H3) I3 ⟨1, rfl, -1, rfl, rfl, rfl⟩) fun vs s4 ⟨o, H4, I4, ps, eo, e4⟩ => ?_
  subst eo e4
  have I5 : Inv X pins σ H4 { s4 with heap := s4.heap.push { cls := .type "slice", data := .fields #[vl, vu, vs] } } := I4.kept (t' := s4.toks) fun b ob q => Heap.get?_push_of_some _ q
  obtain ⟨its, r, ht, hz⟩ := I5.tuple hx
  show wpAny (model X.prog X.w) X.A (subscriptTail e (.Slice none none (some (.UnaryOp .USub (.Constant (.int 1) k p1) p2)) p3) (.ref a) (.ref s4.heap.objs.size)) (EP X pins σ Q) X.xe { s4 with heap := s4.heap.push { cls := .type "slice", data := .fields #[vl, vu, vs] } }
  refine tail_any (ops := [.ref a, .ref s4.heap.objs.size]) ht.typeIs (PyProof.Rows.slot_tuple_getitem.lookup) ?_ (by with_unfolding_all rfl)
  refine getItem_tup_rev ht (Heap.IsSliceOf.new _ vl vu vs) pl pu ps ?_ (by rw [List.size_toArray, ← r.length]; exact hz)
  refine ⟨.ref _, _, I5.laid (t' := s4.toks) (o := .tup xs.reverse) (fun b ob q => Heap.get?_push_of_some _ q) (Nat.le_refl _) ?_, rfl, q _ (I5.hok.fresh (Nat.le_refl _))⟩
  exact ⟨by rw [List.length_reverse]; exact hz, _, r.reverse, IsTup.new _ _⟩
theorem DVs.rev : ∀ {vs : List V} {ds : List D}, DVs K B vs ds → DVs K B vs.reverse ds.reverse
  | _, _, .nil => .nil
  | _, _, .cons h r => by
    rw [List.reverse_cons, List.reverse_cons]
    exact (DVs.rev r).app (.cons h .nil)
def xRevT (m : MX) : MX := fun ρ => R.bind (m ρ) fun a => rdO (rdv a.2 a.1) fun d => match d with
  | .tup l => .ok (.sh (.tup l.reverse), a.2)
  | _ => .bad
theorem im_revT {t : TE} {m : MX} (ha : Imp K ct E t m) : Imp K ct E (tRevT K t) (xRevT m) := by
  intro B H σ ρ f0 Q R h
  refine ha B H σ ρ f0 _ R (h.first fun a ea h v B1 H1 f1 f x => ?_)
  obtain ⟨d, e1, h⟩ := h.get
  have hv := x.val.rd x.rel e1
  cases d with
  | tup l =>
    have hv' : DV K B1 v (.tup l) := hv
    cases hv' with
    | tup g1 g2 => exact ⟨_, _, rfl, ex_t x.rel.ex g1, fun p hp => h _ _ _ _ _ (x.new (New.tup x.rel.ex hp g2.rev))⟩
  | _ => exact h.elim
def gInS (neg : Bool) : D → D → Option Bool
  | .str a, .str b => match a.cps.toList with
    | [c] => some (if neg then !decide (c ∈ b.cps.toList) else decide (c ∈ b.cps.toList))
    | _ => none
  | _, _ => none
theorem str1 {a : Str} {c : Nat} (h : a.cps.toList = [c]) : a = ⟨#[c]⟩ := by
  obtain ⟨l⟩ := a
  have : l = #[c] := by
    apply Array.toList_inj.mp
    exact h
  rw [this]
theorem ci_inS : CmpI K rInS (gInS false) := by
  intro B H x y dx dy b e hx hy h Q q
  cases dx <;> first | (cases h; done) | skip
  cases dy <;> first | (cases h; done) | skip
  rename_i s t
  have h : (match s.cps.toList with
    | [c] => some (decide (c ∈ t.cps.toList))
    | _ => none) = some b := h
  split at h
  · rename_i c ec
    cases h
    cases hx
    cases hy
    rw [str1 ec]
    exact ⟨c, t, rfl, rfl, q⟩
  · cases h
theorem ci_notInS : CmpI K rNotInS (gInS true) := by
  intro B H x y dx dy b e hx hy h Q q
  cases dx <;> first | (cases h; done) | skip
  cases dy <;> first | (cases h; done) | skip
  rename_i s t
  have h : (match s.cps.toList with
    | [c] => some (!decide (c ∈ t.cps.toList))
    | _ => none) = some b := h
  split at h
  · rename_i c ec
    cases h
    cases hx
    cases hy
    rw [str1 ec]
    exact ⟨c, t, rfl, rfl, q⟩
  · cases h
def rIns (K : PySem.W.Frag) : R2 := fun x y H Q => rIn K false x y H Q ∨ rInS x y H Q
def rNotIns (K : PySem.W.Frag) : R2 := fun x y H Q => rIn K true x y H Q ∨ rNotInS x y H Q
theorem op_ins : OpR X (compareOp .In) (rIns X.K) := OpR.or op_in_seq op_inS
theorem op_notIns : OpR X (compareOp .NotIn) (rNotIns X.K) := OpR.or op_notIn_seq op_notInS
def gIns (neg : Bool) : D → D → Option Bool := fun a b => (gIn neg a b).or (gInS neg a b)
theorem ci_ins : CmpI K (rIns K) (gIns false) := CmpI.or ci_in ci_inS
theorem ci_notIns : CmpI K (rNotIns K) (gIns true) := CmpI.or ci_in ci_notInS
def strO : D → Option Str
  | .str s => some s
  | _ => none
def MetI (K : PySem.W.Frag) (rr : V → List V → Hp → VK → Prop) (gg : Str → List D → Option Vl) : Prop := ∀ (B H : Hp) (s : Str) (xs : List V) (ds : List D) (z : Vl), Ex B H → RdVs K B H xs ds → gg s ds = some z →
  ∀ Q : VK, (∀ v B' H' f, New K B H v z B' H' f → Q v H') → rr (.str s) xs H Q
def xMeS (gg : Str → List D → Option Vl) (mo : MX) (ma : MA) : MX := fun ρ => R.bind (mo ρ) fun a => rdO (rdv a.2 a.1) fun d => rdO (strO d) fun s => R.bind (ma a.2) fun b => rdO (rdvs b.2 b.1) fun ds => rdO (gg s ds) fun z => .ok (z, b.2)
theorem ResT.resA {vs : List V} {rs : List Vl} {ρ2 : Env} (x : ResT K B H σ f0 ρ B1 H1 f1) (y : ResA K B1 H1 σ f1 vs rs ρ2 B2 H2 f2 g) : ResA K B H σ f0 vs rs ρ2 B2 H2 f2 g := ⟨y.rel, y.val, y.off, x.frm.trans y.frm⟩
theorem strO_ok {d : D} {s : Str} (h : strO d = some s) : d = .str s := by
  cases d <;> first | (cases h; done) | (cases h; rfl)
theorem im_meS {rr : V → List V → Hp → VK → Prop} {gg : Str → List D → Option Vl} {to : TE} {ta : TA} {mo : MX} {ma : MA} (hm : MetI K rr gg) (ho : Imp K ct E to mo) (ha : ImpA K ct E ta ma) : Imp K ct E (tBM K "str" rr to ta) (xMeS gg mo ma) := by
  intro B H σ ρ f0 Q R h
  refine ho B H σ ρ f0 _ R (h.first fun a ea h v B1 H1 f1 f x => ?_)
  obtain ⟨d, e1, h⟩ := h.get
  obtain ⟨s, e2, h⟩ := h.get
  have hv := x.val.rd x.rel e1
  rw [strO_ok e2] at hv
  have hv' : DV K B1 v (.str s) := hv
  cases hv'
  refine ⟨rfl, ha B1 H1 σ a.2 f1 _ x.rel (h.step x.frm (fun _ z => .inl z) fun b eb h vs B2 H2 f2 g y => ?_)⟩
  obtain ⟨ds, e3, h⟩ := h.get
  obtain ⟨z, e4, h⟩ := h.get
  exact hm B2 H2 s vs ds z y.rel.ex (y.val.rd y.rel e3) e4 Q fun u B3 H3 k n => h u B3 H3 f2 k ((x.drop.resA y).new n)
theorem im_meS0 {rr : V → List V → Hp → VK → Prop} {gg : Str → List D → Option Vl} {to : TE} {mo : MX} (hm : MetI K rr gg) (ho : Imp K ct E to mo) : Imp K ct E (tBM0 K "str" rr to) (xMeS gg mo aNil) := by
  intro B H σ ρ f0 Q R h
  refine ho B H σ ρ f0 _ R (h.first fun a ea h v B1 H1 f1 f x => ?_)
  obtain ⟨d, e1, h⟩ := h.get
  obtain ⟨s, e2, h⟩ := h.get
  have hv := x.val.rd x.rel e1
  rw [strO_ok e2] at hv
  have hv' : DV K B1 v (.str s) := hv
  cases hv'
  have h : Post ct E H f0 (rdO (rdvs a.2 []) fun ds => rdO (gg s ds) fun z => .ok (z, a.2)) (XOk K B H σ f0 Q) := h
  obtain ⟨ds, e3, h⟩ := h.get
  cases e3
  obtain ⟨z, e4, h⟩ := h.get
  exact ⟨rfl, hm B1 H1 s [] [] z x.rel.ex .nil e4 Q fun u B3 H3 k n => h u B3 H3 f1 k (x.new n)⟩
def rIndex0 : V → List V → Hp → VK → Prop := fun x xs H Q => ∃ (a b : Str) (k : Nat), x = .str a ∧ xs = [.str b] ∧ Txt.index0 a b = some k ∧ Q (.int (k : Nat)) H
theorem mt_index0 (hc : X.calm = true) : MtR X "str.index" rIndex0 := by
  intro pins s σ H x xs v us Q I rx rs h
  obtain ⟨a, b, k, rfl, rfl, e, q⟩ := h
  exact mt_indexX (W := fun _ _ _ _ => False) hc (fun u s' hx => by
    obtain ⟨_, _, _, _, _, _, _, _, _, _, _, _, _, _, _, _, z⟩ := hx
    exact z.elim) pins s σ H _ _ v us Q I rx rs ⟨a, b, rfl, rfl, fun k' e' => by rw [e] at e'; cases e'; exact q, fun e' => by rw [e] at e'; cases e'⟩
def gIndex (s : Str) : List D → Option Vl
  | [.str b] => (Txt.index0 s b).map fun k => .sh (.int (k : Nat))
  | _ => none
theorem me_index : MetI K rIndex0 gIndex := by
  intro B H s xs ds z e hx h Q q
  unfold gIndex at h
  split at h
  · rename_i b
    obtain ⟨v, e1, h1⟩ := hx.one
    subst e1
    cases h1
    cases ek : Txt.index0 s b with
    | none => rw [ek] at h; cases h
    | some k =>
      rw [ek] at h
      cases h
      exact ⟨s, b, k, rfl, rfl, ek, sc1 e (.int _) q⟩
  · cases h
def gJoin (s : Str) : List D → Option Vl
  | [.lst l] => (strsOf l).bind fun ys => if (decide ((ys.map (·.length)).sum + ys.length * s.length ≤ 16777216)) = true then some (.sh (.str (Txt.join s ys))) else none
  | _ => none
theorem me_join : MetI K (fun x xs H Q => ∃ a p, ∃ ys : List Str, x = .str a ∧ xs = [.ref p] ∧ (SqL K H p (ys.map V.str) ∨ SqT K H p (ys.map V.str)) ∧ (ys.map (·.length)).sum + ys.length * a.length ≤ 16777216 ∧ Q (.str (Txt.join a ys)) H) gJoin := by
  intro B H s xs ds z e hx h Q q
  unfold gJoin at h
  split at h
  · rename_i l
    obtain ⟨p, vs, e1, h1, h2⟩ := hx.lst1
    subst e1
    cases es : strsOf l with
    | none => rw [es] at h; cases h
    | some ys =>
      rw [es] at h
      have h : (if (decide ((ys.map (·.length)).sum + ys.length * s.length ≤ 16777216)) = true then some (Vl.sh (.str (Txt.join s ys))) else none) = some z := h
      by_cases hc : (decide ((ys.map (·.length)).sum + ys.length * s.length ≤ 16777216)) = true
      · rw [if_pos hc] at h
        cases h
        rw [strsOf_map es] at h2
        rw [DVs.strs_of h2] at h1
        exact ⟨s, p, ys, rfl, rfl, .inl (SqL.of h1), of_decide_eq_true hc, sc1 e (.str _) q⟩
      · rw [if_neg hc] at h
        cases h
  · cases h
def gUpper (s : Str) : List D → Option Vl
  | [] => if szOk s.length = true then some (.sh (.str (Txt.upper s))) else none
  | _ => none
theorem me_upper : MetI K (fun x xs H Q => ∃ a, x = .str a ∧ xs = [] ∧ a.length ≤ 5592405 ∧ Q (.str (Txt.upper a)) H) gUpper := by
  intro B H s xs ds z e hx h Q q
  unfold gUpper at h
  split at h
  · cases hx
    by_cases hc : szOk s.length = true
    · rw [if_pos hc] at h
      cases h
      have hl : s.length ≤ 1000000 := of_decide_eq_true hc
      exact ⟨s, rfl, rfl, by omega, sc1 e (.str _) q⟩
    · rw [if_neg hc] at h
      cases h
  · cases h
def gStrI : List D → Option Vl
  | [.int i] => if decide (i.natAbs.log2 < 1920) = true then some (.sh (.str (toString i))) else none
  | _ => none
theorem gc_strI : CallI K (fun xs H Q => ∃ i, xs = [.int i] ∧ i.natAbs.log2 < 1920 ∧ Q (.str (toString i)) H) gStrI := by
  intro B H xs ds z e hx h Q q
  unfold gStrI at h
  split at h
  · rename_i i
    obtain ⟨v, e1, h1⟩ := hx.one
    subst e1
    cases h1
    by_cases hc : decide (i.natAbs.log2 < 1920) = true
    · rw [if_pos hc] at h
      cases h
      exact ⟨i, rfl, of_decide_eq_true hc, sc1 e (.str _) q⟩
    · rw [if_neg hc] at h
      cases h
  · cases h
def rReprS : List V → Hp → VK → Prop := fun xs H Q => (xs = [.non] ∧ Q (.str "None") H) ∨ (∃ b, xs = [.bl b] ∧ Q (.str (if b then "True" else "False")) H) ∨ (∃ i, xs = [.int i] ∧ i.natAbs.log2 < 1920 ∧ Q (.str (toString i)) H) ∨ ∃ x : Str, xs = [.str x] ∧ (reprText x).length ≤ sizeLine ∧ Q (.str (reprText x)) H
theorem call_reprSc : CallR X (.builtin "repr") rReprS := by
  intro pins s σ H xs us Q I r h
  rcases h with ⟨rfl, q⟩ | ⟨b, rfl, q⟩ | ⟨i, rfl, hz, q⟩ | ⟨x, rfl, hz, q⟩
  · obtain ⟨u, rfl, r1⟩ := vals1 r
    cases r1
    exact PySem.P.repr_of_none ⟨.str _, H, I.tok _, ⟨_, rfl⟩, q⟩
  · obtain ⟨u, rfl, r1⟩ := vals1 r
    cases r1
    exact PySem.P.repr_of_bool ⟨.str _, H, I.tok _, ⟨_, rfl⟩, q⟩
  · obtain ⟨u, rfl, t, rfl⟩ := vals1 r
    exact PySem.P.repr_of_int hz ⟨.str _, H, I.tok _, ⟨_, rfl⟩, q⟩
  · obtain ⟨u, rfl, t, rfl⟩ := vals1 r
    exact PySem.P.repr_of_str ⟨.str _, H, I.tok _, ⟨_, rfl⟩, q⟩ hz
def gReprS : List D → Option Vl
  | [.non] => some (.sh (.str "None"))
  | [.bl b] => some (.sh (.str (if b then "True" else "False")))
  | [.int i] => if decide (i.natAbs.log2 < 1920) = true then some (.sh (.str (toString i))) else none
  | [.str x] => if szOk (reprText x).length = true then some (.sh (.str (reprText x))) else none
  | _ => none
theorem gc_reprS : CallI K rReprS gReprS := by
  intro B H xs ds z e hx h Q q
  unfold gReprS at h
  split at h
  · cases h
    obtain ⟨v, e1, h1⟩ := hx.one
    subst e1
    cases h1
    exact .inl ⟨rfl, sc1 e (.str _) q⟩
  · cases h
    obtain ⟨v, e1, h1⟩ := hx.one
    subst e1
    cases h1
    exact .inr (.inl ⟨_, rfl, sc1 e (.str _) q⟩)
  · rename_i i
    obtain ⟨v, e1, h1⟩ := hx.one
    subst e1
    cases h1
    by_cases hc : decide (i.natAbs.log2 < 1920) = true
    · rw [if_pos hc] at h
      cases h
      exact .inr (.inr (.inl ⟨i, rfl, of_decide_eq_true hc, sc1 e (.str _) q⟩))
    · rw [if_neg hc] at h
      cases h
  · rename_i x
    obtain ⟨v, e1, h1⟩ := hx.one
    subst e1
    cases h1
    by_cases hc : szOk (reprText x).length = true
    · rw [if_pos hc] at h
      cases h
      exact .inr (.inr (.inr ⟨x, rfl, szOk_le hc, sc1 e (.str _) q⟩))
    · rw [if_neg hc] at h
      cases h
  · cases h
def rReprs (K : PySem.W.Frag) : List V → Hp → VK → Prop := fun xs H Q => rReprS xs H Q ∨ rRepr K xs H Q
theorem call_reprs (hg : X.A.guards = some []) (hu : X.A.units + 64 < cLine) : CallR X (.builtin "repr") (rReprs X.K) := CallR.or call_reprSc (call_reprD hg hu)
def gReprs : List D → Option Vl := fun ds => (gReprS ds).or (gRepr ds)
theorem gc_reprs : CallI K (rReprs K) gReprs := CallI.or gc_reprS gc_repr
end
end DL
end
section
set_option maxRecDepth 100000
set_option maxHeartbeats 2000000
namespace DL
open PySem PySem.Spec PyProof.Rows L2
open Evl (Ex ex_rd ex_l ex_t)
def insU (k : Int) : List Int → List Int
  | [] => [k]
  | n :: r => if k < n then k :: n :: r else if k = n then n :: r else n :: insU k r
def sortU (l : List Int) : List Int := l.foldr insU []
theorem mem_insU {k j : Int} : ∀ {l : List Int}, j ∈ insU k l ↔ j = k ∨ j ∈ l
  | [] => by simp [insU]
  | n :: r => by
    unfold insU
    by_cases h1 : k < n
    · rw [if_pos h1]; simp
    · rw [if_neg h1]
      by_cases h2 : k = n
      · rw [if_pos h2]; simp [h2]
      · rw [if_neg h2, List.mem_cons, mem_insU (l := r), List.mem_cons]
        constructor
        · rintro (h | h | h)
          · exact .inr (.inl h)
          · exact .inl h
          · exact .inr (.inr h)
        · rintro (h | h | h)
          · exact .inr (.inl h)
          · exact .inl h
          · exact .inr (.inr h)
theorem insU_pw {k : Int} : ∀ {l : List Int}, l.Pairwise (· < ·) → (insU k l).Pairwise (· < ·)
  | [], _ => by simp [insU]
  | n :: r, h => by
    have h' := List.pairwise_cons.mp h
    unfold insU
    by_cases h1 : k < n
    · rw [if_pos h1]
      refine List.pairwise_cons.mpr ⟨fun j hj => ?_, h⟩
      rcases List.mem_cons.mp hj with e | hj
      · rw [e]; exact h1
      · exact Int.lt_trans h1 (h'.1 j hj)
    · rw [if_neg h1]
      by_cases h2 : k = n
      · rw [if_pos h2]; exact h
      · rw [if_neg h2]
        refine List.pairwise_cons.mpr ⟨fun j hj => ?_, insU_pw h'.2⟩
        rcases mem_insU.mp hj with e | hj
        · rw [e]; omega
        · exact h'.1 j hj
theorem mem_sortU {j : Int} : ∀ {l : List Int}, j ∈ sortU l ↔ j ∈ l
  | [] => by simp [sortU]
  | n :: r => by
    show j ∈ insU n (sortU r) ↔ _
    rw [mem_insU, mem_sortU (l := r), List.mem_cons]
theorem sortU_pw : ∀ {l : List Int}, (sortU l).Pairwise (· < ·)
  | [] => by simp [sortU]
  | n :: r => insU_pw (sortU_pw (l := r))
theorem pw_uniq : ∀ {a b : List Int}, a.Pairwise (· < ·) → b.Pairwise (· < ·) → (∀ k, k ∈ a ↔ k ∈ b) → a = b
  | [], [], _, _, _ => rfl
  | [], y :: b, _, _, h => by
    have := (h y).mpr (by simp)
    simp at this
  | x :: a, [], _, _, h => by
    have := (h x).mp (by simp)
    simp at this
  | x :: a, y :: b, ha, hb, h => by
    have ha' := List.pairwise_cons.mp ha
    have hb' := List.pairwise_cons.mp hb
    have e : x = y := by
      have h1 := (h x).mp (by simp)
      have h2 := (h y).mpr (by simp)
      rcases List.mem_cons.mp h1 with e | h1
      · exact e
      · rcases List.mem_cons.mp h2 with e | h2
        · exact e.symm
        · have := hb'.1 x h1
          have := ha'.1 y h2
          omega
    subst e
    rw [pw_uniq ha'.2 hb'.2 fun k => ?_]
    constructor
    · intro hk
      rcases List.mem_cons.mp ((h k).mp (List.mem_cons_of_mem _ hk)) with e | q
      · have := ha'.1 k hk
        omega
      · exact q
    · intro hk
      rcases List.mem_cons.mp ((h k).mpr (List.mem_cons_of_mem _ hk)) with e | q
      · have := hb'.1 k hk
        omega
      · exact q
section
variable {K : PySem.W.Frag} {ct : Ct} {E : XK} {B H B' H' B1 H1 B2 H2 : Hp} {σ σ' : L2.St} {ρ ρ' : Env} {f0 f1 f2 : Fps} {v : V} {r : Vl} {f g : List Addr} {X : Cx} {w : World}
def rSetTI (K : PySem.W.Frag) (w : World) : List V → Hp → VK → Prop := fun xs H Q => ∃ (p : Addr) (ns : List Int), xs = [.ref p] ∧ SqT K H p (ns.map V.int) ∧ ns.length ≤ 1000 ∧ ∀ (a : Addr) (c : Nat), H a = none → c ≤ ns.length → Q (.ref a) (upd H a (SetO w a (fun j => decide (j ∈ ns)) c))
theorem cr_setTI (hc : X.calm = true) : CallR X (.type "set") (rSetTI X.K X.w) := by
  intro pins s σ H xs us Q I r h
  obtain ⟨p, ns, rfl, hq, hl, q⟩ := h
  rw [Vals.ref1 r]
  obtain ⟨its, rv, pt, hz⟩ := I.tuple hq
  have hi : IntsAre its.toArray.toList ns := ints_of_vals rv
  refine call_set_tupI ns (I.ok.hd hc) (show s.heap.IsTuple p its.toArray from pt) hi (by unfold scanBound; omega) fun h' tk c R1 hcn k => ?_
  exact ⟨.ref _, upd H s.heap.objs.size (SetO X.w s.heap.objs.size (fun j => decide (j ∈ ns)) c), I.laid (t' := tk) k (Nat.le_refl _) (setO_new R1), rfl, q _ c (I.hok.fresh (Nat.le_refl _)) hcn⟩
def xSortSet (ma : MA) : MX := fun ρ => R.bind (ma ρ) fun a => rdO (rdvs a.2 a.1) fun ds => match ds with
  | [.tup l] => rdO (intsOf l) fun ns => if decide (ns.length < 64) = true then .ok (.own ((sortU ns).map D.int), a.2) else .bad
  | _ => .bad
theorem im_sortSet {t : TA} {m : MA} (ha : ImpA K ct E t m) : Imp K ct E (tCB (rSortedSet w) (tCons (tCB (rSetTI K w) t) tNil)) (xSortSet m) := by
  intro B H σ ρ f0 Q R h
  refine ha B H σ ρ f0 _ R (h.first fun a ea h vs B1 H1 f1 f x => ?_)
  obtain ⟨ds, e1, h⟩ := h.get
  have hv := x.val.rd x.rel e1
  split at h
  · rename_i l
    obtain ⟨ns, e2, h⟩ := h.get
    by_cases hc : decide (ns.length < 64) = true
    · rw [if_pos hc] at h
      have hl : ns.length < 64 := of_decide_eq_true hc
      obtain ⟨v, ev, hv2⟩ := RdVs.one hv
      subst ev
      rw [intsOf_map e2] at hv2
      have hv' : DV K B1 v (.tup (ns.map D.int)) := hv2
      cases hv' with
      | tup g1 g2 =>
        have ei := DVs.ints_of g2
        subst ei
        refine ⟨_, ns, rfl, ex_t x.rel.ex g1, by omega, fun p c hp hcn => ⟨p, _, c, rfl, upd_same, by omega, fun ms q pw hm hl2 hq => ?_⟩⟩
        have em : ms = sortU ns := pw_uniq pw sortU_pw fun k => by rw [hm k, mem_sortU]; simp
        have nq : q ≠ p := fun z => by rw [z, upd_same] at hq; cases hq
        have hq' : H1 q = none := by rw [upd_ne nq] at hq; exact hq
        refine h _ _ _ _ _ (x.new (B2 := B1) (g := [q]) ⟨fun _ _ z => z, (Ex.new hp).trans (Ex.new hq), ?_, fun _ z _ => z, ⟨q, ms.map V.int, rfl, rfl, upd_same, by rw [em]; exact DVs.ints _⟩, fun b hb => ?_, id⟩)
        · exact x.rel.ex.trans ((Ex.new hp).trans (Ex.new hq))
        · have eb : b = q := by simpa using hb
          rw [eb]
          exact ⟨hq', Rel.fresh x.rel.ex hq'⟩
    · rw [if_neg hc] at h
      exact h.elim
  · exact h.elim
def tCallV (i : Nat) (S : List (Addr × Sp)) (E : XK) (t : TA) : TE := fun σ H Q => ∃ f sp, σ[i]? = some (some (.ref f)) ∧ (f, sp) ∈ S ∧ t σ H fun vs H1 => sp vs H1 Q E
structure MayC (X : Cx) (f : Addr) (sp : Sp) (E : XK) : Prop where
  ex : ∃ (fd : FuncData) (ps : List Str), CanC X f fd ps sp E ∧ PySem.W.keepIn X.K (.ref f) = true ∧ Binds X.K fd ps []
theorem pe_fnV {S : List (Addr × Sp)} {i : Nat} {x : Str} {p pos : Pos} {e : Expr} {es : List Expr} {t : TA} (A : ∀ q ∈ S, MayC X q.1 q.2 E) (hf : PE X (.Name x p) (tVar i)) (ha : PA X (e :: es) t)
    (he : starEach (e :: es) X.env = (false, eval e X.env) :: starEach es X.env := by rfl) (hpl : (backTo pos (starEach es X.env)).any (·.1) = false := by rfl) : PE X (.Call (.Name x p) (e :: es) [] pos) (tCallV i S E t) := by
  refine ⟨fun pins s σ H Q I h => ?_⟩
  obtain ⟨f, sp, hs, hS, ht⟩ := h
  obtain ⟨fd, ps, C, hk, hb⟩ := (A _ hS).ex
  refine wpAny_Call_Name_kw (thn (hf.run pins s σ H (fun v H1 => v = .ref f ∧ H1 = H) I ⟨.ref f, hs, rfl, rfl⟩) fun u s1 ⟨v, H1, I1, r1, q1⟩ => ?_)
  obtain ⟨rfl, rfl⟩ := q1
  cases r1
  refine PySem.W.callWith_K (h₀ := X.base) I1.ok.mod.kin hk (thn (ha.run pos pins s1 σ _ _ I1 ht) fun us s2 q => ?_) he hpl
  obtain ⟨vs, H2, I2, r, q⟩ := q
  refine ⟨I2.kIn, ?_⟩
  have hl : (us ++ ([] : List Value)).length = ps.length := by rw [List.append_nil, ← r.length]; exact C.len _ _ _ _ q
  have hb' := hb s2 us I2.kIn hl
  rw [List.append_nil] at hb'
  exact C.run pins σ s2 H2 ⟨us, []⟩ us vs Q I2 hb' r q
def findF (a : Addr) : List (Addr × Fn) → Option Fn
  | [] => none
  | p :: r => if p.1 = a then some p.2 else findF a r
theorem findF_mem {a : Addr} {F : Fn} : ∀ {l : List (Addr × Fn)}, findF a l = some F → (a, F) ∈ l
  | [], h => by cases h
  | p :: r, h => by
    unfold findF at h
    by_cases e : p.1 = a
    · rw [if_pos e] at h
      cases h
      rw [← e]
      exact List.mem_cons_self ..
    · rw [if_neg e] at h
      exact List.mem_cons_of_mem _ (findF_mem h)
def xCallV (i : Nat) (l : List (Addr × Fn)) (bs : List Bool) (m : MA) : MX := fun ρ => match ρ[i]? with
  | some (.sh (.ref a)) => rdO (findF a l) fun F => xCall bs F m ρ
  | _ => .bad
def spsOf (K : PySem.W.Frag) (ct : Ct) (l : List (Addr × Fn)) : List (Addr × Sp) := l.map fun p => (p.1, spM K ct p.2)
theorem im_callV {i : Nat} {l : List (Addr × Fn)} {bs : List Bool} {t : TA} {m : MA} (ha : ImpA K ct E t m) : Imp K ct E (tCallV i (spsOf K ct l) E t) (xCallV i l bs m) := by
  intro B H σ ρ f0 Q R h
  unfold xCallV at h
  split at h
  · rename_i a ea
    obtain ⟨F, e1, h⟩ := h.get
    have ok := R.ok i _ ea
    obtain ⟨_, x, ex, hx⟩ := ok
    cases hx
    refine ⟨a, spM K ct F, join_some ex, List.mem_map.mpr ⟨(a, F), findF_mem e1, rfl⟩, ?_⟩
    have q := im_call (K := K) (ct := ct) (E := E) (bs := bs) (F := F) ha B H σ ρ f0 Q R h
    have e0 : (fun (vs : List V) (H1 : Hp) => spM K ct F (vs ++ []) H1 Q E) = fun vs H1 => spM K ct F vs H1 Q E := by
      funext vs H1
      rw [List.append_nil]
    have q : t σ H (fun vs H1 => spM K ct F (vs ++ []) H1 Q E) := q
    rw [e0] at q
    exact q
  · exact h.elim
theorem im_fnv {fa : Ct} {n : String} {a : Addr} (e : fa n = a) : Imp K ct E (tC (.ref a)) (xC (.ref (fa n))) := by
  rw [e]
  exact im_ref
theorem mayC_all {fa : Ct} {l : List (Addr × Fn)} (h : ∀ p ∈ l, MayC X p.1 (spM K ct p.2) E) : ∀ q ∈ spsOf K ct l, MayC X q.1 q.2 E := fun q hq => by
  obtain ⟨p, hp, e⟩ := List.mem_map.mp hq
  rw [← e]
  exact h p hp
theorem mayC_nil : ∀ p ∈ ([] : List (Addr × Fn)), MayC X p.1 (spM K ct p.2) E := fun _ h => (nomatch h)
theorem mayC_cons {fa : Ct} {n : String} {a : Addr} {F : Fn} {l : List (Addr × Fn)} {fd : FuncData} {ps : List Str} (e : fa n = a) (C : CanC X a fd ps (spM K ct F) E) (hk : PySem.W.keepIn X.K (.ref a) = true) (hb : Binds X.K fd ps []) (h : ∀ p ∈ l, MayC X p.1 (spM K ct p.2) E) :
    ∀ p ∈ (fa n, F) :: l, MayC X p.1 (spM K ct p.2) E := fun p hp => by
  rcases List.mem_cons.mp hp with z | hp
  · rw [z, e]
    exact ⟨fd, ps, C, hk, hb⟩
  · exact h p hp
end
end DL
end
section
set_option maxRecDepth 100000
set_option maxHeartbeats 2000000
namespace DL
open PySem PySem.Spec PyProof.Rows L2
open NdefX (NScope)
def oexIn (K : PySem.W.Frag) (C : Addr) : Bool := match K.lookup C with
  | some ⟨.type "type", _, .cls cd, sl⟩ => (match cd.mro, sl.toList with
    | .ref C' :: bm, [_, _, _, _, some (.builtin n), _] => C' == C && n == "ValueError.__new__" && !cd.hasDel && cd.hasDict && PySem.HandSPX.refsVE bm
    | _, _ => false)
  | _ => false
theorem oex_of {K : PySem.W.Frag} {C : Addr} (q : oexIn K C = true) (sa : PySem.W.findIn K (.ref C) "__setattr__" = some (some (.builtin "object.__setattr__"))) (exC : PySem.W.subIn K (.ref C) (.type "BaseException") = some true)
    (tyC : PySem.W.typeIn K (.ref C) = some (.type "type")) (kC : PySem.W.keepIn K (.ref C) = true) : OexC K C := by
  refine ⟨?_, sa, exC, tyC, kC⟩
  unfold oexIn at q
  split at q
  · rename_i dd cd sl ho
    split at q
    · rename_i C' bm k0 k1 k2 k3 n k5 hm hs
      simp only [Bool.and_eq_true, beq_iff_eq, Bool.not_eq_true'] at q
      obtain ⟨⟨⟨⟨rfl, rfl⟩, hdel⟩, hdic⟩, ht⟩ := q
      obtain ⟨nm, bs, mro, ns, qn, hd, sn, sub, ab, col, del⟩ := cd
      dsimp only at hm hdel hdic
      subst hm hdel hdic
      have hsl : sl = #[k0, k1, k2, k3, some (.builtin "ValueError.__new__"), k5] := by
        obtain ⟨l⟩ := sl
        simp only at hs
        rw [hs]
      subst hsl
      exact ⟨nm, qn, ns, bs, bm, sn, sub, ab, col, dd, k0, k1, k2, k3, k5, ho, ht⟩
    · cases q
  · cases q
def clsBody : Stmt → List Stmt
  | .ClassDef (body := b) .. => b
  | _ => []
open Evl (Ex ex_rd ex_l ex_t)
section
variable {K : PySem.W.Frag} {ct : Ct} {E : XK} {B H B' H' B1 H1 B2 H2 : Hp} {σ σ' : L2.St} {ρ ρ' : Env} {f0 f1 f2 : Fps} {fix : Nat → Bool}
theorem ResS.more {p : Addr} {o : HO} (x : ResS K B H σ f0 fix σ' ρ' B1 H1 f1) (hp : H1 p = none) : ResS K B H σ f0 fix σ' ρ' B1 (upd H1 p o) f1 := by
  have e : Ex H1 (upd H1 p o) := Ex.new hp
  have fr : ∀ P : Addr → Prop, Frm B1 H1 P B1 (upd H1 p o) P := fun P => Frm.new (fun _ _ q => q) e fun a q _ => q
  exact ⟨x.rel.frm (fr fun _ => False) (x.rel.ex.trans e) x.rel.pl fun _ _ q => q, x.frm.trans (fr _), x.fxd⟩
theorem is_parT {i j : Nat} {t : TA} {m : MA} (ha : ImpA K ct E t m) (hf : ∀ k ∈ [i, j], fix k = false) : ImpS K ct E fix (tAsg (tTup t) (gTup K 2 (gCons (gName i) (gCons (gName j) gNil)))) (sPars [i, j] m) := by
  intro B H σ ρ f0 Z R h
  refine ha B H σ ρ f0 _ R (h.first fun a ea h vs B1 H1 f1 g x => ?_)
  obtain ⟨ρ', e, h⟩ := h.get
  obtain ⟨B2, f2, R2, fr, len⟩ := puts_ok x.rel x.val x.off e
  match vs, len, R2 with
  | [v, w], _, R2 =>
    have rs : ResS K B H σ f0 fix (setsV σ [i, j] [v, w]) ρ' B2 H1 f2 := ⟨R2, x.frm.trans fr, fun k hk => setsV_out (is := [i, j]) (vs := [v, w]) fun z => by rw [hf k z] at hk; cases hk⟩
    refine ⟨by show 2 ≤ sizeLine; rw [sizeLine_eq]; omega, fun p hp => ⟨p, [v, w], rfl, SqT.of upd_same, rfl, ⟨v, [w], rfl, ⟨w, [], rfl, ⟨rfl, ?_⟩⟩⟩⟩⟩
    exact h _ B2 _ f2 (rs.more hp)
end
end DL
end
section
set_option maxRecDepth 100000
set_option maxHeartbeats 2000000
namespace DL
open PySem PySem.Spec PyProof.Rows L2
open Evl (Ex ex_rd ex_l ex_t)
section
variable {K : PySem.W.Frag} {ct : Ct} {E : XK} {B H B' H' B1 H1 B2 H2 : Hp} {σ σ' : L2.St} {ρ ρ' : Env} {f0 f1 f2 : Fps} {v : V} {r : Vl} {f g : List Addr} {X : Cx}
def xPop (i : Nat) : MX := fun ρ => rdO (ownS ρ[i]?) fun ds => rdO ds[ds.length - 1]? fun d => .ok (.sh d, ρ.set i (.own ds.dropLast))
theorem DVs.dropLast {vs : List V} {ds : List D} (h : DVs K B vs ds) : DVs K B vs.dropLast ds.dropLast := by
  rw [List.dropLast_eq_take, List.dropLast_eq_take, h.len]
  exact h.take _
theorem im_pop {i : Nat} : Imp K ct E (tBM0 K "list" rPop (tVar i)) (xPop i) := by
  intro B H σ ρ f0 Q R h
  obtain ⟨ds, e0, h⟩ := h.get
  obtain ⟨p, xs, q1, q2, q3, q4, q5⟩ := R.own e0
  obtain ⟨d, e1, h⟩ := h.get
  obtain ⟨w, w1, w2⟩ := q4.get e1
  refine ⟨_, q1, .inl ⟨rfl, xs, SqL.of q3⟩, p, xs, w, rfl, rfl, q3, by rw [q4.len]; exact w1, ?_⟩
  exact h _ _ _ _ _ (Res.refl' (R.mut q5 q1 q2 q4.dropLast) w2 (frm_upd ⟨i, by rw [q2]; simp⟩))
def gIsB : D → D → Option Bool
  | .bl a, .bl b => some (decide (a = b))
  | _, _ => none
def gNotB : D → D → Option Bool
  | .bl a, .bl b => some (!decide (a = b))
  | _, _ => none
theorem ci_isB : CmpI K rIsB gIsB := by
  intro B H x y dx dy b e hx hy h Q q
  cases dx <;> first | (cases h; done) | skip
  cases dy <;> first | (cases h; done) | skip
  cases h
  cases hx
  cases hy
  exact ⟨_, _, rfl, rfl, q⟩
theorem ci_notB : CmpI K rNotB gNotB := by
  intro B H x y dx dy b e hx hy h Q q
  cases dx <;> first | (cases h; done) | skip
  cases dy <;> first | (cases h; done) | skip
  cases h
  cases hx
  cases hy
  exact ⟨_, _, rfl, rfl, q⟩
def xListRg (m : MX) : MX := fun ρ => R.bind (m ρ) fun a => rdO (rdv a.2 a.1) fun d => rdO (intOf d) fun j => if smallI j = true then .ok (.own ((List.range j.toNat).map fun (i : Nat) => D.int (0 + (i : Int))), a.2) else .bad
theorem DVs.range (n : Nat) : DVs K B ((List.range n).map fun (i : Nat) => V.int (0 + (i : Nat))) ((List.range n).map fun (i : Nat) => D.int (0 + (i : Int))) := by
  have h : ∀ l : List Nat, DVs K B (l.map fun (i : Nat) => V.int (0 + (i : Nat))) (l.map fun (i : Nat) => D.int (0 + (i : Int))) := fun l => by
    induction l with
    | nil => exact .nil
    | cons i l ih => exact .cons (.int _) ih
  exact h _
theorem im_listRg {t : TE} {m : MX} (ha : Imp K ct E t m) : Imp K ct E (tLstRg (tRg1 t)) (xListRg m) := by
  intro B H σ ρ f0 Q R h
  refine ha B H σ ρ f0 _ R (h.first fun a ea h v B1 H1 f1 f x => ?_)
  obtain ⟨d, e1, h⟩ := h.get
  obtain ⟨j, e2, h⟩ := h.get
  have hv : RdV K B1 H1 v (.int j) := by
    rw [← intOf_eq e2]
    exact x.val.rd x.rel e1
  cases hv
  by_cases hz : smallI j = true
  · rw [if_pos hz] at h
    have := smallI_iff hz
    refine ⟨j, rfl, ⟨by omega, by omega, by omega, by omega, by omega⟩, fun q hq => ?_⟩
    have e : rgV 0 j = (List.range j.toNat).map fun (i : Nat) => V.int (0 + (i : Nat)) := by
      unfold rgV
      rw [Int.sub_zero]
    rw [e]
    exact h _ _ _ _ _ (x.new (New.lst x.rel.ex hq (DVs.range _)))
  · rw [if_neg hz] at h
    exact h.elim
end
end DL
end
section
set_option maxRecDepth 100000
set_option maxHeartbeats 4000000
namespace DL
open PySem PySem.Spec PyProof.Rows L2
section
variable {P : Program} {w : World} {A : Around} {E : Value → Shared → Prop} {s : Shared}
def txt (e : Int × Value) : Str := match e.2 with
  | .str k _ => k
  | _ => Str.empty
def TxE (w : World) (e : Int × Value) : Prop := ∃ k t, e.2 = Value.str k t ∧ e.1 = hashStr w k
def SetX (w : World) (h : Heap) (a : Addr) (S : Str → Bool) (n : Nat) : Prop :=
  ∃ ob rows ep tb, h.get? a = some ob ∧ ob.ExactSet ∧ ob.data = .set rows ep tb ∧ (∀ e ∈ rows.toList, TxE w e) ∧ (rows.toList.map txt).Nodup ∧ (∀ k, S k = true ↔ k ∈ rows.toList.map txt) ∧
    rows.size < scanBound ∧ tb.fits rows.size = true ∧ rows.size = n ∧ Ris tb.place.toList ∧ (w.params.followText "set-order" = true ∨ tb.led = true)
theorem SetX.at {h h' : Heap} {a : Addr} {S : Str → Bool} {n : Nat} (R : SetX w h a S n) (k : ∀ o, h.get? a = some o → h'.get? a = some o) : SetX w h' a S n := by
  obtain ⟨ob, rows, ep, tb, ho, r⟩ := R
  exact ⟨ob, rows, ep, tb, k ob ho, r⟩
theorem SetX.same {h : Heap} {a : Addr} {S S' : Str → Bool} {n : Nat} (R : SetX w h a S n) (e : ∀ k, S' k = S k) : SetX w h a S' n := by
  rw [show S' = S from funext e]
  exact R
theorem str_self (k : Str) (t : Tok) : (strKind P w).is k (.str k t) = true := by
  show Value.isStrOf k (.str k t) = true
  simp [Value.isStrOf]
theorem txE_elems {l : List (Int × Value)} (g : ∀ e ∈ l, TxE w e) : ElemsOf (strKind P w) l := fun e he => by
  obtain ⟨k, t, h1, h2⟩ := g e he
  exact ⟨⟨k, by rw [h1]; exact str_self k t, h2⟩, by rw [h1] <;> rfl⟩
theorem txE_is {e : Int × Value} (g : TxE w e) (k : Str) : (strKind P w).is k e.2 = true ↔ txt e = k := by
  obtain ⟨k0, t, h1, _⟩ := g
  unfold txt
  rw [h1]
  constructor
  · intro h
    exact (strKind P w).inj (.str k0 t) k0 k (str_self k0 t) h
  · intro h
    have h : k0 = k := h
    rw [← h]
    exact str_self k0 t
theorem txE_mem {l : List (Int × Value)} (g : ∀ e ∈ l, TxE w e) (k : Str) : k ∈ l.map txt ↔ ∃ e ∈ l, (strKind P w).is k e.2 = true := by
  rw [List.mem_map]
  exact ⟨fun ⟨e, he, q⟩ => ⟨e, he, (txE_is (g e he) k).2 q⟩, fun ⟨e, he, q⟩ => ⟨e, he, (txE_is (g e he) k).1 q⟩⟩
theorem put_at {h : Heap} {a : Addr} {ob : Obj} {rows rows' : Array (Int × Value)} {ep : Nat} {tb tb' : SetTable} (ho : h.get? a = some ob) (hd : ob.data = .set rows ep tb) :
    (h.update a (Obj.putSet rows' tb')).get? a = some { ob with data := .set rows' (ep + 1) tb' } := by
  have q := Heap.get?_update_self (Obj.putSet rows' tb') ho (by rw [putSet_of rows' tb' hd]; rfl)
  rw [putSet_of rows' tb' hd] at q
  exact q
theorem setX_tail {g : Bool → Sem Unit} (hg : ∀ (b : Bool) (s₁ : Shared) (Q' : Unit → Shared → Prop), Q' () s₁ → wpAny (model P w) A (g b) Q' E s₁) {a : Addr}
    {ob : Obj} {rows : Array (Int × Value)} {ep : Nat} {tb : SetTable} (ho : s.heap.get? a = some ob) (hex : ob.ExactSet) (hd : ob.data = .set rows ep tb)
    {r1 : Array (Int × Value)} {t2 : SetTable} {S' : Str → Bool} (g1 : ∀ e ∈ r1.toList, TxE w e) (nd1 : (r1.toList.map txt).Nodup) (m1 : ∀ k, S' k = true ↔ k ∈ r1.toList.map txt)
    (hb1 : r1.size < scanBound) (hf2 : t2.fits r1.size = true) (hr : Ris t2.place.toList) (hl : w.params.followText "set-order" = true ∨ t2.led = true) {wasDummy : Bool} {Rr : Option Bool → Shared → Prop}
    (hR : ∀ h', Heap.SameBut a s.heap h' → SetX w h' a S' r1.size → Rr (some true) { s with heap := h' }) :
    wpAny (model P w) A (do
        storeSet a r1 t2
        if (!wasDummy && t2.tooFull) = true then do
            g (relayAll t2 r1 (SetTable.grown r1.size)).2.2
            storeSet a (relayAll t2 r1 (SetTable.grown r1.size)).1 (relayAll t2 r1 (SetTable.grown r1.size)).2.1
            pure (some true)
          else pure (some true)) Rr E s := by
  refine wpAny_bind (wpAny_storeSet_of ho hd ?_ (fits_of_scanBound hb1))
  have ho1 := put_at (rows' := r1) (tb' := t2) ho hd
  have sb1 := Heap.SameBut.update s.heap a (Obj.putSet r1 t2)
  split
  · have pm := relayAll_perm t2 r1 (SetTable.grown r1.size)
    have hf3 := relayAll_fits t2 r1 (SetTable.grown r1.size)
    have hr3 := relayAll_ris t2 r1 (SetTable.grown r1.size)
    have hl3 := relayAll_led t2 r1 (SetTable.grown r1.size)
    generalize relayAll t2 r1 (SetTable.grown r1.size) = Z at pm hf3 hr3 hl3 ⊢
    obtain ⟨r2, t3, gave⟩ := Z
    dsimp only at pm hf3 hr3 hl3 ⊢
    have hsz : r2.size = r1.size := by rw [← Array.length_toList, pm.length_eq, Array.length_toList]
    have hb2 : r2.size < scanBound := by rw [hsz]; exact hb1
    refine wpAny_bind (hg _ _ _ ?_)
    refine wpAny_bind (wpAny_storeSet_of ho1 rfl ?_ (fits_of_scanBound hb2))
    have ho2 := put_at (rows' := r2) (tb' := t3) ho1 rfl
    refine wpAny_pure (hR _ (sb1.trans (Heap.SameBut.update _ a _)) ?_)
    exact ⟨_, r2, _, t3, ho2, hex, rfl, fun e he => g1 e (pm.mem_iff.mp he), (pm.map txt).nodup_iff.mpr nd1, fun k => (m1 k).trans (pm.map txt).mem_iff.symm, hb2, hf3, hsz, hr3,
      hl.imp id fun z => by rw [hl3]; exact z⟩
  · exact wpAny_pure (hR _ sb1 ⟨_, r1, _, t2, ho1, hex, rfl, g1, nd1, m1, hb1, hf2, rfl, hr, hl⟩)
theorem setX_add {a : Addr} {S : Str → Bool} {n : Nat} {k : Str} {tk : Tok} {Q : Bool → Shared → Prop} (Rx : SetX w s.heap a S n) (room : n + 1 < scanBound)
    (hQ : ∀ h', Heap.SameBut a s.heap h' → SetX w h' a (fun j => S j || decide (j = k)) (if S k = true then n else n + 1) → Q (!S k) { s with heap := h' }) :
    wpAny (model P w) A (setAddHashed a (.str k tk) ((strKind P w).hash k)) Q E s := by
  obtain ⟨ob, rows, ep, tb, ho, hex, hd, g, nd, hm, hb, hf, hn, hr, hl⟩ := Rx
  have hkey : (strKind P w).is k (.str k tk) = true := str_self k tk
  have hsc : (Value.str k tk).scannable = true := rfl
  have hel : ElemsOf (strKind P w) rows.toList := txE_elems g
  unfold setAddHashed setAddHashedIn
  refine wpAny_holding (wpAny_bind (wpAny_setState_of ho hd hf ?_))
  dsimp only
  rw [byScan_of hsc hb hel]
  simp only [↓reduceIte]
  unfold setAddByScan
  refine wpAny_bind ?_
  refine wpAny_bind (wpAny_rule ?_)
  refine wpAny_bind (wpAny_setScan_of hkey ho hd hf hel ?_)
  cases hfi : List.findIdx? (fun e => (strKind P w).is k e.2) rows.toList with
  | some j =>
    dsimp only
    obtain ⟨hj, pj, _⟩ := List.findIdx?_eq_some_iff_getElem.mp hfi
    have hSk : S k = true := (hm k).2 ((txE_mem (P := P) (w := w) g k).2 ⟨rows.toList[j], List.getElem_mem hj, pj⟩)
    refine wpAny_pure (wpAny_pure ?_)
    have q := hQ s.heap (Heap.SameBut.refl a s.heap) ⟨ob, rows, ep, tb, ho, hex, hd, g, nd, fun i => by
      rw [Bool.or_eq_true, decide_eq_true_eq, ← hm i]
      exact ⟨fun z => z.elim id (fun e => e ▸ hSk), .inl⟩, hb, hf, by rw [if_pos hSk]; exact hn, hr, hl⟩
    rw [hSk] at q
    exact q
  | none =>
    dsimp only
    have hnk : k ∉ rows.toList.map txt := fun z => by
      obtain ⟨e, he, q⟩ := (txE_mem (P := P) (w := w) g k).1 z
      have c := List.findIdx?_eq_none_iff.mp hfi e he
      rw [q] at c
      cases c
    have hSk : S k = false := by
      cases q : S k with
      | false => rfl
      | true => exact absurd ((hm k).1 q) hnk
    have hgw : ∀ (b : Bool) {s₁ : Shared} {Q' : Unit → Shared → Prop}, Q' () s₁ → wpAny (model P w) A (match b with | true => rule "set.scan.the-table-gave-way" | false => pure ()) Q' E s₁ :=
      fun b s₁ Q' q => by cases b <;> first | exact wpAny_pure q | exact wpAny_rule q
    have pm := layNew_perm tb rows ((strKind P w).hash k) (.str k tk)
    have hf1 := layNew_fits tb rows ((strKind P w).hash k) (.str k tk)
    have hr1 := layNew_ris tb rows ((strKind P w).hash k) (.str k tk) hr
    have hl1 := layNew_led tb rows ((strKind P w).hash k) (.str k tk)
    generalize layNew tb rows ((strKind P w).hash k) (.str k tk) = Z at pm hf1 hr1 hl1 ⊢
    obtain ⟨r1, t1, wasDummy, gave⟩ := Z
    dsimp only at pm hf1 hr1 hl1 ⊢
    rw [Array.toList_push] at pm
    have pc : r1.toList.Perm (((strKind P w).hash k, Value.str k tk) :: rows.toList) := pm.trans (List.perm_append_singleton _ _)
    have pk : (r1.toList.map txt).Perm (k :: rows.toList.map txt) := pc.map txt
    have g1 : ∀ e ∈ r1.toList, TxE w e := fun e he => by
      rcases List.mem_cons.mp (pc.mem_iff.mp he) with z | z
      · rw [z]; exact ⟨k, tk, rfl, rfl⟩
      · exact g e z
    have nd1 : (r1.toList.map txt).Nodup := pk.nodup_iff.mpr (List.nodup_cons.mpr ⟨hnk, nd⟩)
    have m1 : ∀ i, (S i || decide (i = k)) = true ↔ i ∈ r1.toList.map txt := fun i => by
      rw [Bool.or_eq_true, decide_eq_true_eq, hm i, pk.mem_iff, List.mem_cons]
      exact Or.comm
    have hsz : r1.size = n + 1 := by rw [← Array.length_toList, pc.length_eq, List.length_cons, Array.length_toList, hn]
    have hb1 : r1.size < scanBound := by rw [hsz]; exact room
    have hled : w.params.followText "set-order" = true ∨ t1.led = true := hl.imp id fun z => by rw [hl1]; exact z
    have fin : ∀ h', Heap.SameBut a s.heap h' → SetX w h' a (fun j => S j || decide (j = k)) r1.size → Q true { s with heap := h' } := fun h' sb r => by
      have q := hQ h' sb
      rw [hSk] at q
      rw [hsz] at r
      exact q r
    refine wpAny_bind (hgw _ ?_)
    split
    · refine wpAny_bind ?_
      rw [hashByValue_scannable 8 hsc]
      refine wpAny_pure ?_
      refine setX_tail ?_ ho hex hd g1 nd1 m1 hb1 ?_ ?_ ?_ ?_
      · intro b s₁ Q' q; cases b <;> first | exact wpAny_pure q | exact wpAny_rule q
      · first | (split <;> first | exact hf1 | exact SetTable.fits_plain_off hf1) | exact hf1
      · first | (split <;> exact hr1) | exact hr1
      · first | (split <;> exact hled) | exact hled
      · intro h' sb r; dsimp only; exact wpAny_pure (fin h' sb r)
    · refine wpAny_bind (wpAny_pure ?_)
      simp only [↓reduceIte]
      refine setX_tail ?_ ho hex hd g1 nd1 m1 hb1 hf1 hr1 hled ?_
      · intro b s₁ Q' q; cases b <;> first | exact wpAny_pure q | exact wpAny_rule q
      · intro h' sb r; dsimp only; exact wpAny_pure (fin h' sb r)
end
end DL
end
section
set_option maxRecDepth 100000
set_option maxHeartbeats 4000000
namespace DL
open PySem PySem.Spec PyProof.Rows L2
section
variable {P : Program} {w : World} {A : Around} {E : Value → Shared → Prop} {s : Shared}
abbrev newSetObj (w : World) : Obj := { cls := .type "set", dict := none, data := .set #[] 0 (.fresh 0 0 (!w.params.followText "set-order")) }
theorem setX_new {h : Heap} {a : Addr} {ys : List Str} (ho : h.get? a = some (newSetObj w)) : SetX w h a (fun j => decide (j ∈ ys.take 0)) 0 :=
  ⟨_, #[], 0, _, ho, ⟨rfl, rfl, rfl⟩, rfl, (fun e he => by simp at he), (by simp), (fun k => by simp), (by decide), (by rfl), rfl, List.Pairwise.nil, by
    show _ ∨ (!w.params.followText "set-order") = true
    cases w.params.followText "set-order"
    · exact .inr rfl
    · exact .inl rfl⟩
theorem setX_update {I : Addr} {fp wr : List Addr} {G : Array GenState → Array GenState → Prop} {n : Nat} {Pv : Nat → Value → Prop} {St : Nat → Shared → Prop} {Rr : Result → Shared → Prop}
    (W : WalksS P w A.in1 I fp wr G n Pv St) (S : Addr) (hSf : S ∉ fp) (ys : List Str) (hn : n = ys.length) (hb : ys.length + 1 < scanBound) (hval : ∀ i v, Pv i v → ∃ k t, ys[i]? = some k ∧ v = .str k t) :
    ∀ (m i : Nat) (s : Shared), n - i = m → i ≤ n → St i s → (∃ c, c ≤ i ∧ SetX w s.heap S (fun j => decide (j ∈ ys.take i)) c) →
      (∀ s' c, Moved (S :: wr) G s s' → c ≤ n → SetX w s'.heap S (fun j => decide (j ∈ ys)) c → Rr (.ok (.ret .none)) s') →
      codeAny (model P w) A (.builtin "set.update.loop" ⟨[.ref S, .ref I], []⟩) Rr s := by
  have hSw : S ∉ wr := fun h => hSf (W.sub _ h)
  have hsub : ∀ b ∈ wr, b ∈ S :: wr := fun b hb => List.mem_cons_of_mem _ hb
  intro m
  induction m with
  | zero =>
    intro i s hm hi hst ⟨c, hc, hS⟩ hR
    have hin : i = n := by omega
    subst hin
    refine codeAny_builtin F.entry_set_update_loop ?_
    rw [Around.under_plainId F.plain_set_update_loop _]
    show wpAny _ A.in1 (pyNext (.ref I) >>= _) _ _ s
    refine wpAny_bind (W.done s _ _ hst fun s' mv => ?_)
    show wpAny _ A.in1 (ret Value.none) _ _ s'
    rw [show ys.take i = ys from List.take_of_length_le (by omega)] at hS
    exact wpAny_pure (hR s' c (mv.mono hsub) hc (hS.at fun o e => mv.heap S o hSw e))
  | succ m ih =>
    intro i s hm hi hst ⟨c, hc, hS⟩ hR
    have hlt : i < n := by omega
    refine codeAny_builtin F.entry_set_update_loop ?_
    rw [Around.under_plainId F.plain_set_update_loop _]
    show wpAny _ A.in1 (pyNext (.ref I) >>= _) _ _ s
    refine wpAny_bind (W.item i s _ _ hlt hst fun v s' hP hst' mv => ?_)
    obtain ⟨z, t, hz, rfl⟩ := hval i v hP
    have hS' : SetX w s'.heap S (fun j => decide (j ∈ ys.take i)) c := hS.at fun o e => mv.heap S o hSw e
    show wpAny _ A.in1 (holding [Value.str z t] (setAdd S (.str z t)) >>= _) _ _ s'
    refine wpAny_bind (wpAny_holding ?_)
    unfold setAdd
    refine wpAny_holding ?_
    refine wpAny_bind ((strKind P w).pyHash (k := z) (str_self _ _) ?_)
    refine setX_add (s := { s' with toks := s'.toks + 1 }) hS' (by omega) fun h' hsb hS2 => ?_
    have hS3 : SetX w h' S (fun j => decide (j ∈ ys.take (i + 1))) (if decide (z ∈ ys.take i) = true then c else c + 1) := hS2.same fun j => by
      rw [List.take_add_one, hz]
      simp [List.mem_append]
    have hc3 : (if decide (z ∈ ys.take i) = true then c else c + 1) ≤ i + 1 := by
      split <;> omega
    refine wpAny_pure ⟨plainId_quiet F.plain_set_update_loop _, ih (i + 1) _ (by omega) hlt (W.frame _ s' _ _ hst' (Nat.le_succ _) fun b hb o e => ?_) ⟨_, hc3, hS3⟩ fun s'' c2 mv'' hc'' hS'' => ?_⟩
    · rw [hsb.2 b (fun h : b = S => hSf (by rw [← h]; exact hb))]; exact e
    · refine hR s'' c2 (Moved.trans W.gtrans ((mv.mono hsub).then_heap (Nat.le_succ _) fun b o hb e => ?_) mv'') hc'' hS''
      rw [hsb.2 b (fun h : b = S => hb (by rw [h]; exact List.mem_cons_self))]; exact e
set_option maxHeartbeats 8000000 in
theorem call_setX {l : Addr} {items : Array Value} (ys : List Str) {Q : Value → Shared → Prop} (hh : A.handled = none) (hl : s.heap.IsList l items) (hit : StrsAre items.toList ys) (hb : ys.length + 1 < scanBound)
    (h : ∀ (h' : Heap) (tk c : Nat), SetX w h' s.heap.objs.size (fun j => decide (j ∈ ys)) c → c ≤ ys.length → (∀ b o, s.heap.get? b = some o → h'.get? b = some o) → Q (.ref s.heap.objs.size) { s with heap := h', toks := tk }) :
    wpAny (model P w) A (call (.type "set") [.ref l]) Q E s := by
  have hisz : items.size = ys.length := by
    have q := StrsAre.length hit
    rw [Array.length_toList] at q
    exact q
  obtain ⟨c, tl, hmro⟩ := F.called_set.mro
  have hmade := F.called_set.made
  have hsub := F.called_set.sub
  refine wpAny_call (codeAny_of_tree ?_)
  show wpAny _ _ (callAny (.type "set") _) _ _ _
  refine wpAny_pure ⟨Code.quiet_builtin _ (by decide +kernel), codeAny_builtin F.entry_type_call ?_⟩
  rw [Around.under_plain (weight_type_call_type "set" [.ref l] []) rfl]
  have h1 := F.called_set.notType
  have h2 := F.called_set.canCreate
  have hct := F.typeCall_set_1 (.ref l)
  repeat (any_goals (first | assumption | wp_step))
  refine codeAny_mono (code_set_led1 (.ref l) (E := E) (Q₁ := fun obj s₁ => obj = .ref s.heap.objs.size ∧ s₁ = { s with heap := s.heap.push (newSetObj w) }) ⟨rfl, rfl⟩) fun r s₁ hr => ?_
  cases r with
  | error e => exact hr
  | ok fl =>
    cases fl with
    | ret obj =>
      obtain ⟨rfl, rfl⟩ := hr
      have hS : (s.heap.push (newSetObj w)).get? s.heap.objs.size = some (newSetObj w) := Heap.get?_push_size _ rfl
      have hT : Shared.TypeIs { s with heap := s.heap.push (newSetObj w) } (.ref s.heap.objs.size) "set" := ⟨_, hS, rfl⟩
      have hli := F.called_set.init.lookup
      have hbi := F.called_set.init.bind (.ref s.heap.objs.size)
      repeat (any_goals (first | assumption | wp_step))
      refine codeAny_mono (codeAny_call_builtin (R := wants (fun r s₂ => r = .none ∧ ∃ h' tk c, s₂ = { s with heap := h', toks := tk } ∧ SetX w h' s.heap.objs.size (fun j => decide (j ∈ ys)) c ∧ c ≤ ys.length ∧
          (∀ b o, s.heap.get? b = some o → h'.get? b = some o)) E) F.called_set.init.plain F.entry_set_init (check_set_init_1 hT ?_)) fun r₂ s₂ hr₂ => ?_
      · obtain ⟨ol, hol, hcl, nl, hdl⟩ := hl
        obtain ⟨ocls, odict, odata, oslots⟩ := ol
        simp only at hcl hdl
        subst hcl; subst hdl
        have hol' : (s.heap.push (newSetObj w)).get? l = some { cls := .type "list", dict := odict, data := .seq items nl, slots := oslots } := Heap.get?_push_of_some _ hol
        have hsls := F.sub_list_set
        have hslf := F.sub_list_frozenset
        have hne : (Value.type "list" == Value.type "dict") = false := by decide
        have hl1 : (s.heap.push (newSetObj w)).IsList l items := ⟨_, hol', rfl, nl, rfl⟩
        unfold Builtin.«set.__init__» noKeywords Builtin.Frozenset.updateFrom
        generalize hPI : pyIter = PI
        wp_walk
        subst hPI
        refine wpAny_pyIter_list hl1 ?_
        refine wpAny_bind (wpAny_runValue ?_)
        have hlS : l < s.heap.objs.size := Heap.lt_size hol
        have hh3 : A.in1.in1.in1.handled = none := by simp [hh]
        have hneI : l ≠ (s.heap.push (newSetObj w)).objs.size := by
          rw [Heap.size_push]; exact Nat.ne_of_lt (Nat.lt_succ_of_lt hlS)
        have hSf : s.heap.objs.size ∉ [(s.heap.push (newSetObj w)).objs.size, l] := by
          rw [Heap.size_push]; simp only [List.mem_cons, List.mem_singleton, List.not_mem_nil, or_false, not_or]
          exact ⟨Nat.ne_of_lt (Nat.lt_succ_self _), Nat.ne_of_gt hlS⟩
        have hval : ∀ (i : Nat) (v : Value), items[i]? = some v → ∃ k t, ys[i]? = some k ∧ v = .str k t := fun i v hv => by
          have hi : i < ys.length := by rw [← hisz]; exact (Array.getElem?_eq_some_iff.mp hv).1
          obtain ⟨t, e⟩ := SS.strs_at hit i v (by rw [Array.getElem?_toList]; exact hv)
          refine ⟨ys[i], t, List.getElem?_eq_getElem hi, ?_⟩
          rw [e, List.getD_eq_getElem?_getD, List.getElem?_eq_getElem hi] <;> rfl
        refine setX_update ((Walks.list hh3 _ l hneI items).toS) s.heap.objs.size
          hSf ys hisz hb hval (items.size - 0) 0 _ (by omega) (Nat.zero_le _)
          ⟨⟨_, Heap.get?_push_size _ rfl, rfl, rfl⟩, (hl1.push _)⟩ ?hS0 ?hR
        case hS0 =>
          have hget : ((s.heap.push (newSetObj w)).push { cls := .type "list_iterator", data := .fields #[.ref l, .int 0 0] }).get? s.heap.objs.size = some (newSetObj w) := Heap.get?_push_of_some _ hS
          exact ⟨0, Nat.le_refl 0, setX_new hget⟩
        case hR =>
          intro s' c' hm hc' hS'
          obtain ⟨h', g2, d', tk', os'⟩ := s'
          have eg : g2 = s.gens := hm.gens
          have ed : d' = s.drawn := hm.drawn
          have eo : os' = s.os := hm.os
          subst eg; subst ed; subst eo
          show wpAny _ _ _ _ _ _
          refine wpAny_pure ?_
          show wpAny _ _ (ret Value.none) _ _ _
          rw [hisz] at hc'
          refine wpAny_pure ⟨rfl, h', tk', c', rfl, hS', hc', fun b o e => ?_⟩
          have hb0 : b < s.heap.objs.size := Heap.lt_size e
          have hb2 : b ≠ (s.heap.push (newSetObj w)).objs.size := by
            rw [Heap.size_push]; exact Nat.ne_of_lt (Nat.lt_succ_of_lt hb0)
          exact hm.heap b o (by simp only [List.mem_cons, List.mem_singleton, List.not_mem_nil, or_false, not_or]; exact ⟨Nat.ne_of_lt hb0, hb2⟩) (Heap.get?_push_of_some _ (Heap.get?_push_of_some _ e))
      · cases r₂ with
        | error e => exact hr₂
        | ok fl₂ =>
          cases fl₂ with
          | ret r =>
            obtain ⟨rfl, h', tk, c', rfl, hS', hc', hk'⟩ := hr₂
            repeat (any_goals (first | assumption | wp_step))
            exact h _ _ _ hS' hc' hk'
          | _ => exact hr₂.elim
    | _ => exact hr.elim
end
end DL
end
section
set_option maxRecDepth 100000
set_option maxHeartbeats 4000000
namespace DL
open PySem PySem.Spec PyProof.Rows L2
open Evl (Ex ex_rd ex_l ex_t)
section
variable {P : Program} {w : World} {A : Around} {E : Value → Shared → Prop} {s : Shared}
theorem sorted_setX {a : Addr} {S : Str → Bool} {n : Nat} {Q : Value → Shared → Prop} (Rx : SetX w s.heap a S n) (hh : A.handled = none) (h64 : n < 64)
    (hQ : ∀ s' p (out : Array Value) (c : Nat) (ys : List Str), (∀ b o, s.heap.get? b = some o → s'.heap.get? b = some o) → s'.gens = s.gens → s'.os = s.os → s.heap.objs.size ≤ p →
      s'.heap.get? p = some (seqObj "list" out c) → StrsAre out.toList ys → sortedS ys = true → ys.Nodup → (∀ k, k ∈ ys ↔ S k = true) → ys.length = n → Q (.ref p) s') :
    wpAny (model P w) A (call (.builtin "sorted") [.ref a]) Q E s := by
  obtain ⟨ob, rows, ep, tb, ho, hex, hd, g, nd, hm, hb, hf, hn, hr, hl⟩ := Rx
  refine Calls.call_function_entry kind_sorted plain_sorted entry_sorted (args_sorted1 _) ?_
  unfold Builtin.«sorted»
  refine wpAny_bind (m := checkCount "sorted" 1 1 _) (wpAny_pure ?_)
  refine wpAny_bind (collect_set (A := A.in1) hh ⟨ob, ho, hex.1, hd⟩ hf hb hr hl fun s1 vs k1 hz g1 o1 pm => ?_)
  have hvl : vs.length = n := by rw [pm.length_eq, List.length_map, Array.length_toList]; exact hn
  have hI : StrsAre vs (vs.map PyProof.Rows.strOf) := strsAre_map vs fun v hv => by
    obtain ⟨e, he, q⟩ := List.mem_map.mp (pm.mem_iff.mp hv)
    obtain ⟨k, t, h1, _⟩ := g e he
    exact ⟨k, t, by rw [← q]; exact h1⟩
  have pk : (vs.map PyProof.Rows.strOf).Perm (rows.toList.map txt) := by
    have q := pm.map PyProof.Rows.strOf
    rw [List.map_map] at q
    have e : rows.toList.map (PyProof.Rows.strOf ∘ fun x => x.2) = rows.toList.map txt := List.map_congr_left fun e he => by
      obtain ⟨k, t, h1, _⟩ := g e he
      show PyProof.Rows.strOf e.2 = txt e
      unfold txt
      rw [h1]
      rfl
    exact e ▸ q
  refine wpAny_bind (wpAny_newList ?_ (by rw [hvl, sizeLine_eq]; omega))
  have hoL : (s1.heap.push (seqObj "list" vs.toArray 0)).get? s1.heap.objs.size = some (seqObj "list" vs.toArray 0) := Heap.get?_push_size _ rfl
  refine wpAny_bind (wpAny_holding (wpAny_call_entry slot_list_sort ⟨_, hoL, rfl⟩ entry_list_sort (list_sort_treeK strKind_oneLt hoL hI.keysOf (fun v₁ v₂ rest e => keyKind_strs (by rw [← e]; exact hI)) (by rw [hvl]; exact h64) fun st' a1 a2 => ⟨_, rfl, ?_⟩) (args_list_sort _)))
  obtain ⟨ys, b1, b2, b3⟩ := sorted_out_str hI a1 a2
  obtain ⟨c, hc⟩ := sortedHeap_at (vs := vs) (out := (arrOf st').map (·.2)) hoL
  have pn : ys.Perm (rows.toList.map txt) := b2.trans pk
  refine wpAny_pure ⟨_, rfl, hQ _ s1.heap.objs.size _ c ys (fun b u e => ?_) g1 o1 hz hc b1 b3 (pn.nodup_iff.mpr nd) (fun k => by rw [pn.mem_iff, ← hm k]) ?_⟩
  · have q := k1 b u e
    have hlt := Heap.lt_size q
    show (sortedHeap (s1.heap.push (seqObj "list" vs.toArray 0)) s1.heap.objs.size vs _).get? b = some u
    rw [sortedHeap_old (Nat.ne_of_lt hlt) (by rw [size_push']; exact Nat.lt_succ_of_lt hlt)]
    exact Heap.get?_push_of_some _ q
  · rw [pn.length_eq, List.length_map, Array.length_toList]; exact hn
end
def SetXO (w : World) (a : Addr) (S : Str → Bool) (n : Nat) : HO := .ext fun h => SetX w h a S n
theorem setXO_new {w : World} {P : Program} {H : Hp} {h : Heap} {a : Addr} {S : Str → Bool} {n : Nat} (Rx : SetX w h a S n) : ObjOk P w H h a (SetXO w a S n) := by
  have ⟨o, _, _, _, ho, _⟩ := Rx
  exact ⟨Rx, ⟨o, ho⟩, fun h1 h2 p k => SetX.at p k⟩
def rSetX (K : PySem.W.Frag) (w : World) : List V → Hp → VK → Prop := fun xs H Q => ∃ (p : Addr) (ys : List Str), xs = [.ref p] ∧ SqL K H p (ys.map V.str) ∧ ys.length ≤ 1000 ∧ ∀ (a : Addr) (c : Nat), H a = none → c ≤ ys.length → Q (.ref a) (upd H a (SetXO w a (fun j => decide (j ∈ ys)) c))
def rSortedX (w : World) : List V → Hp → VK → Prop := fun vs H Q => ∃ (a : Addr) (S : Str → Bool) (n : Nat), vs = [V.ref a] ∧ H a = some (SetXO w a S n) ∧ n < 64 ∧
  ∀ (ys : List Str) (p : Addr), sortedS ys = true → ys.Nodup → (∀ k : Str, k ∈ ys ↔ S k = true) → H p = none → Q (.ref p) (upd H p (.lst (ys.map V.str)))
section
variable {X : Cx}
theorem cr_setX (hc : X.calm = true) : CallR X (.type "set") (rSetX X.K X.w) := by
  intro pins s σ H xs us Q I r h
  obtain ⟨p, ys, rfl, hq, hl, q⟩ := h
  rw [Vals.ref1 r]
  obtain ⟨its, rv, pt, hz⟩ := I.list hq
  refine call_setX ys (I.ok.hd hc) pt.isList (by simpa using rv.strs) (by unfold scanBound; omega) fun h' tk c R1 hcn k => ?_
  exact ⟨.ref _, upd H s.heap.objs.size (SetXO X.w s.heap.objs.size (fun j => decide (j ∈ ys)) c), I.laid (t' := tk) k (Nat.le_refl _) (setXO_new R1), rfl, q _ c (I.hok.fresh (Nat.le_refl _)) hcn⟩
theorem cr_sortedX (hc : X.calm = true) : CallR X (.builtin "sorted") (rSortedX X.w) := by
  intro pins s σ H vs us Q I r h
  obtain ⟨a, S, n, rfl, ha, h64, q⟩ := h
  have Rx : SetX X.w s.heap a S n := (I.hok a _ ha).1
  rw [Vals.ref1 r]
  refine sorted_setX Rx (I.ok.hd hc) h64 fun s' p out c ys k g o hp hg hi hs nd hm hl => ?_
  have hlen : (ys.map V.str).length ≤ sizeLine := by rw [List.length_map, hl, sizeLine_eq]; omega
  have hn : H p = none := I.hok.fresh hp
  have J : Inv X pins σ (upd H p (.lst (ys.map V.str))) { s with heap := s'.heap, gens := s'.gens, drawn := s'.drawn, toks := s'.toks } :=
    I.call (ch := []) (Un.laid k hp hn) (I.hok.laid k hp ⟨hlen, out.toList, c, vals_of_strs hi, hg⟩) (by rw [g]; exact I.bare) (fun _ z => nomatch z)
  have e : s' = { s with heap := s'.heap, gens := s'.gens, drawn := s'.drawn, toks := s'.toks } := by
    obtain ⟨h0, g0, d0, t0, o0⟩ := s'
    have o : o0 = s.os := o
    rw [o]
  rw [e]
  exact ⟨.ref p, _, J, rfl, q ys p hs nd hm hn⟩
end
def onceS : List Str → List Str
  | [] => []
  | x :: l => if x ∈ l then onceS l else x :: onceS l
theorem mem_once {k : Str} : ∀ {l : List Str}, k ∈ onceS l ↔ k ∈ l
  | [] => by simp [onceS]
  | x :: l => by
    unfold onceS
    by_cases h : x ∈ l
    · rw [if_pos h, mem_once (l := l), List.mem_cons]
      exact ⟨.inr, fun z => z.elim (fun e => by rw [e]; exact h) id⟩
    · rw [if_neg h, List.mem_cons, mem_once (l := l), List.mem_cons]
theorem once_nd : ∀ {l : List Str}, (onceS l).Nodup
  | [] => by simp [onceS]
  | x :: l => by
    unfold onceS
    by_cases h : x ∈ l
    · rw [if_pos h]; exact once_nd
    · rw [if_neg h]
      exact List.nodup_cons.mpr ⟨fun z => h (mem_once.mp z), once_nd⟩
section
variable {K : PySem.W.Frag} {ct : Ct} {E : XK} {B H B' H' B1 H1 B2 H2 : Hp} {σ σ' : L2.St} {ρ ρ' : Env} {f0 f1 f2 : Fps} {v : V} {r : Vl} {f g : List Addr} {w : World}
def xSortSetX (ma : MA) : MX := fun ρ => R.bind (ma ρ) fun a => rdO (rdvs a.2 a.1) fun ds => match ds with
  | [.lst l] => rdO (strsOf l) fun ys => if decide (ys.length < 64) = true then .ok (.own ((sortS (onceS ys)).map D.str), a.2) else .bad
  | _ => .bad
theorem im_sortSetX {t : TA} {m : MA} (ha : ImpA K ct E t m) : Imp K ct E (tCB (rSortedX w) (tCons (tCB (rSetX K w) t) tNil)) (xSortSetX m) := by
  intro B H σ ρ f0 Q R h
  refine ha B H σ ρ f0 _ R (h.first fun a ea h vs B1 H1 f1 f x => ?_)
  obtain ⟨ds, e1, h⟩ := h.get
  have hv := x.val.rd x.rel e1
  split at h
  · rename_i l
    obtain ⟨ys, e2, h⟩ := h.get
    by_cases hc : decide (ys.length < 64) = true
    · rw [if_pos hc] at h
      have hl : ys.length < 64 := of_decide_eq_true hc
      obtain ⟨p0, xs, ev, h1, h2⟩ := RdVs.lst1 hv
      subst ev
      rw [strsOf_map e2] at h2
      rw [DVs.strs_of h2] at h1
      refine ⟨_, ys, rfl, SqL.of h1, by omega, fun p c hp hcn => ⟨p, _, c, rfl, upd_same, by omega, fun ms q pw nd hm hq => ?_⟩⟩
      have em : ms = sortS (onceS ys) := sortS_uniq ((List.perm_ext_iff_of_nodup nd once_nd).mpr fun k => by rw [hm k, mem_once]; simp) (sortedS_pw pw)
      have nq : q ≠ p := fun z => by rw [z, upd_same] at hq; cases hq
      have hq' : H1 q = none := by rw [upd_ne nq] at hq; exact hq
      refine h _ _ _ _ _ (x.new (B2 := B1) (g := [q]) ⟨fun _ _ z => z, (Ex.new hp).trans (Ex.new hq), ?_, fun _ z _ => z, ⟨q, ms.map V.str, rfl, rfl, upd_same, by rw [em]; exact DVs.strs _⟩, fun b hb => ?_, id⟩)
      · exact x.rel.ex.trans ((Ex.new hp).trans (Ex.new hq))
      · have eb : b = q := by simpa using hb
        rw [eb]
        exact ⟨hq', Rel.fresh x.rel.ex hq'⟩
    · rw [if_neg hc] at h
      exact h.elim
  · exact h.elim
end
end DL
end
section
set_option maxRecDepth 100000
set_option maxHeartbeats 4000000
namespace DL
open PySem PySem.Spec PyProof.Rows L2
open Evl (Ex ex_rd ex_l ex_t)
def emB (K : PySem.W.Frag) (x y : V) (H : Hp) (b : Bool) : Prop :=
  (∃ p q xs, x = .ref p ∧ y = .ref q ∧ SqT K H p xs ∧ SqT K H q [] ∧ b = xs.isEmpty) ∨ (∃ p q xs, x = .ref p ∧ y = .ref q ∧ SqL K H p xs ∧ SqL K H q [] ∧ b = xs.isEmpty)
def rEqE (K : PySem.W.Frag) : R2 := fun x y H Q => ∃ b, emB K x y H b ∧ Q (.bl b) H
def rNeE (K : PySem.W.Frag) : R2 := fun x y H Q => ∃ b, emB K x y H b ∧ Q (.bl (!b)) H
theorem vals_nil : ∀ {its : List Value}, Vals [] its → its = []
  | _, .nil => rfl
theorem vals_emp : ∀ {xs : List V} {its : List Value}, Vals xs its → xs.isEmpty = its.isEmpty
  | _, _, .nil => rfl
  | _, _, .cons _ _ => rfl
section
variable {X : Cx}
theorem op_eqE (hu : X.A.units + 64 < cLine) : OpR X (compareOp .Eq) (rEqE X.K) := by
  intro pins s σ H x y v u Q I rx ry h
  obtain ⟨b, h, q⟩ := h
  have hu : X.A.units < cLine := by omega
  rcases h with ⟨p, r, xs, rfl, rfl, h1, h2, rfl⟩ | ⟨p, r, xs, rfl, rfl, h1, h2, rfl⟩
  · obtain rfl : v = Value.ref p := rx
    obtain rfl : u = Value.ref r := ry
    obtain ⟨its, r1, z1, _⟩ := I.tuple h1
    obtain ⟨its2, r2, z2, _⟩ := I.tuple h2
    cases vals_nil r2
    refine SeqAt.RcAt.tuples (e := fun _ => true) z1 z2 hu (fun j _ h => absurd h (Nat.not_lt_zero j)) X.prog X.w _ _ (fin_bl I q ?_)
    rw [vals_emp r1]
    cases its <;> rfl
  · obtain rfl : v = Value.ref p := rx
    obtain rfl : u = Value.ref r := ry
    obtain ⟨its, r1, z1, _⟩ := I.list h1
    obtain ⟨its2, r2, z2, _⟩ := I.list h2
    cases vals_nil r2
    cases its with
    | nil => 
      exact SeqAt.RcAt.lists (e := fun _ => true) z1.isList z2.isList rfl hu (fun j _ h => absurd h (Nat.not_lt_zero j)) X.prog X.w _ _ (fin_bl I q (by rw [vals_emp r1]; rfl))
    | cons a t => 
      exact SeqAt.RcAt.lists_lengths z1.isList z2.isList rfl hu X.prog X.w _ _ (fin_bl I q (by rw [vals_emp r1]; rfl))
theorem op_neE (hu : X.A.units + 64 < cLine) : OpR X (compareOp .NotEq) (rNeE X.K) := by
  intro pins s σ H x y v u Q I rx ry h
  obtain ⟨b, h, q⟩ := h
  have hu : X.A.units < cLine := by omega
  rcases h with ⟨p, r, xs, rfl, rfl, h1, h2, rfl⟩ | ⟨p, r, xs, rfl, rfl, h1, h2, rfl⟩
  · obtain rfl : v = Value.ref p := rx
    obtain rfl : u = Value.ref r := ry
    obtain ⟨its, r1, z1, _⟩ := I.tuple h1
    obtain ⟨its2, r2, z2, _⟩ := I.tuple h2
    cases vals_nil r2
    refine SeqAt.RcNeAt.tuples (e := fun _ => true) z1 z2 hu (fun j _ h => absurd h (Nat.not_lt_zero j)) X.prog X.w _ _ (fin_bl I q ?_)
    rw [vals_emp r1]
    cases its <;> rfl
  · obtain rfl : v = Value.ref p := rx
    obtain rfl : u = Value.ref r := ry
    obtain ⟨its, r1, z1, _⟩ := I.list h1
    obtain ⟨its2, r2, z2, _⟩ := I.list h2
    cases vals_nil r2
    cases its with
    | nil => 
      exact SeqAt.RcNeAt.lists (e := fun _ => true) z1.isList z2.isList rfl hu (fun j _ h => absurd h (Nat.not_lt_zero j)) X.prog X.w _ _ (fin_bl I q (by rw [vals_emp r1]; rfl))
    | cons a t => 
      exact SeqAt.RcNeAt.lists_lengths z1.isList z2.isList rfl hu X.prog X.w _ _ (fin_bl I q (by rw [vals_emp r1]; rfl))
end
def gEqE : D → D → Option Bool
  | .tup l, .tup [] => some l.isEmpty
  | .lst l, .lst [] => some l.isEmpty
  | _, _ => none
def gNeE : D → D → Option Bool := fun a b => (gEqE a b).map (!·)
theorem dvs_emp {K : PySem.W.Frag} {B : Hp} : ∀ {vs : List V} {ds : List D}, DVs K B vs ds → vs.isEmpty = ds.isEmpty
  | _, _, .nil => rfl
  | _, _, .cons _ _ => rfl
theorem emB_ok {K : PySem.W.Frag} {B H : Hp} {x y : V} {dx dy : D} {b : Bool} (e : Ex B H) (hx : RdV K B H x dx) (hy : RdV K B H y dy) (h : gEqE dx dy = some b) : emB K x y H b := by
  cases dx with
  | tup l =>
    cases dy with
    | tup l2 =>
      cases l2 with
      | nil =>
        cases h
        cases hx with
        | tup s1 r1 =>
          cases hy with
          | tup s2 r2 =>
            cases r2
            exact .inl ⟨_, _, _, rfl, rfl, ex_t e s1, ex_t e s2, (dvs_emp r1).symm⟩
      | cons a t => cases h
    | _ => cases h
  | lst l =>
    cases dy with
    | lst l2 =>
      cases l2 with
      | nil =>
        cases h
        obtain ⟨p, xs, rfl, e1, r1⟩ := hx
        obtain ⟨p2, xs2, rfl, e2, r2⟩ := hy
        cases r2
        exact .inr ⟨_, _, _, rfl, rfl, SqL.of e1, SqL.of e2, (dvs_emp r1).symm⟩
      | cons a t => cases h
    | _ => cases h
  | _ => cases h
theorem ci_eqE {K : PySem.W.Frag} : CmpI K (rEqE K) gEqE := fun B H x y dx dy b e hx hy h Q q => ⟨b, emB_ok e hx hy h, q⟩
theorem ci_neE {K : PySem.W.Frag} : CmpI K (rNeE K) gNeE := fun B H x y dx dy b e hx hy h Q q => by
  unfold gNeE at h
  cases e1 : gEqE dx dy with
  | none => rw [e1] at h; cases h
  | some k =>
    rw [e1] at h
    cases h
    exact ⟨k, emB_ok e hx hy e1, q⟩
end DL
end
section
set_option maxRecDepth 100000
set_option maxHeartbeats 1000000
namespace DL
open PySem
def Ev (m : MX) (ρ : Env) (d : D) : Prop := ∃ v, m ρ = .ok (v, ρ) ∧ rdv ρ v = some d
def EvS (m : MX) (ρ : Env) (d : D) : Prop := ∃ v, m ρ = .ok (v, ρ) ∧ rdv ρ v = some d ∧ share ρ v = some (d, ρ)
def EvA (m : MA) (ρ : Env) (ds : List D) : Prop := ∃ vs, m ρ = .ok (vs, ρ) ∧ rdvs ρ vs = some ds
def EvAS (m : MA) (ρ : Env) (ds : List D) : Prop := ∃ vs, m ρ = .ok (vs, ρ) ∧ rdvs ρ vs = some ds ∧ shares ρ vs = some (ds, ρ)
def Tv (m : MT) (ρ : Env) (b : Bool) : Prop := m ρ = .ok (b, ρ)
def EvI (m : MI) (ρ : Env) (l : List D) : Prop := m ρ = .ok (l, ρ)
def Ovl (m : MO) (ρ : Env) (o : Option Int) : Prop := m ρ = .ok (o, ρ)
def Ret (m : MS) (ρ : Env) (d : D) : Prop := ∃ v ρ', m ρ = .ok (.rt v ρ') ∧ v = .sh d
def Nxt (m : MS) (ρ ρ' : Env) : Prop := m ρ = .ok (.nx ρ')
def Grd (m : MS) (ρ : Env) (b : Bool) (ρ' : Env) : Prop := (b = true → m ρ = .ok (.nx ρ')) ∧ (b = false → ∃ ρ'', m ρ = .ok (.rt (.sh (.bl false)) ρ''))
def IsF (F : Fn) (as : List Sl) (d : D) : Prop := ∃ l, F as = .ok (.sh d, l)
variable {ρ ρ' : Env} {d a b z : D}
theorem EvS.ev {m : MX} (h : EvS m ρ d) : Ev m ρ d := let ⟨v, h1, h2, _⟩ := h; ⟨v, h1, h2⟩
theorem EvAS.ev {m : MA} {ds : List D} (h : EvAS m ρ ds) : EvA m ρ ds := let ⟨v, h1, h2, _⟩ := h; ⟨v, h1, h2⟩
theorem evS_var {i : Nat} (h : ρ[i]? = some (.sh d)) : EvS (xVar i) ρ d := ⟨.sh d, by unfold xVar; rw [h], rfl, rfl⟩
theorem ev_varO {i : Nat} {ds : List D} (h : ρ[i]? = some (.own ds)) : Ev (xVar i) ρ (.lst ds) := ⟨.bor i, by unfold xVar; rw [h], by show rdS ρ[i]? = _; rw [h]; rfl⟩
theorem evS_c : EvS (xC d) ρ d := ⟨.sh d, rfl, rfl, rfl⟩
theorem evS_of {m : MX} {v : Vl} (h : m ρ = .ok (v, ρ)) (e : v = .sh d ∨ ∃ l, v = .own l ∧ d = .lst l) : EvS m ρ d := by
  rcases e with rfl | ⟨l, rfl, rfl⟩
  · exact ⟨_, h, rfl, rfl⟩
  · exact ⟨_, h, rfl, rfl⟩
theorem xOp_eq {g : D → D → Option Vl} {ma mb : MX} {v : Vl} (h1 : Ev ma ρ a) (h2 : Ev mb ρ b) (hg : g a b = some v) : xOp g ma mb ρ = .ok (v, ρ) := by
  obtain ⟨x, e1, r1⟩ := h1
  obtain ⟨y, e2, r2⟩ := h2
  unfold xOp
  simp only [e1, R_bind_ok, e2, r1, r2, rdO_some, hg]
theorem evS_op {g : D → D → Option Vl} {ma mb : MX} (h1 : Ev ma ρ a) (h2 : Ev mb ρ b) (hg : g a b = some (.sh z)) : EvS (xOp g ma mb) ρ z := evS_of (xOp_eq h1 h2 hg) (.inl rfl)
theorem evS_opO {g : D → D → Option Vl} {ma mb : MX} {l : List D} (h1 : Ev ma ρ a) (h2 : Ev mb ρ b) (hg : g a b = some (.own l)) : EvS (xOp g ma mb) ρ (.lst l) := evS_of (xOp_eq h1 h2 hg) (.inr ⟨l, rfl, rfl⟩)
theorem evS_cmp {g : D → D → Option Bool} {ma mb : MX} {k : Bool} (h1 : Ev ma ρ a) (h2 : Ev mb ρ b) (hg : g a b = some k) : EvS (xOp (blR g) ma mb) ρ (.bl k) := evS_op h1 h2 (by unfold blR; rw [hg]; rfl)
theorem evS_un {g : D → Option Vl} {ma : MX} (h1 : Ev ma ρ a) (hg : g a = some (.sh z)) : EvS (xUn g ma) ρ z := by
  obtain ⟨x, e1, r1⟩ := h1
  refine evS_of (v := .sh z) ?_ (.inl rfl)
  unfold xUn
  simp only [e1, R_bind_ok, r1, rdO_some, hg]
theorem evA_nil : EvA aNil ρ [] := ⟨[], rfl, rfl⟩
theorem evA_cons {m : MX} {n : MA} {ds : List D} (h : Ev m ρ d) (t : EvA n ρ ds) : EvA (aCons m n) ρ (d :: ds) := by
  obtain ⟨x, e1, r1⟩ := h
  obtain ⟨xs, e2, r2⟩ := t
  refine ⟨x :: xs, ?_, ?_⟩
  · unfold aCons
    simp only [e1, R_bind_ok, e2]
  · unfold rdvs
    rw [r1, Option.bind_some, r2, Option.bind_some]
theorem evAS_nil : EvAS aNil ρ [] := ⟨[], rfl, rfl, rfl⟩
theorem evAS_cons {m : MX} {n : MA} {ds : List D} (h : EvS m ρ d) (t : EvAS n ρ ds) : EvAS (aCons m n) ρ (d :: ds) := by
  obtain ⟨x, e1, r1, s1⟩ := h
  obtain ⟨xs, e2, r2, s2⟩ := t
  refine ⟨x :: xs, ?_, ?_, ?_⟩
  · unfold aCons
    simp only [e1, R_bind_ok, e2]
  · unfold rdvs
    rw [r1, Option.bind_some, r2, Option.bind_some]
  · unfold shares
    rw [s1, Option.bind_some, s2, Option.bind_some]
theorem evS_cb {g : List D → Option Vl} {ma : MA} {ds : List D} (h : EvA ma ρ ds) (hg : g ds = some (.sh z)) : EvS (xCB g ma) ρ z := by
  obtain ⟨xs, e, r⟩ := h
  refine evS_of (v := .sh z) ?_ (.inl rfl)
  unfold xCB
  simp only [e, R_bind_ok, r, rdO_some, hg]
theorem evS_cbO {g : List D → Option Vl} {ma : MA} {ds l : List D} (h : EvA ma ρ ds) (hg : g ds = some (.own l)) : EvS (xCB g ma) ρ (.lst l) := by
  obtain ⟨xs, e, r⟩ := h
  refine evS_of (v := .own l) ?_ (.inr ⟨_, rfl, rfl⟩)
  unfold xCB
  simp only [e, R_bind_ok, r, rdO_some, hg]
theorem evS_tup {ma : MA} {ds : List D} (h : EvAS ma ρ ds) (hz : szOk ds.length = true) : EvS (xTup ma) ρ (.tup ds) := by
  obtain ⟨xs, e, r, s⟩ := h
  refine evS_of (v := .sh (.tup ds)) ?_ (.inl rfl)
  unfold xTup
  simp only [e, R_bind_ok, s, rdO_some, hz, if_true]
theorem evS_lst {ma : MA} {ds : List D} (h : EvAS ma ρ ds) (hz : szOk ds.length = true) : EvS (xLst ma) ρ (.lst ds) := by
  obtain ⟨xs, e, r, s⟩ := h
  refine evS_of (v := .own ds) ?_ (.inr ⟨_, rfl, rfl⟩)
  unfold xLst
  simp only [e, R_bind_ok, s, rdO_some, hz, if_true]
theorem takeF : ∀ {vs : List Vl} {ds : List D} {acc : List Sl}, shares ρ vs = some (ds, ρ) → (∀ v ∈ vs, ∃ d, share ρ v = some (d, ρ)) → takeArgs (List.replicate vs.length false) vs ρ acc = some (acc ++ ds.map .sh, ρ, [])
  | [], ds, acc, h, _ => by cases h; simp [takeArgs]
  | v :: vs, ds, acc, h, hv => by
    obtain ⟨d, hd⟩ := hv v (by simp)
    unfold shares at h
    rw [hd, Option.bind_some] at h
    cases e : shares ρ vs with
    | none => simp [e] at h
    | some q =>
      obtain ⟨ds', ρ1⟩ := q
      simp only [e, Option.bind_some, Option.some.injEq, Prod.mk.injEq] at h
      obtain ⟨e1, e2⟩ := h
      rw [e2] at e
      have ih := takeF (acc := acc ++ [.sh d]) e fun w hw => hv w (List.mem_cons_of_mem _ hw)
      show (take1 false v ρ).bind _ = _
      have t1 : take1 false v ρ = some (.sh d, ρ, none) := by
        show (share ρ v).bind _ = _
        rw [hd]
        rfl
      rw [t1, Option.bind_some]
      show (takeArgs (List.replicate vs.length false) vs ρ (acc ++ [.sh d])).bind _ = _
      rw [ih, ← e1]
      simp [bkAdd]
theorem evAS_each : ∀ {ma : MA} {ds : List D}, EvAS ma ρ ds → True := fun _ => trivial
def EvAP (m : MA) (ρ : Env) (ds : List D) : Prop := ∃ vs, m ρ = .ok (vs, ρ) ∧ shares ρ vs = some (ds, ρ) ∧ ∀ v ∈ vs, ∃ d, share ρ v = some (d, ρ)
theorem evAP_nil : EvAP aNil ρ [] := ⟨[], rfl, rfl, fun _ h => nomatch h⟩
theorem evAP_cons {m : MX} {n : MA} {ds : List D} (h : EvS m ρ d) (t : EvAP n ρ ds) : EvAP (aCons m n) ρ (d :: ds) := by
  obtain ⟨x, e1, r1, s1⟩ := h
  obtain ⟨xs, e2, s2, k⟩ := t
  refine ⟨x :: xs, ?_, ?_, fun v hv => ?_⟩
  · unfold aCons
    simp only [e1, R_bind_ok, e2]
  · unfold shares
    rw [s1, Option.bind_some, s2, Option.bind_some]
  · rcases List.mem_cons.mp hv with rfl | hv
    · exact ⟨d, s1⟩
    · exact k v hv
theorem shares_len : ∀ {vs : List Vl} {ds : List D} {ρ ρ' : Env}, shares ρ vs = some (ds, ρ') → vs.length = ds.length
  | [], ds, ρ, ρ', h => by cases h; rfl
  | v :: vs, ds, ρ, ρ', h => by
    unfold shares at h
    cases e : share ρ v with
    | none => simp [e] at h
    | some p =>
      rw [e, Option.bind_some] at h
      cases e2 : shares p.2 vs with
      | none => simp [e2] at h
      | some q =>
        simp only [e2, Option.bind_some, Option.some.injEq, Prod.mk.injEq] at h
        have := shares_len e2
        rw [← h.1, List.length_cons, List.length_cons, this]
theorem call_eq {bs : List Bool} {F : Fn} {ma : MA} {ds : List D} {v : Vl} {l : List Sl} (h : EvAP ma ρ ds) (hb : bs = List.replicate ds.length false) (hF : F (ds.map .sh) = .ok (v, l)) : xCall bs F ma ρ = .ok (v, ρ) := by
  obtain ⟨vs, e, s, k⟩ := h
  have t := takeF (acc := []) s k
  rw [shares_len s, ← hb] at t
  unfold xCall
  simp only [e, R_bind_ok, t, rdO_some, List.nil_append, hF]
  rfl
theorem evS_call {bs : List Bool} {F : Fn} {ma : MA} {ds : List D} (h : EvAP ma ρ ds) (hb : bs = List.replicate ds.length false) (hF : ∃ l, F (ds.map .sh) = .ok (.sh z, l)) : EvS (xCall bs F ma) ρ z := by
  obtain ⟨l, hF⟩ := hF
  exact evS_of (call_eq h hb hF) (.inl rfl)
theorem evS_callO {bs : List Bool} {F : Fn} {ma : MA} {ds k : List D} (h : EvAP ma ρ ds) (hb : bs = List.replicate ds.length false) (hF : ∃ l, F (ds.map .sh) = .ok (.own k, l)) : EvS (xCall bs F ma) ρ (.lst k) := by
  obtain ⟨l, hF⟩ := hF
  exact evS_of (call_eq h hb hF) (.inr ⟨_, rfl, rfl⟩)
theorem tv_test {m : MX} {k : Bool} (h : Ev m ρ (.bl k)) : Tv (xTest m) ρ k := by
  obtain ⟨v, e, r⟩ := h
  unfold Tv xTest
  simp only [e, R_bind_ok, r, rdO_some, blOf]
theorem tv_tru {m : MX} {k : Bool} (h : Ev m ρ d) (t : truO d = some k) : Tv (xTru m) ρ k := by
  obtain ⟨v, e, r⟩ := h
  unfold Tv xTru
  simp only [e, R_bind_ok, r, rdO_some, t]
theorem tv_truB {m : MX} {k : Bool} (h : Ev m ρ (.bl k)) : Tv (xTru m) ρ k := tv_tru h rfl
theorem tv_not {m : MT} {k : Bool} (h : Tv m ρ k) : Tv (xNot m) ρ (!k) := by
  unfold Tv xNot at *
  simp only [h, R_bind_ok]
theorem tv_or {m n : MT} {k j : Bool} (h : Tv m ρ k) (t : k = false → Tv n ρ j) : Tv (xOr m n) ρ (k || j) := by
  unfold Tv xOr at *
  simp only [h, R_bind_ok]
  cases k with
  | true => rfl
  | false => exact t rfl
theorem tv_and {m n : MT} {k j : Bool} (h : Tv m ρ k) (t : k = true → Tv n ρ j) : Tv (xAnd m n) ρ (k && j) := by
  unfold Tv xAnd at *
  simp only [h, R_bind_ok]
  cases k with
  | true => exact t rfl
  | false => rfl
theorem evS_andV {m n : MX} {k : Bool} (h : Ev m ρ (.bl k)) (t : k = true → EvS n ρ d) : EvS (xAndV m n) ρ (if k = true then d else .bl false) := by
  have h := tv_test h
  unfold Tv at h
  cases k with
  | true =>
    obtain ⟨v, e, r⟩ := t rfl
    refine ⟨v, ?_, r⟩
    unfold xAndV
    simp only [h, R_bind_ok, if_true, e]
  | false =>
    refine ⟨.sh (.bl false), ?_, rfl, rfl⟩
    unfold xAndV
    simp only [h, R_bind_ok, Bool.false_eq_true, if_false]
theorem evS_andB {m n : MX} {k j : Bool} (h : Ev m ρ (.bl k)) (t : k = true → EvS n ρ (.bl j)) : EvS (xAndV m n) ρ (.bl (k && j)) := by
  have := evS_andV h t
  cases k <;> exact this
theorem evS_orB {m n : MX} {k j : Bool} (h : Ev m ρ (.bl k)) (t : k = false → EvS n ρ (.bl j)) : EvS (xOrV m n) ρ (.bl (k || j)) := by
  have h := tv_test h
  unfold Tv at h
  cases k with
  | false =>
    obtain ⟨v, e, r⟩ := t rfl
    refine ⟨v, ?_, r⟩
    unfold xOrV
    simp only [h, R_bind_ok, Bool.false_eq_true, if_false, e]
  | true =>
    refine ⟨.sh (.bl true), ?_, rfl, rfl⟩
    unfold xOrV
    simp only [h, R_bind_ok, if_true]
theorem evS_notV {m : MX} {k : Bool} (h : Ev m ρ (.bl k)) : EvS (xNotV m) ρ (.bl (!k)) := by
  have h := tv_test h
  unfold Tv at h
  refine ⟨.sh (.bl (!k)), ?_, rfl, rfl⟩
  unfold xNotV
  simp only [h, R_bind_ok]
theorem evS_if {c : MT} {m n : MX} {k : Bool} (h : Tv c ρ k) (h1 : k = true → EvS m ρ a) (h2 : k = false → EvS n ρ b) : EvS (xIf c m n) ρ (if k = true then a else b) := by
  unfold Tv at h
  cases k with
  | true =>
    obtain ⟨v, e, r⟩ := h1 rfl
    refine ⟨v, ?_, r⟩
    unfold xIf
    simp only [h, R_bind_ok, if_true, e]
  | false =>
    obtain ⟨v, e, r⟩ := h2 rfl
    refine ⟨v, ?_, r⟩
    unfold xIf
    simp only [h, R_bind_ok, Bool.false_eq_true, if_false, e]
theorem nxt_asg {i : Nat} {m : MX} (h : EvS m ρ d) (hi : i < ρ.length) : ∃ s, (s = .sh d ∨ ∃ l, d = .lst l ∧ s = .own l) ∧ Nxt (sAsg i m) ρ (ρ.set i s) := by
  obtain ⟨v, e, r, s⟩ := h
  cases v with
  | sh x =>
    cases r
    refine ⟨.sh d, .inl rfl, ?_⟩
    unfold Nxt sAsg
    simp only [e, R_bind_ok, put, if_pos hi, rdO_some]
  | own l =>
    cases r
    refine ⟨.own l, .inr ⟨l, rfl, rfl⟩, ?_⟩
    unfold Nxt sAsg
    simp only [e, R_bind_ok, put, if_pos hi, rdO_some]
  | drw x => cases r
  | ob x => cases r
  | bor j =>
    refine ⟨.sh d, .inl rfl, ?_⟩
    unfold Nxt sAsg
    simp only [e, R_bind_ok, put, s, Option.bind_some, if_pos hi, rdO_some]
theorem nxt_asgG {g : MG} {m : MX} (h : EvS m ρ d) (hg : g d ρ = some ρ') : Nxt (sAsgG g m) ρ ρ' := by
  obtain ⟨v, e, r, s⟩ := h
  unfold Nxt sAsgG
  simp only [e, R_bind_ok, s, rdO_some, hg]
theorem ret_of {m : MX} (h : EvS m ρ d) (hd : ∀ l, d ≠ .lst l) : Ret (sRet m) ρ d := by
  obtain ⟨v, e, r, s⟩ := h
  cases v with
  | sh x =>
    cases r
    refine ⟨.sh d, ρ, ?_, rfl⟩
    unfold sRet
    simp only [e, R_bind_ok, mv, rdO_some]
  | own l => cases r; exact absurd rfl (hd l)
  | drw x => cases r
  | ob x => cases r
  | bor j =>
    have r : rdS ρ[j]? = some d := r
    cases h : ρ[j]? with
    | none => rw [h] at r; cases r
    | some q =>
      rw [h] at r
      cases q <;> first | (cases r; done) | skip
      · cases r
        have : xVar j ρ = .ok (.sh d, ρ) := by unfold xVar; rw [h]
        refine ⟨.sh d, ρ, ?_, rfl⟩
        unfold sRet
        simp only [e, R_bind_ok]
        simp [mv, h, rdO_some]
      · cases r
        exact absurd rfl (hd _)
theorem ret_seq {s t : MS} (h : Nxt s ρ ρ') (r : Ret t ρ' d) : Ret (sSeq s t) ρ d := by
  obtain ⟨v, ρ2, e, q⟩ := r
  refine ⟨v, ρ2, ?_, q⟩
  unfold Nxt at h
  unfold sSeq
  simp only [h, R_bind_ok, e]
theorem ret_no {c : MT} {t : MS} {k j : Bool} (h : Tv c ρ k) (r : k = false → Ret t ρ (.bl j)) : Ret (sSeq (sIf c (sRet (xC (.bl false))) sNext) t) ρ (.bl (!k && j)) := by
  unfold Tv at h
  cases k with
  | true =>
    refine ⟨_, ρ, ?_, rfl⟩
    unfold sSeq sIf
    simp only [h, R_bind_ok, if_true]
    rfl
  | false =>
    obtain ⟨v, ρ2, e, q⟩ := r rfl
    refine ⟨v, ρ2, ?_, q⟩
    unfold sSeq sIf
    simp only [h, R_bind_ok, Bool.false_eq_true, if_false, sNext]
    exact e
theorem ret_if {c : MT} {t : MS} {m : MX} {k : Bool} (h : Tv c ρ k) (hm : k = true → Ret (sRet m) ρ a) (r : k = false → Ret t ρ b) : Ret (sSeq (sIf c (sRet m) sNext) t) ρ (if k = true then a else b) := by
  unfold Tv at h
  cases k with
  | true =>
    obtain ⟨v, ρ2, e, q⟩ := hm rfl
    refine ⟨v, ρ2, ?_, q⟩
    unfold sSeq sIf
    simp only [h, R_bind_ok, if_true, e]
  | false =>
    obtain ⟨v, ρ2, e, q⟩ := r rfl
    refine ⟨v, ρ2, ?_, q⟩
    unfold sSeq sIf
    simp only [h, R_bind_ok, Bool.false_eq_true, if_false, sNext]
    exact e
theorem ret_yes {c : MT} {t : MS} {m : MX} (h : Tv c ρ true) (hm : Ret (sRet m) ρ a) : Ret (sSeq (sIf c (sRet m) sNext) t) ρ a := by
  have := ret_if (t := t) (b := a) h (fun _ => hm) fun h => nomatch h
  exact this
theorem ret_on {c : MT} {t : MS} {m : MX} (h : Tv c ρ false) (hm : Ret t ρ a) : Ret (sSeq (sIf c (sRet m) sNext) t) ρ a := by
  have := ret_if (m := m) (a := a) h (fun h => nomatch h) (fun _ => hm)
  exact this
theorem ret_grd {s t : MS} {k j : Bool} (h : Grd s ρ k ρ') (r : k = true → Ret t ρ' (.bl j)) : Ret (sSeq s t) ρ (.bl (k && j)) := by
  cases k with
  | true =>
    obtain ⟨v, ρ2, e, q⟩ := r rfl
    refine ⟨v, ρ2, ?_, q⟩
    unfold sSeq
    simp only [h.1 rfl, R_bind_ok]
    exact e
  | false =>
    obtain ⟨ρ2, e⟩ := h.2 rfl
    refine ⟨.sh (.bl false), ρ2, ?_, by rw [Bool.false_and]⟩
    unfold sSeq
    simp only [e, R_bind_ok]
theorem isF_of {fix : Nat → Bool} {np nl : Nat} {m : MS} {as : List Sl} (h : as.length = np) (r : Ret m (as ++ List.replicate nl .emp) d) : ∃ l, runF fix np nl m as = .ok (.sh d, l) := by
  obtain ⟨v, ρ2, e, rfl⟩ := r
  refine ⟨maskA fix as.length ρ2, ?_⟩
  unfold runF runB
  rw [if_pos h, e]
  rfl
theorem isF_gen {fix : Nat → Bool} {np nl : Nat} {m : MS} {as : List Sl} {v : Vl} (h : as.length = np) (r : m (as ++ List.replicate nl .emp) = .ok (.rt v ρ)) : ∃ l, runF fix np nl m as = .ok (v, l) := by
  refine ⟨maskA fix as.length ρ, ?_⟩
  unfold runF runB
  rw [if_pos h, r]
  rfl
theorem evI_seq {m : MX} {l : List D} (h : EvS m ρ d) (e : itemsOf d = some l) : EvI (xISeq m) ρ l := by
  obtain ⟨v, e1, _, s⟩ := h
  unfold EvI xISeq
  simp only [e1, R_bind_ok, s, rdO_some, e]
theorem evI_zip {ma : MA} {x y : D} {l k : List D} {p q : Bool} (h : EvAS ma ρ [x, y]) (hx : kindOf x = some (l, p)) (hy : kindOf y = some (k, q)) : EvI (xIZip ma) ρ (zipD l k) := by
  obtain ⟨vs, e, _, s⟩ := h
  unfold EvI xIZip
  simp only [e, R_bind_ok, s, rdO_some]
  simp only [hx, hy, rdO_some]
theorem evI_rng {ma : MA} {j : Int} (h : EvA ma ρ [.int j]) (hj : smallI j = true) : EvI (xIRng1 ma) ρ ((List.range j.toNat).map fun (i : Nat) => D.int (0 + (i : Int))) := by
  obtain ⟨vs, e, r⟩ := h
  unfold EvI
  rw [xIRng1_eq, e, R_bind_ok, r, rngU_ints, rng1C_ok hj]
theorem lc_eq {mi : MI} {mg : MG} {me : MX} {vs : List Nat} {l : List D} {f : D → D} (hi : EvI mi ρ l) (h : ∀ x ∈ l, ∃ ρ1, mg x (emps ρ vs) = some ρ1 ∧ EvS me ρ1 (f x) ∧ emps ρ1 vs = emps ρ vs) (hb : back ρ (emps ρ vs) vs = ρ) (hz : l.length ≤ 1000000) : xLc mi mg xYes me vs ρ = .ok (.own (l.map f), ρ) := by
  unfold EvI at hi
  unfold xLc
  simp only [hi, R_bind_ok]
  rw [lc_pure (f := f) (acc := []) (fun x hx => by
    obtain ⟨ρ1, h1, ⟨v, h2, _, h3⟩, h4⟩ := h x hx
    exact ⟨ρ1, v, ρ1, ρ1, h1, h2, h3, h4⟩) (by simpa using hz)]
  simp only [R_bind_ok, List.nil_append, hb]
theorem evS_lc {mi : MI} {mg : MG} {me : MX} {vs : List Nat} {l : List D} {f : D → D} (hi : EvI mi ρ l) (h : ∀ x ∈ l, ∃ ρ1, mg x (emps ρ vs) = some ρ1 ∧ EvS me ρ1 (f x) ∧ emps ρ1 vs = emps ρ vs) (hb : back ρ (emps ρ vs) vs = ρ) (hz : l.length ≤ 1000000) : EvS (xLc mi mg xYes me vs) ρ (.lst (l.map f)) :=
  evS_of (lc_eq hi h hb hz) (.inr ⟨_, rfl, rfl⟩)
theorem lcT_eq {mi : MI} {mg : MG} {mt : MT} {me : MX} {vs : List Nat} {l : List D} {t : D → Bool} {f : D → D} (hi : EvI mi ρ l) (h : ∀ x ∈ l, ∃ ρ1, mg x (emps ρ vs) = some ρ1 ∧ Tv mt ρ1 (t x) ∧ (t x = true → EvS me ρ1 (f x)) ∧ emps ρ1 vs = emps ρ vs) (hb : back ρ (emps ρ vs) vs = ρ) (hz : l.length ≤ 1000000) : xLc mi mg mt me vs ρ = .ok (.own ((l.filter t).map f), ρ) := by
  unfold EvI at hi
  unfold xLc
  simp only [hi, R_bind_ok]
  rw [lc_test (t := t) (f := f) (acc := []) (fun x hx => by
    obtain ⟨ρ1, h1, h2, h3, h4⟩ := h x hx
    refine ⟨ρ1, ρ1, h1, h2, h4, fun ht => ?_⟩
    obtain ⟨v, e, _, s⟩ := h3 ht
    exact ⟨v, ρ1, ρ1, e, s, h4⟩) (by simpa using hz)]
  simp only [R_bind_ok, List.nil_append, hb]
theorem evS_lcT {mi : MI} {mg : MG} {mt : MT} {me : MX} {vs : List Nat} {l : List D} {t : D → Bool} {f : D → D} (hi : EvI mi ρ l) (h : ∀ x ∈ l, ∃ ρ1, mg x (emps ρ vs) = some ρ1 ∧ Tv mt ρ1 (t x) ∧ (t x = true → EvS me ρ1 (f x)) ∧ emps ρ1 vs = emps ρ vs) (hb : back ρ (emps ρ vs) vs = ρ) (hz : l.length ≤ 1000000) : EvS (xLc mi mg mt me vs) ρ (.lst ((l.filter t).map f)) :=
  evS_of (lcT_eq hi h hb hz) (.inr ⟨_, rfl, rfl⟩)
theorem asg_own {i : Nat} {m : MX} {l : List D} (h : m ρ = .ok (.own l, ρ)) (hi : i < ρ.length) : sAsg i m ρ = .ok (.nx (ρ.set i (.own l))) := by
  unfold sAsg
  simp only [h, R_bind_ok, put, if_pos hi, rdO_some]
theorem asg_sh {i : Nat} {m : MX} (h : m ρ = .ok (.sh d, ρ)) (hi : i < ρ.length) : sAsg i m ρ = .ok (.nx (ρ.set i (.sh d))) := by
  unfold sAsg
  simp only [h, R_bind_ok, put, if_pos hi, rdO_some]
theorem lc_acc {S : Type} {mg : MG} {me : MX} {vs : List Nat} {ρs : S → Env} {Inv : List D → S → Prop} : ∀ {ds acc : List D} {s : S}, Inv acc s →
    (∀ d ∈ ds, ∀ acc' s, acc.length ≤ acc'.length → acc'.length < acc.length + ds.length → Inv acc' s → ∃ ρ1 v ρ2 x p s', mg d (ρs s) = some ρ1 ∧ me ρ1 = .ok (v, ρ2) ∧ share ρ2 v = some (x, p) ∧ emps p vs = ρs s' ∧ Inv (acc' ++ [x]) s') → acc.length + ds.length ≤ 1000000 →
    ∃ out s', lcLoop mg xYes me vs ds (ρs s) acc = .ok (out, ρs s') ∧ Inv out s' ∧ out.length = acc.length + ds.length
  | [], acc, s, hI, _, _ => ⟨acc, s, by simp [lcLoop], hI, by simp⟩
  | d :: ds, acc, s, hI, h, hz => by
    obtain ⟨ρ1, v, ρ2, x, p, s1, h1, h2, h3, h4, h5⟩ := h d (by simp) acc s (Nat.le_refl _) (by simp) hI
    have hz1 : szOk (acc.length + 1) = true := by
      unfold szOk
      simp at hz ⊢
      omega
    obtain ⟨out, s2, g1, g2, g3⟩ := lc_acc (ds := ds) (acc := acc ++ [x]) (s := s1) h5 (fun e he a s hk hk2 => h e (List.mem_cons_of_mem _ he) a s (by simp at hk; omega) (by simp at hk2 ⊢; omega)) (by simp at hz ⊢; omega)
    refine ⟨out, s2, ?_, g2, by rw [g3]; simp; omega⟩
    unfold lcLoop
    simp only [h1, rdO, xYes, R.noX, R.bind, h2, h3, hz1, h4, if_true]
    exact g1
theorem for_rt {mg : MG} {mb : MS} {ds : List D} {ρ1 ρ2 : Env} {v : Vl} (h1 : mg d ρ = some ρ1) (h2 : mb ρ1 = .ok (.rt v ρ2)) : forLoop mg mb (d :: ds) ρ = .ok (.rt v ρ2) := by
  unfold forLoop
  simp only [h1, rdO_some, h2, R_bind_ok]
theorem for_nx {mg : MG} {mb : MS} {ds : List D} {ρ1 ρ2 : Env} (h1 : mg d ρ = some ρ1) (h2 : mb ρ1 = .ok (.nx ρ2)) : forLoop mg mb (d :: ds) ρ = forLoop mg mb ds ρ2 := by
  conv => lhs; unfold forLoop
  simp only [h1, rdO_some, h2, R_bind_ok]
theorem if_yes {c : MT} {s t : MS} (h : Tv c ρ true) : sIf c s t ρ = s ρ := by
  unfold Tv at h
  unfold sIf
  simp only [h, R_bind_ok, if_true]
theorem if_no {c : MT} {s t : MS} (h : Tv c ρ false) : sIf c s t ρ = t ρ := by
  unfold Tv at h
  unfold sIf
  simp only [h, R_bind_ok, Bool.false_eq_true, if_false]
theorem seq_n {s t : MS} (h : s ρ = .ok (.nx ρ')) : sSeq s t ρ = t ρ' := by
  unfold sSeq
  simp only [h, R_bind_ok]
theorem seq_r {s t : MS} {v : Vl} (h : s ρ = .ok (.rt v ρ')) : sSeq s t ρ = .ok (.rt v ρ') := by
  unfold sSeq
  simp only [h, R_bind_ok]
theorem wh_go {mc : MT} {mb : MS} {n : Nat} {ρ1 : Env} (h : Tv mc ρ true) (hb : mb ρ = .ok (.nx ρ1)) : whLoop mc mb (n + 1) ρ = whLoop mc mb n ρ1 := by
  unfold Tv at h
  conv => lhs; unfold whLoop
  simp only [h, R_bind_ok, if_true, hb]
theorem wh_ret {mc : MT} {mb : MS} {n : Nat} {ρ1 : Env} {v : Vl} (h : Tv mc ρ true) (hb : mb ρ = .ok (.rt v ρ1)) : whLoop mc mb (n + 1) ρ = .ok (.rt v ρ1) := by
  unfold Tv at h
  conv => lhs; unfold whLoop
  simp only [h, R_bind_ok, if_true, hb]
theorem wh_out {mc : MT} {mb : MS} {n : Nat} (h : Tv mc ρ false) : whLoop mc mb (n + 1) ρ = .ok (.nx ρ) := by
  unfold Tv at h
  conv => lhs; unfold whLoop
  simp only [h, R_bind_ok, Bool.false_eq_true, if_false]
theorem grd_for {mi : MI} {mg : MG} {mb : MS} {l : List D} {p : D → Bool} {I : Env → Prop} (hi : EvI mi ρ l) (h0 : I ρ) (h : ∀ x ∈ l, ∀ ρ, I ρ → ∃ ρ1 ρ2, mg x ρ = some ρ1 ∧ I ρ2 ∧ Grd mb ρ1 (p x) ρ2) : ∃ ρ', I ρ' ∧ Grd (sFor mi mg mb) ρ (l.all p) ρ' := by
  unfold EvI at hi
  have key : ∀ (l : List D) (ρ : Env), I ρ → (∀ x ∈ l, ∀ ρ, I ρ → ∃ ρ1 ρ2, mg x ρ = some ρ1 ∧ I ρ2 ∧ Grd mb ρ1 (p x) ρ2) → ∃ ρ', I ρ' ∧ (l.all p = true → forLoop mg mb l ρ = .ok (.nx ρ')) ∧ (l.all p = false → ∃ ρ'', forLoop mg mb l ρ = .ok (.rt (.sh (.bl false)) ρ'')) := by
    intro l
    induction l with
    | nil => exact fun ρ h0 _ => ⟨ρ, h0, fun _ => rfl, fun h => by simp at h⟩
    | cons x l ih =>
      intro ρ h0 h
      obtain ⟨ρ1, ρ2, h1, h2, h3⟩ := h x (by simp) ρ h0
      cases hp : p x with
      | true =>
        obtain ⟨ρ', k1, k2, k3⟩ := ih ρ2 h2 fun y hy => h y (List.mem_cons_of_mem _ hy)
        have e := h3.1 hp
        refine ⟨ρ', k1, fun ha => ?_, fun ha => ?_⟩
        · rw [List.all_cons, hp, Bool.true_and] at ha
          unfold forLoop
          simp only [h1, rdO_some, e, R_bind_ok]
          exact k2 ha
        · rw [List.all_cons, hp, Bool.true_and] at ha
          obtain ⟨ρ'', k⟩ := k3 ha
          refine ⟨ρ'', ?_⟩
          unfold forLoop
          simp only [h1, rdO_some, e, R_bind_ok]
          exact k
      | false =>
        obtain ⟨ρ'', e⟩ := h3.2 hp
        refine ⟨ρ2, h2, fun ha => (by rw [List.all_cons, hp] at ha; simp at ha), fun _ => ⟨ρ'', ?_⟩⟩
        unfold forLoop
        simp only [h1, rdO_some, e, R_bind_ok]
  obtain ⟨ρ', k1, k2, k3⟩ := key l ρ h0 h
  refine ⟨ρ', k1, fun ha => ?_, fun ha => ?_⟩
  · unfold sFor
    simp only [hi, R_bind_ok]
    exact k2 ha
  · obtain ⟨ρ'', k⟩ := k3 ha
    refine ⟨ρ'', ?_⟩
    unfold sFor
    simp only [hi, R_bind_ok]
    exact k
theorem grd_no {c : MT} {k : Bool} (h : Tv c ρ k) : Grd (sIf c (sRet (xC (.bl false))) sNext) ρ (!k) ρ := by
  unfold Tv at h
  cases k with
  | true =>
    refine ⟨fun h => (by cases h), fun _ => ⟨ρ, ?_⟩⟩
    unfold sIf
    simp only [h, R_bind_ok, if_true]
    rfl
  | false =>
    refine ⟨fun _ => ?_, fun h => (by cases h)⟩
    unfold sIf
    simp only [h, R_bind_ok, Bool.false_eq_true, if_false, sNext]
theorem grd_seq {s t : MS} {k j : Bool} {ρ1 : Env} (h : Grd s ρ k ρ1) (r : k = true → Grd t ρ1 j ρ') : Grd (sSeq s t) ρ (k && j) ρ' := by
  cases k with
  | true =>
    have e := h.1 rfl
    refine ⟨fun hj => ?_, fun hj => ?_⟩
    · unfold sSeq
      simp only [e, R_bind_ok]
      exact (r rfl).1 hj
    · obtain ⟨ρ'', q⟩ := (r rfl).2 hj
      refine ⟨ρ'', ?_⟩
      unfold sSeq
      simp only [e, R_bind_ok]
      exact q
  | false =>
    refine ⟨fun h => (by cases h), fun _ => ?_⟩
    obtain ⟨ρ2, e⟩ := h.2 rfl
    refine ⟨ρ2, ?_⟩
    unfold sSeq
    simp only [e, R_bind_ok]
theorem grd_nx {s t : MS} {j : Bool} {ρ1 : Env} (h : Nxt s ρ ρ1) (r : Grd t ρ1 j ρ') : Grd (sSeq s t) ρ j ρ' := by
  have : Grd s ρ true ρ1 := ⟨fun _ => h, fun h => by cases h⟩
  have := grd_seq this fun _ => r
  rwa [Bool.true_and] at this
end DL
end
section
set_option maxRecDepth 100000
set_option maxHeartbeats 2000000
namespace DL
open PySem PySem.Spec PyProof.Rows L2
open Evl (Ex ex_rd ex_l ex_t)
section
variable {K : PySem.W.Frag} {ct : Ct} {E : XK} {B H B' H' B1 H1 B2 H2 : Hp} {σ σ' : L2.St} {ρ ρ' : Env} {f0 f1 f2 : Fps} {v : V} {r : Vl} {f g : List Addr} {fix : Nat → Bool}
theorem Rel.growI {p : Addr} {o : HO} (R : Rel K B H σ ρ f0) (hp : B p = none) (hH : H p = some o) (ho : ∀ φ, o ≠ .ext φ) (no : ¬ Owned f0 p) : Rel K (upd B p o) H σ ρ f0 where
  len := R.len
  ex := fun a u q => by
    by_cases e : a = p
    · subst e
      rw [upd_same] at q
      cases q
      exact hH
    · rw [upd_ne e] at q
      exact R.ex a u q
  pl := R.pl.upd ho
  ok := fun i s q => (R.ok i s q).lift hp
  out := R.out
  dis := R.dis
  off := fun i a ha => ⟨by
    rw [upd_ne (fun z => no ⟨i, by rw [← z]; exact ha⟩)]
    exact (R.off i a ha).1, (R.off i a ha).2⟩
theorem frm_grow {p : Addr} {o : HO} {P : Addr → Prop} (hp : P p) (hb : B p = none) : Frm B H P (upd B p o) H P where
  bb := Ex.new hb
  keep := fun a o q _ => q
  off := fun a q1 _ n => by rw [upd_ne (fun z => n (by rw [z]; exact hp))]; exact q1
  own := fun a z => .inl z
  dom := fun _ q => q
def xShI (m : MX) : MX := fun ρ => R.bind (m ρ) fun a => match a.1 with
  | .sh d => .ok (.sh d, a.2)
  | .ob (.ins fl ns ds) => .ok (.sh (.ins fl ns ds), a.2)
  | _ => .bad
theorem im_shI {t : TE} {m : MX} (ha : Imp K ct E t m) : Imp K ct E t (xShI m) := by
  intro B H σ ρ f0 Q R h
  refine ha B H σ ρ f0 _ R (h.first fun a ea h v B1 H1 f1 f x => ?_)
  obtain ⟨r, ρ1⟩ := a
  cases r with
  | sh d => exact h v B1 H1 f1 f x
  | own l => exact h.elim
  | drw l => exact h.elim
  | bor l => exact h.elim
  | ob o =>
    cases o with
    | exc C p => exact h.elim
    | dct l => exact h.elim
    | dtt l => exact h.elim
    | ins fl ns ds =>
      have val : ObOk K B1 H1 (some v) (.ins fl ns ds) f := x.val
      have off := x.off
      have frm := x.frm
      have rel := x.rel
      clear x
      generalize hw : some v = w at val
      cases val with
      | ins gc g1 g2 g3 g4 g5 =>
        rename_i C p dx xs
        cases hw
        have hp := off p (by simp)
        have hd := off dx (by simp)
        have np : ∀ φ, (HO.ins C dx (ns.zip xs)) ≠ .ext φ := fun _ z => by cases z
        have nd : ∀ φ, (HO.own p) ≠ .ext φ := fun _ z => by cases z
        have b2 : upd B1 p (.ins C dx (ns.zip xs)) dx = none := by rw [upd_ne (Ne.symm g1)]; exact hd.1
        have R2 := (rel.growI hp.1 g2 np hp.2).growI b2 g3 nd hd.2
        have e1 : Ex B1 (upd B1 p (.ins C dx (ns.zip xs))) := Ex.new hp.1
        have e2 := e1.trans (Ex.new (o := .own p) b2)
        refine h (.ref p) _ H1 f1 [] ⟨R2, ⟨rfl, _, rfl, .ins (dx := dx) (xs := xs) gc (by rw [upd_ne g1, upd_same]) upd_same (g4.mono e2) g5⟩, fun _ z => (nomatch z), ?_⟩
        refine ((frm.trans (frm_grow (p := p) (o := .ins C dx (ns.zip xs)) (P := fun a => Owned f1 a ∨ a ∈ [p, dx]) (.inr (by simp)) hp.1)).trans (frm_grow (p := dx) (o := .own p) (P := fun a => Owned f1 a ∨ a ∈ [p, dx]) (.inr (by simp)) b2)).to fun a z => .inl ?_
        rcases z with z | z
        · exact .inl z
        · exact (nomatch z)
def xNewI (fl : List Str) (F : Fn) (m : MA) : MX := fun ρ => R.bind (m ρ) fun a => rdO (shares a.2 a.1) fun p => R.bind (F (.ob (.ins fl [] []) :: shF p.1)) fun w => match w.1, w.2 with
  | .sh .non, .ob o :: _ => .ok (.ob o, p.2)
  | _, _ => .bad
theorem im_newI {C : Addr} {fl : List Str} {F : Fn} {t : TA} {m : MA} (gc : InsC K C fl) (ha : ImpA K ct E t m) : Imp K ct E (tMake C (spM K ct F) [] E t) (xNewI fl F m) := by
  intro B H σ ρ f0 Q R h
  refine ha B H σ ρ f0 _ R (h.first fun a ea h vs B1 H1 f1 g x => ?_)
  obtain ⟨p, e1, h⟩ := h.get
  obtain ⟨B2, f2, R2, hd, fr⟩ := x.shared (ρ' := p.2) (ds := p.1) e1
  intro X dx nX nD ne
  rw [List.append_nil]
  have bX : B2 X = none := Rel.fresh R2.ex nX
  have bD : B2 dx = none := Rel.fresh R2.ex nD
  have ex2 : Ex H1 (upd (upd H1 dx (.own X)) X (.ins C dx [])) := (Ex.new nD).trans (Ex.new (by rw [upd_ne (Ne.symm ne)]; exact nX))
  have noF2 : ∀ a, (a = X ∨ a = dx) → ¬ Owned f2 a := fun a z ⟨i, q⟩ => by
    have := (R2.off i a q).2
    rcases z with rfl | rfl
    · exact this nX
    · exact this nD
  have fr0 : ∀ {S : Addr → Prop}, Frm B2 H1 S B2 (upd (upd H1 dx (.own X)) X (.ins C dx [])) S := fun {S} => ⟨fun _ _ q => q, fun a o q _ => ex2 a o q, fun a q _ _ => q, fun a q => .inl q, fun a q => by
    cases e : H1 a with
    | none => exact absurd e q
    | some o => rw [ex2 a o e]; simp⟩
  have R2' : Rel K B2 (upd (upd H1 dx (.own X)) X (.ins C dx [])) σ p.2 f2 := R2.frm (fr0 (S := fun _ => False)) (R2.ex.trans ex2) R2.pl fun _ _ z => z
  have RA : Rel K B2 (upd (upd H1 dx (.own X)) X (.ins C dx [])) ((V.ref X :: vs).map some) (.ob (.ins fl [] []) :: shF p.1) (fun i => if i = 0 then [X, dx] else []) := by
    have S := Rel.shs (K := K) (B := B2) R2'.ex R2'.pl hd
    refine ⟨by rw [List.map_cons, List.length_cons, List.length_cons, S.len], S.ex, S.pl, fun i s q => ?_, fun i q => ?_, fun i j a h1 h2 => ?_, fun i a h1 => ?_⟩
    · cases i with
      | zero =>
        cases q
        exact ObOk.ins (xs := []) gc (Ne.symm ne) upd_same (by rw [upd_ne ne, upd_same]) .nil rfl
      | succ i => exact S.ok i s (by simpa using q)
    · cases i with
      | zero => simp at q
      | succ i => rfl
    · by_cases hi : i = 0
      · by_cases hj : j = 0
        · rw [hi, hj]
        · simp [hj] at h2
      · simp [hi] at h1
    · by_cases hi : i = 0
      · simp only [hi, if_true] at h1
        rcases (by simpa using h1 : a = X ∨ a = dx) with rfl | rfl
        · exact ⟨bX, by rw [upd_same]; simp⟩
        · exact ⟨bD, by rw [upd_ne ne, upd_same]; simp⟩
      · simp [hi] at h1
  have ofa : ∀ a, Owned (fun i => if i = 0 then [X, dx] else []) a ↔ (a = X ∨ a = dx) := fun a => ⟨fun ⟨i, q⟩ => by
    by_cases hi : i = 0
    · simpa [hi] using q
    · simp [hi] at q, fun q => ⟨0, by simpa using q⟩⟩
  have frA : Frm B H (Owned f0) B2 (upd (upd H1 dx (.own X)) X (.ins C dx [])) (fun a => Owned f2 a ∨ Owned (fun i => if i = 0 then [X, dx] else []) a) := fr.trans ((fr0 (S := Owned f2)).to fun a z => by
    rcases z with z | z
    · exact .inl z
    · rcases (ofa a).mp z with rfl | rfl
      · exact .inr (.inr nX)
      · exact .inr (.inr nD))
  refine ⟨B2, _, _, RA, h.step frA (fun _ z => .inr z) fun w ew h v B3 H3 f3 k y => ?_⟩
  obtain ⟨w1, w2⟩ := w
  split at h
  · rename_i o rest e1' e2'
    have e1' : w1 = .sh .non := e1'
    have e2' : w2 = .ob o :: rest := e2'
    subst e1' e2'
    have hv : v = .non := by
      obtain ⟨_, z, ez, dz⟩ := y.val
      cases ez
      cases dz
      rfl
    refine ⟨hv, ?_⟩
    have ok : SlOk K B3 H3 (some (V.ref X)) (.ob o) (f3 0) := y.rel.ok 0 (.ob o) rfl
    have R3 : Rel K B3 H3 σ p.2 f2 := R2'.frm y.frm y.rel.ex y.rel.pl fun a z q => noF2 a ((ofa a).mp q) z
    refine h (.ref X) B3 H3 f2 (f3 0) ⟨R3, ok, fun a ha => ⟨(y.rel.off 0 a ha).1, fun ⟨i, hi⟩ => ?_⟩, ?_⟩
    · exact y.frm.apart (R2'.off i a hi).2 (fun z => noF2 a ((ofa a).mp z) ⟨i, hi⟩) (.inl ⟨0, ha⟩)
    · exact frA.trans (((y.frm.side (Owned f2)).pre (fun a z => z.symm) fun a z => z.symm).to fun a z => by
        rcases z with z | z
        · exact .inl (.inr z)
        · exact .inl (.inl (.inl ⟨0, z⟩)))
  · exact h.elim
def insOf (ρ : Env) : Vl → Option (List Str × List Str × List D)
  | .sh (.ins fl ns ds) => some (fl, ns, ds)
  | .bor i => match ρ[i]? with
    | some (.ob (.ins fl ns ds)) => some (fl, ns, ds)
    | _ => none
  | _ => none
def xFldI (n : Str) (m : MX) : MX := fun ρ => R.bind (m ρ) fun a => rdO (insOf a.2 a.1) fun q => if n ∈ q.1 then rdO ((q.2.1.zip q.2.2).lookup n) fun d => .ok (.sh d, a.2) else .bad
theorem lookup_zip {n : Str} {d : D} : ∀ {ns : List Str} {xs : List V} {ds : List D}, DVs K B xs ds → (ns.zip ds).lookup n = some d → ∃ x, (ns.zip xs).lookup n = some x ∧ DV K B x d
  | [], _, _, _, h => by simp at h
  | _ :: _, _, _, .nil, h => by simp at h
  | m :: ns, _, _, .cons (v := v) h1 h2, h => by
    rw [List.zip_cons_cons, List.lookup_cons] at h
    rw [List.zip_cons_cons, List.lookup_cons]
    cases e : n == m with
    | true =>
      rw [e] at h
      cases h
      exact ⟨v, rfl, h1⟩
    | false =>
      rw [e] at h
      exact lookup_zip h2 h
theorem im_fldI {n : Str} {t : TE} {m : MX} (ha : Imp K ct E t m) : Imp K ct E (tFld K t n) (xFldI n m) := by
  intro B H σ ρ f0 Q R h
  refine ha B H σ ρ f0 _ R (h.first fun a ea h v B1 H1 f1 f x => ?_)
  obtain ⟨q, e1, h⟩ := h.get
  obtain ⟨fl, ns, ds⟩ := q
  by_cases hc : n ∈ fl
  · have h' : Post ct E H f0 (rdO ((ns.zip ds).lookup n) fun d => .ok (.sh d, a.2)) (XOk K B H σ f0 Q) := by
      have h := h
      simp only [hc, if_true] at h
      exact h
    clear h
    obtain ⟨d, e2, h⟩ := h'.get
    obtain ⟨r, ρ1⟩ := a
    have key : ∃ C p dx xs, v = .ref p ∧ InsC K C fl ∧ H1 p = some (.ins C dx (ns.zip xs)) ∧ DVs K B1 xs ds := by
      cases r with
      | sh d' =>
        cases d' <;> first | (cases e1; done) | skip
        cases e1
        obtain ⟨_, z, ez, dz⟩ := x.val
        cases ez
        cases dz with
        | ins gc g1 g2 g3 g4 => exact ⟨_, _, _, _, rfl, gc, x.rel.ex _ _ g1, g3⟩
      | own l => cases e1
      | drw l => cases e1
      | ob l => cases e1
      | bor i =>
        obtain ⟨_, ev⟩ := x.val
        have e1 : (match ρ1[i]? with
          | some (.ob (.ins fl ns ds)) => some (fl, ns, ds)
          | _ => none) = some (fl, ns, ds) := e1
        split at e1
        · rename_i fl' ns' ds' es
          cases e1
          have ok := x.rel.ok i _ es
          rw [ev] at ok
          have ok : ObOk K B1 H1 (some v) (.ins fl ns ds) (f1 i) := ok
          generalize some v = w at ok ev
          generalize f1 i = ff at ok
          cases ok with
          | ins gc g1 g2 g3 g4 g5 =>
            exact ⟨_, _, _, _, by
              have := x.val.2
              rw [ev] at this
              exact (Option.some.inj (Option.some.inj this)).symm, gc, g2, g4⟩
        · cases e1
    obtain ⟨C, p, dx, xs, rfl, gc, g1, g2⟩ := key
    obtain ⟨y, ey, dy⟩ := lookup_zip g2 e2
    exact ⟨p, C, dx, _, y, rfl, g1, gc.cls, gc.na _ hc, ey, h _ _ _ _ _ ⟨x.rel, ⟨rfl, y, rfl, dy⟩, fun _ z => (nomatch z), x.frm.to fun a z => .inl (z.elim .inl fun z => (nomatch z))⟩⟩
  · simp only [hc, if_false] at h
    exact h.elim
def putN (n : Str) : List Str → List Str
  | [] => [n]
  | m :: r => if m = n then m :: r else m :: putN n r
def putA {α : Type} (n : Str) (v : α) : List Str → List α → List α
  | m :: r, x :: t => if m = n then v :: t else x :: putA n v r t
  | _, _ => [v]
theorem putF_zip {n : Str} {v : V} : ∀ {ns : List Str} {xs : List V}, ns.length = xs.length → putF n v (ns.zip xs) = (putN n ns).zip (putA n v ns xs) ∧ (putN n ns).length = (putA n v ns xs).length
  | [], [], _ => ⟨rfl, rfl⟩
  | [], _ :: _, h => by simp at h
  | _ :: _, [], h => by simp at h
  | m :: ns, x :: xs, h => by
    obtain ⟨h1, h2⟩ := putF_zip (n := n) (v := v) (ns := ns) (xs := xs) (by simpa using h)
    rw [List.zip_cons_cons]
    unfold putF putN putA
    by_cases e : m = n
    · rw [if_pos e, if_pos e, if_pos e]
      exact ⟨rfl, by simpa using h⟩
    · rw [if_neg e, if_neg e, if_neg e, h1]
      exact ⟨rfl, by simp [h2]⟩
theorem putA_dv {n : Str} {v : V} {d : D} (hv : DV K B v d) : ∀ {ns : List Str} {xs : List V} {ds : List D}, DVs K B xs ds → DVs K B (putA n v ns xs) (putA n d ns ds)
  | [], _, _, h => by
    cases h <;> exact .cons hv .nil
  | _ :: _, _, _, .nil => .cons hv .nil
  | m :: ns, _, _, .cons h1 h2 => by
    unfold putA
    by_cases e : m = n
    · rw [if_pos e, if_pos e]
      exact .cons hv h2
    · rw [if_neg e, if_neg e]
      exact .cons h1 (putA_dv hv h2)
def insS : Option Sl → Option (List Str × List Str × List D)
  | some (.ob (.ins fl ns ds)) => some (fl, ns, ds)
  | _ => none
theorem Rel.insS {i : Nat} {fl ns : List Str} {ds : List D} (R : Rel K B H σ ρ f0) (h : insS ρ[i]? = some (fl, ns, ds)) : ∃ C a dx xs, InsC K C fl ∧ σ[i]? = some (some (.ref a)) ∧ f0 i = [a, dx] ∧ a ≠ dx ∧ H a = some (.ins C dx (ns.zip xs)) ∧ H dx = some (.own a) ∧ DVs K B xs ds ∧ ns.length = xs.length ∧ i < ρ.length := by
  cases e : ρ[i]? with
  | none => rw [e] at h; cases h
  | some s =>
    rw [e] at h
    have ok := R.ok i s e
    have hi := (List.getElem?_eq_some_iff.mp e).1
    cases s <;> first | (cases h; done) | skip
    rename_i o
    cases o <;> first | (cases h; done) | skip
    cases h
    have ok : ObOk K B H (σ[i]?).join (.ins fl ns ds) (f0 i) := ok
    generalize hv : (σ[i]?).join = w at ok
    generalize hf : f0 i = ff at ok
    cases ok with
    | ins gc g1 g2 g3 g4 g5 => exact ⟨_, _, _, _, gc, join_some hv, rfl, g1, g2, g3, g4, g5, hi⟩
def sFldI (n : Str) (i : Nat) (m : MX) : MS := fun ρ => R.bind (m ρ) fun a => rdO (share a.2 a.1) fun p => rdO (insS p.2[i]?) fun q => if n ∈ q.1 ∧ q.2.1.length < 900 then .ok (.nx (p.2.set i (.ob (.ins q.1 (putN n q.2.1) (putA n p.1 q.2.1 q.2.2))))) else .bad
theorem is_fldI {n : Str} {i : Nat} {t : TE} {m : MX} (ha : Imp K ct E t m) : ImpS K ct E fix (sFld K (tVar i) t n) (sFldI n i m) := by
  intro B H σ ρ f0 Z R h
  refine ha B H σ ρ f0 _ R (h.first fun a ea h v B1 H1 f1 f x => ?_)
  obtain ⟨s, e1, h⟩ := h.get
  obtain ⟨B2, f2, y, hd⟩ := x.shared (ρ' := s.2) (d := s.1) e1
  obtain ⟨q, e2, h⟩ := h.get
  obtain ⟨fl, ns, ds⟩ := q
  by_cases hc : n ∈ fl ∧ ns.length < 900
  · have h' : Post ct E H f0 (DL.R.ok (Out.nx (s.2.set i (.ob (.ins fl (putN n ns) (putA n s.1 ns ds)))))) (OutOk K B H σ f0 fix Z) := by
      have h := h
      simp only [if_pos hc] at h
      exact h
    clear h
    obtain ⟨hn, hl⟩ := hc
    obtain ⟨C, p, dx, xs, gc, q1, q2, q3, q4, q5, q6, q7, q8⟩ := y.rel.insS e2
    obtain ⟨z1, z2⟩ := putF_zip (n := n) (v := v) q7
    refine ⟨_, q1, p, C, dx, _, rfl, q4, gc.cls, gc.na _ hn, by rw [List.length_zip]; omega, ?_⟩
    rw [z1]
    refine h' _ _ _ f2 ⟨y.rel.mutS q8 (by rw [q2]; simp) ?_, y.frm.trans (frm_upd ⟨i, by rw [q2]; simp⟩), fun j _ => rfl⟩
    rw [q1, q2]
    exact ObOk.ins gc q3 upd_same (by rw [upd_ne (Ne.symm q3)]; exact q5) (putA_dv hd q6) z2
  · simp only [if_neg hc] at h
    exact h.elim
def itemsS : D → Option (List D)
  | .tup l => some l
  | .lst l => some l
  | _ => none
def aStar (m : MX) (n : MA) : MA := fun ρ => R.bind (m ρ) fun a => rdO (rdv a.2 a.1) fun d => rdO (itemsS d) fun l => R.bind (n a.2) fun b => .ok (l.map .sh ++ b.1, b.2)
theorem vls_sh {ws : List V} {rs : List Vl} (h : VlsOk K B H σ ws rs g) : ∀ {xs : List V} {ds : List D}, DVs K B xs ds → VlsOk K B H σ (xs ++ ws) (ds.map .sh ++ rs) g
  | _, _, .nil => h
  | _, _, .cons h1 h2 => VlsOk.cons (f := []) ⟨rfl, _, rfl, h1⟩ (vls_sh h h2) fun _ z => (nomatch z)
theorem ia_star {t : TE} {u : TA} {m : MX} {n : MA} (ha : Imp K ct E t m) (hb : ImpA K ct E u n) : ImpA K ct E (StX.tStar K t u) (aStar m n) := by
  intro B H σ ρ f0 Q R h
  refine ha B H σ ρ f0 _ R (h.first fun a ea h v B1 H1 f1 f x => ?_)
  obtain ⟨d, e1, h⟩ := h.get
  obtain ⟨l, e2, h⟩ := h.get
  have hv := x.val.rd x.rel e1
  have key : ∃ p xs, v = V.ref p ∧ (SqT K H1 p xs ∨ SqL K H1 p xs) ∧ DVs K B1 xs l := by
    cases d <;> first | (cases e2; done) | skip
    · cases e2
      cases hv with
      | tup h1 h2 => exact ⟨_, _, rfl, .inl (ex_t x.rel.ex h1), h2⟩
    · cases e2
      obtain ⟨p, xs, rfl, h1, h2⟩ := hv
      exact ⟨p, xs, rfl, .inr (SqL.of h1), h2⟩
  obtain ⟨p, xs, rfl, hs, hx⟩ := key
  refine ⟨p, xs, rfl, hs, hb B1 H1 σ a.2 f1 _ x.rel (h.step x.frm (fun _ z => .inl z) fun b eb h vs B2 H2 f2 g y => ?_)⟩
  refine h (xs ++ vs) B2 H2 f2 g ⟨y.rel, vls_sh y.val (hx.mono y.frm.bb), y.off, ?_⟩
  exact (x.frm.to (Q' := Owned f1) fun a z => .inl (.inl z)).trans y.frm
end
end DL
end
section
set_option maxRecDepth 100000
set_option maxHeartbeats 2000000
namespace DL
open PySem PySem.Spec PyProof.Rows L2
open Evl (Ex ex_rd ex_l ex_t)
def repS (k : Nat) (a : Str) : Str := ⟨(List.replicate k a.cps).foldl (· ++ ·) #[]⟩
theorem foldl_arr (l : List (Array Nat)) (z : Array Nat) : (l.foldl (· ++ ·) z).toList = z.toList ++ (l.map (·.toList)).flatten := by
  induction l generalizing z with
  | nil => simp
  | cons a l ih =>
    rw [List.foldl_cons, ih]
    simp
theorem repS_list (k : Nat) (a : Str) : (repS k a).cps.toList = (List.replicate k a.cps.toList).flatten := by
  unfold repS
  rw [foldl_arr]
  simp
theorem repS_ext {a b : Str} (h : a.cps.toList = b.cps.toList) : a = b := by
  cases a; cases b
  congr
  exact Array.toList_inj.mp h
def rMulS : R2 := fun x y H Q => ∃ (a : Str) (k : Nat), x = .str a ∧ y = .int (k : Int) ∧ k ≤ 1000000 ∧ a.length * k ≤ 1000000 ∧ Q (.str (repS k a)) H
section
variable {X : Cx}
theorem op_mulS : OpR X (binaryOp .Mult) rMulS := by
  intro pins s σ H x y v u Q I rx ry h
  obtain ⟨a, k, rfl, rfl, h1, h2, q⟩ := h
  obtain ⟨t, rfl⟩ := rx
  obtain ⟨t', rfl⟩ := ry
  refine PySem.P.mul_str ?_ (fun c1 c2 => ?_) (fun c1 c2 => ?_) ?_
  · rw [decide_eq_false (by omega), decide_eq_false (by omega)]
    rfl
  · have hk : (0 : Int) < (k : Int) := by omega
    refine Int.not_lt.mpr ((Int.le_ediv_iff_mul_le hk).mpr ?_)
    have : ((a.length : Nat) : Int) * ((k : Nat) : Int) ≤ 1000000 := by
      have e : ((a.length * k : Nat) : Int) = (a.length : Int) * (k : Int) := Int.natCast_mul _ _
      omega
    omega
  · unfold Builtin.Str.tooLong
    rw [Int.toNat_natCast]
    exact decide_eq_false (by rw [sizeLine_eq]; omega)
  · by_cases c1 : (k : Int) < 1
    · rw [if_pos c1]
      have k0 : k = 0 := by omega
      subst k0
      exact ⟨by decide, .str Str.empty, H, I.tok _, ⟨_, rfl⟩, q⟩
    · rw [if_neg c1]
      by_cases c2 : ((k : Int) == 1 || a.length == 0) = true
      · rw [if_pos c2]
        have e : repS k a = a := by
          apply repS_ext
          rw [repS_list]
          rcases (by simpa using c2 : (k : Int) = 1 ∨ a.length = 0) with h | h
          · have : k = 1 := by omega
            subst this
            simp
          · have l0 : a.cps.toList = [] := by
              have : a.cps.toList.length = 0 := by
                have : a.cps.size = 0 := h
                simpa using this
              exact List.eq_nil_of_length_eq_zero this
            rw [l0]
            induction k with
            | zero => rfl
            | succ k ih => simp
        rw [e] at q
        exact ⟨.str a, H, I, ⟨_, rfl⟩, q⟩
      · rw [if_neg c2, Int.toNat_natCast]
        exact ⟨by
          show (repS k a).length ≤ sizeLine
          have : (repS k a).length = k * a.length := by
            have e : (repS k a).length = (repS k a).cps.toList.length := by
              show (repS k a).cps.size = _
              simp
            rw [e, repS_list, List.length_flatten]
            simp
            rfl
          rw [this, sizeLine_eq, Nat.mul_comm]
          omega, .str (repS k a), H, I.tok _, ⟨_, rfl⟩, q⟩
def rRepU (K : PySem.W.Frag) : R2 := fun x y H Q => ∃ l k xs, x = .ref l ∧ y = .int k ∧ SqT K H l xs ∧ xs ≠ [] ∧ 2 ≤ k ∧ k ≤ 10000 ∧ xs.length ≤ 1000 ∧ ∀ p, H p = none → Q (.ref p) (upd H p (.tup (List.replicate k.toNat xs).flatten))
theorem op_repU : OpR X (binaryOp .Mult) (rRepU X.K) := by
  intro pins s σ H x y v u Q I rx ry h
  obtain ⟨l, k, xs, rfl, rfl, hT, hne, h1, h2, hz, q⟩ := h
  cases rx
  obtain ⟨t, rfl⟩ := ry
  obtain ⟨its, r, ⟨⟨cls, dd, data, sl⟩, ho, hc, n, hd⟩, hs⟩ := I.tuple hT
  simp only at hc hd
  subst hc hd
  have hle : its.length = xs.length := r.length.symm
  have hn : its ≠ [] := fun e => hne (by
    rw [e] at hle
    exact List.eq_nil_of_length_eq_zero hle.symm)
  have hi : its.toArray.isEmpty = false := by
    cases its with
    | nil => exact absurd rfl hn
    | cons a b => rfl
  have hsz0 : its.toArray.size = xs.length := by rw [List.size_toArray, hle]
  have hm : ((its.toArray.size : Nat) : Int) * k ≤ 10000000 := by
    rw [hsz0]
    have a1 : ((xs.length : Nat) : Int) * k ≤ 1000 * k := Int.mul_le_mul_of_nonneg_right (by omega) (by omega)
    omega
  have flen : (List.replicate k.toNat its).flatten.length ≤ sizeLine := by
    rw [PyProof.Rows.lm_len_rep_flat, hle, sizeLine_eq]
    have a1 : k.toNat * xs.length ≤ 10000 * 1000 := Nat.mul_le_mul (by omega) hz
    omega
  have c0 : (decide (k < -(2 ^ 63)) || decide (k ≥ 2 ^ 63)) = false := by
    rw [decide_eq_false (by omega), decide_eq_false (by omega)] <;> rfl
  have c1 : (its.toArray.isEmpty || k == 1) = false := by
    rw [hi, Bool.false_or]
    exact beq_eq_false_iff_ne.mpr (by omega)
  have c2 : (decide (k ≤ 0) || its.toArray.isEmpty) = false := by
    rw [hi, Bool.or_false]
    exact decide_eq_false (by omega)
  have c4 : Builtin.Tuple.tupleTooMany (((its.toArray.size : Nat) : Int) * k) = false := by
    unfold Builtin.Tuple.tupleTooMany
    rw [sizeLine_eq]
    exact decide_eq_false (by omega)
  refine wpAny_binaryOp_repeat_ref (T := "tuple") (U := "int") (by decide) ⟨_, ho, rfl⟩ (fun s' => typeIs_int s' k t) noFill_tuple_mul F.fills_int_mul F.slot_int_rmul repeat_tuple F.slot_int_index.lookup
    (call_meets F.slot_int_rmul (typeIs_int s k t) F.entry_int_rmul (F.args_int_rmul_2 _ _) (int_rmul_tuple k t l its.toArray n dd sl)
      ⟨ho, rfl, ⟨_, ho, rfl⟩, call_meets F.slot_tuple_mul ⟨_, ho, rfl⟩ F.entry_tuple_mul (F.args_tuple_mul_2 _ _) (tuple_mulW l its.toArray n dd sl k t c0 c1 c2 (by omega) c4 (by rw [size_rep, List.size_toArray]; exact flen)) ⟨ho, ?_⟩⟩)
  rw [size_rep]
  refine ⟨.ref s.heap.objs.size, _, I.laid (t' := s.toks) (o := .tup (List.replicate k.toNat xs).flatten) (fun b ob q => Heap.get?_push_of_some _ q) (Nat.le_refl _) ?_, rfl, q _ (I.hok.fresh (Nat.le_refl _))⟩
  exact ⟨by rw [PyProof.Rows.lm_len_rep_flat, sizeLine_eq]; have a1 : k.toNat * xs.length ≤ 10000 * 1000 := Nat.mul_le_mul (by omega) hz; omega, _, r.rep k.toNat, IsTup.new _ _⟩
def gRepS : D → D → Option Vl
  | .str a, .int k => if (decide (0 ≤ k) && decide (k ≤ 1000000) && szOk (a.length * k.toNat)) = true then some (.sh (.str (repS k.toNat a))) else none
  | _, _ => none
def gRepU : D → D → Option Vl
  | .tup a, .int k => if (!a.isEmpty && decide (2 ≤ k) && decide (k ≤ 10000) && decide (a.length ≤ 1000)) = true then some (.sh (.tup (List.replicate k.toNat a).flatten)) else none
  | _, _ => none
end
section
variable {K : PySem.W.Frag}
theorem gi_repS : OpI K rMulS gRepS := by
  intro B H x y dx dy z e hx hy h Q q
  cases dx <;> first | (cases h; done) | skip
  cases dy <;> first | (cases h; done) | skip
  rename_i a k
  have h : (if (decide (0 ≤ k) && decide (k ≤ 1000000) && szOk (a.length * k.toNat)) = true then some (Vl.sh (D.str (repS k.toNat a))) else none) = some z := h
  by_cases hc : (decide (0 ≤ k) && decide (k ≤ 1000000) && szOk (a.length * k.toNat)) = true
  · rw [if_pos hc] at h
    cases h
    cases hx
    cases hy
    simp only [Bool.and_eq_true, decide_eq_true_eq] at hc
    obtain ⟨⟨h1, h2⟩, h3⟩ := hc
    have h3 : a.length * k.toNat ≤ 1000000 := of_decide_eq_true h3
    exact ⟨a, k.toNat, rfl, by rw [Int.toNat_of_nonneg h1], by omega, h3, q _ _ _ _ (New.sc e (.str _))⟩
  · rw [if_neg hc] at h
    cases h
theorem gi_repU : OpI K (rRepU K) gRepU := by
  intro B H x y dx dy z e hx hy h Q q
  cases dx <;> first | (cases h; done) | skip
  cases dy <;> first | (cases h; done) | skip
  rename_i i j
  have h : (if (!i.isEmpty && decide (2 ≤ j) && decide (j ≤ 10000) && decide (i.length ≤ 1000)) = true then some (Vl.sh (D.tup (List.replicate j.toNat i).flatten)) else none) = some z := h
  by_cases hc : (!i.isEmpty && decide (2 ≤ j) && decide (j ≤ 10000) && decide (i.length ≤ 1000)) = true
  · rw [if_pos hc] at h
    cases h
    cases hx with
    | tup a1 a2 =>
    cases hy
    simp only [Bool.and_eq_true, decide_eq_true_eq, Bool.not_eq_true'] at hc
    obtain ⟨⟨⟨h1, h2⟩, h3⟩, h4⟩ := hc
    refine ⟨_, j, _, rfl, rfl, ex_t e a1, fun z => ?_, h2, h3, by rw [a2.len]; exact h4, fun l hl => q _ _ _ _ (New.tup e hl (a2.reps _))⟩
    rw [(a2.nil_iff).mp z] at h1
    cases h1
  · rw [if_neg hc] at h
    cases h
def rMulX (K : PySem.W.Frag) : R2 := fun x y H Q => rI CMulW (fun i j => .int (i * j)) x y H Q ∨ (fun x y H Q => rRep x y H Q ∨ (fun x y H Q => rRepU K x y H Q ∨ rMulS x y H Q : R2) x y H Q : R2) x y H Q
theorem op_mulX {X : Cx} : OpR X (binaryOp .Mult) (DL.rMulX X.K) := OpR.or op_mulW (OpR.or op_rep (OpR.or op_repU op_mulS))
def gMulX : D → D → Option Vl := fun a b => (gInt cMul (fun i j => i * j) a b).or ((gRepL a b).or ((gRepU a b).or (gRepS a b)))
theorem gi_mulX : OpI K (DL.rMulX K) gMulX := OpI.or (gi_int fun i j (h : cMul i j = true) => show i.natAbs.log2 + j.natAbs.log2 < 1000000 from of_decide_eq_true h) (OpI.or gi_repL (OpI.or gi_repU gi_repS))
end
end DL
end
section
set_option maxRecDepth 100000
set_option maxHeartbeats 1000000
namespace DL
open PySem L2
variable {ρ ρ' ρ1 ρ2 : DL.Env} {d a b z : D} {st st' : Draw}
theorem atN {α : Type} {l : List α} {n : Nat} {x : α} (h : l[n]? = some x) : atI l (n : Int) = some x := by
  have hn : n < l.length := (List.getElem?_eq_some_iff.mp h).1
  unfold atI ixN
  rw [if_pos (by omega), if_pos (by omega)]
  simpa using h
theorem szK {k : Nat} (h : k ≤ 1000000) : szOk k = true := by unfold szOk; simp; exact h
theorem cutD_pq {α : Type} (l : List α) (p q : Nat) : cutD l (some (p : Int)) (some (q : Int)) = (l.drop p).take (q - p) := by
  unfold cutD
  rw [HT.sIx_nat, HT.sIx_nat]
  by_cases h : p ≤ l.length
  · rw [Nat.min_eq_left h]
    by_cases h2 : q ≤ l.length
    · rw [Nat.min_eq_left h2]
    · rw [List.take_of_length_le (by rw [List.length_drop]; omega), List.take_of_length_le (by rw [List.length_drop]; omega)]
  · rw [List.drop_eq_nil_of_le (by omega), List.drop_eq_nil_of_le (by omega)]
    simp
theorem cutD_q {α : Type} (l : List α) (q : Nat) : cutD l none (some (q : Int)) = l.take q := by
  unfold cutD
  rw [HT.sIx_nat, HT.sIx_none, List.drop_zero, Nat.sub_zero]
  by_cases h : q ≤ l.length
  · rw [Nat.min_eq_left h]
  · rw [List.take_of_length_le (by omega), List.take_of_length_le (by omega)]
theorem cutD_p {α : Type} (l : List α) (p : Nat) : cutD l (some (p : Int)) none = l.drop p := by
  unfold cutD
  rw [HT.sIx_nat, HT.sIx_none]
  by_cases h : p ≤ l.length
  · rw [Nat.min_eq_left h, List.take_of_length_le (by rw [List.length_drop]; omega)]
  · rw [List.drop_eq_nil_of_le (by omega), List.drop_eq_nil_of_le (by omega)]
    simp
theorem evS_chain {g g' : D → D → Option Bool} {ma mb mc : MX} {x y z : D} {k j : Bool} (h1 : Ev ma ρ x) (h2 : Ev mb ρ y) (h3 : Ev mc ρ z) (hg : g x y = some k) (hg' : g' y z = some j) : EvS (xChain g g' ma mb mc) ρ (.bl (k && j)) := by
  obtain ⟨v1, e1, r1⟩ := h1
  obtain ⟨v2, e2, r2⟩ := h2
  obtain ⟨v3, e3, r3⟩ := h3
  refine ⟨.sh (.bl (k && j)), ?_, rfl, rfl⟩
  unfold xChain
  simp only [e1, R_bind_ok, e2, r1, r2, rdO_some, hg]
  cases k with
  | true => simp only [if_true, e3, R_bind_ok, r2, r3, rdO_some, hg', Bool.true_and]
  | false => rfl
theorem ovl_part {m : MX} {i : Int} (h : Ev m ρ (.int i)) : Ovl (oPart m) ρ (some i) := by
  obtain ⟨v, e, r⟩ := h
  unfold Ovl oPart
  simp only [e, R_bind_ok, r, rdO_some, intOf]
theorem ovl_none : Ovl oNone ρ none := rfl
theorem evS_sl {g : D → Option Int → Option Int → Option Vl} {ma : MX} {ml mh : MO} {l h : Option Int} (h1 : Ev ma ρ a) (h2 : Ovl ml ρ l) (h3 : Ovl mh ρ h) (hg : g a l h = some (.sh z)) : EvS (xSl g ma ml mh) ρ z := by
  obtain ⟨v, e, r⟩ := h1
  unfold Ovl at h2 h3
  refine ⟨.sh z, ?_, rfl, rfl⟩
  unfold xSl
  simp only [e, R_bind_ok, h2, h3, r, rdO_some, hg]
theorem evI_enum {ma : MA} {x : D} {l : List D} {p : Bool} (h : EvAS ma ρ [x]) (hx : kindOf x = some (l, p)) : EvI (xIEnum ma) ρ (enumD 0 l) := by
  obtain ⟨vs, e, _, s⟩ := h
  unfold EvI xIEnum
  simp only [e, R_bind_ok, s, rdO_some, hx]
theorem min_Z (a b : Nat) : gMin2 [.int (a : Int), .int (b : Int)] = some (.sh (.int ((min a b : Nat) : Int))) := by
  show some (Vl.sh (.int (if (b : Int) < (a : Int) then (b : Int) else (a : Int)))) = _
  by_cases h : b < a
  · rw [if_pos (by omega), Nat.min_eq_right (by omega)]
  · rw [if_neg (by omega), Nat.min_eq_left (by omega)]
theorem small_i {i : Int} (h : -1000000 ≤ i) (h2 : i ≤ 1000000) : smallI i = true := by unfold smallI; simp; omega
theorem nxt_fld {n : Str} {i : Nat} {m : MX} {fl ns : List Str} {ds : List D} (h : EvS m ρ d) (hi : ρ[i]? = some (.ob (.ins fl ns ds))) (hn : n ∈ fl) {ns' : List Str} {ds' : List D} (hp : putN n ns = ns' ∧ putA n d ns ds = ds') (hl : ns.length < 900) : sFldI n i m ρ = .ok (.nx (ρ.set i (.ob (.ins fl ns' ds')))) := by
  obtain ⟨v, e, _, s⟩ := h
  obtain ⟨rfl, rfl⟩ := hp
  unfold sFldI
  simp only [e, R_bind_ok, s, rdO_some, hi]
  simp only [insS, rdO_some, if_pos (show n ∈ fl ∧ ns.length < 900 from ⟨hn, hl⟩)]
theorem evS_fldO {n : Str} {i : Nat} {fl ns : List Str} {ds : List D} (hi : ρ[i]? = some (.ob (.ins fl ns ds))) (hn : n ∈ fl) (hl : (ns.zip ds).lookup n = some d) : EvS (xFldI n (xVar i)) ρ d := by
  refine ⟨.sh d, ?_, rfl, rfl⟩
  have e : xVar i ρ = .ok (.bor i, ρ) := by unfold xVar; rw [hi]
  unfold xFldI
  simp only [e, R_bind_ok, insOf, hi, rdO_some, if_pos hn, hl]
theorem evS_fldS {n : Str} {m : MX} {fl ns : List Str} {ds : List D} (h : m ρ = .ok (.sh (.ins fl ns ds), ρ)) (hn : n ∈ fl) (hl : (ns.zip ds).lookup n = some d) : EvS (xFldI n m) ρ d := by
  refine ⟨.sh d, ?_, rfl, rfl⟩
  unfold xFldI
  simp only [h, R_bind_ok, insOf, rdO_some, if_pos hn, hl]
theorem acons_eq {m : MX} {n : MA} {v : Vl} {vs : List Vl} {ρ1 ρ2 : DL.Env} (h : m ρ = .ok (v, ρ1)) (t : n ρ1 = .ok (vs, ρ2)) : aCons m n ρ = .ok (v :: vs, ρ2) := by
  unfold aCons
  simp only [h, R_bind_ok, t]
theorem pars_eq {is : List Nat} {m : MA} {vs : List Vl} {ρ1 ρ2 : DL.Env} (h : m ρ = .ok (vs, ρ1)) (t : puts ρ1 is vs = some ρ2) : DL.sPars is m ρ = .ok (.nx ρ2) := by
  unfold DL.sPars
  simp only [h, R_bind_ok, t, rdO_some]
theorem neE_own (l : List D) : gNeE (.lst l) (.lst []) = some (!l.isEmpty) := by
  cases l <;> rfl
theorem atI_0 {α : Type} (x : α) (l : List α) : atI (x :: l) 0 = some x := atN (n := 0) (l := x :: l) rfl
theorem run_nx {fix : Nat → Bool} {np nl : Nat} {m : MS} {as : List Sl} (h : as.length = np) (r : m (as ++ List.replicate nl .emp) = .ok (.nx ρ)) : runF fix np nl m as = .ok (.sh .non, maskA fix as.length ρ) := by
  unfold runF runB
  rw [if_pos h, r]
  rfl
theorem asg_ob {i : Nat} {m : MX} {o : Ob} (h : m ρ = .ok (.ob o, ρ)) (hi : i < ρ.length) : sAsg i m ρ = .ok (.nx (ρ.set i (.ob o))) := by
  unfold sAsg
  simp only [h, R_bind_ok, put, if_pos hi, rdO_some]
theorem evS_is {m : MX} {x y : D} (h : EvS m ρ x) (e : x = y) : EvS m ρ y := by rw [← e]; exact h
theorem gAll_map {α : Type} (l : List α) (f : α → Bool) : gAll [.lst (l.map fun p => .bl (f p))] = some (.sh (.bl (l.all f))) := by
  have : (l.map fun p => D.bl (f p)) = (l.map f).map D.bl := by simp
  show (blsOf (l.map fun p => D.bl (f p))).bind _ = _
  rw [this, blsOf_of]
  simp
theorem tvF {c : MT} {k : Bool} (h : Tv c ρ k) (e : k = false) : Tv c ρ false := by rw [← e]; exact h
theorem tvT {c : MT} {k : Bool} (h : Tv c ρ k) (e : k = true) : Tv c ρ true := by rw [← e]; exact h
theorem ret_is {m : MS} {x y : D} (h : Ret m ρ x) (e : x = y) : Ret m ρ y := by rw [← e]; exact h
theorem ix_tup {l : List D} {i : Nat} {x : D} (h : l[i]? = some x) : gIx (.tup l) (.int (i : Int)) = some (.sh x) := by
  show (atI l (i : Int)).map Vl.sh = _
  rw [atN h]
  rfl
theorem ix_lst {l : List D} {i : Nat} {x : D} (h : l[i]? = some x) : gIx (.lst l) (.int (i : Int)) = some (.sh x) := by
  show (atI l (i : Int)).map Vl.sh = _
  rw [atN h]
  rfl
theorem atLast {α : Type} {l : List α} {x : α} : atI (l ++ [x]) (-1) = some x := by
  unfold atI ixN
  rw [if_neg (by omega), if_pos (by rw [List.length_append]; simp; omega)]
  rw [Option.bind_some, List.length_append]
  have : (-1 + ((l.length + [x].length : Nat) : Int)).toNat = l.length := by simp; omega
  rw [this]
  simp
theorem bl_lst {b : Bool} : ∀ l, D.bl b ≠ .lst l := fun _ z => nomatch z
theorem enum_mem : ∀ {l : List D} {k : Nat} {x : D}, x ∈ enumD k l → ∃ (i : Nat) (d : D), l[i]? = some d ∧ x = .tup [.int ((k + i : Nat) : Int), d]
  | [], k, x, h => by cases h
  | d :: l, k, x, h => by
    rcases List.mem_cons.mp (show x ∈ D.tup [.int (k : Nat), d] :: enumD (k + 1) l from h) with e | h
    · exact ⟨0, d, rfl, e⟩
    · obtain ⟨i, d', h1, h2⟩ := enum_mem h
      exact ⟨i + 1, d', h1, by rw [h2, show k + 1 + i = k + (i + 1) by omega]⟩
theorem all_true (l : List D) : gAll [.lst (l.map fun _ => .bl true)] = some (.sh (.bl true)) := by
  rw [gAll_map l fun _ => true]
  congr 3
  exact List.all_eq_true.mpr fun _ _ => rfl
theorem take_snoc {α : Type} {l : List α} {i : Nat} {x : α} (h : l[i]? = some x) : l.take (i + 1) = l.take i ++ [x] := by
  rw [List.take_add_one, h]
  rfl
theorem split_last {α : Type} {l : List α} (h : 0 < l.length) : ∃ (k : List α) (x : α), l = k ++ [x] := by
  refine ⟨l.dropLast, l.getLast (by intro e; rw [e] at h; simp at h), ?_⟩
  rw [List.dropLast_concat_getLast]
theorem lastD {α : Type} (k : List α) (x d : α) : (k ++ [x]).getLastD d = x := by simp [List.getLastD_eq_getLast?]
theorem if_eq {c : MT} {m n : MX} {k : Bool} {X : R (Vl × DL.Env)} (h : Tv c ρ k) (h1 : k = true → m ρ = X) (h2 : k = false → n ρ = X) : xIf c m n ρ = X := by
  unfold Tv at h
  unfold xIf
  simp only [h, R_bind_ok]
  cases k with
  | true => exact h1 rfl
  | false => exact h2 rfl
theorem shI_eq {m : MX} {fl ns : List Str} {ds : List D} (h : m ρ = .ok (.ob (.ins fl ns ds), ρ)) : xShI m ρ = .ok (.sh (.ins fl ns ds), ρ) := by
  unfold xShI
  simp only [h, R_bind_ok]
theorem app_eq {i : Nat} {m : MX} {ds : List D} (ho : ρ[i]? = some (.own ds)) (h : m ρ = .ok (.sh d, ρ)) (hz : ds.length < 1000000) : sDrop (xApp i m) ρ = .ok (.nx (ρ.set i (.own (ds ++ [d])))) := by
  unfold sDrop xApp
  simp only [ho, ownS, rdO_some, h, R_bind_ok, share, szK (show ds.length + 1 ≤ 1000000 by omega), if_true]
theorem ixg_lst {l : List D} {i : Nat} (hi : i < l.length) : gIx (.lst l) (.int (i : Int)) = some (.sh (l.getD i .non)) := by
  rw [ix_lst (List.getElem?_eq_getElem hi), List.getD_eq_getElem?_getD, List.getElem?_eq_getElem hi]
  rfl
theorem app_ev {i : Nat} {m : MX} {ds : List D} (ho : ρ[i]? = some (.own ds)) (h : EvS m ρ d) (hz : ds.length < 1000000) : sDrop (xApp i m) ρ = .ok (.nx (ρ.set i (.own (ds ++ [d])))) := by
  obtain ⟨v, e, _, s⟩ := h
  unfold sDrop xApp
  simp only [ho, ownS, rdO_some, e, R_bind_ok, s, szK (show ds.length + 1 ≤ 1000000 by omega), if_true]
theorem getD_last {α : Type} {k : List α} {x d : α} {n : Nat} (h : k.length = n) : (k ++ [x]).getD n d = x := by
  rw [List.getD_eq_getElem?_getD, ← h]
  simp
theorem rdvs_sh : ∀ (l : List D) (ρ : DL.Env), rdvs ρ (l.map .sh) = some l
  | [], ρ => rfl
  | d :: l, ρ => by
    rw [List.map_cons]
    unfold rdvs
    rw [rdvs_sh l ρ]
    rfl
theorem rdvs_app {ρ : DL.Env} {vs : List Vl} {ds : List D} (h : rdvs ρ vs = some ds) : ∀ l : List D, rdvs ρ (l.map .sh ++ vs) = some (l ++ ds)
  | [] => h
  | d :: l => by
    rw [List.map_cons, List.cons_append]
    unfold rdvs
    rw [rdvs_app h l]
    rfl
theorem shares_app {ρ : DL.Env} {vs : List Vl} {ds : List D} (h : shares ρ vs = some (ds, ρ)) : ∀ l : List D, shares ρ (l.map .sh ++ vs) = some (l ++ ds, ρ)
  | [] => h
  | d :: l => by
    rw [List.map_cons, List.cons_append]
    unfold shares
    show (Option.bind (some (d, ρ)) fun p => (shares p.2 (l.map .sh ++ vs)).bind fun q => some (p.1 :: q.1, q.2)) = _
    rw [Option.bind_some, shares_app h l]
    rfl
theorem evAS_star {m : MX} {n : MA} {x : D} {l ds : List D} (h : Ev m ρ x) (hx : itemsS x = some l) (t : EvAS n ρ ds) : EvAS (aStar m n) ρ (l ++ ds) := by
  obtain ⟨v, e, r⟩ := h
  obtain ⟨vs, e2, r2, s2⟩ := t
  refine ⟨l.map .sh ++ vs, ?_, rdvs_app r2 l, shares_app s2 l⟩
  unfold aStar
  simp only [e, R_bind_ok, r, rdO_some, hx, e2]
end DL
end
section
set_option maxRecDepth 100000
set_option maxHeartbeats 1000000
namespace DL
open PySem L2
variable {ρ ρ' ρ1 ρ2 ρ3 : DL.Env} {d a b z : D} {st st' : Draw}
inductive Std : Vl → D → Prop
  | sh {d : D} : Std (.sh d) d
  | own {l : List D} : Std (.own l) (.lst l)
inductive StdL : List Vl → List D → Prop
  | nil : StdL [] []
  | cons {v : Vl} {d : D} {vs : List Vl} {ds : List D} (h : Std v d) (t : StdL vs ds) : StdL (v :: vs) (d :: ds)
theorem Std.rd {v : Vl} (h : Std v d) (ρ : DL.Env) : rdv ρ v = some d := by cases h <;> rfl
theorem Std.share {v : Vl} (h : Std v d) (ρ : DL.Env) : share ρ v = some (d, ρ) := by cases h <;> rfl
theorem StdL.rd {vs : List Vl} {ds : List D} (h : StdL vs ds) (ρ : DL.Env) : rdvs ρ vs = some ds := by
  induction h with
  | nil => rfl
  | cons h _ ih =>
    unfold rdvs
    rw [h.rd, ih]
    rfl
theorem StdL.share {vs : List Vl} {ds : List D} (h : StdL vs ds) (ρ : DL.Env) : shares ρ vs = some (ds, ρ) := by
  induction h with
  | nil => rfl
  | cons h _ ih =>
    unfold shares
    rw [h.share, Option.bind_some, ih]
    rfl
theorem StdL.len {vs : List Vl} {ds : List D} (h : StdL vs ds) : vs.length = ds.length := by
  induction h with
  | nil => rfl
  | cons _ _ ih => rw [List.length_cons, List.length_cons, ih]
theorem StdL.take {vs : List Vl} {ds : List D} (h : StdL vs ds) (ρ : DL.Env) : ∀ acc : List Sl, takeArgs (List.replicate ds.length false) vs ρ acc = some (acc ++ ds.map .sh, ρ, []) := by
  induction h with
  | nil => intro acc; simp [takeArgs]
  | cons h _ ih =>
    rename_i v d vs ds _
    intro acc
    show (take1 false v ρ).bind _ = _
    have t1 : take1 false v ρ = some (.sh d, ρ, none) := by
      show (DL.share ρ v).bind _ = _
      rw [h.share]
      rfl
    rw [t1, Option.bind_some]
    show (takeArgs (List.replicate ds.length false) vs ρ (acc ++ [.sh d])).bind _ = _
    rw [ih]
    simp [bkAdd]
def EvV (m : MX) (ρ ρ1 : DL.Env) (d : D) : Prop := ∃ v, m ρ = .ok (v, ρ1) ∧ Std v d
def EvAV (m : MA) (ρ ρ1 : DL.Env) (ds : List D) : Prop := ∃ vs, m ρ = .ok (vs, ρ1) ∧ StdL vs ds
def TvD (m : MT) (ρ ρ1 : DL.Env) (k : Bool) : Prop := m ρ = .ok (k, ρ1)
theorem evV_sh {m : MX} (h : m ρ = .ok (.sh d, ρ1)) : EvV m ρ ρ1 d := ⟨_, h, .sh⟩
theorem evV_own {m : MX} {l : List D} (h : m ρ = .ok (.own l, ρ1)) : EvV m ρ ρ1 (.lst l) := ⟨_, h, .own⟩
theorem EvV.evS {m : MX} (h : EvV m ρ ρ d) : EvS m ρ d := let ⟨v, e, s⟩ := h; ⟨v, e, s.rd ρ, s.share ρ⟩
theorem EvV.ev {m : MX} (h : EvV m ρ ρ d) : Ev m ρ d := h.evS.ev
theorem evV_c : EvV (xC d) ρ ρ d := ⟨_, rfl, .sh⟩
theorem evV_var {i : Nat} (h : ρ[i]? = some (.sh d)) : EvV (xVar i) ρ ρ d := ⟨.sh d, by unfold xVar; rw [h], .sh⟩
theorem evAV_nil : EvAV aNil ρ ρ [] := ⟨[], rfl, .nil⟩
theorem evAV_cons {m : MX} {n : MA} {ds : List D} (h : EvV m ρ ρ1 d) (t : EvAV n ρ1 ρ2 ds) : EvAV (aCons m n) ρ ρ2 (d :: ds) := by
  obtain ⟨v, e, s⟩ := h
  obtain ⟨vs, e2, s2⟩ := t
  refine ⟨v :: vs, ?_, .cons s s2⟩
  unfold aCons
  simp only [e, R_bind_ok, e2]
theorem evV_op {g : D → D → Option Vl} {ma mb : MX} (h1 : EvV ma ρ ρ1 a) (h2 : EvV mb ρ1 ρ2 b) (hg : g a b = some (.sh z)) : EvV (xOp g ma mb) ρ ρ2 z := by
  obtain ⟨x, e1, r1⟩ := h1
  obtain ⟨y, e2, r2⟩ := h2
  refine ⟨.sh z, ?_, .sh⟩
  unfold xOp
  simp only [e1, R_bind_ok, e2, r1.rd ρ2, r2.rd ρ2, rdO_some, hg]
theorem evV_opR {g : D → D → Option Vl} {ma mb : MX} {v : Vl} (h1 : ma ρ = .ok (v, ρ)) (hr : rdv ρ2 v = some a) (h2 : EvV mb ρ ρ2 b) (hg : g a b = some (.sh z)) : EvV (xOp g ma mb) ρ ρ2 z := by
  obtain ⟨y, e2, r2⟩ := h2
  refine ⟨.sh z, ?_, .sh⟩
  unfold xOp
  simp only [h1, R_bind_ok, e2, hr, r2.rd ρ2, rdO_some, hg]
theorem evV_opO {g : D → D → Option Vl} {ma mb : MX} {l : List D} (h1 : EvV ma ρ ρ1 a) (h2 : EvV mb ρ1 ρ2 b) (hg : g a b = some (.own l)) : EvV (xOp g ma mb) ρ ρ2 (.lst l) := by
  obtain ⟨x, e1, r1⟩ := h1
  obtain ⟨y, e2, r2⟩ := h2
  refine ⟨.own l, ?_, .own⟩
  unfold xOp
  simp only [e1, R_bind_ok, e2, r1.rd ρ2, r2.rd ρ2, rdO_some, hg]
theorem evV_cmp {g : D → D → Option Bool} {ma mb : MX} {k : Bool} (h1 : EvV ma ρ ρ1 a) (h2 : EvV mb ρ1 ρ2 b) (hg : g a b = some k) : EvV (xOp (blR g) ma mb) ρ ρ2 (.bl k) := evV_op h1 h2 (by unfold blR; rw [hg]; rfl)
theorem evV_un {g : D → Option Vl} {ma : MX} (h1 : EvV ma ρ ρ1 a) (hg : g a = some (.sh z)) : EvV (xUn g ma) ρ ρ1 z := by
  obtain ⟨x, e1, r1⟩ := h1
  refine ⟨.sh z, ?_, .sh⟩
  unfold xUn
  simp only [e1, R_bind_ok, r1.rd ρ1, rdO_some, hg]
theorem evV_cb {g : List D → Option Vl} {ma : MA} {ds : List D} (h : EvAV ma ρ ρ1 ds) (hg : g ds = some (.sh z)) : EvV (xCB g ma) ρ ρ1 z := by
  obtain ⟨xs, e, r⟩ := h
  refine ⟨.sh z, ?_, .sh⟩
  unfold xCB
  simp only [e, R_bind_ok, r.rd ρ1, rdO_some, hg]
theorem evV_cbO {g : List D → Option Vl} {ma : MA} {ds l : List D} (h : EvAV ma ρ ρ1 ds) (hg : g ds = some (.own l)) : EvV (xCB g ma) ρ ρ1 (.lst l) := by
  obtain ⟨xs, e, r⟩ := h
  refine ⟨.own l, ?_, .own⟩
  unfold xCB
  simp only [e, R_bind_ok, r.rd ρ1, rdO_some, hg]
theorem evV_tup {ma : MA} {ds : List D} (h : EvAV ma ρ ρ1 ds) (hz : szOk ds.length = true) : EvV (xTup ma) ρ ρ1 (.tup ds) := by
  obtain ⟨xs, e, s⟩ := h
  refine ⟨.sh (.tup ds), ?_, .sh⟩
  unfold xTup
  simp only [e, R_bind_ok, s.share ρ1, rdO_some, hz, if_true]
theorem evV_lst {ma : MA} {ds : List D} (h : EvAV ma ρ ρ1 ds) (hz : szOk ds.length = true) : EvV (xLst ma) ρ ρ1 (.lst ds) := by
  obtain ⟨xs, e, s⟩ := h
  refine ⟨.own ds, ?_, .own⟩
  unfold xLst
  simp only [e, R_bind_ok, s.share ρ1, rdO_some, hz, if_true]
theorem evV_if {c : MT} {m n : MX} {k : Bool} (h : TvD c ρ ρ1 k) (h1 : k = true → EvV m ρ1 ρ2 d) (h2 : k = false → EvV n ρ1 ρ2 d) : EvV (xIf c m n) ρ ρ2 d := by
  unfold TvD at h
  cases k with
  | true =>
    obtain ⟨v, e, s⟩ := h1 rfl
    refine ⟨v, ?_, s⟩
    unfold xIf
    simp only [h, R_bind_ok, if_true, e]
  | false =>
    obtain ⟨v, e, s⟩ := h2 rfl
    refine ⟨v, ?_, s⟩
    unfold xIf
    simp only [h, R_bind_ok, Bool.false_eq_true, if_false, e]
theorem ovl_partV {m : MX} {i : Int} (h : EvV m ρ ρ1 (.int i)) : oPart m ρ = .ok (some i, ρ1) := by
  obtain ⟨v, e, r⟩ := h
  unfold oPart
  simp only [e, R_bind_ok, r.rd ρ1, rdO_some, intOf]
theorem evV_sl {g : D → Option Int → Option Int → Option Vl} {ma : MX} {ml mh : MO} {l h : Option Int} {ρ3 : DL.Env} (h1 : EvV ma ρ ρ1 a) (h2 : ml ρ1 = .ok (l, ρ2)) (h3 : mh ρ2 = .ok (h, ρ3)) (hg : g a l h = some (.sh z)) : EvV (xSl g ma ml mh) ρ ρ3 z := by
  obtain ⟨v, e, r⟩ := h1
  refine ⟨.sh z, ?_, .sh⟩
  unfold xSl
  simp only [e, R_bind_ok, h2, h3, r.rd ρ3, rdO_some, hg]
theorem evV_meS {gg : Str → List D → Option Vl} {mo : MX} {ma : MA} {s : Str} {ds : List D} (h1 : EvV mo ρ ρ1 (.str s)) (h2 : EvAV ma ρ1 ρ2 ds) (hg : gg s ds = some (.sh z)) : EvV (xMeS gg mo ma) ρ ρ2 z := by
  obtain ⟨v, e, r⟩ := h1
  obtain ⟨vs, e2, r2⟩ := h2
  refine ⟨.sh z, ?_, .sh⟩
  unfold xMeS
  simp only [e, R_bind_ok, r.rd ρ1, rdO_some, strO, e2, r2.rd ρ2, hg]
theorem cbV_eq {g : List D → Option Vl} {ma : MA} {ds : List D} {v : Vl} (h : EvAV ma ρ ρ1 ds) (hg : g ds = some v) : xCB g ma ρ = .ok (v, ρ1) := by
  obtain ⟨xs, e, r⟩ := h
  unfold xCB
  simp only [e, R_bind_ok, r.rd ρ1, rdO_some, hg]
theorem opV_eq {g : D → D → Option Vl} {ma mb : MX} {v : Vl} (h1 : EvV ma ρ ρ1 a) (h2 : EvV mb ρ1 ρ2 b) (hg : g a b = some v) : xOp g ma mb ρ = .ok (v, ρ2) := by
  obtain ⟨x, e1, r1⟩ := h1
  obtain ⟨y, e2, r2⟩ := h2
  unfold xOp
  simp only [e1, R_bind_ok, e2, r1.rd ρ2, r2.rd ρ2, rdO_some, hg]
theorem lstV_eq {ma : MA} {ds : List D} (h : EvAV ma ρ ρ1 ds) (hz : szOk ds.length = true) : xLst ma ρ = .ok (.own ds, ρ1) := by
  obtain ⟨xs, e, s⟩ := h
  unfold xLst
  simp only [e, R_bind_ok, s.share ρ1, rdO_some, hz, if_true]
theorem evV_cbP {g : List D → Option Vl} {ma : MA} {ds : List D} (h : EvA ma ρ ds) (hg : g ds = some (.sh z)) : EvV (xCB g ma) ρ ρ z := by
  obtain ⟨xs, e, r⟩ := h
  refine ⟨.sh z, ?_, .sh⟩
  unfold xCB
  simp only [e, R_bind_ok, r, rdO_some, hg]
theorem evV_opP {g : D → D → Option Vl} {ma mb : MX} (h1 : Ev ma ρ a) (h2 : Ev mb ρ b) (hg : g a b = some (.sh z)) : EvV (xOp g ma mb) ρ ρ z := evV_sh (xOp_eq h1 h2 hg)
theorem evV_callP {bs : List Bool} {F : Fn} {ma : MA} {ds : List D} (h : EvAP ma ρ ds) (hb : bs = List.replicate ds.length false) (hF : ∃ l, F (ds.map .sh) = .ok (.sh z, l)) : EvV (xCall bs F ma) ρ ρ z := by
  obtain ⟨l, hF⟩ := hF
  exact evV_sh (call_eq h hb hF)
theorem callV_eq {bs : List Bool} {F : Fn} {ma : MA} {ds : List D} {v : Vl} {l : List Sl} (h : EvAV ma ρ ρ1 ds) (hb : bs = List.replicate ds.length false) (hF : F (ds.map .sh) = .ok (v, l)) : xCall bs F ma ρ = .ok (v, ρ1) := by
  obtain ⟨vs, e, s⟩ := h
  have t := s.take ρ1 []
  rw [← hb] at t
  unfold xCall
  simp only [e, R_bind_ok, t, rdO_some, List.nil_append, hF]
  rfl
theorem evV_call {bs : List Bool} {F : Fn} {ma : MA} {ds : List D} (h : EvAV ma ρ ρ1 ds) (hb : bs = List.replicate ds.length false) (hF : ∃ l, F (ds.map .sh) = .ok (.sh z, l)) : EvV (xCall bs F ma) ρ ρ1 z := by
  obtain ⟨l, hF⟩ := hF
  exact evV_sh (callV_eq h hb hF)
theorem callD_eq {bs : List Bool} {F : Fn} {i : Nat} {n : MA} {ds : List D} {v : Vl} {l : List Sl} {st0 : Draw} (h0 : ρ[i]? = some (.drw st0)) (h : EvAV n ρ ρ1 ds) (h1 : ρ1[i]? = some (.drw st)) (hb : bs = true :: List.replicate ds.length false) (hF : F (.drw st :: ds.map .sh) = .ok (v, .drw st' :: l)) : xCall bs F (aCons (xVar i) n) ρ = .ok (v, ρ1.set i (.drw st')) := by
  obtain ⟨vs, e, s⟩ := h
  have t := s.take (ρ1.set i .emp) [.drw st]
  have e0 : xVar i ρ = .ok (.bor i, ρ) := by unfold xVar; rw [h0]
  have t2 : takeArgs bs (.bor i :: vs) ρ1 [] = some (.drw st :: ds.map .sh, ρ1.set i .emp, [(0, i)]) := by
    rw [hb]
    show (take1 true (.bor i) ρ1).bind _ = _
    have : take1 true (.bor i) ρ1 = some (.drw st, ρ1.set i .emp, some i) := by
      unfold take1
      simp only [h1]
    rw [this, Option.bind_some]
    show (takeArgs (List.replicate ds.length false) vs (ρ1.set i .emp) ([] ++ [.drw st])).bind _ = _
    rw [List.nil_append, t]
    rfl
  unfold xCall aCons
  simp only [e0, R_bind_ok, e, t2, rdO_some, hF]
  show DL.R.ok (v, ((ρ1.set i .emp).set i (.drw st'))) = _
  rw [List.set_set]
theorem evV_callD {bs : List Bool} {F : Fn} {i : Nat} {n : MA} {ds : List D} {l : List Sl} {st0 : Draw} (h0 : ρ[i]? = some (.drw st0)) (h : EvAV n ρ ρ1 ds) (h1 : ρ1[i]? = some (.drw st)) (hb : bs = true :: List.replicate ds.length false) (hF : F (.drw st :: ds.map .sh) = .ok (.sh z, .drw st' :: l)) : EvV (xCall bs F (aCons (xVar i) n)) ρ (ρ1.set i (.drw st')) z := evV_sh (callD_eq h0 h h1 hb hF)
theorem tvD_test {m : MX} {k : Bool} (h : EvV m ρ ρ1 (.bl k)) : TvD (xTest m) ρ ρ1 k := by
  obtain ⟨v, e, r⟩ := h
  unfold TvD xTest
  simp only [e, R_bind_ok, r.rd ρ1, rdO_some, blOf]
theorem tvD_of {c : MT} {k : Bool} (h : Tv c ρ k) : TvD c ρ ρ k := h
theorem tvD_not {m : MT} {k : Bool} (h : TvD m ρ ρ1 k) : TvD (xNot m) ρ ρ1 (!k) := by
  unfold TvD xNot at *
  simp only [h, R_bind_ok]
theorem tvD_orT {m n : MT} (h : TvD m ρ ρ1 true) : TvD (xOr m n) ρ ρ1 true := by
  unfold TvD xOr at *
  simp only [h, R_bind_ok, if_true]
theorem tvD_orF {m n : MT} {k : Bool} (h : TvD m ρ ρ1 false) (t : TvD n ρ1 ρ2 k) : TvD (xOr m n) ρ ρ2 k := by
  unfold TvD xOr at *
  simp only [h, R_bind_ok, Bool.false_eq_true, if_false]
  exact t
theorem tvD_andF {m n : MT} (h : TvD m ρ ρ1 false) : TvD (xAnd m n) ρ ρ1 false := by
  unfold TvD xAnd at *
  simp only [h, R_bind_ok, Bool.false_eq_true, if_false]
theorem tvD_andT {m n : MT} {k : Bool} (h : TvD m ρ ρ1 true) (t : TvD n ρ1 ρ2 k) : TvD (xAnd m n) ρ ρ2 k := by
  unfold TvD xAnd at *
  simp only [h, R_bind_ok, if_true]
  exact t
theorem ifD_yes {c : MT} {s t : MS} (h : TvD c ρ ρ1 true) : sIf c s t ρ = s ρ1 := by
  unfold TvD at h
  unfold sIf
  simp only [h, R_bind_ok, if_true]
theorem ifD_no {c : MT} {s t : MS} (h : TvD c ρ ρ1 false) : sIf c s t ρ = t ρ1 := by
  unfold TvD at h
  unfold sIf
  simp only [h, R_bind_ok, Bool.false_eq_true, if_false]
theorem asgV_sh {i : Nat} {m : MX} (h : m ρ = .ok (.sh d, ρ1)) (hi : i < ρ1.length) : sAsg i m ρ = .ok (.nx (ρ1.set i (.sh d))) := by
  unfold sAsg
  simp only [h, R_bind_ok, put, if_pos hi, rdO_some]
theorem asgV {i : Nat} {m : MX} (h : EvV m ρ ρ1 d) (hd : ∀ l, d ≠ .lst l) (hi : i < ρ1.length) : sAsg i m ρ = .ok (.nx (ρ1.set i (.sh d))) := by
  obtain ⟨v, e, s⟩ := h
  cases s with
  | sh => exact asgV_sh e hi
  | own => exact absurd rfl (hd _)
theorem asgV_own {i : Nat} {m : MX} {l : List D} (h : m ρ = .ok (.own l, ρ1)) (hi : i < ρ1.length) : sAsg i m ρ = .ok (.nx (ρ1.set i (.own l))) := by
  unfold sAsg
  simp only [h, R_bind_ok, put, if_pos hi, rdO_some]
theorem asgGV {g : MG} {m : MX} (h : EvV m ρ ρ1 d) (hg : g d ρ1 = some ρ2) : sAsgG g m ρ = .ok (.nx ρ2) := by
  obtain ⟨v, e, s⟩ := h
  unfold sAsgG
  simp only [e, R_bind_ok, s.share ρ1, rdO_some, hg]
theorem retV {m : MX} (h : EvV m ρ ρ1 d) (hd : ∀ l, d ≠ .lst l) : sRet m ρ = .ok (.rt (.sh d) ρ1) := by
  obtain ⟨v, e, s⟩ := h
  cases s with
  | sh =>
    unfold sRet
    simp only [e, R_bind_ok, mv, rdO_some]
  | own => exact absurd rfl (hd _)
theorem appV {i : Nat} {m : MX} {ds : List D} (h0 : ∃ ks, ρ[i]? = some (.own ks)) (h : EvV m ρ ρ1 d) (h1 : ρ1[i]? = some (.own ds)) (hz : ds.length < 1000000) : sDrop (xApp i m) ρ = .ok (.nx (ρ1.set i (.own (ds ++ [d])))) := by
  obtain ⟨ks, h0⟩ := h0
  obtain ⟨v, e, s⟩ := h
  have hz1 : szOk (ds.length + 1) = true := szK (by omega)
  unfold sDrop xApp
  simp only [h0, ownS, rdO_some, e, R_bind_ok, s.share ρ1, h1, hz1, if_true]
theorem forV {mi : MI} {mg : MG} {mb : MS} {l : List D} {o : Out} (hi : mi ρ = .ok (l, ρ1)) (h : forLoop mg mb l ρ1 = .ok o) : sFor mi mg mb ρ = .ok o := by
  unfold sFor
  simp only [hi, R_bind_ok, h]
theorem rngE {ma : MA} {j : Int} (h : EvAV ma ρ ρ1 [.int j]) (hj : smallI j = true) : xIRng1 ma ρ = .ok ((List.range j.toNat).map fun (i : Nat) => D.int (0 + (i : Int)), ρ1) := by
  obtain ⟨vs, e, r⟩ := h
  rw [xIRng1_eq, e, R_bind_ok, r.rd ρ1, rngU_ints, rng1C_ok hj]
theorem lcV {mi : MI} {mg : MG} {me : MX} {vs : List Nat} {l out : List D} (hi : mi ρ = .ok (l, ρ1)) (h : lcLoop mg xYes me vs l (emps ρ1 vs) [] = .ok (out, emps ρ2 vs)) (hb : back ρ1 (emps ρ2 vs) vs = ρ2) : xLc mi mg xYes me vs ρ = .ok (.own out, ρ2) := by
  unfold xLc
  simp only [hi, R_bind_ok, h, hb]
section
variable {c : String} {p : Option (Str × D)}
theorem call_exc {bs : List Bool} {F : Fn} {ma : MA} {ds : List D} (h : EvAP ma ρ ds) (hb : bs = List.replicate ds.length false) (hF : F (ds.map .sh) = .exc c p) : xCall bs F ma ρ = .exc c p := by
  obtain ⟨vs, e, s, k⟩ := h
  have t := takeF (acc := []) s k
  rw [shares_len s, ← hb] at t
  unfold xCall
  simp only [e, R_bind_ok, t, rdO_some, List.nil_append, hF]
  rfl
theorem drop_exc {m : MX} (h : m ρ = .exc c p) : sDrop m ρ = .exc c p := by
  unfold sDrop
  rw [h]
  rfl
theorem seq_exc {s t : MS} (h : s ρ = .exc c p) : sSeq s t ρ = .exc c p := by
  unfold sSeq
  rw [h]
  rfl
theorem fld_exc {n : Str} {m : MX} (h : m ρ = .exc c p) : xFldI n m ρ = .exc c p := by
  unfold xFldI
  rw [h]
  rfl
theorem ret_exc {m : MX} (h : m ρ = .exc c p) : sRet m ρ = .exc c p := by
  unfold sRet
  rw [h]
  rfl
theorem run_exc {fix : Nat → Bool} {np nl : Nat} {m : MS} {as : List Sl} (h : as.length = np) (e : m (as ++ List.replicate nl .emp) = .exc c p) : runF fix np nl m as = .exc c p := by
  unfold runF runB
  rw [if_pos h, e]
  rfl
end
end DL
end
section
set_option maxRecDepth 100000
set_option maxHeartbeats 1000000
namespace DL
open PySem L2
variable {ρ ρ' ρ1 ρ2 : DL.Env} {d a b z : D}
def oD : Option Int → D
  | some i => .int i
  | none => .non
def oP : Option Int → PyData
  | some i => .int i
  | none => .none
theorem pyds_os (xs : List (Option Int)) : pyds (xs.map oD) = some (xs.map oP) := by
  induction xs with
  | nil => unfold List.map pyds; rfl
  | cons x r ih =>
    rw [List.map_cons, List.map_cons]
    unfold pyds
    rw [ih]
    cases x <;> (unfold oD pyd oP; rfl)
theorem show_os {xs : List (Option Int)} (h : ∀ x ∈ xs, ∀ i, x = some i → i.natAbs.log2 < 1920) : PyData.showableAll (xs.map oP) = true := by
  induction xs with
  | nil => unfold List.map PyData.showableAll; rfl
  | cons x r ih =>
    rw [List.map_cons]
    unfold PyData.showableAll
    rw [ih fun y hy => h y (List.mem_cons_of_mem _ hy)]
    cases x with
    | none => unfold oP PyData.showable; rfl
    | some i =>
      unfold oP PyData.showable
      rw [decide_eq_true (h (some i) (by simp) i rfl)]
      rfl
theorem nod_os (xs : List (Option Int)) : PyData.hasDictAll (xs.map oP) = false := by
  induction xs with
  | nil => unfold List.map PyData.hasDictAll; rfl
  | cons x r ih =>
    rw [List.map_cons]
    unfold PyData.hasDictAll
    rw [ih]
    cases x <;> (unfold oP PyData.hasDict; rfl)
theorem dep_os (xs : List (Option Int)) : PyData.depthAll (xs.map oP) ≤ 1 := by
  induction xs with
  | nil => unfold List.map PyData.depthAll; omega
  | cons x r ih =>
    rw [List.map_cons]
    unfold PyData.depthAll
    have : (oP x).depth ≤ 1 := by cases x <;> (unfold oP PyData.depth; omega)
    omega
theorem len_none : ((oP none).shown).length ≤ 1921 := by
  have : ((oP none).shown).length = 4 := by kernel_rfl
  omega
theorem shown_os {xs : List (Option Int)} (h : ∀ x ∈ xs, ∀ i, x = some i → i.natAbs.log2 < 1920) : ((PyData.shownAll (xs.map oP)).map (·.length)).sum ≤ 1921 * xs.length ∧ (PyData.shownAll (xs.map oP)).length = xs.length := by
  induction xs with
  | nil => unfold List.map PyData.shownAll; simp
  | cons x r ih =>
    obtain ⟨h1, h2⟩ := ih fun y hy => h y (List.mem_cons_of_mem _ hy)
    rw [List.map_cons]
    unfold PyData.shownAll
    have e : ((oP x).shown).length ≤ 1921 := by
      cases x with
      | none => exact len_none
      | some n =>
        unfold oP PyData.shown
        have e := int_text_length_le (k := 1920) (by omega) (h (some n) (by simp) n rfl)
        have e2 : (Str.ofString (toString n)).length = (toString n).length := ofString_length _
        show (Str.ofString (toString n)).length ≤ 1921
        omega
    simp only [List.map_cons, List.sum_cons, List.length_cons] at *
    constructor
    · omega
    · omega
theorem repr_osL {xs : List (Option Int)} (h : ∀ x ∈ xs, ∀ i, x = some i → i.natAbs.log2 < 1920) (hl : xs.length ≤ 100) : ∃ s, gReprs [.lst (xs.map oD)] = some (.sh (.str s)) := by
  have e : pyd (.lst (xs.map oD)) = some (.list (xs.map oP)) := by
    unfold pyd
    rw [pyds_os]
    rfl
  refine ⟨(PyData.list (xs.map oP)).shown, ?_⟩
  have h1 : (PyData.list (xs.map oP)).showable = true := by
    unfold PyData.showable
    exact show_os h
  have h2 : (PyData.list (xs.map oP)).hasDict = false := by
    unfold PyData.hasDict
    exact nod_os xs
  have h3 : decide ((PyData.list (xs.map oP)).depth ≤ 60) = true := by
    unfold PyData.depth
    have := dep_os xs
    simp
    omega
  have h4 : szOk (PyData.list (xs.map oP)).shown.length = true := by
    unfold szOk PyData.shown
    have := listText_len_le (PyData.shownAll (xs.map oP))
    obtain ⟨a, b⟩ := shown_os h
    simp
    omega
  show (gRepr [.lst (xs.map oD)]) = _
  show (pyd (.lst (xs.map oD))).bind _ = _
  rw [e]
  show (if _ then _ else _) = _
  rw [h1, h2, h3, h4]
  rfl
theorem repr_osT {xs : List (Option Int)} (h : ∀ x ∈ xs, ∀ i, x = some i → i.natAbs.log2 < 1920) (hl : xs.length ≤ 100) : ∃ s, gReprs [.tup (xs.map oD)] = some (.sh (.str s)) := by
  have e : pyd (.tup (xs.map oD)) = some (.tuple (xs.map oP)) := by
    unfold pyd
    rw [pyds_os]
    rfl
  refine ⟨(PyData.tuple (xs.map oP)).shown, ?_⟩
  have h1 : (PyData.tuple (xs.map oP)).showable = true := by
    unfold PyData.showable
    exact show_os h
  have h2 : (PyData.tuple (xs.map oP)).hasDict = false := by
    unfold PyData.hasDict
    exact nod_os xs
  have h3 : decide ((PyData.tuple (xs.map oP)).depth ≤ 60) = true := by
    unfold PyData.depth
    have := dep_os xs
    simp
    omega
  have h4 : szOk (PyData.tuple (xs.map oP)).shown.length = true := by
    unfold szOk PyData.shown
    have := tupleText_len_le (PyData.shownAll (xs.map oP))
    obtain ⟨a, b⟩ := shown_os h
    simp
    omega
  show (gRepr [.tup (xs.map oD)]) = _
  show (pyd (.tup (xs.map oD))).bind _ = _
  rw [e]
  show (if _ then _ else _) = _
  rw [h1, h2, h3, h4]
  rfl
theorem gEq_str (a b : Str) : gEq (.str a) (.str b) = some (decide (a = b)) := rfl
theorem gNe_str (a b : Str) : gNe (.str a) (.str b) = some (!decide (a = b)) := rfl
theorem ne_same (s : Str) : gNe (.str s) (.str s) = some false := by
  rw [gNe_str, decide_eq_true rfl]
  rfl
theorem same_rep {mx my : MX} {s : Str} (h1 : Ev mx ρ a) (h2 : Ev my ρ a) (h3 : gReprs [a] = some (.sh (.str s))) : sIf (xTest (xOp (blR gNe) (xCB gReprs (aCons mx aNil)) (xCB gReprs (aCons my aNil)))) (sRet (xC (.bl false))) sNext ρ = .ok (.nx ρ) :=
  (if_no (tv_test (evS_cmp (evS_cb (evA_cons h1 evA_nil) h3).ev (evS_cb (evA_cons h2 evA_nil) h3).ev (ne_same s)).ev)).trans rfl
theorem lstS_eq {ma : MA} {ds : List D} (h : EvAS ma ρ ds) (hz : szOk ds.length = true) : xLst ma ρ = .ok (.own ds, ρ) := by
  obtain ⟨xs, e, _, s⟩ := h
  unfold xLst
  simp only [e, R_bind_ok, s, rdO_some, hz, if_true]
theorem callK_eq {np nk : Nat} {idx : List Nat} {F : Fn} {m mk : MA} {ps qs : List D} {v : Vl} {l : List Sl} (h1 : EvAS m ρ ps) (h2 : EvAS mk ρ qs) (hp : ps.length = np) (hq : qs.length = nk) (hF : F (shF (permL idx (ps ++ qs))) = .ok (v, l)) : xCallK np nk idx F m mk ρ = .ok (v, ρ) := by
  obtain ⟨vs, e1, _, s1⟩ := h1
  obtain ⟨ws, e2, _, s2⟩ := h2
  unfold xCallK
  simp only [e1, R_bind_ok, s1, rdO_some, e2, s2, if_pos (show ps.length = np ∧ qs.length = nk from ⟨hp, hq⟩), hF]
theorem evS_callK {np nk : Nat} {idx : List Nat} {F : Fn} {m mk : MA} {ps qs : List D} (h1 : EvAS m ρ ps) (h2 : EvAS mk ρ qs) (hp : ps.length = np) (hq : qs.length = nk) (hF : ∃ l, F (shF (permL idx (ps ++ qs))) = .ok (.sh z, l)) : EvS (xCallK np nk idx F m mk) ρ z := by
  obtain ⟨l, hF⟩ := hF
  exact evS_of (callK_eq h1 h2 hp hq hF) (.inl rfl)
theorem isa_self (c : String) : isaOf c c = some true := by unfold isaOf; rw [if_pos rfl]
theorem caught_row {T : List (Addr × Str)} {it : Nat} {c : String} {p : Option (Str × D)} {m : MX} {x : D} (h0 : ρ[it]? = some (.tab T x)) (h : m (ρ.map frz) = .exc c p) : sIf (xNot (xTru (xCaught T it (isaOf c) m))) (sRet (xC (.bl false))) sNext ρ = .ok (.nx ρ) := by
  have e : xCaught T it (isaOf c) m ρ = .ok (.sh (.bl true), ρ) := by
    unfold xCaught
    simp only [h0, if_true, h, isa_self, rdO_some]
  exact (if_no (tvF (tv_not (tv_truB (k := true) (EvS.ev (evS_of e (.inl rfl))))) rfl)).trans rfl
theorem callVX {i : Nat} {l : List (Addr × Fn)} {bs : List Bool} {m : MA} {ad : Addr} {F : Fn} (h : ρ[i]? = some (.sh (.ref ad))) (hf : findF ad l = some F) : xCallV i l bs m ρ = xCall bs F m ρ := by
  unfold xCallV
  simp only [h, hf, rdO_some]
end DL
end
section
set_option maxRecDepth 100000
set_option maxHeartbeats 2000000
namespace K40
open PySem PySem.Spec PyProof.Rows L2 DL
def topS (i : Nat) : Stmt := PySem.Challenge.pw_samewriting_k40_whole_words_counted_in_l.main.body.getD i (.Pass ⟨0, 0, 0, 0⟩)

abbrev s_is_number : Stmt := topS 10
abbrev s_are_letters : Stmt := topS 11
abbrev s_is_row : Stmt := topS 12
abbrev s_is_short : Stmt := topS 13
abbrev s_need_short : Stmt := topS 14
abbrev s_behind : Stmt := topS 15
abbrev s_need_word : Stmt := topS 16
abbrev s_starts_in : Stmt := topS 17
abbrev s_Looked___init__ : Stmt := (clsBody (topS 18)).getD 0 (.Pass ⟨0, 0, 0, 0⟩)
def fl_Looked : List Str := ["many", "ahead", "last", "times", "first"]
abbrev s_looked_behind : Stmt := topS 19
abbrev s_looked : Stmt := topS 20
abbrev s_times_in : Stmt := topS 21
abbrev s_first_in : Stmt := topS 22
abbrev s__law_begun : Stmt := topS 24
abbrev s__law_mixed : Stmt := topS 25
abbrev s__law_take : Stmt := topS 26
abbrev s__law_pick : Stmt := topS 27
abbrev s__law_short : Stmt := topS 29
abbrev s__law_lengths : Stmt := topS 30
abbrev s__law_text : Stmt := topS 31
abbrev s__law_small_short : Stmt := topS 32
abbrev s__law_bad_short : Stmt := topS 33
abbrev s__law_doubled : Stmt := topS 34
abbrev s__law_power : Stmt := topS 35
abbrev s__law_starts : Stmt := topS 36
abbrev s__law_in_rounds : Stmt := topS 37
abbrev s__law_caught : Stmt := topS 28
abbrev s_law : Stmt := topS 38
structure Tx (P : Program) (K : PySem.W.Frag) (mg : Str → Option Value) where
  ct : Ct
  fa : Ct
  b_abs : mg "abs" = none
  b_all : mg "all" = none
  b_bool : mg "bool" = none
  b_enumerate : mg "enumerate" = none
  b_int : mg "int" = none
  b_isinstance : mg "isinstance" = none
  b_len : mg "len" = none
  b_list : mg "list" = none
  b_min : mg "min" = none
  b_range : mg "range" = none
  b_repr : mg "repr" = none
  b_str : mg "str" = none
  b_tuple : mg "tuple" = none
  t_LETTERS : Tok
  k_LETTERS : mg "LETTERS" = some (.str "abc" t_LETTERS)
  t_MOST_ROWS : Tok
  k_MOST_ROWS : mg "MOST_ROWS" = some (.int 4000 t_MOST_ROWS)
  t_MOST_SAID : Tok
  k_MOST_SAID : mg "MOST_SAID" = some (.int 40 t_MOST_SAID)
  t_MOST_WORD : Tok
  k_MOST_WORD : mg "MOST_WORD" = some (.int 20 t_MOST_WORD)
  w_BadShort : IsaOk K ct (ct "WritingError") (ct "BadShort") (isaOf "BadShort")
  g_BadShort : mg "BadShort" = some (.ref (ct "BadShort"))
  x_BadShort : PySem.W.excIn K (ct "BadShort") [.type "ValueError", .type "Exception", .type "BaseException", .type "object"] "ValueError.__new__" = true
  k_BadShort : PySem.W.keepIn K (.ref (ct "BadShort")) = true
  e_BadShort : PySem.W.subIn K (.ref (ct "BadShort")) (.type "BaseException") = some true
  t_BadShort : PySem.W.typeIn K (.ref (ct "BadShort")) = some (.type "type")
  w_BadWord : IsaOk K ct (ct "WritingError") (ct "BadWord") (isaOf "BadWord")
  g_BadWord : mg "BadWord" = some (.ref (ct "BadWord"))
  x_BadWord : PySem.W.excIn K (ct "BadWord") [.type "ValueError", .type "Exception", .type "BaseException", .type "object"] "ValueError.__new__" = true
  k_BadWord : PySem.W.keepIn K (.ref (ct "BadWord")) = true
  e_BadWord : PySem.W.subIn K (.ref (ct "BadWord")) (.type "BaseException") = some true
  t_BadWord : PySem.W.typeIn K (.ref (ct "BadWord")) = some (.type "type")
  g_TooMany : mg "TooMany" = some (.ref (ct "TooMany"))
  s_TooMany : SupT K mg P (ct "TooMany") "most"
  g_WritingError : mg "WritingError" = some (.ref (ct "WritingError"))
  a_is_number : Addr
  fd_is_number : FuncData
  f_is_number : Fun K "is_number" "is_number" s_is_number a_is_number fd_is_number
  g_is_number : mg "is_number" = some (.ref a_is_number)
  bi_is_number : Binds K fd_is_number ["thing", "end"] []
  a_are_letters : Addr
  fd_are_letters : FuncData
  f_are_letters : Fun K "are_letters" "are_letters" s_are_letters a_are_letters fd_are_letters
  g_are_letters : mg "are_letters" = some (.ref a_are_letters)
  bi_are_letters : Binds K fd_are_letters ["thing", "least", "most"] []
  a_is_row : Addr
  fd_is_row : FuncData
  f_is_row : Fun K "is_row" "is_row" s_is_row a_is_row fd_is_row
  g_is_row : mg "is_row" = some (.ref a_is_row)
  bi_is_row : Binds K fd_is_row ["thing", "place"] []
  a_is_short : Addr
  fd_is_short : FuncData
  f_is_short : Fun K "is_short" "is_short" s_is_short a_is_short fd_is_short
  g_is_short : mg "is_short" = some (.ref a_is_short)
  bi_is_short : Binds K fd_is_short ["thing"] []
  a_need_short : Addr
  fd_need_short : FuncData
  f_need_short : Fun K "need_short" "need_short" s_need_short a_need_short fd_need_short
  g_need_short : mg "need_short" = some (.ref a_need_short)
  bi_need_short : Binds K fd_need_short ["short"] []
  a_behind : Addr
  fd_behind : FuncData
  f_behind : Fun K "behind" "behind" s_behind a_behind fd_behind
  g_behind : mg "behind" = some (.ref a_behind)
  bi_behind : Binds K fd_behind ["one", "other"] []
  a_need_word : Addr
  fd_need_word : FuncData
  f_need_word : Fun K "need_word" "need_word" s_need_word a_need_word fd_need_word
  g_need_word : mg "need_word" = some (.ref a_need_word)
  bi_need_word : Binds K fd_need_word ["word"] []
  a_starts_in : Addr
  fd_starts_in : FuncData
  f_starts_in : Fun K "starts_in" "starts_in" s_starts_in a_starts_in fd_starts_in
  g_starts_in : mg "starts_in" = some (.ref a_starts_in)
  bi_starts_in : Binds K fd_starts_in ["text", "word"] []
  a_Looked___init__ : Addr
  fd_Looked___init__ : FuncData
  f_Looked___init__ : Fun K "__init__" "Looked.__init__" s_Looked___init__ a_Looked___init__ fd_Looked___init__
  bi_Looked___init__ : Binds K fd_Looked___init__ ["self", "word", "text"] []
  cC_Looked : Addr
  gC_Looked : mg "Looked" = some (.ref cC_Looked)
  mk_Looked : Mk K cC_Looked a_Looked___init__
  ic_Looked : InsC K cC_Looked fl_Looked
  a_looked_behind : Addr
  fd_looked_behind : FuncData
  f_looked_behind : Fun K "looked_behind" "looked_behind" s_looked_behind a_looked_behind fd_looked_behind
  g_looked_behind : mg "looked_behind" = some (.ref a_looked_behind)
  bi_looked_behind : Binds K fd_looked_behind ["word", "one", "other"] []
  a_looked : Addr
  fd_looked : FuncData
  f_looked : Fun K "looked" "looked" s_looked a_looked fd_looked
  g_looked : mg "looked" = some (.ref a_looked)
  bi_looked : Binds K fd_looked ["short", "word"] []
  a_times_in : Addr
  fd_times_in : FuncData
  f_times_in : Fun K "times_in" "times_in" s_times_in a_times_in fd_times_in
  g_times_in : mg "times_in" = some (.ref a_times_in)
  bi_times_in : Binds K fd_times_in ["short", "word"] []
  a_first_in : Addr
  fd_first_in : FuncData
  f_first_in : Fun K "first_in" "first_in" s_first_in a_first_in fd_first_in
  g_first_in : mg "first_in" = some (.ref a_first_in)
  bi_first_in : Binds K fd_first_in ["short", "word"] []
  a__law_begun : Addr
  fd__law_begun : FuncData
  f__law_begun : Fun K "_law_begun" "_law_begun" s__law_begun a__law_begun fd__law_begun
  g__law_begun : mg "_law_begun" = some (.ref a__law_begun)
  bi__law_begun : Binds K fd__law_begun ["script"] []
  a__law_mixed : Addr
  fd__law_mixed : FuncData
  f__law_mixed : Fun K "_law_mixed" "_law_mixed" s__law_mixed a__law_mixed fd__law_mixed
  g__law_mixed : mg "_law_mixed" = some (.ref a__law_mixed)
  bi__law_mixed : Binds K fd__law_mixed ["draw"] []
  a__law_take : Addr
  fd__law_take : FuncData
  f__law_take : Fun K "_law_take" "_law_take" s__law_take a__law_take fd__law_take
  g__law_take : mg "_law_take" = some (.ref a__law_take)
  bi__law_take : Binds K fd__law_take ["draw", "many"] []
  a__law_pick : Addr
  fd__law_pick : FuncData
  f__law_pick : Fun K "_law_pick" "_law_pick" s__law_pick a__law_pick fd__law_pick
  g__law_pick : mg "_law_pick" = some (.ref a__law_pick)
  bi__law_pick : Binds K fd__law_pick ["draw", "some"] []
  a__law_short : Addr
  fd__law_short : FuncData
  f__law_short : Fun K "_law_short" "_law_short" s__law_short a__law_short fd__law_short
  g__law_short : mg "_law_short" = some (.ref a__law_short)
  bi__law_short : Binds K fd__law_short ["draw", "many", "letters"] []
  a__law_lengths : Addr
  fd__law_lengths : FuncData
  f__law_lengths : Fun K "_law_lengths" "_law_lengths" s__law_lengths a__law_lengths fd__law_lengths
  g__law_lengths : mg "_law_lengths" = some (.ref a__law_lengths)
  bi__law_lengths : Binds K fd__law_lengths ["short"] []
  a__law_text : Addr
  fd__law_text : FuncData
  f__law_text : Fun K "_law_text" "_law_text" s__law_text a__law_text fd__law_text
  g__law_text : mg "_law_text" = some (.ref a__law_text)
  bi__law_text : Binds K fd__law_text ["short"] []
  a__law_small_short : Addr
  fd__law_small_short : FuncData
  f__law_small_short : Fun K "_law_small_short" "_law_small_short" s__law_small_short a__law_small_short fd__law_small_short
  g__law_small_short : mg "_law_small_short" = some (.ref a__law_small_short)
  bi__law_small_short : Binds K fd__law_small_short ["draw", "most"] []
  a__law_bad_short : Addr
  fd__law_bad_short : FuncData
  f__law_bad_short : Fun K "_law_bad_short" "_law_bad_short" s__law_bad_short a__law_bad_short fd__law_bad_short
  g__law_bad_short : mg "_law_bad_short" = some (.ref a__law_bad_short)
  bi__law_bad_short : Binds K fd__law_bad_short ["draw"] []
  a__law_doubled : Addr
  fd__law_doubled : FuncData
  f__law_doubled : Fun K "_law_doubled" "_law_doubled" s__law_doubled a__law_doubled fd__law_doubled
  g__law_doubled : mg "_law_doubled" = some (.ref a__law_doubled)
  bi__law_doubled : Binds K fd__law_doubled ["word", "many"] []
  a__law_power : Addr
  fd__law_power : FuncData
  f__law_power : Fun K "_law_power" "_law_power" s__law_power a__law_power fd__law_power
  g__law_power : mg "_law_power" = some (.ref a__law_power)
  bi__law_power : Binds K fd__law_power ["many"] []
  a__law_starts : Addr
  fd__law_starts : FuncData
  f__law_starts : Fun K "_law_starts" "_law_starts" s__law_starts a__law_starts fd__law_starts
  g__law_starts : mg "_law_starts" = some (.ref a__law_starts)
  bi__law_starts : Binds K fd__law_starts ["text", "word"] []
  a__law_in_rounds : Addr
  fd__law_in_rounds : FuncData
  f__law_in_rounds : Fun K "_law_in_rounds" "_law_in_rounds" s__law_in_rounds a__law_in_rounds fd__law_in_rounds
  g__law_in_rounds : mg "_law_in_rounds" = some (.ref a__law_in_rounds)
  bi__law_in_rounds : Binds K fd__law_in_rounds ["part", "rounds", "word"] []
  a__law_caught : Addr
  fd__law_caught : FuncData
  f__law_caught : Fun K "_law_caught" "_law_caught" s__law_caught a__law_caught fd__law_caught
  g__law_caught : mg "_law_caught" = some (.ref a__law_caught)
  bi__law_caught : Binds K fd__law_caught ["work"] []
  a_law : Addr
  fd_law : FuncData
  f_law : Fun K "law" "law" s_law a_law fd_law
  g_law : mg "law" = some (.ref a_law)
  bi_law : Binds K fd_law ["script"] []
  fa_first_in : fa "first_in" = a_first_in
  fa_times_in : fa "times_in" = a_times_in
  kb_first_in_0_word_short : BindsK K fd_first_in ["short", "word"] 0 ["word", "short"] [1, 0]
  kb_times_in_0_word_short : BindsK K fd_times_in ["short", "word"] 0 ["word", "short"] [1, 0]
variable {P : Program} {w : World} {K : PySem.W.Frag} {mg : Str → Option Value} {base : Heap}

theorem sc_is_number : FnScope ["thing", "end"] ["thing", "end"] (defScope s_is_number) := ⟨rfl, rfl, rfl, by decide +kernel, rfl, by decide +kernel, by decide +kernel⟩
def m_is_number : MS := (sRet (xAndV (xCB gIsi (aCons (xVar 0) (aCons (xC (.ty "int")) aNil))) (xAndV (xNotV (xCB gIsi (aCons (xVar 0) (aCons (xC (.ty "bool")) aNil)))) (xChain gLe gLt (xC (.int 0)) (xVar 0) (xVar 1)))))
def F_is_number : Fn := runF (fun i => decide (i ∈ ([0, 1] : List Nat))) 2 0 m_is_number
theorem ok_is_number (T : Tx P K mg) : FnOk P w K mg base (L2.CX P w) 1 T.a_is_number T.fd_is_number ["thing", "end"] (spM K T.ct F_is_number) := by
  refine T.f_is_number.okX sc_is_number (fun vs H Q E h => sp_len runF_len h) (fun cdv A outer s H vs Q E hr h => ?_)
  have I : ImpS K T.ct E (fun i => decide (i ∈ ([0, 1] : List Nat))) _ m_is_number := (is_ret (im_andV (im_cb gc_isi (ia_cons (im_var (i := 0)) (ia_cons im_ty ia_nil))) (im_andV (im_notV (im_cb gc_isi (ia_cons (im_var (i := 0)) (ia_cons im_ty ia_nil)))) (im_chain ci_le ci_lt im_int (im_var (i := 0)) (im_var (i := 1))))))
  exact ⟨_, (pss_one (ps_ret (pe_and (pe_callB call_isi (by rfl) T.b_isinstance (by decide +kernel) (pa_cons (pv 0) (pa_cons (pe_bltn (v := .ty "int") (by rfl) T.b_int (by decide +kernel) rfl) pa_nil))) (pe_and (pe_not (pe_callB call_isi (by rfl) T.b_isinstance (by decide +kernel) (pa_cons (pv 0) (pa_cons (pe_bltn (v := .ty "bool") (by rfl) T.b_bool (by decide +kernel) rfl) pa_nil)))) (pe_one (pe_chain op_les op_lts pe_int (pv 0) (pv 1))))))), fn_body (np := 2) (nl := 0) I rfl h⟩
theorem sc_are_letters : FnScope ["thing", "least", "most", "sign"] ["thing", "least", "most"] (defScope s_are_letters) := ⟨rfl, rfl, rfl, by decide +kernel, rfl, by decide +kernel, by decide +kernel⟩
def e_are_letters_1 : MX := (xOp (blR (gIns false)) (xVar 3) (xC (.str "abc")))
def x_are_letters_1 : MX := (xLc (xISeq (xVar 0)) (mName 3) xYes e_are_letters_1 [3])
def m_are_letters : MS := (sRet (xAndV (xCB gIsi (aCons (xVar 0) (aCons (xC (.ty "str")) aNil))) (xAndV (xChain gLe gLe (xVar 1) (xCB gLen (aCons (xVar 0) aNil)) (xVar 2)) (xCB gAll (aCons x_are_letters_1 aNil)))))
def F_are_letters : Fn := runF (fun i => decide (i ∈ ([0, 1, 2] : List Nat))) 3 1 m_are_letters
theorem ok_are_letters (T : Tx P K mg) : FnOk P w K mg base (L2.CX P w) 1 T.a_are_letters T.fd_are_letters ["thing", "least", "most"] (spM K T.ct F_are_letters) := by
  refine T.f_are_letters.okX sc_are_letters (fun vs H Q E h => sp_len runF_len h) (fun cdv A outer s H vs Q E hr h => ?_)
  have I : ImpS K T.ct E (fun i => decide (i ∈ ([0, 1, 2] : List Nat))) _ m_are_letters := (is_ret (im_andV (im_cb gc_isi (ia_cons (im_var (i := 0)) (ia_cons im_ty ia_nil))) (im_andV (im_chain ci_le ci_le (im_var (i := 1)) (im_cb gc_len (ia_cons (im_var (i := 0)) ia_nil)) (im_var (i := 2))) (im_cb gc_all (ia_cons (im_lc (vs := [3]) (ii_seq (im_var (i := 0))) (ig_name (i := 3)) it_yes (im_op (CmpI.op ci_ins) (im_var (i := 3)) im_str) (by decide)) ia_nil)))))
  exact ⟨_, (pss_one (ps_ret (pe_and (pe_callB call_isi (by rfl) T.b_isinstance (by decide +kernel) (pa_cons (pv 0) (pa_cons (pe_bltn (v := .ty "str") (by rfl) T.b_str (by decide +kernel) rfl) pa_nil))) (pe_and (pe_chain op_les op_les (pv 1) (pe_callB call_len (by rfl) T.b_len (by decide +kernel) (pa_cons (pv 0) pa_nil)) (pv 2)) (pe_one (pe_callB (cr_all rfl) (by rfl) T.b_all (by decide +kernel) (pa_cons (pe_lc (own := [("sign", 3)]) rfl sc_are_letters.nd (pi_seq (pv 0)) (blkOk_by (N := ["thing", "least", "most", "sign"]) (sc := defScope s_are_letters) (by first | decide +kernel | rfl)) (fun _ _ _ _ _ => (pg_name (i := 3) sc_are_letters.nd rfl (by first | exact Or.inl rfl | exact Or.inr rfl))) (fun _ _ _ _ _ => pts_nil) (fun _ _ _ _ _ => (pe_cmpR op_ins (pv 3) (pe_glob (v := (.str "abc")) rfl T.k_LETTERS ⟨_, rfl⟩) (by rfl)))) pa_nil))))))), fn_body (np := 3) (nl := 1) I rfl h⟩
theorem sc_is_row : FnScope ["thing", "place"] ["thing", "place"] (defScope s_is_row) := ⟨rfl, rfl, rfl, by decide +kernel, rfl, by decide +kernel, by decide +kernel⟩
def m_is_row : MS := (sSeq (sIf (xOr (xNot (xTru (xCB gIsi (aCons (xVar 0) (aCons (xC (.ty "tuple")) aNil))))) (xOr (xTest (xOp (blR gEqE) (xVar 0) (xTup aNil))) (xNot (xTru (xCB gIsi (aCons (xOp gIx (xVar 0) (xC (.int 0))) (aCons (xC (.ty "str")) aNil))))))) (sRet (xC (.bl false))) sNext) (sSeq (sIf (xTest (xOp (blR gEq) (xOp gIx (xVar 0) (xC (.int 0))) (xC (.str "say")))) (sRet (xAndV (xOp (blR gEq) (xCB gLen (aCons (xVar 0) aNil)) (xC (.int 2))) (xCall [false, false, false] F_are_letters (aCons (xOp gIx (xVar 0) (xC (.int 1))) (aCons (xC (.int 0)) (aCons (xC (.int 40)) aNil)))))) sNext) (sRet (xAndV (xOp (blR gEq) (xOp gIx (xVar 0) (xC (.int 0))) (xC (.str "then"))) (xAndV (xOp (blR gEq) (xCB gLen (aCons (xVar 0) aNil)) (xC (.int 3))) (xAndV (xCall [false, false] F_is_number (aCons (xOp gIx (xVar 0) (xC (.int 1))) (aCons (xVar 1) aNil))) (xCall [false, false] F_is_number (aCons (xOp gIx (xVar 0) (xC (.int 2))) (aCons (xVar 1) aNil)))))))))
def F_is_row : Fn := runF (fun i => decide (i ∈ ([0, 1] : List Nat))) 2 0 m_is_row
theorem ok_is_row (T : Tx P K mg) : FnOk P w K mg base (L2.CX P w) 2 T.a_is_row T.fd_is_row ["thing", "place"] (spM K T.ct F_is_row) := by
  refine T.f_is_row.okX sc_is_row (fun vs H Q E h => sp_len runF_len h) (fun cdv A outer s H vs Q E hr h => ?_)
  have I : ImpS K T.ct E (fun i => decide (i ∈ ([0, 1] : List Nat))) _ m_is_row := (is_seq (is_if (it_or (it_not (it_tru (im_cb gc_isi (ia_cons (im_var (i := 0)) (ia_cons im_ty ia_nil))))) (it_or (it_test (im_op (CmpI.op ci_eqE) (im_var (i := 0)) (im_tup ia_nil))) (it_not (it_tru (im_cb gc_isi (ia_cons (im_op gi_ix (im_var (i := 0)) im_int) (ia_cons im_ty ia_nil))))))) (is_ret im_bl) is_next) (is_seq (is_if (it_test (im_op (CmpI.op ci_eq) (im_op gi_ix (im_var (i := 0)) im_int) im_str)) (is_ret (im_andV (im_op (CmpI.op ci_eq) (im_cb gc_len (ia_cons (im_var (i := 0)) ia_nil)) im_int) (im_call (bs := [false, false, false]) (ia_cons (im_op gi_ix (im_var (i := 0)) im_int) (ia_cons im_int (ia_cons im_int ia_nil)))))) is_next) (is_ret (im_andV (im_op (CmpI.op ci_eq) (im_op gi_ix (im_var (i := 0)) im_int) im_str) (im_andV (im_op (CmpI.op ci_eq) (im_cb gc_len (ia_cons (im_var (i := 0)) ia_nil)) im_int) (im_andV (im_call (bs := [false, false]) (ia_cons (im_op gi_ix (im_var (i := 0)) im_int) (ia_cons (im_var (i := 1)) ia_nil))) (im_call (bs := [false, false]) (ia_cons (im_op gi_ix (im_var (i := 0)) im_int) (ia_cons (im_var (i := 1)) ia_nil)))))))))
  exact ⟨_, (pss_cons (ps_if (PW.pt (pw_or (pt_not (pt_truth (pe_callB call_isi (by rfl) T.b_isinstance (by decide +kernel) (pa_cons (pv 0) (pa_cons (pe_bltn (v := .ty "tuple") (by rfl) T.b_tuple (by decide +kernel) rfl) pa_nil))) (by intro _; rfl))) (pw_or (pt_cmpR (op_eqE hr.units) (pv 0) (pe_tup pa_nil) (nomark _)) (pw_or1 (pt_not (pt_truth (pe_callB call_isi (by rfl) T.b_isinstance (by decide +kernel) (pa_cons (pe_ix ix_seq (pv 0) pe_int (fun _ _ => rfl)) (pa_cons (pe_bltn (v := .ty "str") (by rfl) T.b_str (by decide +kernel) rfl) pa_nil))) (by intro _; rfl))))))) (pss_one (ps_ret pe_bl)) pss_nil) (pss_cons (ps_if (pt_cmpR (op_eqs hr.units) (pe_ix ix_seq (pv 0) pe_int (fun _ _ => rfl)) pe_str (nomark _)) (pss_one (ps_ret (pe_and (pe_cmpR (op_eqs hr.units) (pe_callB call_len (by rfl) T.b_len (by decide +kernel) (pa_cons (pv 0) pa_nil)) pe_int (nomark _)) (pe_one (pe_fn (CanC.ok (ok_are_letters T) (hr.mono (by decide)) hxE) (by rfl) T.g_are_letters T.f_are_letters.kp T.bi_are_letters (pa_cons (pe_ix ix_seq (pv 0) pe_int (fun _ _ => rfl)) (pa_cons pe_int (pa_cons (pe_glob (v := (.int 40)) rfl T.k_MOST_SAID ⟨_, rfl⟩) pa_nil)))))))) pss_nil) (pss_one (ps_ret (pe_and (pe_cmpR (op_eqs hr.units) (pe_ix ix_seq (pv 0) pe_int (fun _ _ => rfl)) pe_str (nomark _)) (pe_and (pe_cmpR (op_eqs hr.units) (pe_callB call_len (by rfl) T.b_len (by decide +kernel) (pa_cons (pv 0) pa_nil)) pe_int (nomark _)) (pe_and (pe_fn (CanC.ok (ok_is_number T) (hr.mono (by decide)) hxE) (by rfl) T.g_is_number T.f_is_number.kp T.bi_is_number (pa_cons (pe_ix ix_seq (pv 0) pe_int (fun _ _ => rfl)) (pa_cons (pv 1) pa_nil))) (pe_one (pe_fn (CanC.ok (ok_is_number T) (hr.mono (by decide)) hxE) (by rfl) T.g_is_number T.f_is_number.kp T.bi_is_number (pa_cons (pe_ix ix_seq (pv 0) pe_int (fun _ _ => rfl)) (pa_cons (pv 1) pa_nil))))))))))), fn_body (np := 2) (nl := 0) I rfl h⟩
theorem sc_is_short : FnScope ["thing", "place", "row"] ["thing"] (defScope s_is_short) := ⟨rfl, rfl, rfl, by decide +kernel, rfl, by decide +kernel, by decide +kernel⟩
def e_is_short_1 : MX := (xCall [false, false] F_is_row (aCons (xVar 2) (aCons (xVar 1) aNil)))
def x_is_short_1 : MX := (xLc (xIEnum (aCons (xOp gIx (xVar 0) (xC (.int 1))) aNil)) (mTup 2 (mgCons (mName 1) (mgCons (mName 2) mgNil))) xYes e_is_short_1 [1, 2])
def m_is_short : MS := (sSeq (sIf (xOr (xNot (xTru (xCB gIsi (aCons (xVar 0) (aCons (xC (.ty "tuple")) aNil))))) (xOr (xTest (xOp (blR gNe) (xCB gLen (aCons (xVar 0) aNil)) (xC (.int 2)))) (xOr (xNot (xTru (xCB gIsi (aCons (xOp gIx (xVar 0) (xC (.int 0))) (aCons (xC (.ty "str")) aNil))))) (xTest (xOp (blR gNe) (xOp gIx (xVar 0) (xC (.int 0))) (xC (.str "short"))))))) (sRet (xC (.bl false))) sNext) (sSeq (sIf (xOr (xNot (xTru (xCB gIsi (aCons (xOp gIx (xVar 0) (xC (.int 1))) (aCons (xC (.ty "tuple")) aNil))))) (xNot (xTest (xChain gLe gLe (xC (.int 1)) (xCB gLen (aCons (xOp gIx (xVar 0) (xC (.int 1))) aNil)) (xC (.int 4000)))))) (sRet (xC (.bl false))) sNext) (sRet (xCB gAll (aCons x_is_short_1 aNil)))))
def F_is_short : Fn := runF (fun i => decide (i ∈ ([0] : List Nat))) 1 2 m_is_short
theorem ok_is_short (T : Tx P K mg) : FnOk P w K mg base (L2.CX P w) 3 T.a_is_short T.fd_is_short ["thing"] (spM K T.ct F_is_short) := by
  refine T.f_is_short.okX sc_is_short (fun vs H Q E h => sp_len runF_len h) (fun cdv A outer s H vs Q E hr h => ?_)
  have I : ImpS K T.ct E (fun i => decide (i ∈ ([0] : List Nat))) _ m_is_short := (is_seq (is_if (it_or (it_not (it_tru (im_cb gc_isi (ia_cons (im_var (i := 0)) (ia_cons im_ty ia_nil))))) (it_or (it_test (im_op (CmpI.op ci_ne) (im_cb gc_len (ia_cons (im_var (i := 0)) ia_nil)) im_int)) (it_or (it_not (it_tru (im_cb gc_isi (ia_cons (im_op gi_ix (im_var (i := 0)) im_int) (ia_cons im_ty ia_nil))))) (it_test (im_op (CmpI.op ci_ne) (im_op gi_ix (im_var (i := 0)) im_int) im_str))))) (is_ret im_bl) is_next) (is_seq (is_if (it_or (it_not (it_tru (im_cb gc_isi (ia_cons (im_op gi_ix (im_var (i := 0)) im_int) (ia_cons im_ty ia_nil))))) (it_not (it_test (im_chain ci_le ci_le im_int (im_cb gc_len (ia_cons (im_op gi_ix (im_var (i := 0)) im_int) ia_nil)) im_int)))) (is_ret im_bl) is_next) (is_ret (im_cb gc_all (ia_cons (im_lc (vs := [1, 2]) (ii_enum (ia_cons (im_op gi_ix (im_var (i := 0)) im_int) ia_nil)) (ig_tup (igs_cons (ig_name (i := 1)) (igs_cons (ig_name (i := 2)) igs_nil))) it_yes (im_call (bs := [false, false]) (ia_cons (im_var (i := 2)) (ia_cons (im_var (i := 1)) ia_nil))) (by decide)) ia_nil)))))
  exact ⟨_, (pss_cons (ps_if (PW.pt (pw_or (pt_not (pt_truth (pe_callB call_isi (by rfl) T.b_isinstance (by decide +kernel) (pa_cons (pv 0) (pa_cons (pe_bltn (v := .ty "tuple") (by rfl) T.b_tuple (by decide +kernel) rfl) pa_nil))) (by intro _; rfl))) (pw_or (pt_cmpR (op_nes hr.units) (pe_callB call_len (by rfl) T.b_len (by decide +kernel) (pa_cons (pv 0) pa_nil)) pe_int (nomark _)) (pw_or (pt_not (pt_truth (pe_callB call_isi (by rfl) T.b_isinstance (by decide +kernel) (pa_cons (pe_ix ix_seq (pv 0) pe_int (fun _ _ => rfl)) (pa_cons (pe_bltn (v := .ty "str") (by rfl) T.b_str (by decide +kernel) rfl) pa_nil))) (by intro _; rfl))) (pw_or1 (pt_cmpR (op_nes hr.units) (pe_ix ix_seq (pv 0) pe_int (fun _ _ => rfl)) pe_str (nomark _))))))) (pss_one (ps_ret pe_bl)) pss_nil) (pss_cons (ps_if (PW.pt (pw_or (pt_not (pt_truth (pe_callB call_isi (by rfl) T.b_isinstance (by decide +kernel) (pa_cons (pe_ix ix_seq (pv 0) pe_int (fun _ _ => rfl)) (pa_cons (pe_bltn (v := .ty "tuple") (by rfl) T.b_tuple (by decide +kernel) rfl) pa_nil))) (by intro _; rfl))) (pw_or1 (pt_not (pt_chain op_les op_les pe_int (pe_callB call_len (by rfl) T.b_len (by decide +kernel) (pa_cons (pe_ix ix_seq (pv 0) pe_int (fun _ _ => rfl)) pa_nil)) (pe_glob (v := (.int 4000)) rfl T.k_MOST_ROWS ⟨_, rfl⟩)))))) (pss_one (ps_ret pe_bl)) pss_nil) (pss_one (ps_ret (pe_callB (cr_all rfl) (by rfl) T.b_all (by decide +kernel) (pa_cons (pe_lc (own := [("place", 1), ("row", 2)]) rfl sc_is_short.nd (pi_enumK (by rfl) T.b_enumerate (pa_cons (pe_ix ix_seq (pv 0) pe_int (fun _ _ => rfl)) pa_nil)) (blkOk_by (N := ["thing", "place", "row"]) (sc := defScope s_is_short) (by first | decide +kernel | rfl)) (fun _ _ _ _ _ => (pg_tup rfl (pgs_cons (pg_name (i := 1) sc_is_short.nd rfl (by first | exact Or.inl rfl | exact Or.inr rfl)) (pgs_cons (pg_name (i := 2) sc_is_short.nd rfl (by first | exact Or.inl rfl | exact Or.inr rfl)) pgs_nil)))) (fun _ _ _ _ _ => pts_nil) (fun _ _ _ _ _ => (pe_fn (CanC.ok (ok_is_row T) (hr.mono (by decide)) hxB) (by rfl) T.g_is_row T.f_is_row.kp T.bi_is_row (pa_cons (pv 2) (pa_cons (pv 1) pa_nil))))) pa_nil)))))), fn_body (np := 1) (nl := 2) I rfl h⟩
theorem sc_need_short : FnScope ["short"] ["short"] (defScope s_need_short) := ⟨rfl, rfl, rfl, by decide +kernel, rfl, by decide +kernel, by decide +kernel⟩
def m_need_short : MS := (sIf (xNot (xTru (xCall [false] F_is_short (aCons (xVar 0) aNil)))) (sRaise "BadShort") sNext)
def F_need_short : Fn := runF (fun i => decide (i ∈ ([0] : List Nat))) 1 0 m_need_short
theorem ok_need_short (T : Tx P K mg) : FnOk P w K mg base (L2.CX P w) 4 T.a_need_short T.fd_need_short ["short"] (spM K T.ct F_need_short) := by
  refine T.f_need_short.okX sc_need_short (fun vs H Q E h => sp_len runF_len h) (fun cdv A outer s H vs Q E hr h => ?_)
  have I : ImpS K T.ct E (fun i => decide (i ∈ ([0] : List Nat))) _ m_need_short := (is_if (it_not (it_tru (im_call (bs := [false]) (ia_cons (im_var (i := 0)) ia_nil)))) (is_raise (c := "BadShort")) is_next)
  exact ⟨_, (pss_one (ps_if (pt_not (pt_truth (pe_fn (CanC.ok (ok_is_short T) (hr.mono (by decide)) hxE) (by rfl) T.g_is_short T.f_is_short.kp T.bi_is_short (pa_cons (pv 0) pa_nil)) (by intro _; rfl))) (pss_one (ps_raise rfl tkE (pmk_own PySem.F.excBase_ValueError T.x_BadShort T.g_BadShort T.k_BadShort (raises_own T.e_BadShort T.t_BadShort) (by rfl)))) pss_nil)), fn_body (np := 1) (nl := 0) I rfl h⟩
theorem sc_behind : FnScope ["one", "other", "many", "rows", "row"] ["one", "other"] (defScope s_behind) := ⟨rfl, rfl, rfl, by decide +kernel, rfl, by decide +kernel, by decide +kernel⟩
def b_behind_1 : MS := (sDrop (xApp 3 (xIf (xTest (xOp (blR gEq) (xOp gIx (xVar 4) (xC (.int 0))) (xC (.str "say")))) (xVar 4) (xTup (aCons (xC (.str "then")) (aCons (xOp gAdd (xOp gIx (xVar 4) (xC (.int 1))) (xVar 2)) (aCons (xOp gAdd (xOp gIx (xVar 4) (xC (.int 2))) (xVar 2)) aNil)))))))
def m_behind : MS := (sSeq (sDrop (xCall [false] F_need_short (aCons (xVar 0) aNil))) (sSeq (sDrop (xCall [false] F_need_short (aCons (xVar 1) aNil))) (sSeq (sAsg 2 (xCB gLen (aCons (xOp gIx (xVar 0) (xC (.int 1))) aNil))) (sSeq (sIf (xTest (xOp (blR gGe) (xOp gAdd (xVar 2) (xCB gLen (aCons (xOp gIx (xVar 1) (xC (.int 1))) aNil))) (xC (.int 4000)))) (sRaiseX "TooMany" "most" (xC (.int 4000))) sNext) (sSeq (sAsg 3 (xCB gList (aCons (xOp gIx (xVar 0) (xC (.int 1))) aNil))) (sSeq (sFor (xISeq (xOp gIx (xVar 1) (xC (.int 1)))) (mName 4) b_behind_1) (sRet (xTup (aCons (xC (.str "short")) (aCons (xTup (aStar (xVar 3) (aCons (xTup (aCons (xC (.str "then")) (aCons (xOp gSub (xVar 2) (xC (.int 1))) (aCons (xOp gSub (xCB gLen (aCons (xVar 3) aNil)) (xC (.int 1))) aNil)))) aNil))) aNil))))))))))
def F_behind : Fn := runF (fun i => decide (i ∈ ([0, 1] : List Nat))) 2 3 m_behind
theorem ok_behind (T : Tx P K mg) : FnOk P w K mg base (L2.CX P w) 5 T.a_behind T.fd_behind ["one", "other"] (spM K T.ct F_behind) := by
  refine T.f_behind.okX sc_behind (fun vs H Q E h => sp_len runF_len h) (fun cdv A outer s H vs Q E hr h => ?_)
  have I : ImpS K T.ct E (fun i => decide (i ∈ ([0, 1] : List Nat))) _ m_behind := (is_seq (is_drop (im_call (bs := [false]) (ia_cons (im_var (i := 0)) ia_nil))) (is_seq (is_drop (im_call (bs := [false]) (ia_cons (im_var (i := 1)) ia_nil))) (is_seq (is_asg (i := 2) (im_cb gc_len (ia_cons (im_op gi_ix (im_var (i := 0)) im_int) ia_nil)) (by decide)) (is_seq (is_if (it_test (im_op (CmpI.op ci_ge) (im_op gi_add (im_var (i := 2)) (im_cb gc_len (ia_cons (im_op gi_ix (im_var (i := 1)) im_int) ia_nil))) im_int)) (is_raiseX (c := "TooMany") rfl im_int) is_next) (is_seq (is_asg (i := 3) (im_cb gc_list (ia_cons (im_op gi_ix (im_var (i := 0)) im_int) ia_nil)) (by decide)) (is_seq (is_for (ii_seq (im_op gi_ix (im_var (i := 1)) im_int)) (ig_name (i := 4)) (is_drop (im_app (i := 3) (im_if (it_test (im_op (CmpI.op ci_eq) (im_op gi_ix (im_var (i := 4)) im_int) im_str)) (im_var (i := 4)) (im_tup (ia_cons im_str (ia_cons (im_op gi_add (im_op gi_ix (im_var (i := 4)) im_int) (im_var (i := 2))) (ia_cons (im_op gi_add (im_op gi_ix (im_var (i := 4)) im_int) (im_var (i := 2))) ia_nil))))))) (by decide)) (is_ret (im_tup (ia_cons im_str (ia_cons (im_tup (ia_star (im_var (i := 3)) (ia_cons (im_tup (ia_cons im_str (ia_cons (im_op gi_sub (im_var (i := 2)) im_int) (ia_cons (im_op gi_sub (im_cb gc_len (ia_cons (im_var (i := 3)) ia_nil)) im_int) ia_nil)))) ia_nil))) ia_nil))))))))))
  exact ⟨_, (pss_cons (ps_expr (pe_fn (CanC.ok (ok_need_short T) (hr.mono (by decide)) hxE) (by rfl) T.g_need_short T.f_need_short.kp T.bi_need_short (pa_cons (pv 0) pa_nil))) (pss_cons (ps_expr (pe_fn (CanC.ok (ok_need_short T) (hr.mono (by decide)) hxE) (by rfl) T.g_need_short T.f_need_short.kp T.bi_need_short (pa_cons (pv 1) pa_nil))) (pss_cons (ps_set (i := 2) sc_behind.nd rfl (by first | exact Or.inl rfl | exact Or.inr rfl) (pe_callB call_len (by rfl) T.b_len (by decide +kernel) (pa_cons (pe_ix ix_seq (pv 0) pe_int (fun _ _ => rfl)) pa_nil))) (pss_cons (ps_if (pt_cmpR op_ges (pe_op op_adds (pv 2) (pe_callB call_len (by rfl) T.b_len (by decide +kernel) (pa_cons (pe_ix ix_seq (pv 1) pe_int (fun _ _ => rfl)) pa_nil))) (pe_glob (v := (.int 4000)) rfl T.k_MOST_ROWS ⟨_, rfl⟩) (nomark _)) (pss_one (ps_raise rfl tkE (pmk_sup T.s_TooMany rfl rfl rfl rfl rfl (hr.mono (by decide)) (by rfl) T.g_TooMany (pe_glob (v := (.int 4000)) rfl T.k_MOST_ROWS ⟨_, rfl⟩)))) pss_nil) (pss_cons (ps_set (i := 3) sc_behind.nd rfl (by first | exact Or.inl rfl | exact Or.inr rfl) (pe_callTy call_list_of (by rfl) T.b_list (by decide +kernel) (pa_cons (pe_ix ix_seq (pv 0) pe_int (fun _ _ => rfl)) pa_nil))) (pss_cons (ps_for (passes_of rfl) rfl (pi_seq (pe_ix ix_seq (pv 1) pe_int (fun _ _ => rfl))) (pg_name (i := 4) sc_behind.nd rfl (by first | exact Or.inl rfl | exact Or.inr rfl)) (pss_one (ps_expr (pe_bm PySem.F.plainAttrs_list PySem.F.slot_list_append PySem.F.type_list_append mt_append (pv 3) (pa_cons (pe_ifExp (pt_cmpR (op_eqs hr.units) (pe_ix ix_seq (pv 4) pe_int (fun _ _ => rfl)) pe_str (nomark _)) (pv 4) (pe_tup (pa_cons pe_str (pa_cons (pe_op op_adds (pe_ix ix_seq (pv 4) pe_int (fun _ _ => rfl)) (pv 2)) (pa_cons (pe_op op_adds (pe_ix ix_seq (pv 4) pe_int (fun _ _ => rfl)) (pv 2)) pa_nil))))) pa_nil))))) (pss_one (ps_ret (pe_tup (pa_cons pe_str (pa_cons (pe_tup (StX.pa_star (pv 3) (pa_cons (pe_tup (pa_cons pe_str (pa_cons (pe_op op_subs (pv 2) pe_int) (pa_cons (pe_op op_subs (pe_callB call_len (by rfl) T.b_len (by decide +kernel) (pa_cons (pv 3) pa_nil)) pe_int) pa_nil)))) pa_nil))) pa_nil))))))))))), fn_body (np := 2) (nl := 3) I rfl h⟩
theorem sc_need_word : FnScope ["word"] ["word"] (defScope s_need_word) := ⟨rfl, rfl, rfl, by decide +kernel, rfl, by decide +kernel, by decide +kernel⟩
def m_need_word : MS := (sIf (xNot (xTru (xCall [false, false, false] F_are_letters (aCons (xVar 0) (aCons (xC (.int 1)) (aCons (xC (.int 20)) aNil)))))) (sRaise "BadWord") sNext)
def F_need_word : Fn := runF (fun i => decide (i ∈ ([0] : List Nat))) 1 0 m_need_word
theorem ok_need_word (T : Tx P K mg) : FnOk P w K mg base (L2.CX P w) 2 T.a_need_word T.fd_need_word ["word"] (spM K T.ct F_need_word) := by
  refine T.f_need_word.okX sc_need_word (fun vs H Q E h => sp_len runF_len h) (fun cdv A outer s H vs Q E hr h => ?_)
  have I : ImpS K T.ct E (fun i => decide (i ∈ ([0] : List Nat))) _ m_need_word := (is_if (it_not (it_tru (im_call (bs := [false, false, false]) (ia_cons (im_var (i := 0)) (ia_cons im_int (ia_cons im_int ia_nil)))))) (is_raise (c := "BadWord")) is_next)
  exact ⟨_, (pss_one (ps_if (pt_not (pt_truth (pe_fn (CanC.ok (ok_are_letters T) (hr.mono (by decide)) hxE) (by rfl) T.g_are_letters T.f_are_letters.kp T.bi_are_letters (pa_cons (pv 0) (pa_cons pe_int (pa_cons (pe_glob (v := (.int 20)) rfl T.k_MOST_WORD ⟨_, rfl⟩) pa_nil)))) (by intro _; rfl))) (pss_one (ps_raise rfl tkE (pmk_own PySem.F.excBase_ValueError T.x_BadWord T.g_BadWord T.k_BadWord (raises_own T.e_BadWord T.t_BadWord) (by rfl)))) pss_nil)), fn_body (np := 1) (nl := 0) I rfl h⟩
theorem sc_starts_in : FnScope ["text", "word", "at"] ["text", "word"] (defScope s_starts_in) := ⟨rfl, rfl, rfl, by decide +kernel, rfl, by decide +kernel, by decide +kernel⟩
def e_starts_in_1 : MX := (xVar 2)
def x_starts_in_1 : MX := (xLc (xIRng1 (aCons (xOp gAdd (xOp gSub (xCB gLen (aCons (xVar 0) aNil)) (xCB gLen (aCons (xVar 1) aNil))) (xC (.int 1))) aNil)) (mName 2) (xTest (xOp (blR gEq) (xSl gSl (xVar 0) (oPart (xVar 2)) (oPart (xOp gAdd (xVar 2) (xCB gLen (aCons (xVar 1) aNil))))) (xVar 1))) e_starts_in_1 [2])
def m_starts_in : MS := (sRet x_starts_in_1)
def F_starts_in : Fn := runF (fun i => decide (i ∈ ([0, 1] : List Nat))) 2 1 m_starts_in
theorem ok_starts_in (T : Tx P K mg) : FnOk P w K mg base (L2.CX P w) 1 T.a_starts_in T.fd_starts_in ["text", "word"] (spM K T.ct F_starts_in) := by
  refine T.f_starts_in.okX sc_starts_in (fun vs H Q E h => sp_len runF_len h) (fun cdv A outer s H vs Q E hr h => ?_)
  have I : ImpS K T.ct E (fun i => decide (i ∈ ([0, 1] : List Nat))) _ m_starts_in := (is_ret (im_lc (vs := [2]) (ii_rng1 (ia_cons (im_op gi_add (im_op gi_sub (im_cb gc_len (ia_cons (im_var (i := 0)) ia_nil)) (im_cb gc_len (ia_cons (im_var (i := 1)) ia_nil))) im_int) ia_nil)) (ig_name (i := 2)) (it_test (im_op (CmpI.op ci_eq) (im_sl si_all (im_var (i := 0)) (io_part (im_var (i := 2))) (io_part (im_op gi_add (im_var (i := 2)) (im_cb gc_len (ia_cons (im_var (i := 1)) ia_nil))))) (im_var (i := 1)))) (im_var (i := 2)) (by decide)))
  exact ⟨_, (pss_one (ps_ret (pe_lc (own := [("at", 2)]) rfl sc_starts_in.nd (pi_range1 (by rfl) T.b_range (pa_cons (pe_op op_adds (pe_op op_subs (pe_callB call_len (by rfl) T.b_len (by decide +kernel) (pa_cons (pv 0) pa_nil)) (pe_callB call_len (by rfl) T.b_len (by decide +kernel) (pa_cons (pv 1) pa_nil))) pe_int) pa_nil)) (blkOk_by (N := ["text", "word", "at"]) (sc := defScope s_starts_in) (by first | decide +kernel | rfl)) (fun _ _ _ _ _ => (pg_name (i := 2) sc_starts_in.nd rfl (by first | exact Or.inl rfl | exact Or.inr rfl))) (fun _ _ _ _ _ => (pts_one (pt_cmpR (op_eqs hr.units) (pe_slice sl_all (pv 0) (po_some (pv 2)) (po_some (pe_op op_adds (pv 2) (pe_callB call_len (by rfl) T.b_len (by decide +kernel) (pa_cons (pv 1) pa_nil))))) (pv 1) (nomark _)))) (fun _ _ _ _ _ => (pv 2))))), fn_body (np := 2) (nl := 1) I rfl h⟩
theorem sc_Looked___init__ : FnScope ["self", "word", "text", "starts", "edge"] ["self", "word", "text"] (defScope s_Looked___init__) := ⟨rfl, rfl, rfl, by decide +kernel, rfl, by decide +kernel, by decide +kernel⟩
def m_Looked___init__ : MS := (sSeq (sPars [3, 4] (aCons (xCall [false, false] F_starts_in (aCons (xVar 2) (aCons (xVar 1) aNil))) (aCons (xOp gSub (xCB gLen (aCons (xVar 1) aNil)) (xC (.int 1))) aNil))) (sSeq (sFldI "many" 0 (xCB gLen (aCons (xVar 2) aNil))) (sSeq (sFldI "ahead" 0 (xSl gSl (xVar 2) oNone (oPart (xVar 4)))) (sSeq (sFldI "last" 0 (xSl gSl (xVar 2) (oPart (xOp gSub (xCB gLen (aCons (xVar 2) aNil)) (xCB gMin2 (aCons (xVar 4) (aCons (xCB gLen (aCons (xVar 2) aNil)) aNil))))) oNone)) (sSeq (sFldI "times" 0 (xCB gLen (aCons (xVar 3) aNil))) (sFldI "first" 0 (xIf (xTest (xOp (blR gNeE) (xVar 3) (xLst aNil))) (xOp gIx (xVar 3) (xC (.int 0))) (xC .non))))))))
def F_Looked___init__ : Fn := runF (fun i => decide (i ∈ ([0, 1, 2] : List Nat))) 3 2 m_Looked___init__
theorem ok_Looked___init__ (T : Tx P K mg) : FnOk P w K mg base (L2.CX P w) 2 T.a_Looked___init__ T.fd_Looked___init__ ["self", "word", "text"] (spM K T.ct F_Looked___init__) := by
  refine T.f_Looked___init__.okX sc_Looked___init__ (fun vs H Q E h => sp_len runF_len h) (fun cdv A outer s H vs Q E hr h => ?_)
  have I : ImpS K T.ct E (fun i => decide (i ∈ ([0, 1, 2] : List Nat))) _ m_Looked___init__ := (is_seq (is_par (ia_cons (im_call (bs := [false, false]) (ia_cons (im_var (i := 2)) (ia_cons (im_var (i := 1)) ia_nil))) (ia_cons (im_op gi_sub (im_cb gc_len (ia_cons (im_var (i := 1)) ia_nil)) im_int) ia_nil)) (by decide)) (is_seq (is_fldI (i := 0) (im_cb gc_len (ia_cons (im_var (i := 2)) ia_nil))) (is_seq (is_fldI (i := 0) (im_sl si_all (im_var (i := 2)) io_none (io_part (im_var (i := 4))))) (is_seq (is_fldI (i := 0) (im_sl si_all (im_var (i := 2)) (io_part (im_op gi_sub (im_cb gc_len (ia_cons (im_var (i := 2)) ia_nil)) (im_cb gc_min2 (ia_cons (im_var (i := 4)) (ia_cons (im_cb gc_len (ia_cons (im_var (i := 2)) ia_nil)) ia_nil))))) io_none)) (is_seq (is_fldI (i := 0) (im_cb gc_len (ia_cons (im_var (i := 3)) ia_nil))) (is_fldI (i := 0) (im_if (it_test (im_op (CmpI.op ci_neE) (im_var (i := 3)) (im_lst ia_nil))) (im_op gi_ix (im_var (i := 3)) im_int) im_non)))))))
  exact ⟨_, (pss_cons (ps_par (i := 3) (j := 4) rfl sc_Looked___init__.nd rfl rfl (by decide) rfl rfl (pa_cons (pe_fn (CanC.ok (ok_starts_in T) (hr.mono (by decide)) hxE) (by rfl) T.g_starts_in T.f_starts_in.kp T.bi_starts_in (pa_cons (pv 2) (pa_cons (pv 1) pa_nil))) (pa_cons (pe_op op_subs (pe_callB call_len (by rfl) T.b_len (by decide +kernel) (pa_cons (pv 1) pa_nil)) pe_int) pa_nil)) (by rfl)) (pss_cons (ps_fld (pv 0) (pe_callB call_len (by rfl) T.b_len (by decide +kernel) (pa_cons (pv 2) pa_nil)) rfl) (pss_cons (ps_fld (pv 0) (pe_slice sl_all (pv 2) po_none (po_some (pv 4))) rfl) (pss_cons (ps_fld (pv 0) (pe_slice sl_all (pv 2) (po_some (pe_op op_subs (pe_callB call_len (by rfl) T.b_len (by decide +kernel) (pa_cons (pv 2) pa_nil)) (pe_callB (call_min2 rfl) (by rfl) T.b_min (by decide +kernel) (pa_cons (pv 4) (pa_cons (pe_callB call_len (by rfl) T.b_len (by decide +kernel) (pa_cons (pv 2) pa_nil)) pa_nil))))) po_none) rfl) (pss_cons (ps_fld (pv 0) (pe_callB call_len (by rfl) T.b_len (by decide +kernel) (pa_cons (pv 3) pa_nil)) rfl) (pss_one (ps_fld (pv 0) (pe_ifExp (pt_cmpR (op_neE hr.units) (pv 3) (pe_lst pa_nil) (nomark _)) (pe_ix ix_seq (pv 3) pe_int (fun _ _ => rfl)) pe_non) rfl))))))), fn_body (np := 3) (nl := 2) I rfl h⟩
theorem sc_looked_behind : FnScope ["word", "one", "other", "edge", "between", "found", "joined", "at"] ["word", "one", "other"] (defScope s_looked_behind) := ⟨rfl, rfl, rfl, by decide +kernel, rfl, by decide +kernel, by decide +kernel⟩
def e_looked_behind_1 : MX := (xVar 7)
def x_looked_behind_1 : MX := (xLc (xISeq (xCall [false, false] F_starts_in (aCons (xOp gAdd (xFldI "last" (xVar 1)) (xFldI "ahead" (xVar 2))) (aCons (xVar 0) aNil)))) (mName 7) (xTest (xChain gLt gLt (xVar 7) (xCB gLen (aCons (xFldI "last" (xVar 1)) aNil)) (xOp gAdd (xVar 7) (xCB gLen (aCons (xVar 0) aNil))))) e_looked_behind_1 [7])
def m_looked_behind : MS := (sSeq (sAsg 3 (xOp gSub (xCB gLen (aCons (xVar 0) aNil)) (xC (.int 1)))) (sSeq (sAsg 4 x_looked_behind_1) (sSeq (sAsg 5 (xNewI fl_Looked F_Looked___init__ (aCons (xVar 0) (aCons (xC (.str "")) aNil)))) (sSeq (sFldI "many" 5 (xOp gAdd (xFldI "many" (xVar 1)) (xFldI "many" (xVar 2)))) (sSeq (sFldI "ahead" 5 (xIf (xTest (xOp (blR gLt) (xFldI "many" (xVar 1)) (xVar 3))) (xSl gSl (xOp gAdd (xFldI "ahead" (xVar 1)) (xFldI "ahead" (xVar 2))) oNone (oPart (xVar 3))) (xFldI "ahead" (xVar 1)))) (sSeq (sAsg 6 (xIf (xTest (xOp (blR gLt) (xFldI "many" (xVar 2)) (xVar 3))) (xOp gAdd (xFldI "last" (xVar 1)) (xFldI "last" (xVar 2))) (xFldI "last" (xVar 2)))) (sSeq (sFldI "last" 5 (xSl gSl (xVar 6) (oPart (xOp gSub (xCB gLen (aCons (xVar 6) aNil)) (xCB gMin2 (aCons (xVar 3) (aCons (xCB gLen (aCons (xVar 6) aNil)) aNil))))) oNone)) (sSeq (sFldI "times" 5 (xOp gAdd (xOp gAdd (xFldI "times" (xVar 1)) (xFldI "times" (xVar 2))) (xCB gLen (aCons (xVar 4) aNil)))) (sSeq (sFldI "first" 5 (xFldI "first" (xVar 1))) (sSeq (sIf (xAnd (xTest (xOp (blR gIsN) (xFldI "first" (xVar 5)) (xC .non))) (xTest (xOp (blR gNeE) (xVar 4) (xLst aNil)))) (sFldI "first" 5 (xOp gAdd (xOp gSub (xFldI "many" (xVar 1)) (xCB gLen (aCons (xFldI "last" (xVar 1)) aNil))) (xOp gIx (xVar 4) (xC (.int 0))))) sNext) (sSeq (sIf (xAnd (xTest (xOp (blR gIsN) (xFldI "first" (xVar 5)) (xC .non))) (xTest (xOp (blR gNotN) (xFldI "first" (xVar 2)) (xC .non)))) (sFldI "first" 5 (xOp gAdd (xFldI "many" (xVar 1)) (xFldI "first" (xVar 2)))) sNext) (sRet (xVar 5)))))))))))))
def F_looked_behind : Fn := runF (fun i => decide (i ∈ ([0, 1, 2] : List Nat))) 3 5 m_looked_behind
theorem ok_looked_behind (T : Tx P K mg) : FnOk P w K mg base (L2.CX P w) 4 T.a_looked_behind T.fd_looked_behind ["word", "one", "other"] (spM K T.ct F_looked_behind) := by
  refine T.f_looked_behind.okX sc_looked_behind (fun vs H Q E h => sp_len runF_len h) (fun cdv A outer s H vs Q E hr h => ?_)
  have I : ImpS K T.ct E (fun i => decide (i ∈ ([0, 1, 2] : List Nat))) _ m_looked_behind := (is_seq (is_asg (i := 3) (im_op gi_sub (im_cb gc_len (ia_cons (im_var (i := 0)) ia_nil)) im_int) (by decide)) (is_seq (is_asg (i := 4) (im_lc (vs := [7]) (ii_seq (im_call (bs := [false, false]) (ia_cons (im_op gi_add (im_fldI (im_var (i := 1))) (im_fldI (im_var (i := 2)))) (ia_cons (im_var (i := 0)) ia_nil)))) (ig_name (i := 7)) (it_test (im_chain ci_lt ci_lt (im_var (i := 7)) (im_cb gc_len (ia_cons (im_fldI (im_var (i := 1))) ia_nil)) (im_op gi_add (im_var (i := 7)) (im_cb gc_len (ia_cons (im_var (i := 0)) ia_nil))))) (im_var (i := 7)) (by decide)) (by decide)) (is_seq (is_asg (i := 5) (im_newI T.ic_Looked (ia_cons (im_var (i := 0)) (ia_cons im_str ia_nil))) (by decide)) (is_seq (is_fldI (i := 5) (im_op gi_add (im_fldI (im_var (i := 1))) (im_fldI (im_var (i := 2))))) (is_seq (is_fldI (i := 5) (im_if (it_test (im_op (CmpI.op ci_lt) (im_fldI (im_var (i := 1))) (im_var (i := 3)))) (im_sl si_all (im_op gi_add (im_fldI (im_var (i := 1))) (im_fldI (im_var (i := 2)))) io_none (io_part (im_var (i := 3)))) (im_fldI (im_var (i := 1))))) (is_seq (is_asg (i := 6) (im_if (it_test (im_op (CmpI.op ci_lt) (im_fldI (im_var (i := 2))) (im_var (i := 3)))) (im_op gi_add (im_fldI (im_var (i := 1))) (im_fldI (im_var (i := 2)))) (im_fldI (im_var (i := 2)))) (by decide)) (is_seq (is_fldI (i := 5) (im_sl si_all (im_var (i := 6)) (io_part (im_op gi_sub (im_cb gc_len (ia_cons (im_var (i := 6)) ia_nil)) (im_cb gc_min2 (ia_cons (im_var (i := 3)) (ia_cons (im_cb gc_len (ia_cons (im_var (i := 6)) ia_nil)) ia_nil))))) io_none)) (is_seq (is_fldI (i := 5) (im_op gi_add (im_op gi_add (im_fldI (im_var (i := 1))) (im_fldI (im_var (i := 2)))) (im_cb gc_len (ia_cons (im_var (i := 4)) ia_nil)))) (is_seq (is_fldI (i := 5) (im_fldI (im_var (i := 1)))) (is_seq (is_if (it_and (it_test (im_op (CmpI.op ci_isN) (im_fldI (im_var (i := 5))) im_non)) (it_test (im_op (CmpI.op ci_neE) (im_var (i := 4)) (im_lst ia_nil)))) (is_fldI (i := 5) (im_op gi_add (im_op gi_sub (im_fldI (im_var (i := 1))) (im_cb gc_len (ia_cons (im_fldI (im_var (i := 1))) ia_nil))) (im_op gi_ix (im_var (i := 4)) im_int))) is_next) (is_seq (is_if (it_and (it_test (im_op (CmpI.op ci_isN) (im_fldI (im_var (i := 5))) im_non)) (it_test (im_op (CmpI.op ci_notN) (im_fldI (im_var (i := 2))) im_non))) (is_fldI (i := 5) (im_op gi_add (im_fldI (im_var (i := 1))) (im_fldI (im_var (i := 2))))) is_next) (is_ret (im_var (i := 5))))))))))))))
  exact ⟨_, (pss_cons (ps_set (i := 3) sc_looked_behind.nd rfl (by first | exact Or.inl rfl | exact Or.inr rfl) (pe_op op_subs (pe_callB call_len (by rfl) T.b_len (by decide +kernel) (pa_cons (pv 0) pa_nil)) pe_int)) (pss_cons (ps_setLc (i := 4) rfl sc_looked_behind.nd rfl rfl (sw_true rfl rfl rfl (by decide +kernel)) (own := [("at", 7)]) (pi_seq (pe_fn (CanC.ok (ok_starts_in T) (hr.mono (by decide)) hxE) (by rfl) T.g_starts_in T.f_starts_in.kp T.bi_starts_in (pa_cons (pe_op op_adds (pe_fld (pv 1) rfl) (pe_fld (pv 2) rfl)) (pa_cons (pv 0) pa_nil)))) (blkOk_by (N := ["word", "one", "other", "edge", "between", "found", "joined", "at"]) (sc := defScope s_looked_behind) (by first | decide +kernel | rfl)) (fun _ _ _ _ _ => (pg_name (i := 7) sc_looked_behind.nd rfl (by first | exact Or.inl rfl | exact Or.inr rfl))) (fun _ _ _ _ _ => (pts_one (pt_chain op_lts op_lts (pv 7) (pe_callB call_len (by rfl) T.b_len (by decide +kernel) (pa_cons (pe_fld (pv 1) rfl) pa_nil)) (pe_op op_adds (pv 7) (pe_callB call_len (by rfl) T.b_len (by decide +kernel) (pa_cons (pv 0) pa_nil)))))) (fun _ _ _ _ _ => (pv 7))) (pss_cons (ps_set (i := 5) sc_looked_behind.nd rfl (by first | exact Or.inl rfl | exact Or.inr rfl) (pe_make T.mk_Looked (ok_Looked___init__ T) (hr.mono (by decide)) rfl T.gC_Looked T.bi_Looked___init__ .nil hxE (pa_cons (pv 0) (pa_cons pe_str pa_nil)))) (pss_cons (ps_fld (pv 5) (pe_op op_adds (pe_fld (pv 1) rfl) (pe_fld (pv 2) rfl)) rfl) (pss_cons (ps_fld (pv 5) (pe_ifExp (pt_cmpR op_lts (pe_fld (pv 1) rfl) (pv 3) (nomark _)) (pe_slice sl_all (pe_op op_adds (pe_fld (pv 1) rfl) (pe_fld (pv 2) rfl)) po_none (po_some (pv 3))) (pe_fld (pv 1) rfl)) rfl) (pss_cons (ps_set (i := 6) sc_looked_behind.nd rfl (by first | exact Or.inl rfl | exact Or.inr rfl) (pe_ifExp (pt_cmpR op_lts (pe_fld (pv 2) rfl) (pv 3) (nomark _)) (pe_op op_adds (pe_fld (pv 1) rfl) (pe_fld (pv 2) rfl)) (pe_fld (pv 2) rfl))) (pss_cons (ps_fld (pv 5) (pe_slice sl_all (pv 6) (po_some (pe_op op_subs (pe_callB call_len (by rfl) T.b_len (by decide +kernel) (pa_cons (pv 6) pa_nil)) (pe_callB (call_min2 rfl) (by rfl) T.b_min (by decide +kernel) (pa_cons (pv 3) (pa_cons (pe_callB call_len (by rfl) T.b_len (by decide +kernel) (pa_cons (pv 6) pa_nil)) pa_nil))))) po_none) rfl) (pss_cons (ps_fld (pv 5) (pe_op op_adds (pe_op op_adds (pe_fld (pv 1) rfl) (pe_fld (pv 2) rfl)) (pe_callB call_len (by rfl) T.b_len (by decide +kernel) (pa_cons (pv 4) pa_nil))) rfl) (pss_cons (ps_fld (pv 5) (pe_fld (pv 1) rfl) rfl) (pss_cons (ps_if (PW.pt (pw_and (pt_cmpR op_isN (pe_fld (pv 5) rfl) pe_non (nomark _)) (pw_and1 (pt_cmpR (op_neE hr.units) (pv 4) (pe_lst pa_nil) (nomark _))))) (pss_one (ps_fld (pv 5) (pe_op op_adds (pe_op op_subs (pe_fld (pv 1) rfl) (pe_callB call_len (by rfl) T.b_len (by decide +kernel) (pa_cons (pe_fld (pv 1) rfl) pa_nil))) (pe_ix ix_seq (pv 4) pe_int (fun _ _ => rfl))) rfl)) pss_nil) (pss_cons (ps_if (PW.pt (pw_and (pt_cmpR op_isN (pe_fld (pv 5) rfl) pe_non (nomark _)) (pw_and1 (pt_cmpR op_notN (pe_fld (pv 2) rfl) pe_non (nomark _))))) (pss_one (ps_fld (pv 5) (pe_op op_adds (pe_fld (pv 1) rfl) (pe_fld (pv 2) rfl)) rfl)) pss_nil) (pss_one (ps_ret (pv 5)))))))))))))), fn_body (np := 3) (nl := 5) I rfl h⟩
theorem sc_looked : FnScope ["short", "word", "found", "row"] ["short", "word"] (defScope s_looked) := ⟨rfl, rfl, rfl, by decide +kernel, rfl, by decide +kernel, by decide +kernel⟩
def b_looked_1 : MS := (sDrop (xApp 2 (xShI (xIf (xTest (xOp (blR gEq) (xOp gIx (xVar 3) (xC (.int 0))) (xC (.str "say")))) (xNewI fl_Looked F_Looked___init__ (aCons (xVar 1) (aCons (xOp gIx (xVar 3) (xC (.int 1))) aNil))) (xCall [false, false, false] F_looked_behind (aCons (xVar 1) (aCons (xOp gIx (xVar 2) (xOp gIx (xVar 3) (xC (.int 1)))) (aCons (xOp gIx (xVar 2) (xOp gIx (xVar 3) (xC (.int 2)))) aNil))))))))
def m_looked : MS := (sSeq (sDrop (xCall [false] F_need_short (aCons (xVar 0) aNil))) (sSeq (sDrop (xCall [false] F_need_word (aCons (xVar 1) aNil))) (sSeq (sAsg 2 (xLst aNil)) (sSeq (sFor (xISeq (xOp gIx (xVar 0) (xC (.int 1)))) (mName 3) b_looked_1) (sRet (xOp gIx (xVar 2) (xUn gNeg (xC (.int 1)))))))))
def F_looked : Fn := runF (fun i => decide (i ∈ ([0, 1] : List Nat))) 2 2 m_looked
theorem ok_looked (T : Tx P K mg) : FnOk P w K mg base (L2.CX P w) 5 T.a_looked T.fd_looked ["short", "word"] (spM K T.ct F_looked) := by
  refine T.f_looked.okX sc_looked (fun vs H Q E h => sp_len runF_len h) (fun cdv A outer s H vs Q E hr h => ?_)
  have I : ImpS K T.ct E (fun i => decide (i ∈ ([0, 1] : List Nat))) _ m_looked := (is_seq (is_drop (im_call (bs := [false]) (ia_cons (im_var (i := 0)) ia_nil))) (is_seq (is_drop (im_call (bs := [false]) (ia_cons (im_var (i := 1)) ia_nil))) (is_seq (is_asg (i := 2) (im_lst ia_nil) (by decide)) (is_seq (is_for (ii_seq (im_op gi_ix (im_var (i := 0)) im_int)) (ig_name (i := 3)) (is_drop (im_app (i := 2) (im_shI (im_if (it_test (im_op (CmpI.op ci_eq) (im_op gi_ix (im_var (i := 3)) im_int) im_str)) (im_newI T.ic_Looked (ia_cons (im_var (i := 1)) (ia_cons (im_op gi_ix (im_var (i := 3)) im_int) ia_nil))) (im_call (bs := [false, false, false]) (ia_cons (im_var (i := 1)) (ia_cons (im_op gi_ix (im_var (i := 2)) (im_op gi_ix (im_var (i := 3)) im_int)) (ia_cons (im_op gi_ix (im_var (i := 2)) (im_op gi_ix (im_var (i := 3)) im_int)) ia_nil)))))))) (by decide)) (is_ret (im_op gi_ix (im_var (i := 2)) (im_un gi_neg im_int)))))))
  exact ⟨_, (pss_cons (ps_expr (pe_fn (CanC.ok (ok_need_short T) (hr.mono (by decide)) hxE) (by rfl) T.g_need_short T.f_need_short.kp T.bi_need_short (pa_cons (pv 0) pa_nil))) (pss_cons (ps_expr (pe_fn (CanC.ok (ok_need_word T) (hr.mono (by decide)) hxE) (by rfl) T.g_need_word T.f_need_word.kp T.bi_need_word (pa_cons (pv 1) pa_nil))) (pss_cons (ps_set (i := 2) sc_looked.nd rfl (by first | exact Or.inl rfl | exact Or.inr rfl) (pe_lst pa_nil)) (pss_cons (ps_for (passes_of rfl) rfl (pi_seq (pe_ix ix_seq (pv 0) pe_int (fun _ _ => rfl))) (pg_name (i := 3) sc_looked.nd rfl (by first | exact Or.inl rfl | exact Or.inr rfl)) (pss_one (ps_expr (pe_bm PySem.F.plainAttrs_list PySem.F.slot_list_append PySem.F.type_list_append mt_append (pv 2) (pa_cons (pe_ifExp (pt_cmpR (op_eqs hr.units) (pe_ix ix_seq (pv 3) pe_int (fun _ _ => rfl)) pe_str (nomark _)) (pe_make T.mk_Looked (ok_Looked___init__ T) (hr.mono (by decide)) rfl T.gC_Looked T.bi_Looked___init__ .nil hxE (pa_cons (pv 1) (pa_cons (pe_ix ix_seq (pv 3) pe_int (fun _ _ => rfl)) pa_nil))) (pe_fn (CanC.ok (ok_looked_behind T) (hr.mono (by decide)) hxE) (by rfl) T.g_looked_behind T.f_looked_behind.kp T.bi_looked_behind (pa_cons (pv 1) (pa_cons (pe_ix ix_seq (pv 2) (pe_ix ix_seq (pv 3) pe_int (fun _ _ => rfl)) (fun _ _ => rfl)) (pa_cons (pe_ix ix_seq (pv 2) (pe_ix ix_seq (pv 3) pe_int (fun _ _ => rfl)) (fun _ _ => rfl)) pa_nil))))) pa_nil))))) (pss_one (ps_ret (pe_ix ix_seq (pv 2) (pe_un un_neg pe_int) (fun _ _ => rfl)))))))), fn_body (np := 2) (nl := 2) I rfl h⟩
theorem sc_times_in : FnScope ["short", "word"] ["short", "word"] (defScope s_times_in) := ⟨rfl, rfl, rfl, by decide +kernel, rfl, by decide +kernel, by decide +kernel⟩
def m_times_in : MS := (sRet (xFldI "times" (xCall [false, false] F_looked (aCons (xVar 0) (aCons (xVar 1) aNil)))))
def F_times_in : Fn := runF (fun i => decide (i ∈ ([0, 1] : List Nat))) 2 0 m_times_in
theorem ok_times_in (T : Tx P K mg) : FnOk P w K mg base (L2.CX P w) 6 T.a_times_in T.fd_times_in ["short", "word"] (spM K T.ct F_times_in) := by
  refine T.f_times_in.okX sc_times_in (fun vs H Q E h => sp_len runF_len h) (fun cdv A outer s H vs Q E hr h => ?_)
  have I : ImpS K T.ct E (fun i => decide (i ∈ ([0, 1] : List Nat))) _ m_times_in := (is_ret (im_fldI (im_call (bs := [false, false]) (ia_cons (im_var (i := 0)) (ia_cons (im_var (i := 1)) ia_nil)))))
  exact ⟨_, (pss_one (ps_ret (pe_fld (pe_fn (CanC.ok (ok_looked T) (hr.mono (by decide)) hxE) (by rfl) T.g_looked T.f_looked.kp T.bi_looked (pa_cons (pv 0) (pa_cons (pv 1) pa_nil))) rfl))), fn_body (np := 2) (nl := 0) I rfl h⟩
theorem sc_first_in : FnScope ["short", "word"] ["short", "word"] (defScope s_first_in) := ⟨rfl, rfl, rfl, by decide +kernel, rfl, by decide +kernel, by decide +kernel⟩
def m_first_in : MS := (sRet (xFldI "first" (xCall [false, false] F_looked (aCons (xVar 0) (aCons (xVar 1) aNil)))))
def F_first_in : Fn := runF (fun i => decide (i ∈ ([0, 1] : List Nat))) 2 0 m_first_in
theorem ok_first_in (T : Tx P K mg) : FnOk P w K mg base (L2.CX P w) 6 T.a_first_in T.fd_first_in ["short", "word"] (spM K T.ct F_first_in) := by
  refine T.f_first_in.okX sc_first_in (fun vs H Q E h => sp_len runF_len h) (fun cdv A outer s H vs Q E hr h => ?_)
  have I : ImpS K T.ct E (fun i => decide (i ∈ ([0, 1] : List Nat))) _ m_first_in := (is_ret (im_fldI (im_call (bs := [false, false]) (ia_cons (im_var (i := 0)) (ia_cons (im_var (i := 1)) ia_nil)))))
  exact ⟨_, (pss_one (ps_ret (pe_fld (pe_fn (CanC.ok (ok_looked T) (hr.mono (by decide)) hxE) (by rfl) T.g_looked T.f_looked.kp T.bi_looked (pa_cons (pv 0) (pa_cons (pv 1) pa_nil))) rfl))), fn_body (np := 2) (nl := 0) I rfl h⟩
theorem sc__law_begun : FnScope ["script", "wide", "grain"] ["script"] (defScope s__law_begun) := ⟨rfl, rfl, rfl, by decide +kernel, rfl, by decide +kernel, by decide +kernel⟩
def e__law_begun_1 : MX := (xOp gSub (xCB gAbs (aCons (xVar 2) aNil)) (xOp gPow (xC (.int 10)) (xC (.int 18))))
def x__law_begun_1 : MX := (xLc (xISeq (xVar 0)) (mName 2) (xTest (xOp (blR gGe) (xCB gAbs (aCons (xVar 2) aNil)) (xOp gPow (xC (.int 10)) (xC (.int 18))))) e__law_begun_1 [2])
def e__law_begun_2 : MX := (xOp gMod (xCB gToInt (aCons (xCB gAbs (aCons (xVar 2) aNil)) aNil)) (xC (.int 2147483629)))
def x__law_begun_2 : MX := (xLc (xISeq (xVar 0)) (mName 2) xYes e__law_begun_2 [2])
def m__law_begun : MS := (sSeq (sAsg 1 x__law_begun_1) (sRet (xDraw 1 x__law_begun_2)))
def F__law_begun : Fn := runF (fun i => decide (i ∈ ([0] : List Nat))) 1 2 m__law_begun
theorem ok__law_begun (T : Tx P K mg) : FnOk P w K mg base (L2.CX P w) 1 T.a__law_begun T.fd__law_begun ["script"] (spM K T.ct F__law_begun) := by
  refine T.f__law_begun.okX sc__law_begun (fun vs H Q E h => sp_len runF_len h) (fun cdv A outer s H vs Q E hr h => ?_)
  have I : ImpS K T.ct E (fun i => decide (i ∈ ([0] : List Nat))) _ m__law_begun := (is_seq (is_asg (i := 1) (im_lc (vs := [2]) (ii_seq (im_var (i := 0))) (ig_name (i := 2)) (it_test (im_op (CmpI.op ci_ge) (im_cb gc_abs (ia_cons (im_var (i := 2)) ia_nil)) (im_op gi_pow im_int im_int))) (im_op gi_sub (im_cb gc_abs (ia_cons (im_var (i := 2)) ia_nil)) (im_op gi_pow im_int im_int)) (by decide)) (by decide)) (is_ret (im_draw (i := 1) (im_lc (vs := [2]) (ii_seq (im_var (i := 0))) (ig_name (i := 2)) it_yes (im_op gi_mod (im_cb gc_toInt (ia_cons (im_cb gc_abs (ia_cons (im_var (i := 2)) ia_nil)) ia_nil)) im_int) (by decide)))))
  exact ⟨_, (pss_cons (ps_setLc (i := 1) rfl sc__law_begun.nd rfl rfl (sw_true rfl rfl rfl (by decide +kernel)) (own := [("grain", 2)]) (pi_seq (pv 0)) (blkOk_by (N := ["script", "wide", "grain"]) (sc := defScope s__law_begun) (by first | decide +kernel | rfl)) (fun _ _ _ _ _ => (pg_name (i := 2) sc__law_begun.nd rfl (by first | exact Or.inl rfl | exact Or.inr rfl))) (fun _ _ _ _ _ => (pts_one (pt_cmpR op_ges (pe_callB call_abs (by rfl) T.b_abs (by decide +kernel) (pa_cons (pv 2) pa_nil)) (pe_op op_pow pe_int pe_int) (nomark _)))) (fun _ _ _ _ _ => (pe_op op_subs (pe_callB call_abs (by rfl) T.b_abs (by decide +kernel) (pa_cons (pv 2) pa_nil)) (pe_op op_pow pe_int pe_int)))) (pss_one (ps_ret (pe_disp (pps_cons pe_str (pv 1) (pps_cons pe_str (pe_lc (own := [("grain", 2)]) rfl sc__law_begun.nd (pi_seq (pv 0)) (blkOk_by (N := ["script", "wide", "grain"]) (sc := defScope s__law_begun) (by first | decide +kernel | rfl)) (fun _ _ _ _ _ => (pg_name (i := 2) sc__law_begun.nd rfl (by first | exact Or.inl rfl | exact Or.inr rfl))) (fun _ _ _ _ _ => pts_nil) (fun _ _ _ _ _ => (pe_op op_mod (pe_callTy call_int1 (by rfl) T.b_int (by decide +kernel) (pa_cons (pe_callB call_abs (by rfl) T.b_abs (by decide +kernel) (pa_cons (pv 2) pa_nil)) pa_nil)) pe_int))) (pps_cons pe_str pe_int (pps_cons pe_str pe_int pps_nil)))) (by rfl) (by rfl) (fun z => by cases z) (by decide))))), fn_body (np := 1) (nl := 2) I rfl h⟩
theorem sc__law_mixed : FnScope ["draw", "turn", "found", "prime", "blend", "grain"] ["draw"] (defScope s__law_mixed) := ⟨rfl, rfl, rfl, by decide +kernel, rfl, by decide +kernel, by decide +kernel⟩
def b__law_mixed_1 : MS := (sAsg 4 (xOp gMod (xCB gToInt (aCons (xOp gAdd (xOp gAdd (xOp gMulX (xVar 4) (xC (.int 69621))) (xVar 5)) (xVar 1)) aNil)) (xVar 3)))
def b__law_mixed_2 : MS := (sSeq (sAsg 4 (xOp gAdd (xOp gMulX (xC (.int 48271)) (xVar 1)) (xOp gFdiv (xVar 3) (xC (.int 37))))) (sSeq (sFor (xISeq (xDrw (fun st => .sh (.scr st.cells)) 0)) (mName 5) b__law_mixed_1) (sAsg 2 (xOp gAdd (xOp gMulX (xVar 2) (xC (.int 2147483647))) (xOp gMod (xCB gToInt (aCons (xOp gPow (xVar 4) (xC (.int 5))) aNil)) (xVar 3))))))
def m__law_mixed : MS := (sSeq (sPars [1, 2] (aCons (xOp gAdd (xDrw (fun st => .sh (.int st.turn)) 0) (xC (.int 1))) (aCons (xC (.int 0)) aNil))) (sSeq (sDPut (fun st k => { st with turn := k }) 0 (xVar 1)) (sSeq (sFor (xISeq (xLst (aCons (xC (.int 2147483647)) (aCons (xC (.int 2147483629)) (aCons (xC (.int 2147483587)) (aCons (xC (.int 2147483579)) aNil)))))) (mName 3) b__law_mixed_2) (sRet (xVar 2)))))
def F__law_mixed : Fn := runF (fun i => decide (i ∈ ([0] : List Nat))) 1 5 m__law_mixed
theorem ok__law_mixed (T : Tx P K mg) : FnOk P w K mg base (L2.CX P w) 1 T.a__law_mixed T.fd__law_mixed ["draw"] (spM K T.ct F__law_mixed) := by
  refine T.f__law_mixed.okX sc__law_mixed (fun vs H Q E h => sp_len runF_len h) (fun cdv A outer s H vs Q E hr h => ?_)
  have I : ImpS K T.ct E (fun i => decide (i ∈ ([0] : List Nat))) _ m__law_mixed := (is_seq (is_par (ia_cons (im_op gi_add (im_dturn (i := 0)) im_int) (ia_cons im_int ia_nil)) (by decide)) (is_seq (is_dturn (i := 0) (im_var (i := 1))) (is_seq (is_for (ii_seq (im_lst (ia_cons im_int (ia_cons im_int (ia_cons im_int (ia_cons im_int ia_nil)))))) (ig_name (i := 3)) (is_seq (is_asg (i := 4) (im_op gi_add (im_op gi_mulX im_int (im_var (i := 1))) (im_op gi_fdiv (im_var (i := 3)) im_int)) (by decide)) (is_seq (is_for (ii_seq (im_dcells (i := 0))) (ig_name (i := 5)) (is_asg (i := 4) (im_op gi_mod (im_cb gc_toInt (ia_cons (im_op gi_add (im_op gi_add (im_op gi_mulX (im_var (i := 4)) im_int) (im_var (i := 5))) (im_var (i := 1))) ia_nil)) (im_var (i := 3))) (by decide)) (by decide)) (is_asg (i := 2) (im_op gi_add (im_op gi_mulX (im_var (i := 2)) im_int) (im_op gi_mod (im_cb gc_toInt (ia_cons (im_op gi_pow (im_var (i := 4)) im_int) ia_nil)) (im_var (i := 3)))) (by decide)))) (by decide)) (is_ret (im_var (i := 2))))))
  exact ⟨_, (pss_cons (ps_par (i := 1) (j := 2) rfl sc__law_mixed.nd rfl rfl (by decide) rfl rfl (pa_cons (pe_op op_adds (pe_dget (hu_of hr) (pv 0) pe_str (fun _ _ => rfl)) pe_int) (pa_cons pe_int pa_nil)) (by rfl)) (pss_cons (ps_dput (hu_of hr) (pv 0) pe_str (pv 1) (by rfl)) (pss_cons (ps_for (passes_of rfl) rfl (pi_seq (pe_lst (pa_cons pe_int (pa_cons pe_int (pa_cons pe_int (pa_cons pe_int pa_nil)))))) (pg_name (i := 3) sc__law_mixed.nd rfl (by first | exact Or.inl rfl | exact Or.inr rfl)) (pss_cons (ps_set (i := 4) sc__law_mixed.nd rfl (by first | exact Or.inl rfl | exact Or.inr rfl) (pe_op op_adds (pe_op op_mulX pe_int (pv 1)) (pe_op op_fdiv (pv 3) pe_int))) (pss_cons (ps_for (passes_of rfl) rfl (pi_seq (pe_dget (hu_of hr) (pv 0) pe_str (fun _ _ => rfl))) (pg_name (i := 5) sc__law_mixed.nd rfl (by first | exact Or.inl rfl | exact Or.inr rfl)) (pss_one (ps_set (i := 4) sc__law_mixed.nd rfl (by first | exact Or.inl rfl | exact Or.inr rfl) (pe_op op_mod (pe_callTy call_int1 (by rfl) T.b_int (by decide +kernel) (pa_cons (pe_op op_adds (pe_op op_adds (pe_op op_mulX (pv 4) pe_int) (pv 5)) (pv 1)) pa_nil)) (pv 3))))) (pss_one (ps_set (i := 2) sc__law_mixed.nd rfl (by first | exact Or.inl rfl | exact Or.inr rfl) (pe_op op_adds (pe_op op_mulX (pv 2) pe_int) (pe_op op_mod (pe_callTy call_int1 (by rfl) T.b_int (by decide +kernel) (pa_cons (pe_op op_pow (pv 4) pe_int) pa_nil)) (pv 3)))))))) (pss_one (ps_ret (pv 2)))))), fn_body (np := 1) (nl := 5) I rfl h⟩
theorem sc__law_take : FnScope ["draw", "many", "found"] ["draw", "many"] (defScope s__law_take) := ⟨rfl, rfl, rfl, by decide +kernel, rfl, by decide +kernel, by decide +kernel⟩
def m__law_take : MS := (sSeq (sIf (xTest (xOp (blR gEq) (xDrw (fun st => .sh (.int st.rest)) 0) (xC (.int 0)))) (sDPut (fun st k => { st with rest := k }) 0 (xIf (xTest (xDrw (fun st => .sh (.bl (!st.wide.isEmpty))) 0)) (xDPop 0) (xCall [true] F__law_mixed (aCons (xVar 0) aNil)))) sNext) (sSeq (sAsg 2 (xOp gMod (xCB gToInt (aCons (xDrw (fun st => .sh (.int st.rest)) 0) aNil)) (xVar 1))) (sSeq (sDPut (fun st k => { st with rest := k }) 0 (xOp gFdiv (xDrw (fun st => .sh (.int st.rest)) 0) (xVar 1))) (sRet (xVar 2)))))
def F__law_take : Fn := runF (fun i => decide (i ∈ ([0, 1] : List Nat))) 2 1 m__law_take
theorem ok__law_take (T : Tx P K mg) : FnOk P w K mg base (L2.CX P w) 2 T.a__law_take T.fd__law_take ["draw", "many"] (spM K T.ct F__law_take) := by
  refine T.f__law_take.okX sc__law_take (fun vs H Q E h => sp_len runF_len h) (fun cdv A outer s H vs Q E hr h => ?_)
  have I : ImpS K T.ct E (fun i => decide (i ∈ ([0, 1] : List Nat))) _ m__law_take := (is_seq (is_if (it_test (im_op (CmpI.op ci_eq) (im_drest (i := 0)) im_int)) (is_drest (i := 0) (im_if (it_test (im_dwide (i := 0))) (im_dpop (i := 0)) (im_call (bs := [true]) (ia_cons (im_var (i := 0)) ia_nil)))) is_next) (is_seq (is_asg (i := 2) (im_op gi_mod (im_cb gc_toInt (ia_cons (im_drest (i := 0)) ia_nil)) (im_var (i := 1))) (by decide)) (is_seq (is_drest (i := 0) (im_op gi_fdiv (im_drest (i := 0)) (im_var (i := 1)))) (is_ret (im_var (i := 2))))))
  exact ⟨_, (pss_cons (ps_if (pt_cmpR (op_eqs hr.units) (pe_dget (hu_of hr) (pv 0) pe_str (fun _ _ => rfl)) pe_int (nomark _)) (pss_one (ps_dput (hu_of hr) (pv 0) pe_str (pe_ifExp (pt_cmpR (op_nes hr.units) (pe_dget (hu_of hr) (pv 0) pe_str (fun _ _ => rfl)) (pe_lst pa_nil) (nomark _)) (pe_bm PySem.F.plainAttrs_list PySem.F.slot_list_pop PySem.F.type_list_pop mt_popAt (pe_dget (hu_of hr) (pv 0) pe_str (fun _ _ => rfl)) (pa_cons pe_int pa_nil)) (pe_fn (CanC.ok (ok__law_mixed T) (hr.mono (by decide)) hxE) (by rfl) T.g__law_mixed T.f__law_mixed.kp T.bi__law_mixed (pa_cons (pv 0) pa_nil))) (by rfl))) pss_nil) (pss_cons (ps_set (i := 2) sc__law_take.nd rfl (by first | exact Or.inl rfl | exact Or.inr rfl) (pe_op op_mod (pe_callTy call_int1 (by rfl) T.b_int (by decide +kernel) (pa_cons (pe_dget (hu_of hr) (pv 0) pe_str (fun _ _ => rfl)) pa_nil)) (pv 1))) (pss_cons (ps_dput (hu_of hr) (pv 0) pe_str (pe_op op_fdiv (pe_dget (hu_of hr) (pv 0) pe_str (fun _ _ => rfl)) (pv 1)) (by rfl)) (pss_one (ps_ret (pv 2)))))), fn_body (np := 2) (nl := 1) I rfl h⟩
theorem sc__law_pick : FnScope ["draw", "some"] ["draw", "some"] (defScope s__law_pick) := ⟨rfl, rfl, rfl, by decide +kernel, rfl, by decide +kernel, by decide +kernel⟩
def m__law_pick : MS := (sRet (xOp gIx (xVar 1) (xCall [true, false] F__law_take (aCons (xVar 0) (aCons (xCB gLen (aCons (xVar 1) aNil)) aNil)))))
def F__law_pick : Fn := runF (fun i => decide (i ∈ ([0, 1] : List Nat))) 2 0 m__law_pick
theorem ok__law_pick (T : Tx P K mg) : FnOk P w K mg base (L2.CX P w) 3 T.a__law_pick T.fd__law_pick ["draw", "some"] (spM K T.ct F__law_pick) := by
  refine T.f__law_pick.okX sc__law_pick (fun vs H Q E h => sp_len runF_len h) (fun cdv A outer s H vs Q E hr h => ?_)
  have I : ImpS K T.ct E (fun i => decide (i ∈ ([0, 1] : List Nat))) _ m__law_pick := (is_ret (im_op gi_ix (im_var (i := 1)) (im_call (bs := [true, false]) (ia_cons (im_var (i := 0)) (ia_cons (im_cb gc_len (ia_cons (im_var (i := 1)) ia_nil)) ia_nil)))))
  exact ⟨_, (pss_one (ps_ret (pe_ix ix_seq (pv 1) (pe_fn (CanC.ok (ok__law_take T) (hr.mono (by decide)) hxE) (by rfl) T.g__law_take T.f__law_take.kp T.bi__law_take (pa_cons (pv 0) (pa_cons (pe_callB call_len (by rfl) T.b_len (by decide +kernel) (pa_cons (pv 1) pa_nil)) pa_nil))) (fun _ _ => rfl)))), fn_body (np := 2) (nl := 0) I rfl h⟩
theorem sc__law_short : FnScope ["draw", "many", "letters", "rows", "at", "k"] ["draw", "many", "letters"] (defScope s__law_short) := ⟨rfl, rfl, rfl, by decide +kernel, rfl, by decide +kernel, by decide +kernel⟩
def e__law_short_1 : MX := (xCall [true, false] F__law_pick (aCons (xVar 0) (aCons (xVar 2) aNil)))
def x__law_short_1 : MX := (xLc (xIRng1 (aCons (xCall [true, false] F__law_pick (aCons (xVar 0) (aCons (xLst (aCons (xC (.int 0)) (aCons (xC (.int 1)) (aCons (xC (.int 2)) (aCons (xC (.int 3)) (aCons (xC (.int 3)) aNil)))))) aNil))) aNil)) (mName 5) xYes e__law_short_1 [5])
def b__law_short_1 : MS := (sIf (xOr (xTest (xOp (blR gLt) (xVar 4) (xC (.int 2)))) (xTest (xOp (blR gEq) (xCall [true, false] F__law_take (aCons (xVar 0) (aCons (xC (.int 6)) aNil))) (xC (.int 0))))) (sDrop (xApp 3 (xTup (aCons (xC (.str "say")) (aCons (xMeS gJoin (xC (.str "")) (aCons x__law_short_1 aNil)) aNil))))) (sDrop (xApp 3 (xTup (aCons (xC (.str "then")) (aCons (xOp gSub (xOp gSub (xVar 4) (xC (.int 1))) (xCall [true, false] F__law_take (aCons (xVar 0) (aCons (xCB gMin2 (aCons (xVar 4) (aCons (xC (.int 4)) aNil))) aNil)))) (aCons (xOp gSub (xOp gSub (xVar 4) (xC (.int 1))) (xCall [true, false] F__law_take (aCons (xVar 0) (aCons (xCB gMin2 (aCons (xVar 4) (aCons (xC (.int 4)) aNil))) aNil)))) aNil)))))))
def m__law_short : MS := (sSeq (sAsg 3 (xLst aNil)) (sSeq (sFor (xIRng1 (aCons (xVar 1) aNil)) (mName 4) b__law_short_1) (sRet (xTup (aCons (xC (.str "short")) (aCons (xCB gTuple (aCons (xVar 3) aNil)) aNil))))))
def F__law_short : Fn := runF (fun i => decide (i ∈ ([0, 1, 2] : List Nat))) 3 3 m__law_short
theorem ok__law_short (T : Tx P K mg) : FnOk P w K mg base (L2.CX P w) 4 T.a__law_short T.fd__law_short ["draw", "many", "letters"] (spM K T.ct F__law_short) := by
  refine T.f__law_short.okX sc__law_short (fun vs H Q E h => sp_len runF_len h) (fun cdv A outer s H vs Q E hr h => ?_)
  have I : ImpS K T.ct E (fun i => decide (i ∈ ([0, 1, 2] : List Nat))) _ m__law_short := (is_seq (is_asg (i := 3) (im_lst ia_nil) (by decide)) (is_seq (is_for (ii_rng1 (ia_cons (im_var (i := 1)) ia_nil)) (ig_name (i := 4)) (is_if (it_or (it_test (im_op (CmpI.op ci_lt) (im_var (i := 4)) im_int)) (it_test (im_op (CmpI.op ci_eq) (im_call (bs := [true, false]) (ia_cons (im_var (i := 0)) (ia_cons im_int ia_nil))) im_int))) (is_drop (im_app (i := 3) (im_tup (ia_cons im_str (ia_cons (im_meS me_join im_str (ia_cons (im_lc (vs := [5]) (ii_rng1 (ia_cons (im_call (bs := [true, false]) (ia_cons (im_var (i := 0)) (ia_cons (im_lst (ia_cons im_int (ia_cons im_int (ia_cons im_int (ia_cons im_int (ia_cons im_int ia_nil)))))) ia_nil))) ia_nil)) (ig_name (i := 5)) it_yes (im_call (bs := [true, false]) (ia_cons (im_var (i := 0)) (ia_cons (im_var (i := 2)) ia_nil))) (by decide)) ia_nil)) ia_nil))))) (is_drop (im_app (i := 3) (im_tup (ia_cons im_str (ia_cons (im_op gi_sub (im_op gi_sub (im_var (i := 4)) im_int) (im_call (bs := [true, false]) (ia_cons (im_var (i := 0)) (ia_cons (im_cb gc_min2 (ia_cons (im_var (i := 4)) (ia_cons im_int ia_nil))) ia_nil)))) (ia_cons (im_op gi_sub (im_op gi_sub (im_var (i := 4)) im_int) (im_call (bs := [true, false]) (ia_cons (im_var (i := 0)) (ia_cons (im_cb gc_min2 (ia_cons (im_var (i := 4)) (ia_cons im_int ia_nil))) ia_nil)))) ia_nil))))))) (by decide)) (is_ret (im_tup (ia_cons im_str (ia_cons (im_cb gc_tuple (ia_cons (im_var (i := 3)) ia_nil)) ia_nil))))))
  exact ⟨_, (pss_cons (ps_set (i := 3) sc__law_short.nd rfl (by first | exact Or.inl rfl | exact Or.inr rfl) (pe_lst pa_nil)) (pss_cons (ps_for (passes_of rfl) rfl (pi_range1 (by rfl) T.b_range (pa_cons (pv 1) pa_nil)) (pg_name (i := 4) sc__law_short.nd rfl (by first | exact Or.inl rfl | exact Or.inr rfl)) (pss_one (ps_if (PW.pt (pw_or (pt_cmpR op_lts (pv 4) pe_int (nomark _)) (pw_or1 (pt_cmpR (op_eqs hr.units) (pe_fn (CanC.ok (ok__law_take T) (hr.mono (by decide)) hxE) (by rfl) T.g__law_take T.f__law_take.kp T.bi__law_take (pa_cons (pv 0) (pa_cons pe_int pa_nil))) pe_int (nomark _))))) (pss_one (ps_expr (pe_bm PySem.F.plainAttrs_list PySem.F.slot_list_append PySem.F.type_list_append mt_append (pv 3) (pa_cons (pe_tup (pa_cons pe_str (pa_cons (pe_bm PySem.F.plainAttrs_str PySem.F.slot_str_join PySem.F.type_str_join mt_join pe_str (pa_cons (pe_lc (own := [("k", 5)]) rfl sc__law_short.nd (pi_range1 (by rfl) T.b_range (pa_cons (pe_fn (CanC.ok (ok__law_pick T) (hr.mono (by decide)) hxE) (by rfl) T.g__law_pick T.f__law_pick.kp T.bi__law_pick (pa_cons (pv 0) (pa_cons (pe_lst (pa_cons pe_int (pa_cons pe_int (pa_cons pe_int (pa_cons pe_int (pa_cons pe_int pa_nil)))))) pa_nil))) pa_nil)) (blkOk_by (N := ["draw", "many", "letters", "rows", "at", "k"]) (sc := defScope s__law_short) (by first | decide +kernel | rfl)) (fun _ _ _ _ _ => (pg_name (i := 5) sc__law_short.nd rfl (by first | exact Or.inl rfl | exact Or.inr rfl))) (fun _ _ _ _ _ => pts_nil) (fun _ _ _ _ _ => (pe_fn (CanC.ok (ok__law_pick T) (hr.mono (by decide)) hxB) (by rfl) T.g__law_pick T.f__law_pick.kp T.bi__law_pick (pa_cons (pv 0) (pa_cons (pv 2) pa_nil))))) pa_nil)) pa_nil))) pa_nil)))) (pss_one (ps_expr (pe_bm PySem.F.plainAttrs_list PySem.F.slot_list_append PySem.F.type_list_append mt_append (pv 3) (pa_cons (pe_tup (pa_cons pe_str (pa_cons (pe_op op_subs (pe_op op_subs (pv 4) pe_int) (pe_fn (CanC.ok (ok__law_take T) (hr.mono (by decide)) hxE) (by rfl) T.g__law_take T.f__law_take.kp T.bi__law_take (pa_cons (pv 0) (pa_cons (pe_callB (call_min2 rfl) (by rfl) T.b_min (by decide +kernel) (pa_cons (pv 4) (pa_cons pe_int pa_nil))) pa_nil)))) (pa_cons (pe_op op_subs (pe_op op_subs (pv 4) pe_int) (pe_fn (CanC.ok (ok__law_take T) (hr.mono (by decide)) hxE) (by rfl) T.g__law_take T.f__law_take.kp T.bi__law_take (pa_cons (pv 0) (pa_cons (pe_callB (call_min2 rfl) (by rfl) T.b_min (by decide +kernel) (pa_cons (pv 4) (pa_cons pe_int pa_nil))) pa_nil)))) pa_nil)))) pa_nil))))))) (pss_one (ps_ret (pe_tup (pa_cons pe_str (pa_cons (pe_callTy call_tuple_of (by rfl) T.b_tuple (by decide +kernel) (pa_cons (pv 3) pa_nil)) pa_nil))))))), fn_body (np := 3) (nl := 3) I rfl h⟩
theorem sc__law_lengths : FnScope ["short", "found", "row"] ["short"] (defScope s__law_lengths) := ⟨rfl, rfl, rfl, by decide +kernel, rfl, by decide +kernel, by decide +kernel⟩
def b__law_lengths_1 : MS := (sDrop (xApp 1 (xIf (xTest (xOp (blR gEq) (xOp gIx (xVar 2) (xC (.int 0))) (xC (.str "say")))) (xCB gLen (aCons (xOp gIx (xVar 2) (xC (.int 1))) aNil)) (xOp gAdd (xOp gIx (xVar 1) (xOp gIx (xVar 2) (xC (.int 1)))) (xOp gIx (xVar 1) (xOp gIx (xVar 2) (xC (.int 2))))))))
def m__law_lengths : MS := (sSeq (sAsg 1 (xLst aNil)) (sSeq (sFor (xISeq (xOp gIx (xVar 0) (xC (.int 1)))) (mName 2) b__law_lengths_1) (sRet (xVar 1))))
def F__law_lengths : Fn := runF (fun i => decide (i ∈ ([0] : List Nat))) 1 2 m__law_lengths
theorem ok__law_lengths (T : Tx P K mg) : FnOk P w K mg base (L2.CX P w) 1 T.a__law_lengths T.fd__law_lengths ["short"] (spM K T.ct F__law_lengths) := by
  refine T.f__law_lengths.okX sc__law_lengths (fun vs H Q E h => sp_len runF_len h) (fun cdv A outer s H vs Q E hr h => ?_)
  have I : ImpS K T.ct E (fun i => decide (i ∈ ([0] : List Nat))) _ m__law_lengths := (is_seq (is_asg (i := 1) (im_lst ia_nil) (by decide)) (is_seq (is_for (ii_seq (im_op gi_ix (im_var (i := 0)) im_int)) (ig_name (i := 2)) (is_drop (im_app (i := 1) (im_if (it_test (im_op (CmpI.op ci_eq) (im_op gi_ix (im_var (i := 2)) im_int) im_str)) (im_cb gc_len (ia_cons (im_op gi_ix (im_var (i := 2)) im_int) ia_nil)) (im_op gi_add (im_op gi_ix (im_var (i := 1)) (im_op gi_ix (im_var (i := 2)) im_int)) (im_op gi_ix (im_var (i := 1)) (im_op gi_ix (im_var (i := 2)) im_int)))))) (by decide)) (is_ret (im_var (i := 1)))))
  exact ⟨_, (pss_cons (ps_set (i := 1) sc__law_lengths.nd rfl (by first | exact Or.inl rfl | exact Or.inr rfl) (pe_lst pa_nil)) (pss_cons (ps_for (passes_of rfl) rfl (pi_seq (pe_ix ix_seq (pv 0) pe_int (fun _ _ => rfl))) (pg_name (i := 2) sc__law_lengths.nd rfl (by first | exact Or.inl rfl | exact Or.inr rfl)) (pss_one (ps_expr (pe_bm PySem.F.plainAttrs_list PySem.F.slot_list_append PySem.F.type_list_append mt_append (pv 1) (pa_cons (pe_ifExp (pt_cmpR (op_eqs hr.units) (pe_ix ix_seq (pv 2) pe_int (fun _ _ => rfl)) pe_str (nomark _)) (pe_callB call_len (by rfl) T.b_len (by decide +kernel) (pa_cons (pe_ix ix_seq (pv 2) pe_int (fun _ _ => rfl)) pa_nil)) (pe_op op_adds (pe_ix ix_seq (pv 1) (pe_ix ix_seq (pv 2) pe_int (fun _ _ => rfl)) (fun _ _ => rfl)) (pe_ix ix_seq (pv 1) (pe_ix ix_seq (pv 2) pe_int (fun _ _ => rfl)) (fun _ _ => rfl)))) pa_nil))))) (pss_one (ps_ret (pv 1))))), fn_body (np := 1) (nl := 2) I rfl h⟩
theorem sc__law_text : FnScope ["short", "found", "row"] ["short"] (defScope s__law_text) := ⟨rfl, rfl, rfl, by decide +kernel, rfl, by decide +kernel, by decide +kernel⟩
def b__law_text_1 : MS := (sDrop (xApp 1 (xIf (xTest (xOp (blR gEq) (xOp gIx (xVar 2) (xC (.int 0))) (xC (.str "say")))) (xOp gIx (xVar 2) (xC (.int 1))) (xOp gAdd (xOp gIx (xVar 1) (xOp gIx (xVar 2) (xC (.int 1)))) (xOp gIx (xVar 1) (xOp gIx (xVar 2) (xC (.int 2))))))))
def m__law_text : MS := (sSeq (sAsg 1 (xLst aNil)) (sSeq (sFor (xISeq (xOp gIx (xVar 0) (xC (.int 1)))) (mName 2) b__law_text_1) (sRet (xOp gIx (xVar 1) (xUn gNeg (xC (.int 1)))))))
def F__law_text : Fn := runF (fun i => decide (i ∈ ([0] : List Nat))) 1 2 m__law_text
theorem ok__law_text (T : Tx P K mg) : FnOk P w K mg base (L2.CX P w) 1 T.a__law_text T.fd__law_text ["short"] (spM K T.ct F__law_text) := by
  refine T.f__law_text.okX sc__law_text (fun vs H Q E h => sp_len runF_len h) (fun cdv A outer s H vs Q E hr h => ?_)
  have I : ImpS K T.ct E (fun i => decide (i ∈ ([0] : List Nat))) _ m__law_text := (is_seq (is_asg (i := 1) (im_lst ia_nil) (by decide)) (is_seq (is_for (ii_seq (im_op gi_ix (im_var (i := 0)) im_int)) (ig_name (i := 2)) (is_drop (im_app (i := 1) (im_if (it_test (im_op (CmpI.op ci_eq) (im_op gi_ix (im_var (i := 2)) im_int) im_str)) (im_op gi_ix (im_var (i := 2)) im_int) (im_op gi_add (im_op gi_ix (im_var (i := 1)) (im_op gi_ix (im_var (i := 2)) im_int)) (im_op gi_ix (im_var (i := 1)) (im_op gi_ix (im_var (i := 2)) im_int)))))) (by decide)) (is_ret (im_op gi_ix (im_var (i := 1)) (im_un gi_neg im_int)))))
  exact ⟨_, (pss_cons (ps_set (i := 1) sc__law_text.nd rfl (by first | exact Or.inl rfl | exact Or.inr rfl) (pe_lst pa_nil)) (pss_cons (ps_for (passes_of rfl) rfl (pi_seq (pe_ix ix_seq (pv 0) pe_int (fun _ _ => rfl))) (pg_name (i := 2) sc__law_text.nd rfl (by first | exact Or.inl rfl | exact Or.inr rfl)) (pss_one (ps_expr (pe_bm PySem.F.plainAttrs_list PySem.F.slot_list_append PySem.F.type_list_append mt_append (pv 1) (pa_cons (pe_ifExp (pt_cmpR (op_eqs hr.units) (pe_ix ix_seq (pv 2) pe_int (fun _ _ => rfl)) pe_str (nomark _)) (pe_ix ix_seq (pv 2) pe_int (fun _ _ => rfl)) (pe_op op_adds (pe_ix ix_seq (pv 1) (pe_ix ix_seq (pv 2) pe_int (fun _ _ => rfl)) (fun _ _ => rfl)) (pe_ix ix_seq (pv 1) (pe_ix ix_seq (pv 2) pe_int (fun _ _ => rfl)) (fun _ _ => rfl)))) pa_nil))))) (pss_one (ps_ret (pe_ix ix_seq (pv 1) (pe_un un_neg pe_int) (fun _ _ => rfl)))))), fn_body (np := 1) (nl := 2) I rfl h⟩
theorem sc__law_small_short : FnScope ["draw", "most", "short"] ["draw", "most"] (defScope s__law_small_short) := ⟨rfl, rfl, rfl, by decide +kernel, rfl, by decide +kernel, by decide +kernel⟩
def b__law_small_short_1 : MS := (sAsg 2 (xTup (aCons (xC (.str "short")) (aCons (xSl gSl (xOp gIx (xVar 2) (xC (.int 1))) oNone (oPart (xUn gNeg (xC (.int 1))))) aNil))))
def m__law_small_short : MS := (sSeq (sAsg 2 (xCall [true, false, false] F__law_short (aCons (xVar 0) (aCons (xCall [true, false] F__law_pick (aCons (xVar 0) (aCons (xLst (aCons (xC (.int 1)) (aCons (xC (.int 2)) (aCons (xC (.int 5)) (aCons (xC (.int 8)) (aCons (xC (.int 10)) (aCons (xC (.int 12)) (aCons (xC (.int 14)) aNil)))))))) aNil))) (aCons (xCall [true, false] F__law_pick (aCons (xVar 0) (aCons (xLst (aCons (xC (.str "a")) (aCons (xC (.str "ab")) (aCons (xC (.str "abc")) (aCons (xC (.str "aab")) aNil))))) aNil))) aNil))))) (sSeq (whLoop (xTest (xOp (blR gGt) (xOp gIx (xCall [false] F__law_lengths (aCons (xVar 2) aNil)) (xUn gNeg (xC (.int 1)))) (xVar 1))) b__law_small_short_1 100) (sRet (xTup (aCons (xVar 2) (aCons (xCall [false] F__law_text (aCons (xVar 2) aNil)) aNil))))))
def F__law_small_short : Fn := runF (fun i => decide (i ∈ ([0, 1] : List Nat))) 2 1 m__law_small_short
theorem ok__law_small_short (T : Tx P K mg) : FnOk P w K mg base (L2.CX P w) 5 T.a__law_small_short T.fd__law_small_short ["draw", "most"] (spM K T.ct F__law_small_short) := by
  refine T.f__law_small_short.okX sc__law_small_short (fun vs H Q E h => sp_len runF_len h) (fun cdv A outer s H vs Q E hr h => ?_)
  have I : ImpS K T.ct E (fun i => decide (i ∈ ([0, 1] : List Nat))) _ m__law_small_short := (is_seq (is_asg (i := 2) (im_call (bs := [true, false, false]) (ia_cons (im_var (i := 0)) (ia_cons (im_call (bs := [true, false]) (ia_cons (im_var (i := 0)) (ia_cons (im_lst (ia_cons im_int (ia_cons im_int (ia_cons im_int (ia_cons im_int (ia_cons im_int (ia_cons im_int (ia_cons im_int ia_nil)))))))) ia_nil))) (ia_cons (im_call (bs := [true, false]) (ia_cons (im_var (i := 0)) (ia_cons (im_lst (ia_cons im_str (ia_cons im_str (ia_cons im_str (ia_cons im_str ia_nil))))) ia_nil))) ia_nil)))) (by decide)) (is_seq (is_while (n := 100) (it_test (im_op (CmpI.op ci_gt) (im_op gi_ix (im_call (bs := [false]) (ia_cons (im_var (i := 2)) ia_nil)) (im_un gi_neg im_int)) (im_var (i := 1)))) (is_asg (i := 2) (im_tup (ia_cons im_str (ia_cons (im_sl si_all (im_op gi_ix (im_var (i := 2)) im_int) io_none (io_part (im_un gi_neg im_int))) ia_nil))) (by decide))) (is_ret (im_tup (ia_cons (im_var (i := 2)) (ia_cons (im_call (bs := [false]) (ia_cons (im_var (i := 2)) ia_nil)) ia_nil))))))
  exact ⟨_, (pss_cons (ps_set (i := 2) sc__law_small_short.nd rfl (by first | exact Or.inl rfl | exact Or.inr rfl) (pe_fn (CanC.ok (ok__law_short T) (hr.mono (by decide)) hxE) (by rfl) T.g__law_short T.f__law_short.kp T.bi__law_short (pa_cons (pv 0) (pa_cons (pe_fn (CanC.ok (ok__law_pick T) (hr.mono (by decide)) hxE) (by rfl) T.g__law_pick T.f__law_pick.kp T.bi__law_pick (pa_cons (pv 0) (pa_cons (pe_lst (pa_cons pe_int (pa_cons pe_int (pa_cons pe_int (pa_cons pe_int (pa_cons pe_int (pa_cons pe_int (pa_cons pe_int pa_nil)))))))) pa_nil))) (pa_cons (pe_fn (CanC.ok (ok__law_pick T) (hr.mono (by decide)) hxE) (by rfl) T.g__law_pick T.f__law_pick.kp T.bi__law_pick (pa_cons (pv 0) (pa_cons (pe_lst (pa_cons pe_str (pa_cons pe_str (pa_cons pe_str (pa_cons pe_str pa_nil))))) pa_nil))) pa_nil))))) (pss_cons (ps_while (passes_of rfl) (pt_cmpR op_gts (pe_ix ix_seq (pe_fn (CanC.ok (ok__law_lengths T) (hr.mono (by decide)) hxE) (by rfl) T.g__law_lengths T.f__law_lengths.kp T.bi__law_lengths (pa_cons (pv 2) pa_nil)) (pe_un un_neg pe_int) (fun _ _ => rfl)) (pv 1) (nomark _)) (pss_one (ps_set (i := 2) sc__law_small_short.nd rfl (by first | exact Or.inl rfl | exact Or.inr rfl) (pe_tup (pa_cons pe_str (pa_cons (pe_slice sl_all (pe_ix ix_seq (pv 2) pe_int (fun _ _ => rfl)) po_none (po_some (pe_un un_neg pe_int))) pa_nil)))))) (pss_one (ps_ret (pe_tup (pa_cons (pv 2) (pa_cons (pe_fn (CanC.ok (ok__law_text T) (hr.mono (by decide)) hxE) (by rfl) T.g__law_text T.f__law_text.kp T.bi__law_text (pa_cons (pv 2) pa_nil)) pa_nil))))))), fn_body (np := 2) (nl := 1) I rfl h⟩
theorem sc__law_bad_short : FnScope ["draw", "some"] ["draw"] (defScope s__law_bad_short) := ⟨rfl, rfl, rfl, by decide +kernel, rfl, by decide +kernel, by decide +kernel⟩
def m__law_bad_short : MS := (sSeq (sAsg 1 (xLst (aCons (xC .non) (aCons (xC (.int 5)) (aCons (xTup aNil) (aCons (xC (.str "short")) (aCons (xTup (aCons (xC (.str "short")) aNil)) (aCons (xTup (aCons (xC (.str "short")) (aCons (xTup aNil) aNil))) (aCons (xTup (aCons (xC (.str "short")) (aCons (xTup (aCons (xTup (aCons (xC (.str "say")) (aCons (xC (.str "d")) aNil))) aNil)) aNil))) (aCons (xTup (aCons (xC (.str "short")) (aCons (xTup (aCons (xTup (aCons (xC (.str "say")) (aCons (xOp gMulX (xC (.str "a")) (xC (.int 41))) aNil))) aNil)) aNil))) (aCons (xTup (aCons (xC (.str "short")) (aCons (xTup (aCons (xTup (aCons (xC (.str "then")) (aCons (xC (.int 0)) (aCons (xC (.int 0)) aNil)))) aNil)) aNil))) aNil))))))))))) (sSeq (sAsg 1 (xOp gAdd (xVar 1) (xLst (aCons (xTup (aCons (xC (.str "short")) (aCons (xLst (aCons (xTup (aCons (xC (.str "say")) (aCons (xC (.str "a")) aNil))) aNil)) aNil))) (aCons (xLst (aCons (xC (.str "short")) (aCons (xTup (aCons (xTup (aCons (xC (.str "say")) (aCons (xC (.str "a")) aNil))) aNil)) aNil))) (aCons (xTup (aCons (xC (.str "shorts")) (aCons (xTup (aCons (xTup (aCons (xC (.str "say")) (aCons (xC (.str "a")) aNil))) aNil)) aNil))) (aCons (xTup (aCons (xC (.str "short")) (aCons (xTup (aCons (xTup (aCons (xC (.str "say")) (aCons (xC (.str "a")) aNil))) (aCons (xTup (aCons (xC (.str "then")) (aCons (xC (.int 0)) (aCons (xC (.int 1)) aNil)))) aNil))) aNil))) aNil))))))) (sRet (xCall [true, false] F__law_pick (aCons (xVar 0) (aCons (xOp gAdd (xVar 1) (xLst (aCons (xTup (aCons (xC (.str "short")) (aCons (xTup (aCons (xTup (aCons (xC (.str "say")) aNil)) aNil)) aNil))) (aCons (xTup (aCons (xC (.str "short")) (aCons (xTup (aCons (xTup (aCons (xC (.str "say")) (aCons (xC (.str "a")) aNil))) (aCons (xTup (aCons (xC (.str "then")) (aCons (xC (.int 0)) (aCons (xC (.bl true)) aNil)))) aNil))) aNil))) (aCons (xTup (aCons (xC (.str "short")) (aCons (xOp gMulX (xTup (aCons (xTup (aCons (xC (.str "say")) (aCons (xC (.str "a")) aNil))) aNil)) (xC (.int 4001))) aNil))) (aCons (xTup (aCons (xC (.str "short")) (aCons (xTup (aCons (xC (.str "say")) (aCons (xC (.str "a")) aNil))) aNil))) aNil)))))) aNil))))))
def F__law_bad_short : Fn := runF (fun i => decide (i ∈ ([0] : List Nat))) 1 1 m__law_bad_short
theorem ok__law_bad_short (T : Tx P K mg) : FnOk P w K mg base (L2.CX P w) 4 T.a__law_bad_short T.fd__law_bad_short ["draw"] (spM K T.ct F__law_bad_short) := by
  refine T.f__law_bad_short.okX sc__law_bad_short (fun vs H Q E h => sp_len runF_len h) (fun cdv A outer s H vs Q E hr h => ?_)
  have I : ImpS K T.ct E (fun i => decide (i ∈ ([0] : List Nat))) _ m__law_bad_short := (is_seq (is_asg (i := 1) (im_lst (ia_cons im_non (ia_cons im_int (ia_cons (im_tup ia_nil) (ia_cons im_str (ia_cons (im_tup (ia_cons im_str ia_nil)) (ia_cons (im_tup (ia_cons im_str (ia_cons (im_tup ia_nil) ia_nil))) (ia_cons (im_tup (ia_cons im_str (ia_cons (im_tup (ia_cons (im_tup (ia_cons im_str (ia_cons im_str ia_nil))) ia_nil)) ia_nil))) (ia_cons (im_tup (ia_cons im_str (ia_cons (im_tup (ia_cons (im_tup (ia_cons im_str (ia_cons (im_op gi_mulX im_str im_int) ia_nil))) ia_nil)) ia_nil))) (ia_cons (im_tup (ia_cons im_str (ia_cons (im_tup (ia_cons (im_tup (ia_cons im_str (ia_cons im_int (ia_cons im_int ia_nil)))) ia_nil)) ia_nil))) ia_nil)))))))))) (by decide)) (is_seq (is_asg (i := 1) (im_op gi_add (im_var (i := 1)) (im_lst (ia_cons (im_tup (ia_cons im_str (ia_cons (im_lst (ia_cons (im_tup (ia_cons im_str (ia_cons im_str ia_nil))) ia_nil)) ia_nil))) (ia_cons (im_lst (ia_cons im_str (ia_cons (im_tup (ia_cons (im_tup (ia_cons im_str (ia_cons im_str ia_nil))) ia_nil)) ia_nil))) (ia_cons (im_tup (ia_cons im_str (ia_cons (im_tup (ia_cons (im_tup (ia_cons im_str (ia_cons im_str ia_nil))) ia_nil)) ia_nil))) (ia_cons (im_tup (ia_cons im_str (ia_cons (im_tup (ia_cons (im_tup (ia_cons im_str (ia_cons im_str ia_nil))) (ia_cons (im_tup (ia_cons im_str (ia_cons im_int (ia_cons im_int ia_nil)))) ia_nil))) ia_nil))) ia_nil)))))) (by decide)) (is_ret (im_call (bs := [true, false]) (ia_cons (im_var (i := 0)) (ia_cons (im_op gi_add (im_var (i := 1)) (im_lst (ia_cons (im_tup (ia_cons im_str (ia_cons (im_tup (ia_cons (im_tup (ia_cons im_str ia_nil)) ia_nil)) ia_nil))) (ia_cons (im_tup (ia_cons im_str (ia_cons (im_tup (ia_cons (im_tup (ia_cons im_str (ia_cons im_str ia_nil))) (ia_cons (im_tup (ia_cons im_str (ia_cons im_int (ia_cons im_bl ia_nil)))) ia_nil))) ia_nil))) (ia_cons (im_tup (ia_cons im_str (ia_cons (im_op gi_mulX (im_tup (ia_cons (im_tup (ia_cons im_str (ia_cons im_str ia_nil))) ia_nil)) im_int) ia_nil))) (ia_cons (im_tup (ia_cons im_str (ia_cons (im_tup (ia_cons im_str (ia_cons im_str ia_nil))) ia_nil))) ia_nil)))))) ia_nil))))))
  exact ⟨_, (pss_cons (ps_set (i := 1) sc__law_bad_short.nd rfl (by first | exact Or.inl rfl | exact Or.inr rfl) (pe_lst (pa_cons pe_non (pa_cons pe_int (pa_cons (pe_tup pa_nil) (pa_cons pe_str (pa_cons (pe_tup (pa_cons pe_str pa_nil)) (pa_cons (pe_tup (pa_cons pe_str (pa_cons (pe_tup pa_nil) pa_nil))) (pa_cons (pe_tup (pa_cons pe_str (pa_cons (pe_tup (pa_cons (pe_tup (pa_cons pe_str (pa_cons pe_str pa_nil))) pa_nil)) pa_nil))) (pa_cons (pe_tup (pa_cons pe_str (pa_cons (pe_tup (pa_cons (pe_tup (pa_cons pe_str (pa_cons (pe_op op_mulX pe_str pe_int) pa_nil))) pa_nil)) pa_nil))) (pa_cons (pe_tup (pa_cons pe_str (pa_cons (pe_tup (pa_cons (pe_tup (pa_cons pe_str (pa_cons pe_int (pa_cons pe_int pa_nil)))) pa_nil)) pa_nil))) pa_nil))))))))))) (pss_cons (ps_set (i := 1) sc__law_bad_short.nd rfl (by first | exact Or.inl rfl | exact Or.inr rfl) (pe_op op_adds (pv 1) (pe_lst (pa_cons (pe_tup (pa_cons pe_str (pa_cons (pe_lst (pa_cons (pe_tup (pa_cons pe_str (pa_cons pe_str pa_nil))) pa_nil)) pa_nil))) (pa_cons (pe_lst (pa_cons pe_str (pa_cons (pe_tup (pa_cons (pe_tup (pa_cons pe_str (pa_cons pe_str pa_nil))) pa_nil)) pa_nil))) (pa_cons (pe_tup (pa_cons pe_str (pa_cons (pe_tup (pa_cons (pe_tup (pa_cons pe_str (pa_cons pe_str pa_nil))) pa_nil)) pa_nil))) (pa_cons (pe_tup (pa_cons pe_str (pa_cons (pe_tup (pa_cons (pe_tup (pa_cons pe_str (pa_cons pe_str pa_nil))) (pa_cons (pe_tup (pa_cons pe_str (pa_cons pe_int (pa_cons pe_int pa_nil)))) pa_nil))) pa_nil))) pa_nil))))))) (pss_one (ps_ret (pe_fn (CanC.ok (ok__law_pick T) (hr.mono (by decide)) hxE) (by rfl) T.g__law_pick T.f__law_pick.kp T.bi__law_pick (pa_cons (pv 0) (pa_cons (pe_op op_adds (pv 1) (pe_lst (pa_cons (pe_tup (pa_cons pe_str (pa_cons (pe_tup (pa_cons (pe_tup (pa_cons pe_str pa_nil)) pa_nil)) pa_nil))) (pa_cons (pe_tup (pa_cons pe_str (pa_cons (pe_tup (pa_cons (pe_tup (pa_cons pe_str (pa_cons pe_str pa_nil))) (pa_cons (pe_tup (pa_cons pe_str (pa_cons pe_int (pa_cons pe_bl pa_nil)))) pa_nil))) pa_nil))) (pa_cons (pe_tup (pa_cons pe_str (pa_cons (pe_op op_mulX (pe_tup (pa_cons (pe_tup (pa_cons pe_str (pa_cons pe_str pa_nil))) pa_nil)) pe_int) pa_nil))) (pa_cons (pe_tup (pa_cons pe_str (pa_cons (pe_tup (pa_cons pe_str (pa_cons pe_str pa_nil))) pa_nil))) pa_nil)))))) pa_nil))))))), fn_body (np := 1) (nl := 1) I rfl h⟩
theorem sc__law_doubled : FnScope ["word", "many", "rows", "turn"] ["word", "many"] (defScope s__law_doubled) := ⟨rfl, rfl, rfl, by decide +kernel, rfl, by decide +kernel, by decide +kernel⟩
def b__law_doubled_1 : MS := (sDrop (xApp 2 (xTup (aCons (xC (.str "then")) (aCons (xVar 3) (aCons (xVar 3) aNil))))))
def m__law_doubled : MS := (sSeq (sAsg 2 (xLst (aCons (xTup (aCons (xC (.str "say")) (aCons (xVar 0) aNil))) aNil))) (sSeq (sFor (xIRng1 (aCons (xVar 1) aNil)) (mName 3) b__law_doubled_1) (sRet (xTup (aCons (xC (.str "short")) (aCons (xCB gTuple (aCons (xVar 2) aNil)) aNil))))))
def F__law_doubled : Fn := runF (fun i => decide (i ∈ ([0, 1] : List Nat))) 2 2 m__law_doubled
theorem ok__law_doubled (T : Tx P K mg) : FnOk P w K mg base (L2.CX P w) 1 T.a__law_doubled T.fd__law_doubled ["word", "many"] (spM K T.ct F__law_doubled) := by
  refine T.f__law_doubled.okX sc__law_doubled (fun vs H Q E h => sp_len runF_len h) (fun cdv A outer s H vs Q E hr h => ?_)
  have I : ImpS K T.ct E (fun i => decide (i ∈ ([0, 1] : List Nat))) _ m__law_doubled := (is_seq (is_asg (i := 2) (im_lst (ia_cons (im_tup (ia_cons im_str (ia_cons (im_var (i := 0)) ia_nil))) ia_nil)) (by decide)) (is_seq (is_for (ii_rng1 (ia_cons (im_var (i := 1)) ia_nil)) (ig_name (i := 3)) (is_drop (im_app (i := 2) (im_tup (ia_cons im_str (ia_cons (im_var (i := 3)) (ia_cons (im_var (i := 3)) ia_nil)))))) (by decide)) (is_ret (im_tup (ia_cons im_str (ia_cons (im_cb gc_tuple (ia_cons (im_var (i := 2)) ia_nil)) ia_nil))))))
  exact ⟨_, (pss_cons (ps_set (i := 2) sc__law_doubled.nd rfl (by first | exact Or.inl rfl | exact Or.inr rfl) (pe_lst (pa_cons (pe_tup (pa_cons pe_str (pa_cons (pv 0) pa_nil))) pa_nil))) (pss_cons (ps_for (passes_of rfl) rfl (pi_range1 (by rfl) T.b_range (pa_cons (pv 1) pa_nil)) (pg_name (i := 3) sc__law_doubled.nd rfl (by first | exact Or.inl rfl | exact Or.inr rfl)) (pss_one (ps_expr (pe_bm PySem.F.plainAttrs_list PySem.F.slot_list_append PySem.F.type_list_append mt_append (pv 2) (pa_cons (pe_tup (pa_cons pe_str (pa_cons (pv 3) (pa_cons (pv 3) pa_nil)))) pa_nil))))) (pss_one (ps_ret (pe_tup (pa_cons pe_str (pa_cons (pe_callTy call_tuple_of (by rfl) T.b_tuple (by decide +kernel) (pa_cons (pv 2) pa_nil)) pa_nil))))))), fn_body (np := 2) (nl := 2) I rfl h⟩
theorem sc__law_power : FnScope ["many", "found", "turn"] ["many"] (defScope s__law_power) := ⟨rfl, rfl, rfl, by decide +kernel, rfl, by decide +kernel, by decide +kernel⟩
def b__law_power_1 : MS := (sAsg 1 (xOp gMulX (xVar 1) (xC (.int 2))))
def m__law_power : MS := (sSeq (sAsg 1 (xC (.int 1))) (sSeq (sFor (xIRng1 (aCons (xVar 0) aNil)) (mName 2) b__law_power_1) (sRet (xVar 1))))
def F__law_power : Fn := runF (fun i => decide (i ∈ ([0] : List Nat))) 1 2 m__law_power
theorem ok__law_power (T : Tx P K mg) : FnOk P w K mg base (L2.CX P w) 1 T.a__law_power T.fd__law_power ["many"] (spM K T.ct F__law_power) := by
  refine T.f__law_power.okX sc__law_power (fun vs H Q E h => sp_len runF_len h) (fun cdv A outer s H vs Q E hr h => ?_)
  have I : ImpS K T.ct E (fun i => decide (i ∈ ([0] : List Nat))) _ m__law_power := (is_seq (is_asg (i := 1) im_int (by decide)) (is_seq (is_for (ii_rng1 (ia_cons (im_var (i := 0)) ia_nil)) (ig_name (i := 2)) (is_asg (i := 1) (im_op gi_mulX (im_var (i := 1)) im_int) (by decide)) (by decide)) (is_ret (im_var (i := 1)))))
  exact ⟨_, (pss_cons (ps_set (i := 1) sc__law_power.nd rfl (by first | exact Or.inl rfl | exact Or.inr rfl) pe_int) (pss_cons (ps_for (passes_of rfl) rfl (pi_range1 (by rfl) T.b_range (pa_cons (pv 0) pa_nil)) (pg_name (i := 2) sc__law_power.nd rfl (by first | exact Or.inl rfl | exact Or.inr rfl)) (pss_one (ps_set (i := 1) sc__law_power.nd rfl (by first | exact Or.inl rfl | exact Or.inr rfl) (pe_op op_mulX (pv 1) pe_int)))) (pss_one (ps_ret (pv 1))))), fn_body (np := 1) (nl := 2) I rfl h⟩
theorem sc__law_starts : FnScope ["text", "word", "at"] ["text", "word"] (defScope s__law_starts) := ⟨rfl, rfl, rfl, by decide +kernel, rfl, by decide +kernel, by decide +kernel⟩
def e__law_starts_1 : MX := (xVar 2)
def x__law_starts_1 : MX := (xLc (xIRng1 (aCons (xOp gAdd (xOp gSub (xCB gLen (aCons (xVar 0) aNil)) (xCB gLen (aCons (xVar 1) aNil))) (xC (.int 1))) aNil)) (mName 2) (xTest (xOp (blR gEq) (xSl gSl (xVar 0) (oPart (xVar 2)) (oPart (xOp gAdd (xVar 2) (xCB gLen (aCons (xVar 1) aNil))))) (xVar 1))) e__law_starts_1 [2])
def m__law_starts : MS := (sRet x__law_starts_1)
def F__law_starts : Fn := runF (fun i => decide (i ∈ ([0, 1] : List Nat))) 2 1 m__law_starts
theorem ok__law_starts (T : Tx P K mg) : FnOk P w K mg base (L2.CX P w) 1 T.a__law_starts T.fd__law_starts ["text", "word"] (spM K T.ct F__law_starts) := by
  refine T.f__law_starts.okX sc__law_starts (fun vs H Q E h => sp_len runF_len h) (fun cdv A outer s H vs Q E hr h => ?_)
  have I : ImpS K T.ct E (fun i => decide (i ∈ ([0, 1] : List Nat))) _ m__law_starts := (is_ret (im_lc (vs := [2]) (ii_rng1 (ia_cons (im_op gi_add (im_op gi_sub (im_cb gc_len (ia_cons (im_var (i := 0)) ia_nil)) (im_cb gc_len (ia_cons (im_var (i := 1)) ia_nil))) im_int) ia_nil)) (ig_name (i := 2)) (it_test (im_op (CmpI.op ci_eq) (im_sl si_all (im_var (i := 0)) (io_part (im_var (i := 2))) (io_part (im_op gi_add (im_var (i := 2)) (im_cb gc_len (ia_cons (im_var (i := 1)) ia_nil))))) (im_var (i := 1)))) (im_var (i := 2)) (by decide)))
  exact ⟨_, (pss_one (ps_ret (pe_lc (own := [("at", 2)]) rfl sc__law_starts.nd (pi_range1 (by rfl) T.b_range (pa_cons (pe_op op_adds (pe_op op_subs (pe_callB call_len (by rfl) T.b_len (by decide +kernel) (pa_cons (pv 0) pa_nil)) (pe_callB call_len (by rfl) T.b_len (by decide +kernel) (pa_cons (pv 1) pa_nil))) pe_int) pa_nil)) (blkOk_by (N := ["text", "word", "at"]) (sc := defScope s__law_starts) (by first | decide +kernel | rfl)) (fun _ _ _ _ _ => (pg_name (i := 2) sc__law_starts.nd rfl (by first | exact Or.inl rfl | exact Or.inr rfl))) (fun _ _ _ _ _ => (pts_one (pt_cmpR (op_eqs hr.units) (pe_slice sl_all (pv 0) (po_some (pv 2)) (po_some (pe_op op_adds (pv 2) (pe_callB call_len (by rfl) T.b_len (by decide +kernel) (pa_cons (pv 1) pa_nil))))) (pv 1) (nomark _)))) (fun _ _ _ _ _ => (pv 2))))), fn_body (np := 2) (nl := 1) I rfl h⟩
theorem sc__law_in_rounds : FnScope ["part", "rounds", "word", "circle", "times", "first", "at", "room"] ["part", "rounds", "word"] (defScope s__law_in_rounds) := ⟨rfl, rfl, rfl, by decide +kernel, rfl, by decide +kernel, by decide +kernel⟩
def b__law_in_rounds_1 : MS := (sSeq (sAsg 7 (xOp gSub (xOp gSub (xOp gMulX (xVar 1) (xCB gLen (aCons (xVar 0) aNil))) (xCB gLen (aCons (xVar 2) aNil))) (xVar 6))) (sIf (xAnd (xTest (xOp (blR gEq) (xSl gSl (xVar 3) (oPart (xVar 6)) (oPart (xOp gAdd (xVar 6) (xCB gLen (aCons (xVar 2) aNil))))) (xVar 2))) (xTest (xOp (blR gGe) (xVar 7) (xC (.int 0))))) (sSeq (sAsg 4 (xOp gAdd (xOp gAdd (xVar 4) (xOp gFdiv (xVar 7) (xCB gLen (aCons (xVar 0) aNil)))) (xC (.int 1)))) (sAsg 5 (xIf (xTest (xOp (blR gIsN) (xVar 5) (xC .non))) (xVar 6) (xVar 5)))) sNext))
def m__law_in_rounds : MS := (sSeq (sPars [3, 4, 5] (aCons (xOp gMulX (xVar 0) (xOp gAdd (xOp gFdiv (xCB gLen (aCons (xVar 2) aNil)) (xCB gLen (aCons (xVar 0) aNil))) (xC (.int 2)))) (aCons (xC (.int 0)) (aCons (xC .non) aNil)))) (sSeq (sFor (xIRng1 (aCons (xCB gLen (aCons (xVar 0) aNil)) aNil)) (mName 6) b__law_in_rounds_1) (sRet (xTup (aCons (xVar 4) (aCons (xVar 5) aNil))))))
def F__law_in_rounds : Fn := runF (fun i => decide (i ∈ ([0, 1, 2] : List Nat))) 3 5 m__law_in_rounds
theorem ok__law_in_rounds (T : Tx P K mg) : FnOk P w K mg base (L2.CX P w) 1 T.a__law_in_rounds T.fd__law_in_rounds ["part", "rounds", "word"] (spM K T.ct F__law_in_rounds) := by
  refine T.f__law_in_rounds.okX sc__law_in_rounds (fun vs H Q E h => sp_len runF_len h) (fun cdv A outer s H vs Q E hr h => ?_)
  have I : ImpS K T.ct E (fun i => decide (i ∈ ([0, 1, 2] : List Nat))) _ m__law_in_rounds := (is_seq (is_par3 (ia_cons (im_op gi_mulX (im_var (i := 0)) (im_op gi_add (im_op gi_fdiv (im_cb gc_len (ia_cons (im_var (i := 2)) ia_nil)) (im_cb gc_len (ia_cons (im_var (i := 0)) ia_nil))) im_int)) (ia_cons im_int (ia_cons im_non ia_nil))) (by decide)) (is_seq (is_for (ii_rng1 (ia_cons (im_cb gc_len (ia_cons (im_var (i := 0)) ia_nil)) ia_nil)) (ig_name (i := 6)) (is_seq (is_asg (i := 7) (im_op gi_sub (im_op gi_sub (im_op gi_mulX (im_var (i := 1)) (im_cb gc_len (ia_cons (im_var (i := 0)) ia_nil))) (im_cb gc_len (ia_cons (im_var (i := 2)) ia_nil))) (im_var (i := 6))) (by decide)) (is_if (it_and (it_test (im_op (CmpI.op ci_eq) (im_sl si_all (im_var (i := 3)) (io_part (im_var (i := 6))) (io_part (im_op gi_add (im_var (i := 6)) (im_cb gc_len (ia_cons (im_var (i := 2)) ia_nil))))) (im_var (i := 2)))) (it_test (im_op (CmpI.op ci_ge) (im_var (i := 7)) im_int))) (is_seq (is_asg (i := 4) (im_op gi_add (im_op gi_add (im_var (i := 4)) (im_op gi_fdiv (im_var (i := 7)) (im_cb gc_len (ia_cons (im_var (i := 0)) ia_nil)))) im_int) (by decide)) (is_asg (i := 5) (im_if (it_test (im_op (CmpI.op ci_isN) (im_var (i := 5)) im_non)) (im_var (i := 6)) (im_var (i := 5))) (by decide))) is_next)) (by decide)) (is_ret (im_tup (ia_cons (im_var (i := 4)) (ia_cons (im_var (i := 5)) ia_nil))))))
  exact ⟨_, (pss_cons (L2.ps_par3 (i := 3) (j := 4) (l := 5) rfl sc__law_in_rounds.nd rfl rfl rfl (by decide) (by decide) (by decide) rfl rfl rfl (pa_cons (pe_op op_mulX (pv 0) (pe_op op_adds (pe_op op_fdiv (pe_callB call_len (by rfl) T.b_len (by decide +kernel) (pa_cons (pv 2) pa_nil)) (pe_callB call_len (by rfl) T.b_len (by decide +kernel) (pa_cons (pv 0) pa_nil))) pe_int)) (pa_cons pe_int (pa_cons pe_non pa_nil))) (by rfl)) (pss_cons (ps_for (passes_of rfl) rfl (pi_range1 (by rfl) T.b_range (pa_cons (pe_callB call_len (by rfl) T.b_len (by decide +kernel) (pa_cons (pv 0) pa_nil)) pa_nil)) (pg_name (i := 6) sc__law_in_rounds.nd rfl (by first | exact Or.inl rfl | exact Or.inr rfl)) (pss_cons (ps_set (i := 7) sc__law_in_rounds.nd rfl (by first | exact Or.inl rfl | exact Or.inr rfl) (pe_op op_subs (pe_op op_subs (pe_op op_mulX (pv 1) (pe_callB call_len (by rfl) T.b_len (by decide +kernel) (pa_cons (pv 0) pa_nil))) (pe_callB call_len (by rfl) T.b_len (by decide +kernel) (pa_cons (pv 2) pa_nil))) (pv 6))) (pss_one (ps_if (PW.pt (pw_and (pt_cmpR (op_eqs hr.units) (pe_slice sl_all (pv 3) (po_some (pv 6)) (po_some (pe_op op_adds (pv 6) (pe_callB call_len (by rfl) T.b_len (by decide +kernel) (pa_cons (pv 2) pa_nil))))) (pv 2) (nomark _)) (pw_and1 (pt_cmpR op_ges (pv 7) pe_int (nomark _))))) (pss_cons (ps_set (i := 4) sc__law_in_rounds.nd rfl (by first | exact Or.inl rfl | exact Or.inr rfl) (pe_op op_adds (pe_op op_adds (pv 4) (pe_op op_fdiv (pv 7) (pe_callB call_len (by rfl) T.b_len (by decide +kernel) (pa_cons (pv 0) pa_nil)))) pe_int)) (pss_one (ps_set (i := 5) sc__law_in_rounds.nd rfl (by first | exact Or.inl rfl | exact Or.inr rfl) (pe_ifExp (pt_cmpR op_isN (pv 5) pe_non (nomark _)) (pv 6) (pv 5))))) pss_nil)))) (pss_one (ps_ret (pe_tup (pa_cons (pv 4) (pa_cons (pv 5) pa_nil))))))), fn_body (np := 3) (nl := 5) I rfl h⟩
end K40
end
section
set_option maxRecDepth 100000
set_option maxHeartbeats 2000000
namespace K40
open PySem PySem.Spec PyProof.Rows L2 DL
variable {P : Program} {w : World} {K : PySem.W.Frag} {mg : Str → Option Value} {base : Heap}

theorem sc__law_caught : FnScope ["work", "error", "caught"] ["work"] (defScope s__law_caught) := ⟨rfl, rfl, rfl, by decide +kernel, rfl, by decide +kernel, by decide +kernel⟩
theorem caught_gives {X : Cx} {g CW : Addr} {cdg : Value} {q : Str} (hme : X.mg "WritingError" = some (.ref CW)) :
    LamX.GivesTo X ["work", "error", "caught"] "_law_caught" (defScope s__law_caught) g cdg (defBody s__law_caught) "work" q (TCaught X.K CW) := by
  intro f c' s H Q tl act hc h
  refine ⟨_, pss_cons (ps_set (i := 1) sc__law_caught.nd rfl (.inl rfl) pe_non) (pss_cons
    (ps_keep (i := 2) (c := .ref CW) rfl rfl sc__law_caught.nd rfl rfl ⟨rfl, by decide, .inl hme⟩ rfl
      (tb := fun W D σ H => ∃ Ech : XK, (∀ cls d σ' H', Ech cls d H' → W cls d σ' H') ∧ σ[0]? = some (some (.ref f)) ∧ H c' = some (LamX.CodeO c' q) ∧ tl Ech H fun _ H' => D.nx σ H')
      (ts := fun _ _ _ => tAsg (tVar 2) (gName 1)) (fun W pn xe tk _ => ?_) (fun a oe cls d pn _ _ => pss_one (ps_set (i := 1) sc__law_caught.nd rfl (.inl rfl) (pv 2)))) (pss_one (ps_ret (pv 1)))), ?_⟩
  · refine ⟨fun pins s' σ H' D I h' => ?_⟩
    obtain ⟨Ech, hW, h1, h2, h3⟩ := h'
    exact (pss_one (ps_expr (act W pn xe Ech _ _ tk hW))).run pins s' σ H' D I ⟨h1, h2, h3⟩
  · refine ⟨fun cls d H' => PySem.W.exmOne X.K cls (.ref CW) = some true ∧ ∀ a, H' a = none → Q (.ref a) (upd H' a (HeldX cls d a)), fun cls d σ' H' hE => ⟨hE.1, fun a ha hl => ?_⟩, rfl, hc, ?_⟩
    · have hl : σ'.length = 3 := hl
      match σ', hl with
      | [u, v, w], _ => exact ⟨_, rfl, ha, _, rfl, hE.2 a ha⟩
    · exact h
theorem sc_law : FnScope ["script", "draw", "turn", "short", "text", "lap", "word", "at", "starts", "due", "part", "many", "far", "ahead", "times", "first", "bad", "odd", "work", "k"] ["script"] (defScope s_law) := ⟨rfl, rfl, rfl, by decide +kernel, rfl, by decide +kernel, by decide +kernel⟩
def e_law_1 : MX := (xCall [true, false] F__law_pick (aCons (xVar 1) (aCons (xC (.str "aab")) aNil)))
def x_law_1 : MX := (xLc (xIRng1 (aCons (xOp gAdd (xC (.int 1)) (xCall [true, false] F__law_take (aCons (xVar 1) (aCons (xC (.int 6)) aNil)))) aNil)) (mName 19) xYes e_law_1 [19])
def b_law_1 : MS := (sSeq (sAsg 6 (xMeS gJoin (xC (.str "")) (aCons x_law_1 aNil))) (sSeq (sIf (xAnd (xTest (xOp (blR gNe) (xVar 4) (xC (.str "")))) (xTest (xOp (blR gEq) (xCall [true, false] F__law_take (aCons (xVar 1) (aCons (xC (.int 2)) aNil))) (xC (.int 0))))) (sSeq (sAsg 7 (xCall [true, false] F__law_take (aCons (xVar 1) (aCons (xCB gLen (aCons (xVar 4) aNil)) aNil)))) (sAsg 6 (xSl gSl (xVar 4) (oPart (xVar 7)) (oPart (xOp gAdd (xOp gAdd (xVar 7) (xC (.int 1))) (xCall [true, false] F__law_take (aCons (xVar 1) (aCons (xC (.int 20)) aNil)))))))) sNext) (sSeq (sAsg 8 (xCall [false, false] F__law_starts (aCons (xVar 4) (aCons (xVar 6) aNil)))) (sSeq (sAsg 9 (xLst (aCons (xCB gLen (aCons (xVar 8) aNil)) (aCons (xIf (xTest (xOp (blR gNeE) (xVar 8) (xLst aNil))) (xOp gIx (xVar 8) (xC (.int 0))) (xC .non)) aNil)))) (sSeq (sIf (xTest (xOp (blR gNe) (xCB gReprs (aCons (xLst (aCons (xCall [false, false] F_times_in (aCons (xVar 3) (aCons (xVar 6) aNil))) (aCons (xCall [false, false] F_first_in (aCons (xVar 3) (aCons (xVar 6) aNil))) aNil))) aNil)) (xCB gReprs (aCons (xVar 9) aNil)))) (sRet (xC (.bl false))) sNext) (sIf (xTest (xOp (blR gNe) (xCB gReprs (aCons (xLst (aCons (xCallK 0 2 [1, 0] F_times_in aNil (aCons (xVar 6) (aCons (xVar 3) aNil))) (aCons (xCallK 0 2 [1, 0] F_first_in aNil (aCons (xVar 6) (aCons (xVar 3) aNil))) aNil))) aNil)) (xCB gReprs (aCons (xVar 9) aNil)))) (sRet (xC (.bl false))) sNext))))))
def e_law_2 : MX := (xCall [true, false] F__law_pick (aCons (xVar 1) (aCons (xC (.str "abc")) aNil)))
def x_law_2 : MX := (xLc (xIRng1 (aCons (xOp gAdd (xC (.int 1)) (xCall [true, false] F__law_take (aCons (xVar 1) (aCons (xC (.int 5)) aNil)))) aNil)) (mName 19) xYes e_law_2 [19])
def b_law_2 (TT : List (Addr × Str)) (fa : Ct) : MS := (sSeq (sIf (xNot (xTru (xCaught TT 0 (isaOf "BadShort") (xCallV 18 [(fa "times_in", F_times_in), (fa "first_in", F_first_in)] [false, false] (aCons (xVar 16) (aCons (xVar 17) aNil)))))) (sRet (xC (.bl false))) sNext) (sIf (xNot (xTru (xCaught TT 0 (isaOf "BadWord") (xCallV 18 [(fa "times_in", F_times_in), (fa "first_in", F_first_in)] [false, false] (aCons (xVar 3) (aCons (xVar 17) aNil)))))) (sRet (xC (.bl false))) sNext))
def b_law_3 (TT : List (Addr × Str)) (fa : Ct) : MS := (sSeq (sAsgG (mTup 2 (mgCons (mName 3) (mgCons (mName 4) mgNil))) (xCall [true, false] F__law_small_short (aCons (xVar 1) (aCons (xC (.int 300)) aNil)))) (sSeq (sFor (xIRng1 (aCons (xC (.int 4)) aNil)) (mName 5) b_law_1) (sSeq (sPars [10, 11] (aCons (xMeS gJoin (xC (.str "")) (aCons x_law_2 aNil)) (aCons (xOp gAdd (xC (.int 1)) (xCall [true, false] F__law_take (aCons (xVar 1) (aCons (xC (.int 200)) aNil)))) aNil))) (sSeq (sPars [12, 7] (aCons (xCall [false, false] F__law_doubled (aCons (xVar 10) (aCons (xVar 11) aNil))) (aCons (xCall [true, false] F__law_take (aCons (xVar 1) (aCons (xCB gLen (aCons (xVar 10) aNil)) aNil))) aNil))) (sSeq (sAsg 6 (xSl gSl (xOp gMulX (xVar 10) (xC (.int 9))) (oPart (xVar 7)) (oPart (xOp gAdd (xOp gAdd (xVar 7) (xC (.int 1))) (xCall [true, false] F__law_take (aCons (xVar 1) (aCons (xC (.int 20)) aNil))))))) (sSeq (sAsg 6 (xIf (xTest (xOp (blR gGt) (xCall [true, false] F__law_take (aCons (xVar 1) (aCons (xC (.int 4)) aNil))) (xC (.int 0)))) (xVar 6) (xOp gAdd (xSl gSl (xVar 6) oNone (oPart (xC (.int 19)))) (xCall [true, false] F__law_pick (aCons (xVar 1) (aCons (xC (.str "abc")) aNil)))))) (sSeq (sIf (xTest (xOp (blR gNe) (xCB gReprs (aCons (xTup (aCons (xCall [false, false] F_times_in (aCons (xVar 12) (aCons (xVar 6) aNil))) (aCons (xCall [false, false] F_first_in (aCons (xVar 12) (aCons (xVar 6) aNil))) aNil))) aNil)) (xCB gReprs (aCons (xCall [false, false, false] F__law_in_rounds (aCons (xVar 10) (aCons (xCall [false] F__law_power (aCons (xVar 11) aNil)) (aCons (xVar 6) aNil)))) aNil)))) (sRet (xC (.bl false))) sNext) (sSeq (sAsg 13 (xCall [false, false] F_behind (aCons (xTup (aCons (xC (.str "short")) (aCons (xTup (aCons (xTup (aCons (xC (.str "say")) (aCons (xOp gMulX (xC (.str "c")) (xC (.int 40))) aNil))) aNil)) aNil))) (aCons (xVar 12) aNil)))) (sSeq (sIf (xAnd (xTest (xOp (blR (gIns true)) (xC (.str "c")) (xVar 10))) (xTest (xOp (blR (gIns true)) (xC (.str "c")) (xVar 6)))) (sSeq (sAsgG (mTup 2 (mgCons (mName 14) (mgCons (mName 15) mgNil))) (xCall [false, false, false] F__law_in_rounds (aCons (xVar 10) (aCons (xCall [false] F__law_power (aCons (xVar 11) aNil)) (aCons (xVar 6) aNil))))) (sIf (xTest (xOp (blR gNe) (xCB gReprs (aCons (xTup (aCons (xCall [false, false] F_times_in (aCons (xVar 13) (aCons (xVar 6) aNil))) (aCons (xCall [false, false] F_first_in (aCons (xVar 13) (aCons (xVar 6) aNil))) aNil))) aNil)) (xCB gReprs (aCons (xTup (aCons (xVar 14) (aCons (xIf (xTest (xOp (blR gIsN) (xVar 15) (xC .non))) (xC .non) (xOp gAdd (xVar 15) (xC (.int 40)))) aNil))) aNil)))) (sRet (xC (.bl false))) sNext)) sNext) (sSeq (sPars [16, 17] (aCons (xCall [true] F__law_bad_short (aCons (xVar 1) aNil)) (aCons (xCall [true, false] F__law_pick (aCons (xVar 1) (aCons (xLst (aCons (xC .non) (aCons (xC (.str "")) (aCons (xC (.str "d")) (aCons (xOp gMulX (xC (.str "a")) (xC (.int 21))) (aCons (xTup (aCons (xC (.str "a")) aNil)) (aCons (xC (.int 5)) (aCons (xC (.str "A")) aNil)))))))) aNil))) aNil))) (sFor (xISeq (xLst (aCons (xC (.ref (fa "times_in"))) (aCons (xC (.ref (fa "first_in"))) aNil)))) (mName 18) (b_law_2 TT fa))))))))))))
def m_law (TT : List (Addr × Str)) (fa : Ct) : MS := (sSeq (sAsg 1 (xCall [false] F__law_begun (aCons (xVar 0) aNil))) (sSeq (sFor (xIRng1 (aCons (xOp gAdd (xC (.int 3)) (xCB gMin2 (aCons (xCB gLen (aCons (xVar 0) aNil)) (aCons (xC (.int 8)) aNil)))) aNil)) (mName 2) (b_law_3 TT fa)) (sRet (xC (.bl true)))))
def F_law (TT : List (Addr × Str)) (fa : Ct) : Fn := runF (fun i => decide (i ∈ ([0] : List Nat))) 1 19 (m_law TT fa)
def TTof (Pt : Addr) : List (Addr × Str) := [(Pt, (envOfC "law" (defScope s_law) 0 0 .none).qual ++ "<lambda>")]
theorem ok_law (T : Tx P K mg) {oc kV doc pm ctv : Value} {od an : Option Addr} {osl : Array (Option Value)} {c Pt : Addr} (lk : K.lookup T.a_law = some ⟨oc, od, .func (PySem.W.fnOf "law" "law" (defArgs s_law) (defBody s_law) (defScope s_law) .none kV doc pm an (.ref c) ctv), osl⟩)
    (hcd : PySem.W.codeIn K (.ref c) "law" = true) (tb : LamX.TabB base mg c Pt) : FnG P w K mg base 9 T.a_law (PySem.W.fnOf "law" "law" (defArgs s_law) (defBody s_law) (defScope s_law) .none kV doc pm an (.ref c) ctv) ["script"] (spM K T.ct (F_law (TTof Pt) T.fa)) := by
  obtain ⟨ocC, odC, kVC, docC, pmC, anC, cdvC, ctC, oslC, efd, lkC, hcC⟩ := T.f__law_caught.ex
  have biC := T.bi__law_caught
  rw [efd] at lkC biC
  refine fnC_of lk hcd sc_law (fun vs H Q E h => sp_len runF_len h) (fun A outer s H vs Q E hr hg h => ?_)
  have I : ImpS K T.ct E (fun i => decide (i ∈ ([0] : List Nat))) _ (m_law (TTof Pt) T.fa) := (is_seq (is_asg (i := 1) (im_call (bs := [false]) (ia_cons (im_var (i := 0)) ia_nil)) (by decide)) (is_seq (is_for (ii_rng1 (ia_cons (im_op gi_add im_int (im_cb gc_min2 (ia_cons (im_cb gc_len (ia_cons (im_var (i := 0)) ia_nil)) (ia_cons im_int ia_nil)))) ia_nil)) (ig_name (i := 2)) (is_seq (is_asgG (ig_tup (igs_cons (ig_name (i := 3)) (igs_cons (ig_name (i := 4)) igs_nil))) (im_call (bs := [true, false]) (ia_cons (im_var (i := 1)) (ia_cons im_int ia_nil))) (by decide)) (is_seq (is_for (ii_rng1 (ia_cons im_int ia_nil)) (ig_name (i := 5)) (is_seq (is_asg (i := 6) (im_meS me_join im_str (ia_cons (im_lc (vs := [19]) (ii_rng1 (ia_cons (im_op gi_add im_int (im_call (bs := [true, false]) (ia_cons (im_var (i := 1)) (ia_cons im_int ia_nil)))) ia_nil)) (ig_name (i := 19)) it_yes (im_call (bs := [true, false]) (ia_cons (im_var (i := 1)) (ia_cons im_str ia_nil))) (by decide)) ia_nil)) (by decide)) (is_seq (is_if (it_and (it_test (im_op (CmpI.op ci_ne) (im_var (i := 4)) im_str)) (it_test (im_op (CmpI.op ci_eq) (im_call (bs := [true, false]) (ia_cons (im_var (i := 1)) (ia_cons im_int ia_nil))) im_int))) (is_seq (is_asg (i := 7) (im_call (bs := [true, false]) (ia_cons (im_var (i := 1)) (ia_cons (im_cb gc_len (ia_cons (im_var (i := 4)) ia_nil)) ia_nil))) (by decide)) (is_asg (i := 6) (im_sl si_all (im_var (i := 4)) (io_part (im_var (i := 7))) (io_part (im_op gi_add (im_op gi_add (im_var (i := 7)) im_int) (im_call (bs := [true, false]) (ia_cons (im_var (i := 1)) (ia_cons im_int ia_nil)))))) (by decide))) is_next) (is_seq (is_asg (i := 8) (im_call (bs := [false, false]) (ia_cons (im_var (i := 4)) (ia_cons (im_var (i := 6)) ia_nil))) (by decide)) (is_seq (is_asg (i := 9) (im_lst (ia_cons (im_cb gc_len (ia_cons (im_var (i := 8)) ia_nil)) (ia_cons (im_if (it_test (im_op (CmpI.op ci_neE) (im_var (i := 8)) (im_lst ia_nil))) (im_op gi_ix (im_var (i := 8)) im_int) im_non) ia_nil))) (by decide)) (is_seq (is_if (it_test (im_op (CmpI.op ci_ne) (im_cb gc_reprs (ia_cons (im_lst (ia_cons (im_call (bs := [false, false]) (ia_cons (im_var (i := 3)) (ia_cons (im_var (i := 6)) ia_nil))) (ia_cons (im_call (bs := [false, false]) (ia_cons (im_var (i := 3)) (ia_cons (im_var (i := 6)) ia_nil))) ia_nil))) ia_nil)) (im_cb gc_reprs (ia_cons (im_var (i := 9)) ia_nil)))) (is_ret im_bl) is_next) (is_if (it_test (im_op (CmpI.op ci_ne) (im_cb gc_reprs (ia_cons (im_lst (ia_cons (im_callK ia_nil (ia_cons (im_var (i := 6)) (ia_cons (im_var (i := 3)) ia_nil))) (ia_cons (im_callK ia_nil (ia_cons (im_var (i := 6)) (ia_cons (im_var (i := 3)) ia_nil))) ia_nil))) ia_nil)) (im_cb gc_reprs (ia_cons (im_var (i := 9)) ia_nil)))) (is_ret im_bl) is_next)))))) (by decide)) (is_seq (is_par (ia_cons (im_meS me_join im_str (ia_cons (im_lc (vs := [19]) (ii_rng1 (ia_cons (im_op gi_add im_int (im_call (bs := [true, false]) (ia_cons (im_var (i := 1)) (ia_cons im_int ia_nil)))) ia_nil)) (ig_name (i := 19)) it_yes (im_call (bs := [true, false]) (ia_cons (im_var (i := 1)) (ia_cons im_str ia_nil))) (by decide)) ia_nil)) (ia_cons (im_op gi_add im_int (im_call (bs := [true, false]) (ia_cons (im_var (i := 1)) (ia_cons im_int ia_nil)))) ia_nil)) (by decide)) (is_seq (is_par (ia_cons (im_call (bs := [false, false]) (ia_cons (im_var (i := 10)) (ia_cons (im_var (i := 11)) ia_nil))) (ia_cons (im_call (bs := [true, false]) (ia_cons (im_var (i := 1)) (ia_cons (im_cb gc_len (ia_cons (im_var (i := 10)) ia_nil)) ia_nil))) ia_nil)) (by decide)) (is_seq (is_asg (i := 6) (im_sl si_all (im_op gi_mulX (im_var (i := 10)) im_int) (io_part (im_var (i := 7))) (io_part (im_op gi_add (im_op gi_add (im_var (i := 7)) im_int) (im_call (bs := [true, false]) (ia_cons (im_var (i := 1)) (ia_cons im_int ia_nil)))))) (by decide)) (is_seq (is_asg (i := 6) (im_if (it_test (im_op (CmpI.op ci_gt) (im_call (bs := [true, false]) (ia_cons (im_var (i := 1)) (ia_cons im_int ia_nil))) im_int)) (im_var (i := 6)) (im_op gi_add (im_sl si_all (im_var (i := 6)) io_none (io_part im_int)) (im_call (bs := [true, false]) (ia_cons (im_var (i := 1)) (ia_cons im_str ia_nil))))) (by decide)) (is_seq (is_if (it_test (im_op (CmpI.op ci_ne) (im_cb gc_reprs (ia_cons (im_tup (ia_cons (im_call (bs := [false, false]) (ia_cons (im_var (i := 12)) (ia_cons (im_var (i := 6)) ia_nil))) (ia_cons (im_call (bs := [false, false]) (ia_cons (im_var (i := 12)) (ia_cons (im_var (i := 6)) ia_nil))) ia_nil))) ia_nil)) (im_cb gc_reprs (ia_cons (im_call (bs := [false, false, false]) (ia_cons (im_var (i := 10)) (ia_cons (im_call (bs := [false]) (ia_cons (im_var (i := 11)) ia_nil)) (ia_cons (im_var (i := 6)) ia_nil)))) ia_nil)))) (is_ret im_bl) is_next) (is_seq (is_asg (i := 13) (im_call (bs := [false, false]) (ia_cons (im_tup (ia_cons im_str (ia_cons (im_tup (ia_cons (im_tup (ia_cons im_str (ia_cons (im_op gi_mulX im_str im_int) ia_nil))) ia_nil)) ia_nil))) (ia_cons (im_var (i := 12)) ia_nil))) (by decide)) (is_seq (is_if (it_and (it_test (im_op (CmpI.op ci_notIns) im_str (im_var (i := 10)))) (it_test (im_op (CmpI.op ci_notIns) im_str (im_var (i := 6))))) (is_seq (is_asgG (ig_tup (igs_cons (ig_name (i := 14)) (igs_cons (ig_name (i := 15)) igs_nil))) (im_call (bs := [false, false, false]) (ia_cons (im_var (i := 10)) (ia_cons (im_call (bs := [false]) (ia_cons (im_var (i := 11)) ia_nil)) (ia_cons (im_var (i := 6)) ia_nil)))) (by decide)) (is_if (it_test (im_op (CmpI.op ci_ne) (im_cb gc_reprs (ia_cons (im_tup (ia_cons (im_call (bs := [false, false]) (ia_cons (im_var (i := 13)) (ia_cons (im_var (i := 6)) ia_nil))) (ia_cons (im_call (bs := [false, false]) (ia_cons (im_var (i := 13)) (ia_cons (im_var (i := 6)) ia_nil))) ia_nil))) ia_nil)) (im_cb gc_reprs (ia_cons (im_tup (ia_cons (im_var (i := 14)) (ia_cons (im_if (it_test (im_op (CmpI.op ci_isN) (im_var (i := 15)) im_non)) im_non (im_op gi_add (im_var (i := 15)) im_int)) ia_nil))) ia_nil)))) (is_ret im_bl) is_next)) is_next) (is_seq (is_parT (ia_cons (im_call (bs := [true]) (ia_cons (im_var (i := 1)) ia_nil)) (ia_cons (im_call (bs := [true, false]) (ia_cons (im_var (i := 1)) (ia_cons (im_lst (ia_cons im_non (ia_cons im_str (ia_cons im_str (ia_cons (im_op gi_mulX im_str im_int) (ia_cons (im_tup (ia_cons im_str ia_nil)) (ia_cons im_int (ia_cons im_str ia_nil)))))))) ia_nil))) ia_nil)) (by decide)) (is_for (ii_seq (im_lst (ia_cons (im_fnv T.fa_times_in) (ia_cons (im_fnv T.fa_first_in) ia_nil)))) (ig_name (i := 18)) (is_seq (is_if (it_not (it_tru (im_caught (T := TTof Pt) (it := 0) T.w_BadShort (fun _ => (im_callV (bs := [false, false]) (ia_cons (im_var (i := 16)) (ia_cons (im_var (i := 17)) ia_nil))))))) (is_ret im_bl) is_next) (is_if (it_not (it_tru (im_caught (T := TTof Pt) (it := 0) T.w_BadWord (fun _ => (im_callV (bs := [false, false]) (ia_cons (im_var (i := 3)) (ia_cons (im_var (i := 17)) ia_nil))))))) (is_ret im_bl) is_next)) (by decide)))))))))))) (by decide)) (is_ret im_bl)))
  exact ⟨_, (pss_cons (ps_set (i := 1) sc_law.nd rfl (by first | exact Or.inl rfl | exact Or.inr rfl) (pe_fn (CanC.ok (ok__law_begun T) (hr.mono (by decide)) hxE) (by rfl) T.g__law_begun T.f__law_begun.kp T.bi__law_begun (pa_cons (pv 0) pa_nil))) (pss_cons (ps_for (passes_of rfl) rfl (pi_range1 (by rfl) T.b_range (pa_cons (pe_op op_adds pe_int (pe_callB (call_min2 rfl) (by rfl) T.b_min (by decide +kernel) (pa_cons (pe_callB call_len (by rfl) T.b_len (by decide +kernel) (pa_cons (pv 0) pa_nil)) (pa_cons pe_int pa_nil)))) pa_nil)) (pg_name (i := 2) sc_law.nd rfl (by first | exact Or.inl rfl | exact Or.inr rfl)) (pss_cons (ps_asg (pe_fn (CanC.ok (ok__law_small_short T) (hr.mono (by decide)) hxE) (by rfl) T.g__law_small_short T.f__law_small_short.kp T.bi__law_small_short (pa_cons (pv 1) (pa_cons pe_int pa_nil))) (pg_tup rfl (pgs_cons (pg_name (i := 3) sc_law.nd rfl (by first | exact Or.inl rfl | exact Or.inr rfl)) (pgs_cons (pg_name (i := 4) sc_law.nd rfl (by first | exact Or.inl rfl | exact Or.inr rfl)) pgs_nil)))) (pss_cons (ps_for (passes_of rfl) rfl (pi_range1 (by rfl) T.b_range (pa_cons pe_int pa_nil)) (pg_name (i := 5) sc_law.nd rfl (by first | exact Or.inl rfl | exact Or.inr rfl)) (pss_cons (ps_set (i := 6) sc_law.nd rfl (by first | exact Or.inl rfl | exact Or.inr rfl) (pe_bm PySem.F.plainAttrs_str PySem.F.slot_str_join PySem.F.type_str_join mt_join pe_str (pa_cons (pe_lc (own := [("k", 19)]) rfl sc_law.nd (pi_range1 (by rfl) T.b_range (pa_cons (pe_op op_adds pe_int (pe_fn (CanC.ok (ok__law_take T) (hr.mono (by decide)) hxE) (by rfl) T.g__law_take T.f__law_take.kp T.bi__law_take (pa_cons (pv 1) (pa_cons pe_int pa_nil)))) pa_nil)) (blkOk_by (N := ["script", "draw", "turn", "short", "text", "lap", "word", "at", "starts", "due", "part", "many", "far", "ahead", "times", "first", "bad", "odd", "work", "k"]) (sc := defScope s_law) (by first | decide +kernel | rfl)) (fun _ _ _ _ _ => (pg_name (i := 19) sc_law.nd rfl (by first | exact Or.inl rfl | exact Or.inr rfl))) (fun _ _ _ _ _ => pts_nil) (fun _ _ _ _ _ => (pe_fn (CanC.ok (ok__law_pick T) (hr.mono (by decide)) hxB) (by rfl) T.g__law_pick T.f__law_pick.kp T.bi__law_pick (pa_cons (pv 1) (pa_cons pe_str pa_nil))))) pa_nil))) (pss_cons (ps_if (PW.pt (pw_and (pt_cmpR (op_nes hr.units) (pv 4) pe_str (nomark _)) (pw_and1 (pt_cmpR (op_eqs hr.units) (pe_fn (CanC.ok (ok__law_take T) (hr.mono (by decide)) hxE) (by rfl) T.g__law_take T.f__law_take.kp T.bi__law_take (pa_cons (pv 1) (pa_cons pe_int pa_nil))) pe_int (nomark _))))) (pss_cons (ps_set (i := 7) sc_law.nd rfl (by first | exact Or.inl rfl | exact Or.inr rfl) (pe_fn (CanC.ok (ok__law_take T) (hr.mono (by decide)) hxE) (by rfl) T.g__law_take T.f__law_take.kp T.bi__law_take (pa_cons (pv 1) (pa_cons (pe_callB call_len (by rfl) T.b_len (by decide +kernel) (pa_cons (pv 4) pa_nil)) pa_nil)))) (pss_one (ps_set (i := 6) sc_law.nd rfl (by first | exact Or.inl rfl | exact Or.inr rfl) (pe_slice sl_all (pv 4) (po_some (pv 7)) (po_some (pe_op op_adds (pe_op op_adds (pv 7) pe_int) (pe_fn (CanC.ok (ok__law_take T) (hr.mono (by decide)) hxE) (by rfl) T.g__law_take T.f__law_take.kp T.bi__law_take (pa_cons (pv 1) (pa_cons pe_int pa_nil))))))))) pss_nil) (pss_cons (ps_set (i := 8) sc_law.nd rfl (by first | exact Or.inl rfl | exact Or.inr rfl) (pe_fn (CanC.ok (ok__law_starts T) (hr.mono (by decide)) hxE) (by rfl) T.g__law_starts T.f__law_starts.kp T.bi__law_starts (pa_cons (pv 4) (pa_cons (pv 6) pa_nil)))) (pss_cons (ps_set (i := 9) sc_law.nd rfl (by first | exact Or.inl rfl | exact Or.inr rfl) (pe_lst (pa_cons (pe_callB call_len (by rfl) T.b_len (by decide +kernel) (pa_cons (pv 8) pa_nil)) (pa_cons (pe_ifExp (pt_cmpR (op_neE hr.units) (pv 8) (pe_lst pa_nil) (nomark _)) (pe_ix ix_seq (pv 8) pe_int (fun _ _ => rfl)) pe_non) pa_nil)))) (pss_cons (ps_if (pt_cmpR (op_nes hr.units) (pe_callB (call_reprs hg hr.units) (by rfl) T.b_repr (by decide +kernel) (pa_cons (pe_lst (pa_cons (pe_fn (CanC.ok (ok_times_in T) (hr.mono (by decide)) hxE) (by rfl) T.g_times_in T.f_times_in.kp T.bi_times_in (pa_cons (pv 3) (pa_cons (pv 6) pa_nil))) (pa_cons (pe_fn (CanC.ok (ok_first_in T) (hr.mono (by decide)) hxE) (by rfl) T.g_first_in T.f_first_in.kp T.bi_first_in (pa_cons (pv 3) (pa_cons (pv 6) pa_nil))) pa_nil))) pa_nil)) (pe_callB (call_reprs hg hr.units) (by rfl) T.b_repr (by decide +kernel) (pa_cons (pv 9) pa_nil)) (nomark _)) (pss_one (ps_ret pe_bl)) pss_nil) (pss_one (ps_if (pt_cmpR (op_nes hr.units) (pe_callB (call_reprs hg hr.units) (by rfl) T.b_repr (by decide +kernel) (pa_cons (pe_lst (pa_cons (pe_fnK0 (idx := [1, 0]) (CanC.ok (ok_times_in T) (hr.mono (by decide)) hxE) (by rfl) T.g_times_in T.f_times_in.kp T.kb_times_in_0_word_short (pk_cons (pv 6) (pk_cons (pv 3) pk_nil))) (pa_cons (pe_fnK0 (idx := [1, 0]) (CanC.ok (ok_first_in T) (hr.mono (by decide)) hxE) (by rfl) T.g_first_in T.f_first_in.kp T.kb_first_in_0_word_short (pk_cons (pv 6) (pk_cons (pv 3) pk_nil))) pa_nil))) pa_nil)) (pe_callB (call_reprs hg hr.units) (by rfl) T.b_repr (by decide +kernel) (pa_cons (pv 9) pa_nil)) (nomark _)) (pss_one (ps_ret pe_bl)) pss_nil)))))))) (pss_cons (ps_par (i := 10) (j := 11) rfl sc_law.nd rfl rfl (by decide) rfl rfl (pa_cons (pe_bm PySem.F.plainAttrs_str PySem.F.slot_str_join PySem.F.type_str_join mt_join pe_str (pa_cons (pe_lc (own := [("k", 19)]) rfl sc_law.nd (pi_range1 (by rfl) T.b_range (pa_cons (pe_op op_adds pe_int (pe_fn (CanC.ok (ok__law_take T) (hr.mono (by decide)) hxE) (by rfl) T.g__law_take T.f__law_take.kp T.bi__law_take (pa_cons (pv 1) (pa_cons pe_int pa_nil)))) pa_nil)) (blkOk_by (N := ["script", "draw", "turn", "short", "text", "lap", "word", "at", "starts", "due", "part", "many", "far", "ahead", "times", "first", "bad", "odd", "work", "k"]) (sc := defScope s_law) (by first | decide +kernel | rfl)) (fun _ _ _ _ _ => (pg_name (i := 19) sc_law.nd rfl (by first | exact Or.inl rfl | exact Or.inr rfl))) (fun _ _ _ _ _ => pts_nil) (fun _ _ _ _ _ => (pe_fn (CanC.ok (ok__law_pick T) (hr.mono (by decide)) hxB) (by rfl) T.g__law_pick T.f__law_pick.kp T.bi__law_pick (pa_cons (pv 1) (pa_cons pe_str pa_nil))))) pa_nil)) (pa_cons (pe_op op_adds pe_int (pe_fn (CanC.ok (ok__law_take T) (hr.mono (by decide)) hxE) (by rfl) T.g__law_take T.f__law_take.kp T.bi__law_take (pa_cons (pv 1) (pa_cons pe_int pa_nil)))) pa_nil)) (by rfl)) (pss_cons (ps_par (i := 12) (j := 7) rfl sc_law.nd rfl rfl (by decide) rfl rfl (pa_cons (pe_fn (CanC.ok (ok__law_doubled T) (hr.mono (by decide)) hxE) (by rfl) T.g__law_doubled T.f__law_doubled.kp T.bi__law_doubled (pa_cons (pv 10) (pa_cons (pv 11) pa_nil))) (pa_cons (pe_fn (CanC.ok (ok__law_take T) (hr.mono (by decide)) hxE) (by rfl) T.g__law_take T.f__law_take.kp T.bi__law_take (pa_cons (pv 1) (pa_cons (pe_callB call_len (by rfl) T.b_len (by decide +kernel) (pa_cons (pv 10) pa_nil)) pa_nil))) pa_nil)) (by rfl)) (pss_cons (ps_set (i := 6) sc_law.nd rfl (by first | exact Or.inl rfl | exact Or.inr rfl) (pe_slice sl_all (pe_op op_mulX (pv 10) pe_int) (po_some (pv 7)) (po_some (pe_op op_adds (pe_op op_adds (pv 7) pe_int) (pe_fn (CanC.ok (ok__law_take T) (hr.mono (by decide)) hxE) (by rfl) T.g__law_take T.f__law_take.kp T.bi__law_take (pa_cons (pv 1) (pa_cons pe_int pa_nil))))))) (pss_cons (ps_set (i := 6) sc_law.nd rfl (by first | exact Or.inl rfl | exact Or.inr rfl) (pe_ifExp (pt_cmpR op_gts (pe_fn (CanC.ok (ok__law_take T) (hr.mono (by decide)) hxE) (by rfl) T.g__law_take T.f__law_take.kp T.bi__law_take (pa_cons (pv 1) (pa_cons pe_int pa_nil))) pe_int (nomark _)) (pv 6) (pe_op op_adds (pe_slice sl_all (pv 6) po_none (po_some pe_int)) (pe_fn (CanC.ok (ok__law_pick T) (hr.mono (by decide)) hxE) (by rfl) T.g__law_pick T.f__law_pick.kp T.bi__law_pick (pa_cons (pv 1) (pa_cons pe_str pa_nil)))))) (pss_cons (ps_if (pt_cmpR (op_nes hr.units) (pe_callB (call_reprs hg hr.units) (by rfl) T.b_repr (by decide +kernel) (pa_cons (pe_tup (pa_cons (pe_fn (CanC.ok (ok_times_in T) (hr.mono (by decide)) hxE) (by rfl) T.g_times_in T.f_times_in.kp T.bi_times_in (pa_cons (pv 12) (pa_cons (pv 6) pa_nil))) (pa_cons (pe_fn (CanC.ok (ok_first_in T) (hr.mono (by decide)) hxE) (by rfl) T.g_first_in T.f_first_in.kp T.bi_first_in (pa_cons (pv 12) (pa_cons (pv 6) pa_nil))) pa_nil))) pa_nil)) (pe_callB (call_reprs hg hr.units) (by rfl) T.b_repr (by decide +kernel) (pa_cons (pe_fn (CanC.ok (ok__law_in_rounds T) (hr.mono (by decide)) hxE) (by rfl) T.g__law_in_rounds T.f__law_in_rounds.kp T.bi__law_in_rounds (pa_cons (pv 10) (pa_cons (pe_fn (CanC.ok (ok__law_power T) (hr.mono (by decide)) hxE) (by rfl) T.g__law_power T.f__law_power.kp T.bi__law_power (pa_cons (pv 11) pa_nil)) (pa_cons (pv 6) pa_nil)))) pa_nil)) (nomark _)) (pss_one (ps_ret pe_bl)) pss_nil) (pss_cons (ps_set (i := 13) sc_law.nd rfl (by first | exact Or.inl rfl | exact Or.inr rfl) (pe_fn (CanC.ok (ok_behind T) (hr.mono (by decide)) hxE) (by rfl) T.g_behind T.f_behind.kp T.bi_behind (pa_cons (pe_tup (pa_cons pe_str (pa_cons (pe_tup (pa_cons (pe_tup (pa_cons pe_str (pa_cons (pe_op op_mulX pe_str pe_int) pa_nil))) pa_nil)) pa_nil))) (pa_cons (pv 12) pa_nil)))) (pss_cons (ps_if (PW.pt (pw_and (pt_cmpR op_notIns pe_str (pv 10) (by rfl)) (pw_and1 (pt_cmpR op_notIns pe_str (pv 6) (by rfl))))) (pss_cons (ps_asg (pe_fn (CanC.ok (ok__law_in_rounds T) (hr.mono (by decide)) hxE) (by rfl) T.g__law_in_rounds T.f__law_in_rounds.kp T.bi__law_in_rounds (pa_cons (pv 10) (pa_cons (pe_fn (CanC.ok (ok__law_power T) (hr.mono (by decide)) hxE) (by rfl) T.g__law_power T.f__law_power.kp T.bi__law_power (pa_cons (pv 11) pa_nil)) (pa_cons (pv 6) pa_nil)))) (pg_tup rfl (pgs_cons (pg_name (i := 14) sc_law.nd rfl (by first | exact Or.inl rfl | exact Or.inr rfl)) (pgs_cons (pg_name (i := 15) sc_law.nd rfl (by first | exact Or.inl rfl | exact Or.inr rfl)) pgs_nil)))) (pss_one (ps_if (pt_cmpR (op_nes hr.units) (pe_callB (call_reprs hg hr.units) (by rfl) T.b_repr (by decide +kernel) (pa_cons (pe_tup (pa_cons (pe_fn (CanC.ok (ok_times_in T) (hr.mono (by decide)) hxE) (by rfl) T.g_times_in T.f_times_in.kp T.bi_times_in (pa_cons (pv 13) (pa_cons (pv 6) pa_nil))) (pa_cons (pe_fn (CanC.ok (ok_first_in T) (hr.mono (by decide)) hxE) (by rfl) T.g_first_in T.f_first_in.kp T.bi_first_in (pa_cons (pv 13) (pa_cons (pv 6) pa_nil))) pa_nil))) pa_nil)) (pe_callB (call_reprs hg hr.units) (by rfl) T.b_repr (by decide +kernel) (pa_cons (pe_tup (pa_cons (pv 14) (pa_cons (pe_ifExp (pt_cmpR op_isN (pv 15) pe_non (nomark _)) pe_non (pe_op op_adds (pv 15) pe_int)) pa_nil))) pa_nil)) (nomark _)) (pss_one (ps_ret pe_bl)) pss_nil))) pss_nil) (pss_cons (ps_asg (pe_tup (pa_cons (pe_fn (CanC.ok (ok__law_bad_short T) (hr.mono (by decide)) hxE) (by rfl) T.g__law_bad_short T.f__law_bad_short.kp T.bi__law_bad_short (pa_cons (pv 1) pa_nil)) (pa_cons (pe_fn (CanC.ok (ok__law_pick T) (hr.mono (by decide)) hxE) (by rfl) T.g__law_pick T.f__law_pick.kp T.bi__law_pick (pa_cons (pv 1) (pa_cons (pe_lst (pa_cons pe_non (pa_cons pe_str (pa_cons pe_str (pa_cons (pe_op op_mulX pe_str pe_int) (pa_cons (pe_tup (pa_cons pe_str pa_nil)) (pa_cons pe_int (pa_cons pe_str pa_nil)))))))) pa_nil))) pa_nil))) (pg_tup rfl (pgs_cons (pg_name (i := 16) sc_law.nd rfl (by first | exact Or.inl rfl | exact Or.inr rfl)) (pgs_cons (pg_name (i := 17) sc_law.nd rfl (by first | exact Or.inl rfl | exact Or.inr rfl)) pgs_nil)))) (pss_one (ps_for (passes_of rfl) rfl (pi_seq (pe_lst (pa_cons (pe_glob (v := .ref T.a_times_in) rfl T.g_times_in rfl) (pa_cons (pe_glob (v := .ref T.a_first_in) rfl T.g_first_in rfl) pa_nil)))) (pg_name (i := 18) sc_law.nd rfl (by first | exact Or.inl rfl | exact Or.inr rfl)) (pss_cons (ps_if (pt_not (pt_truth (pe_callB call_isH (by rfl) T.b_isinstance (by decide +kernel) (pa_cons (pe_lamT (T := TTof Pt) (by rfl) T.g__law_caught T.f__law_caught.kp lkC hcC biC sc__law_caught rfl (Or.inl rfl) (caught_gives T.g_WritingError) tb rfl (List.mem_singleton.mpr rfl) (fun p hp _ => by have e := List.mem_singleton.mp hp; rw [e]; rfl) hr (LamX.lamS_by (by show LamX.lamSB (defScope s_law) _ = true; decide +kernel)) rfl (fun _ _ _ _ _ => rfl) (fun _ _ _ _ _ _ _ hr => (pe_fnV (S := spsOf K T.ct [(T.fa "times_in", F_times_in), (T.fa "first_in", F_first_in)]) (mayC_all (fa := T.fa) (mayC_cons T.fa_times_in (CanC.ok (ok_times_in T) (hr.mono (by decide)) (hxL rfl rfl)) T.f_times_in.kp T.bi_times_in (mayC_cons T.fa_first_in (CanC.ok (ok_first_in T) (hr.mono (by decide)) (hxL rfl rfl)) T.f_first_in.kp T.bi_first_in mayC_nil))) (pv 18) (pa_cons (pv 16) (pa_cons (pv 17) pa_nil))))) (pa_cons (pe_glob (v := .ref (T.ct "BadShort")) rfl T.g_BadShort rfl) pa_nil))) (by intro _; rfl))) (pss_one (ps_ret pe_bl)) pss_nil) (pss_one (ps_if (pt_not (pt_truth (pe_callB call_isH (by rfl) T.b_isinstance (by decide +kernel) (pa_cons (pe_lamT (T := TTof Pt) (by rfl) T.g__law_caught T.f__law_caught.kp lkC hcC biC sc__law_caught rfl (Or.inl rfl) (caught_gives T.g_WritingError) tb rfl (List.mem_singleton.mpr rfl) (fun p hp _ => by have e := List.mem_singleton.mp hp; rw [e]; rfl) hr (LamX.lamS_by (by show LamX.lamSB (defScope s_law) _ = true; decide +kernel)) rfl (fun _ _ _ _ _ => rfl) (fun _ _ _ _ _ _ _ hr => (pe_fnV (S := spsOf K T.ct [(T.fa "times_in", F_times_in), (T.fa "first_in", F_first_in)]) (mayC_all (fa := T.fa) (mayC_cons T.fa_times_in (CanC.ok (ok_times_in T) (hr.mono (by decide)) (hxL rfl rfl)) T.f_times_in.kp T.bi_times_in (mayC_cons T.fa_first_in (CanC.ok (ok_first_in T) (hr.mono (by decide)) (hxL rfl rfl)) T.f_first_in.kp T.bi_first_in mayC_nil))) (pv 18) (pa_cons (pv 3) (pa_cons (pv 17) pa_nil))))) (pa_cons (pe_glob (v := .ref (T.ct "BadWord")) rfl T.g_BadWord rfl) pa_nil))) (by intro _; rfl))) (pss_one (ps_ret pe_bl)) pss_nil)))))))))))))))) (pss_one (ps_ret pe_bl)))), fn_body (np := 1) (nl := 19) I rfl h⟩
end K40
end
section
set_option maxRecDepth 100000
set_option maxHeartbeats 1000000
namespace K40
open PySem DL L2
def Is (F : Fn) (as : List Sl) (v : Vl) : Prop := ∃ l, F as = .ok (v, l)
theorem run_is {fix : Nat → Bool} {np nl : Nat} {m : MS} {as : List Sl} {v : Vl} (h : as.length = np) (e : ∃ ρ, m (as ++ List.replicate nl .emp) = .ok (.rt v ρ)) : Is (runF fix np nl m) as v := by
  obtain ⟨ρ, e⟩ := e
  refine ⟨maskA fix as.length ρ, ?_⟩
  unfold runF runB
  rw [if_pos h, e]
  exact R_bind_ok _ _
theorem call_is {bs : List Bool} {F : Fn} {ma : MA} {ρ ρ1 ρ2 : DL.Env} {vs : List Vl} {as : List Sl} {v : Vl} (h : Is F as v) (e1 : ma ρ = .ok (vs, ρ1)) (e2 : takeArgs bs vs ρ1 [] = some (as, ρ2, [])) : xCall bs F ma ρ = .ok (v, ρ2) := by
  obtain ⟨l, h⟩ := h
  unfold xCall
  simp only [e1, R_bind_ok, e2, rdO_some, h]
  rfl
theorem bls_all {l : List D} (h : ∀ d ∈ l, d = .bl true) : blsOf l = some (List.replicate l.length true) := by
  induction l with
  | nil => rfl
  | cons d l ih =>
    rw [h d (by simp)]
    unfold blsOf
    rw [ih fun e he => h e (List.mem_cons_of_mem _ he)]
    rfl
theorem gAll_yes {l : List D} (h : ∀ d ∈ l, d = .bl true) : gAll [.lst l] = some (.sh (.bl true)) := by
  show (blsOf l).bind _ = _
  rw [bls_all h]
  simp
theorem gAny_map {α : Type} (l : List α) (f : α → Bool) : gAny [.lst (l.map fun p => .bl (f p))] = some (.sh (.bl (l.any f))) := by
  have : (l.map fun p => D.bl (f p)) = (l.map f).map D.bl := by simp
  show (blsOf (l.map fun p => D.bl (f p))).bind _ = _
  rw [this, blsOf_of]
  simp
theorem cut1 {α : Type} (l : List α) : cutD l (some 1) none = l.tail := by
  unfold cutD
  rw [show (some (1 : Int)) = some ((1 : Nat) : Int) from rfl, HT.sIx_nat, HT.sIx_none]
  cases l with
  | nil => rfl
  | cons a l => simp
def cD (c : Nat → Nat) (n : Nat) : List D := (List.range n).map fun i => .int (c i)
theorem pyds_ints (ns : List Int) : pyds (ns.map D.int) = some (ns.map PyData.int) := by
  induction ns with
  | nil => unfold List.map pyds; rfl
  | cons n r ih =>
    rw [List.map_cons, List.map_cons]
    unfold pyds pyd
    rw [ih]
    rfl
theorem show_ints {ns : List Int} (h : ∀ n ∈ ns, n.natAbs.log2 < 1920) : PyData.showableAll (ns.map PyData.int) = true := by
  induction ns with
  | nil => unfold List.map PyData.showableAll; rfl
  | cons n r ih =>
    rw [List.map_cons]
    unfold PyData.showableAll PyData.showable
    rw [ih fun m hm => h m (List.mem_cons_of_mem _ hm), decide_eq_true (h n (by simp))]
    rfl
theorem nod_ints (ns : List Int) : PyData.hasDictAll (ns.map PyData.int) = false := by
  induction ns with
  | nil => unfold List.map PyData.hasDictAll; rfl
  | cons n r ih =>
    rw [List.map_cons]
    unfold PyData.hasDictAll PyData.hasDict
    rw [ih]
    rfl
theorem dep_ints (ns : List Int) : PyData.depthAll (ns.map PyData.int) ≤ 1 := by
  induction ns with
  | nil => unfold List.map PyData.depthAll; omega
  | cons n r ih =>
    rw [List.map_cons]
    unfold PyData.depthAll PyData.depth
    omega
theorem shown_ints {ns : List Int} (h : ∀ n ∈ ns, n.natAbs.log2 < 1920) : ((PyData.shownAll (ns.map PyData.int)).map (·.length)).sum ≤ 1921 * ns.length ∧ (PyData.shownAll (ns.map PyData.int)).length = ns.length := by
  induction ns with
  | nil => unfold List.map PyData.shownAll; simp
  | cons n r ih =>
    obtain ⟨h1, h2⟩ := ih fun m hm => h m (List.mem_cons_of_mem _ hm)
    rw [List.map_cons]
    unfold PyData.shownAll PyData.shown
    have e := int_text_length_le (k := 1920) (by omega) (h n (by simp))
    have e2 : (Str.ofString (toString n)).length = (toString n).length := ofString_length _
    have e2 : ((toString n : String) : Str).length ≤ 1921 := by
      show (Str.ofString (toString n)).length ≤ 1921
      omega
    simp only [List.map_cons, List.sum_cons, List.length_cons] at *
    constructor
    · omega
    · omega
theorem repr_ints {ns : List Int} (h : ∀ n ∈ ns, n.natAbs.log2 < 1920) (hl : ns.length ≤ 100) : ∃ s, gRepr [.lst (ns.map D.int)] = some (.sh (.str s)) := by
  have e : pyd (.lst (ns.map D.int)) = some (.list (ns.map PyData.int)) := by
    unfold pyd
    rw [pyds_ints]
    rfl
  refine ⟨(PyData.list (ns.map PyData.int)).shown, ?_⟩
  have h1 : (PyData.list (ns.map PyData.int)).showable = true := by
    unfold PyData.showable
    exact show_ints h
  have h2 : (PyData.list (ns.map PyData.int)).hasDict = false := by
    unfold PyData.hasDict
    exact nod_ints ns
  have h3 : decide ((PyData.list (ns.map PyData.int)).depth ≤ 60) = true := by
    unfold PyData.depth
    have := dep_ints ns
    simp
    omega
  have h4 : szOk (PyData.list (ns.map PyData.int)).shown.length = true := by
    unfold szOk PyData.shown
    have := listText_len_le (PyData.shownAll (ns.map PyData.int))
    obtain ⟨a, b⟩ := shown_ints h
    simp
    omega
  show (pyd (.lst (ns.map D.int))).bind _ = _
  rw [e]
  show (if _ then _ else _) = _
  rw [h1, h2, h3, h4]
  rfl
theorem mulI {a b : Int} (h : a.natAbs.log2 + b.natAbs.log2 < 1000000) : gMulX (.int a) (.int b) = some (.sh (.int (a * b))) := by
  have : cMul a b = true := by unfold cMul; simp; exact h
  unfold gMulX
  simp only [gInt, this, if_true, Option.some_or]
theorem modI {a b : Int} (h : 0 < b) : gMod (.int a) (.int b) = some (.sh (.int (a % b))) := by
  have : cMod a b = true := by unfold cMod; simp; exact h
  unfold gMod
  simp only [gInt, this, if_true]
theorem fdivI {a b : Int} (h : 0 < b) (h2 : b < 1073741824) : gFdiv (.int a) (.int b) = some (.sh (.int (a / b))) := by
  have : cDiv a b = true := by unfold cDiv; simp; exact ⟨h, h2⟩
  unfold gFdiv
  simp only [gInt, this, if_true]
theorem log_lt {a : Int} {k : Nat} (h0 : 0 ≤ a) (h : a < 2 ^ k) : a.natAbs.log2 ≤ k := by
  by_cases z : a.natAbs = 0
  · rw [z]; simp
  · have : a.natAbs < 2 ^ k := by
      have e : ((a.natAbs : Nat) : Int) = a := by omega
      have e2 : ((2 ^ k : Nat) : Int) = 2 ^ k := by simp
      omega
    exact Nat.le_of_lt ((Nat.log2_lt z).mpr this)
theorem pow5 {a : Int} (h0 : 0 ≤ a) (h : a < 2 ^ 60) : gPow (.int a) (.int 5) = some (.sh (.int (a ^ 5))) := by
  have : cPow a 5 = true := by
    unfold cPow
    simp
    omega
  unfold gPow
  simp only [gInt, this, if_true]
  rfl
theorem toI (a : Int) : gToInt [.int a] = some (.sh (.int a)) := rfl
theorem mx1 {b g t p : Int} (h0 : 0 ≤ b) (h : b < 2 ^ 40) (hp : 0 < p) (d fo : Sl) : b__law_mixed_1 [d, .sh (.int t), fo, .sh (.int p), .sh (.int b), .sh (.int g)] = .ok (.nx [d, .sh (.int t), fo, .sh (.int p), .sh (.int ((b * 69621 + g + t) % p)), .sh (.int g)]) := by
  have e1 := mulI (a := b) (b := 69621) (by
    have a1 := log_lt h0 h
    have a2 := log_lt (a := 69621) (k := 40) (by omega) (by decide)
    omega)
  have e2 := modI (a := b * 69621 + g + t) hp
  unfold b__law_mixed_1
  simp only [runF, runB, sSeq, sIf, sAsg, sRet, sNext, sDrop, sRaise, xVar, xC, xOp, xCB, xUn, aCons, aNil, rdv, rdvs, rdS, rdO_some, rdO_none, R_bind_ok, R_bind_bad, R_bind_exc, xTest, xTru, xAnd, xOr, xNot, xIf, xAndV, xOrV, xNotV, xChain, blOf, truO, blR, mv, put, maskA1, maskA2, maskA3, List.mem_cons, List.not_mem_nil, true_or, or_true, or_false, false_or, Bool.and_self, isi_tt, isi_ss, lc_nil, gEq_int, gNe_int, gLt_int, gLe_int, gGt_int, gGe_int, gLen, gIx, gAdd_int, gSub_int, gAug_int, xCall, takeArgs, take1, giveBack, bkAdd, share, shares, xTup, xLst, sAug, shS, emps, mName, mTup, mgCons, mgNil, xLc, xISeq, xIZip, xIRng1_eq, xIRng2_eq, rngV_ints, rngU_ints, rng1C_ok, rng2C_ok, kindOf, xSl, oPart, oNone, intOf, itemsOf, back, at0, at1, xApp, xExt, xPopAt, ownS, sz_0, sz_1, sz_2, sz_3, sz_4, sz_5, sz_6, sz_7, sz_8, List.getElem?_cons_zero, List.getElem?_cons_succ, List.getElem?_nil, List.set_cons_zero, List.set_cons_succ, List.length_cons, List.length_nil, List.cons_append, List.nil_append, List.append_nil, List.replicate, Option.bind_some, Option.bind_none, Option.map_some, Option.map_none, Option.some_or, Option.none_or, Option.or_some, Option.or_none, Option.getD_some, Option.getD_none, if_true, if_false, Bool.false_eq_true, Bool.not_true, Bool.not_false, decide_true, decide_false, List.map_cons, List.map_nil, reduceIte, Nat.reduceAdd, Nat.reduceLT, Nat.reduceEqDiff, Nat.zero_add, Int.reduceSub, Int.reduceAdd, Int.reduceLT, Int.reduceLE, Int.reduceEq, e1, e2, toI]
theorem mx2 {t p f : Int} {k : Nat} (st : Draw) (t0 : 0 ≤ t) (t1 : t ≤ 2000000) (p0 : 0 < p) (p1 : p < 2 ^ 31) (f0 : 0 ≤ f) (f1 : f < 2 ^ k) (hk : k ≤ 200) (x y : Sl) : ∃ f' x' y', 0 ≤ f' ∧ f' < 2 ^ (k + 32) ∧
    b__law_mixed_2 [.drw st, .sh (.int t), .sh (.int f), .sh (.int p), x, y] = .ok (.nx [.drw st, .sh (.int t), .sh (.int f'), .sh (.int p), x', y']) := by
  have hd : 0 ≤ p / 37 ∧ p / 37 ≤ p := ⟨Int.ediv_nonneg (by omega) (by omega), by omega⟩
  have hb0 : 0 ≤ 48271 * t + p / 37 := by omega
  have hb1 : 48271 * t + p / 37 < 2 ^ 40 := by
    have : (2 : Int) ^ 31 = 2147483648 := by decide
    have : (2 : Int) ^ 40 = 1099511627776 := by decide
    omega
  obtain ⟨ρ, h, b, w, b0, b1, e⟩ := for_inv0 (mg := mName 5) (mb := b__law_mixed_1) (ds := st.cells.map D.int) (ρ := [.drw st, .sh (.int t), .sh (.int f), .sh (.int p), .sh (.int (48271 * t + p / 37)), y])
    (fun i ρ => ∃ (b : Int) (w : Sl), 0 ≤ b ∧ b < 2 ^ 40 ∧ ρ = [.drw st, .sh (.int t), .sh (.int f), .sh (.int p), .sh (.int b), w]) ⟨_, y, hb0, hb1, rfl⟩ fun i d ρ hd hi => by
    obtain ⟨b, w, b0, b1, rfl⟩ := hi
    rw [List.getElem?_map] at hd
    obtain ⟨g, hg, rfl⟩ := Option.map_eq_some_iff.mp hd
    have l1 := Int.emod_nonneg (b * 69621 + g + t) (b := p) (by omega)
    have l2 := Int.emod_lt_of_pos (b * 69621 + g + t) p0
    have : (2 : Int) ^ 31 = 2147483648 := by decide
    have : (2 : Int) ^ 40 = 1099511627776 := by decide
    exact ⟨_, _, rfl, mx1 b0 b1 p0 _ _, _, _, l1, by omega, rfl⟩
  subst e
  have m1 := mulI (a := 48271) (b := t) (by
    have a1 := log_lt (a := t) (k := 40) t0 (by omega)
    have a2 := log_lt (a := 48271) (k := 40) (by omega) (by decide)
    omega)
  have m2 := fdivI (a := p) (b := 37) (by omega) (by omega)
  have m3 := mulI (a := f) (b := 2147483647) (by
    have a1 := log_lt f0 f1
    have a2 := log_lt (a := 2147483647) (k := 40) (by omega) (by decide)
    omega)
  have m4 := pow5 b0 (by
    have : (2 : Int) ^ 60 = 1152921504606846976 := by decide
    have : (2 : Int) ^ 40 = 1099511627776 := by decide
    omega)
  have m5 := modI (a := b ^ 5) p0
  have l1 := Int.emod_nonneg (b ^ 5) (b := p) (by omega)
  have l2 := Int.emod_lt_of_pos (b ^ 5) p0
  have q : (2 : Int) ^ (k + 32) = 2 ^ k * 4294967296 := by rw [Int.pow_add]; rfl
  refine ⟨f * 2147483647 + b ^ 5 % p, .sh (.int b), w, by omega, ?_, ?_⟩
  · rw [q]
    have : (2 : Int) ^ 31 = 2147483648 := by decide
    generalize (2 : Int) ^ k = z at *
    omega
  · unfold b__law_mixed_2
    simp only [runF, runB, sSeq, sIf, sAsg, sRet, sNext, sDrop, sRaise, xVar, xC, xOp, xCB, xUn, aCons, aNil, rdv, rdvs, rdS, rdO_some, rdO_none, R_bind_ok, R_bind_bad, R_bind_exc, xTest, xTru, xAnd, xOr, xNot, xIf, xAndV, xOrV, xNotV, xChain, blOf, truO, blR, mv, put, maskA1, maskA2, maskA3, List.mem_cons, List.not_mem_nil, true_or, or_true, or_false, false_or, Bool.and_self, isi_tt, isi_ss, lc_nil, gEq_int, gNe_int, gLt_int, gLe_int, gGt_int, gGe_int, gLen, gIx, gAdd_int, gSub_int, gAug_int, xCall, takeArgs, take1, giveBack, bkAdd, share, shares, xTup, xLst, sAug, shS, emps, mName, mTup, mgCons, mgNil, xLc, xISeq, xIZip, xIRng1_eq, xIRng2_eq, rngV_ints, rngU_ints, rng1C_ok, rng2C_ok, kindOf, xSl, oPart, oNone, intOf, itemsOf, back, at0, at1, xApp, xExt, xPopAt, ownS, sz_0, sz_1, sz_2, sz_3, sz_4, sz_5, sz_6, sz_7, sz_8, List.getElem?_cons_zero, List.getElem?_cons_succ, List.getElem?_nil, List.set_cons_zero, List.set_cons_succ, List.length_cons, List.length_nil, List.cons_append, List.nil_append, List.append_nil, List.replicate, Option.bind_some, Option.bind_none, Option.map_some, Option.map_none, Option.some_or, Option.none_or, Option.or_some, Option.or_none, Option.getD_some, Option.getD_none, if_true, if_false, Bool.false_eq_true, Bool.not_true, Bool.not_false, decide_true, decide_false, List.map_cons, List.map_nil, reduceIte, Nat.reduceAdd, Nat.reduceLT, Nat.reduceEqDiff, Nat.zero_add, Int.reduceSub, Int.reduceAdd, Int.reduceLT, Int.reduceLE, Int.reduceEq, m1, m2, m3, m4, m5, sFor, xDrw, drwS, toI, h]
theorem mixed_ok (st : Draw) (t0 : 0 ≤ st.turn) (t1 : st.turn ≤ 1000000) : ∃ k, F__law_mixed [.drw st] = .ok (.sh (.int k), [.drw { st with turn := st.turn + 1 }]) := by
  obtain ⟨f1, x1, y1, a1, b1, c1⟩ := mx2 (t := st.turn + 1) (p := 2147483647) (f := 0) (k := 0) { st with turn := st.turn + 1 } (by omega) (by omega) (by omega) (by decide) (by omega) (by decide) (by omega) .emp .emp
  obtain ⟨f2, x2, y2, a2, b2, c2⟩ := mx2 (t := st.turn + 1) (p := 2147483629) { st with turn := st.turn + 1 } (by omega) (by omega) (by omega) (by decide) a1 b1 (by omega) x1 y1
  obtain ⟨f3, x3, y3, a3, b3, c3⟩ := mx2 (t := st.turn + 1) (p := 2147483587) { st with turn := st.turn + 1 } (by omega) (by omega) (by omega) (by decide) a2 b2 (by omega) x2 y2
  obtain ⟨f4, x4, y4, a4, b4, c4⟩ := mx2 (t := st.turn + 1) (p := 2147483579) { st with turn := st.turn + 1 } (by omega) (by omega) (by omega) (by decide) a3 b3 (by omega) x3 y3
  refine ⟨f4, ?_⟩
  unfold F__law_mixed m__law_mixed
  simp only [runF, runB, sSeq, sIf, sAsg, sRet, sNext, sDrop, sRaise, xVar, xC, xOp, xCB, xUn, aCons, aNil, rdv, rdvs, rdS, rdO_some, rdO_none, R_bind_ok, R_bind_bad, R_bind_exc, xTest, xTru, xAnd, xOr, xNot, xIf, xAndV, xOrV, xNotV, xChain, blOf, truO, blR, mv, put, maskA1, maskA2, maskA3, List.mem_cons, List.not_mem_nil, true_or, or_true, or_false, false_or, Bool.and_self, isi_tt, isi_ss, lc_nil, gEq_int, gNe_int, gLt_int, gLe_int, gGt_int, gGe_int, gLen, gIx, gAdd_int, gSub_int, gAug_int, xCall, takeArgs, take1, giveBack, bkAdd, share, shares, xTup, xLst, sAug, shS, emps, mName, mTup, mgCons, mgNil, xLc, xISeq, xIZip, xIRng1_eq, xIRng2_eq, rngV_ints, rngU_ints, rng1C_ok, rng2C_ok, kindOf, xSl, oPart, oNone, intOf, itemsOf, back, at0, at1, xApp, xExt, xPopAt, ownS, sz_0, sz_1, sz_2, sz_3, sz_4, sz_5, sz_6, sz_7, sz_8, List.getElem?_cons_zero, List.getElem?_cons_succ, List.getElem?_nil, List.set_cons_zero, List.set_cons_succ, List.length_cons, List.length_nil, List.cons_append, List.nil_append, List.append_nil, List.replicate, Option.bind_some, Option.bind_none, Option.map_some, Option.map_none, Option.some_or, Option.none_or, Option.or_some, Option.or_none, Option.getD_some, Option.getD_none, if_true, if_false, Bool.false_eq_true, Bool.not_true, Bool.not_false, decide_true, decide_false, List.map_cons, List.map_nil, reduceIte, Nat.reduceAdd, Nat.reduceLT, Nat.reduceEqDiff, Nat.zero_add, Int.reduceSub, Int.reduceAdd, Int.reduceLT, Int.reduceLE, Int.reduceEq, xDrw, drwS, DL.sDPut, sPars, puts, notBor, sFor, forLoop, c1, c2, c3, c4]
structure DOk (n : Nat) (st : Draw) : Prop where
  w : st.wide.length ≤ 63
  t0 : 0 ≤ st.turn
  t1 : st.turn ≤ n
theorem DOk.to {n m : Nat} {st : Draw} (h : DOk n st) (e : n ≤ m) : DOk m st := ⟨h.w, h.t0, by have := h.t1; omega⟩
theorem gAbs_int (i : Int) : gAbs [.int i] = some (.sh (.int (if i < 0 then -i else i))) := rfl
theorem pow18 : gPow (.int 10) (.int 18) = some (.sh (.int 1000000000000000000)) := by kernel_rfl
def tW : D → Bool
  | .int g => decide ((1000000000000000000 : Int) ≤ if g < 0 then -g else g)
  | _ => false
def fW : D → D
  | .int g => .int ((if g < 0 then -g else g) - 1000000000000000000)
  | _ => .non
theorem wide_ints : ∀ ns : List Int, ∃ ws : List Int, ((ns.map D.int).filter tW).map fW = ws.map D.int ∧ ws.length ≤ ns.length
  | [] => ⟨[], rfl, Nat.le_refl _⟩
  | n :: r => by
    obtain ⟨ws, h1, h2⟩ := wide_ints r
    rw [List.map_cons, List.filter_cons]
    cases e : tW (D.int n) with
    | false => exact ⟨ws, by simpa using h1, by simp; omega⟩
    | true => exact ⟨((if n < 0 then -n else n) - 1000000000000000000) :: ws, by simp only [if_true, List.map_cons, h1]; rfl, by simp; omega⟩
theorem intsD_map (ws : List Int) : intsD (ws.map D.int) = some ws := by
  induction ws with
  | nil => rfl
  | cons n r ih =>
    rw [List.map_cons]
    unfold intsD
    rw [ih]
    rfl
theorem begun_ok {ns : List Int} (h : ns.length ≤ 63) : ∃ st, Is F__law_begun [.sh (.scr ns)] (.drw st) ∧ DOk 0 st := by
  obtain ⟨ws, hw, hl⟩ := wide_ints ns
  have l1 : ∀ a, lcLoop (mName 2) (xTest (xOp (blR gGe) (xCB gAbs (aCons (xVar 2) aNil)) (xOp gPow (xC (.int 10)) (xC (.int 18))))) e__law_begun_1 [2] (ns.map D.int) [.sh (.scr ns), a, .emp] [] = .ok (ws.map D.int, [.sh (.scr ns), a, .emp]) := fun a => by
    rw [lc_test (t := tW) (f := fW) (fun d hd => ?_) (by simp; omega), hw]
    · rfl
    · obtain ⟨g, hg, rfl⟩ := List.mem_map.mp hd
      refine ⟨_, [.sh (.scr ns), a, .sh (.int g)], rfl, ?_, rfl, fun _ => ⟨.sh (fW (.int g)), [.sh (.scr ns), a, .sh (.int g)], [.sh (.scr ns), a, .sh (.int g)], ?_, rfl, rfl⟩⟩
      · simp only [runF, runB, sSeq, sIf, sAsg, sRet, sNext, sDrop, sRaise, xVar, xC, xOp, xCB, xUn, aCons, aNil, rdv, rdvs, rdS, rdO_some, rdO_none, R_bind_ok, R_bind_bad, R_bind_exc, xTest, xTru, xAnd, xOr, xNot, xIf, xAndV, xOrV, xNotV, xChain, blOf, truO, blR, mv, put, maskA1, maskA2, maskA3, List.mem_cons, List.not_mem_nil, true_or, or_true, or_false, false_or, Bool.and_self, isi_tt, isi_ss, lc_nil, gEq_int, gNe_int, gLt_int, gLe_int, gGt_int, gGe_int, gLen, gIx, gAdd_int, gSub_int, gAug_int, xCall, takeArgs, take1, giveBack, bkAdd, share, shares, xTup, xLst, sAug, shS, emps, mName, mTup, mgCons, mgNil, xLc, xISeq, xIZip, xIRng1_eq, xIRng2_eq, rngV_ints, rngU_ints, rng1C_ok, rng2C_ok, kindOf, xSl, oPart, oNone, intOf, itemsOf, back, at0, at1, xApp, xExt, xPopAt, ownS, sz_0, sz_1, sz_2, sz_3, sz_4, sz_5, sz_6, sz_7, sz_8, List.getElem?_cons_zero, List.getElem?_cons_succ, List.getElem?_nil, List.set_cons_zero, List.set_cons_succ, List.length_cons, List.length_nil, List.cons_append, List.nil_append, List.append_nil, List.replicate, Option.bind_some, Option.bind_none, Option.map_some, Option.map_none, Option.some_or, Option.none_or, Option.or_some, Option.or_none, Option.getD_some, Option.getD_none, if_true, if_false, Bool.false_eq_true, Bool.not_true, Bool.not_false, decide_true, decide_false, List.map_cons, List.map_nil, reduceIte, Nat.reduceAdd, Nat.reduceLT, Nat.reduceEqDiff, Nat.zero_add, Int.reduceSub, Int.reduceAdd, Int.reduceLT, Int.reduceLE, Int.reduceEq, gAbs_int, pow18]
        rfl
      · unfold e__law_begun_1
        simp only [runF, runB, sSeq, sIf, sAsg, sRet, sNext, sDrop, sRaise, xVar, xC, xOp, xCB, xUn, aCons, aNil, rdv, rdvs, rdS, rdO_some, rdO_none, R_bind_ok, R_bind_bad, R_bind_exc, xTest, xTru, xAnd, xOr, xNot, xIf, xAndV, xOrV, xNotV, xChain, blOf, truO, blR, mv, put, maskA1, maskA2, maskA3, List.mem_cons, List.not_mem_nil, true_or, or_true, or_false, false_or, Bool.and_self, isi_tt, isi_ss, lc_nil, gEq_int, gNe_int, gLt_int, gLe_int, gGt_int, gGe_int, gLen, gIx, gAdd_int, gSub_int, gAug_int, xCall, takeArgs, take1, giveBack, bkAdd, share, shares, xTup, xLst, sAug, shS, emps, mName, mTup, mgCons, mgNil, xLc, xISeq, xIZip, xIRng1_eq, xIRng2_eq, rngV_ints, rngU_ints, rng1C_ok, rng2C_ok, kindOf, xSl, oPart, oNone, intOf, itemsOf, back, at0, at1, xApp, xExt, xPopAt, ownS, sz_0, sz_1, sz_2, sz_3, sz_4, sz_5, sz_6, sz_7, sz_8, List.getElem?_cons_zero, List.getElem?_cons_succ, List.getElem?_nil, List.set_cons_zero, List.set_cons_succ, List.length_cons, List.length_nil, List.cons_append, List.nil_append, List.append_nil, List.replicate, Option.bind_some, Option.bind_none, Option.map_some, Option.map_none, Option.some_or, Option.none_or, Option.or_some, Option.or_none, Option.getD_some, Option.getD_none, if_true, if_false, Bool.false_eq_true, Bool.not_true, Bool.not_false, decide_true, decide_false, List.map_cons, List.map_nil, reduceIte, Nat.reduceAdd, Nat.reduceLT, Nat.reduceEqDiff, Nat.zero_add, Int.reduceSub, Int.reduceAdd, Int.reduceLT, Int.reduceLE, Int.reduceEq, gAbs_int, pow18]
        rfl
  have l2 : ∀ a, lcLoop (mName 2) xYes e__law_begun_2 [2] (ns.map D.int) [.sh (.scr ns), a, .emp] [] = .ok ((ns.map fun g => ((if g < 0 then -g else g) % 2147483629)).map D.int, [.sh (.scr ns), a, .emp]) := fun a => by
    rw [lc_pure (f := fun d => match d with | .int g => .int ((if g < 0 then -g else g) % 2147483629) | _ => .non) (fun d hd => ?_) (by simp; omega)]
    · simp
    · obtain ⟨g, hg, rfl⟩ := List.mem_map.mp hd
      refine ⟨_, .sh (.int ((if g < 0 then -g else g) % 2147483629)), [.sh (.scr ns), a, .sh (.int g)], _, rfl, ?_, rfl, rfl⟩
      unfold e__law_begun_2
      have := modI (a := if g < 0 then -g else g) (b := 2147483629) (by omega)
      simp only [runF, runB, sSeq, sIf, sAsg, sRet, sNext, sDrop, sRaise, xVar, xC, xOp, xCB, xUn, aCons, aNil, rdv, rdvs, rdS, rdO_some, rdO_none, R_bind_ok, R_bind_bad, R_bind_exc, xTest, xTru, xAnd, xOr, xNot, xIf, xAndV, xOrV, xNotV, xChain, blOf, truO, blR, mv, put, maskA1, maskA2, maskA3, List.mem_cons, List.not_mem_nil, true_or, or_true, or_false, false_or, Bool.and_self, isi_tt, isi_ss, lc_nil, gEq_int, gNe_int, gLt_int, gLe_int, gGt_int, gGe_int, gLen, gIx, gAdd_int, gSub_int, gAug_int, xCall, takeArgs, take1, giveBack, bkAdd, share, shares, xTup, xLst, sAug, shS, emps, mName, mTup, mgCons, mgNil, xLc, xISeq, xIZip, xIRng1_eq, xIRng2_eq, rngV_ints, rngU_ints, rng1C_ok, rng2C_ok, kindOf, xSl, oPart, oNone, intOf, itemsOf, back, at0, at1, xApp, xExt, xPopAt, ownS, sz_0, sz_1, sz_2, sz_3, sz_4, sz_5, sz_6, sz_7, sz_8, List.getElem?_cons_zero, List.getElem?_cons_succ, List.getElem?_nil, List.set_cons_zero, List.set_cons_succ, List.length_cons, List.length_nil, List.cons_append, List.nil_append, List.append_nil, List.replicate, Option.bind_some, Option.bind_none, Option.map_some, Option.map_none, Option.some_or, Option.none_or, Option.or_some, Option.or_none, Option.getD_some, Option.getD_none, if_true, if_false, Bool.false_eq_true, Bool.not_true, Bool.not_false, decide_true, decide_false, List.map_cons, List.map_nil, reduceIte, Nat.reduceAdd, Nat.reduceLT, Nat.reduceEqDiff, Nat.zero_add, Int.reduceSub, Int.reduceAdd, Int.reduceLT, Int.reduceLE, Int.reduceEq, gAbs_int, toI, this]
  refine ⟨⟨ws, ns.map fun g => ((if g < 0 then -g else g) % 2147483629), 0, 0⟩, ?_, ⟨by show ws.length ≤ 63; omega, Int.le_refl _, Int.le_refl _⟩⟩
  refine run_is rfl ⟨[.sh (.scr ns), .emp, .emp], ?_⟩
  unfold m__law_begun x__law_begun_1 x__law_begun_2
  have i1 := intsD_map ws
  have i2 := intsD_map (ns.map fun g => ((if g < 0 then -g else g) % 2147483629))
  simp only [runF, runB, sSeq, sIf, sAsg, sRet, sNext, sDrop, sRaise, xVar, xC, xOp, xCB, xUn, aCons, aNil, rdv, rdvs, rdS, rdO_some, rdO_none, R_bind_ok, R_bind_bad, R_bind_exc, xTest, xTru, xAnd, xOr, xNot, xIf, xAndV, xOrV, xNotV, xChain, blOf, truO, blR, mv, put, maskA1, maskA2, maskA3, List.mem_cons, List.not_mem_nil, true_or, or_true, or_false, false_or, Bool.and_self, isi_tt, isi_ss, lc_nil, gEq_int, gNe_int, gLt_int, gLe_int, gGt_int, gGe_int, gLen, gIx, gAdd_int, gSub_int, gAug_int, xCall, takeArgs, take1, giveBack, bkAdd, share, shares, xTup, xLst, sAug, shS, emps, mName, mTup, mgCons, mgNil, xLc, xISeq, xIZip, xIRng1_eq, xIRng2_eq, rngV_ints, rngU_ints, rng1C_ok, rng2C_ok, kindOf, xSl, oPart, oNone, intOf, itemsOf, back, at0, at1, xApp, xExt, xPopAt, ownS, sz_0, sz_1, sz_2, sz_3, sz_4, sz_5, sz_6, sz_7, sz_8, List.getElem?_cons_zero, List.getElem?_cons_succ, List.getElem?_nil, List.set_cons_zero, List.set_cons_succ, List.length_cons, List.length_nil, List.cons_append, List.nil_append, List.append_nil, List.replicate, Option.bind_some, Option.bind_none, Option.map_some, Option.map_none, Option.some_or, Option.none_or, Option.or_some, Option.or_none, Option.getD_some, Option.getD_none, if_true, if_false, Bool.false_eq_true, Bool.not_true, Bool.not_false, decide_true, decide_false, List.map_cons, List.map_nil, reduceIte, Nat.reduceAdd, Nat.reduceLT, Nat.reduceEqDiff, Nat.zero_add, Int.reduceSub, Int.reduceAdd, Int.reduceLT, Int.reduceLE, Int.reduceEq, l1, l2, xDraw, i1, i2]
theorem take_ok {n m : Nat} {st : Draw} (h : DOk n st) (hn : n ≤ 1000000) (h0 : 0 < m) (hm : m < 1000000000) : ∃ st' k, F__law_take [.drw st, .sh (.int m)] = .ok (.sh (.int (k : Nat)), [.drw st', .sh (.int m)]) ∧ k < m ∧ DOk (n + 1) st' := by
  have a1 : ∀ a : Int, gMod (.int a) (.int m) = some (.sh (.int (a % m))) := fun a => modI (by omega)
  have a2 : ∀ a : Int, gFdiv (.int a) (.int m) = some (.sh (.int (a / m))) := fun a => fdivI (by omega) (by omega)
  have a3 : ∀ a : Int, ∃ k : Nat, a % m = (k : Int) ∧ k < m := fun a => by
    have l1 := Int.emod_nonneg a (b := m) (by omega)
    have l2 := Int.emod_lt_of_pos a (b := m) (by omega)
    exact ⟨(a % m).toNat, by omega, by omega⟩
  by_cases z : st.rest = 0
  · have d0 : decide (st.rest = 0) = true := by simp [z]
    cases hw : st.wide with
    | nil =>
      obtain ⟨r, hr⟩ := mixed_ok st h.t0 (by have := h.t1; omega)
      obtain ⟨k, hk, hk2⟩ := a3 r
      refine ⟨{ st with turn := st.turn + 1, rest := r / m }, k, ?_, hk2, ⟨h.w, by have := h.t0; show 0 ≤ st.turn + 1; omega, by have := h.t1; show st.turn + 1 ≤ _; omega⟩⟩
      have b0 : (!st.wide.isEmpty) = false := by rw [hw]; rfl
      unfold F__law_take m__law_take
      simp only [runF, runB, sSeq, sIf, sAsg, sRet, sNext, sDrop, sRaise, xVar, xC, xOp, xCB, xUn, aCons, aNil, rdv, rdvs, rdS, rdO_some, rdO_none, R_bind_ok, R_bind_bad, R_bind_exc, xTest, xTru, xAnd, xOr, xNot, xIf, xAndV, xOrV, xNotV, xChain, blOf, truO, blR, mv, put, maskA1, maskA2, maskA3, List.mem_cons, List.not_mem_nil, true_or, or_true, or_false, false_or, Bool.and_self, isi_tt, isi_ss, lc_nil, gEq_int, gNe_int, gLt_int, gLe_int, gGt_int, gGe_int, gLen, gIx, gAdd_int, gSub_int, gAug_int, xCall, takeArgs, take1, giveBack, bkAdd, share, shares, xTup, xLst, sAug, shS, emps, mName, mTup, mgCons, mgNil, xLc, xISeq, xIZip, xIRng1_eq, xIRng2_eq, rngV_ints, rngU_ints, rng1C_ok, rng2C_ok, kindOf, xSl, oPart, oNone, intOf, itemsOf, back, at0, at1, xApp, xExt, xPopAt, ownS, sz_0, sz_1, sz_2, sz_3, sz_4, sz_5, sz_6, sz_7, sz_8, List.getElem?_cons_zero, List.getElem?_cons_succ, List.getElem?_nil, List.set_cons_zero, List.set_cons_succ, List.length_cons, List.length_nil, List.cons_append, List.nil_append, List.append_nil, List.replicate, Option.bind_some, Option.bind_none, Option.map_some, Option.map_none, Option.some_or, Option.none_or, Option.or_some, Option.or_none, Option.getD_some, Option.getD_none, if_true, if_false, Bool.false_eq_true, Bool.not_true, Bool.not_false, decide_true, decide_false, List.map_cons, List.map_nil, reduceIte, Nat.reduceAdd, Nat.reduceLT, Nat.reduceEqDiff, Nat.zero_add, Int.reduceSub, Int.reduceAdd, Int.reduceLT, Int.reduceLE, Int.reduceEq, xDrw, drwS, d0, b0, DL.sDPut, hr, a1, a2, hk, toI]
    | cons x r =>
      obtain ⟨k, hk, hk2⟩ := a3 x
      refine ⟨{ st with wide := r, rest := x / m }, k, ?_, hk2, ⟨by have := h.w; rw [hw] at this; simp at this; show r.length ≤ 63; omega, h.t0, by have := h.t1; show st.turn ≤ _; omega⟩⟩
      have b0 : (!(x :: r).isEmpty) = true := rfl
      have b1 : szOk (r.length + 1) = true := by have := h.w; rw [hw] at this; simp at this; unfold szOk; simp; omega
      unfold F__law_take m__law_take
      simp only [runF, runB, sSeq, sIf, sAsg, sRet, sNext, sDrop, sRaise, xVar, xC, xOp, xCB, xUn, aCons, aNil, rdv, rdvs, rdS, rdO_some, rdO_none, R_bind_ok, R_bind_bad, R_bind_exc, xTest, xTru, xAnd, xOr, xNot, xIf, xAndV, xOrV, xNotV, xChain, blOf, truO, blR, mv, put, maskA1, maskA2, maskA3, List.mem_cons, List.not_mem_nil, true_or, or_true, or_false, false_or, Bool.and_self, isi_tt, isi_ss, lc_nil, gEq_int, gNe_int, gLt_int, gLe_int, gGt_int, gGe_int, gLen, gIx, gAdd_int, gSub_int, gAug_int, xCall, takeArgs, take1, giveBack, bkAdd, share, shares, xTup, xLst, sAug, shS, emps, mName, mTup, mgCons, mgNil, xLc, xISeq, xIZip, xIRng1_eq, xIRng2_eq, rngV_ints, rngU_ints, rng1C_ok, rng2C_ok, kindOf, xSl, oPart, oNone, intOf, itemsOf, back, at0, at1, xApp, xExt, xPopAt, ownS, sz_0, sz_1, sz_2, sz_3, sz_4, sz_5, sz_6, sz_7, sz_8, List.getElem?_cons_zero, List.getElem?_cons_succ, List.getElem?_nil, List.set_cons_zero, List.set_cons_succ, List.length_cons, List.length_nil, List.cons_append, List.nil_append, List.append_nil, List.replicate, Option.bind_some, Option.bind_none, Option.map_some, Option.map_none, Option.some_or, Option.none_or, Option.or_some, Option.or_none, Option.getD_some, Option.getD_none, if_true, if_false, Bool.false_eq_true, Bool.not_true, Bool.not_false, decide_true, decide_false, List.map_cons, List.map_nil, reduceIte, Nat.reduceAdd, Nat.reduceLT, Nat.reduceEqDiff, Nat.zero_add, Int.reduceSub, Int.reduceAdd, Int.reduceLT, Int.reduceLE, Int.reduceEq, xDrw, drwS, d0, b0, DL.sDPut, xDPop, hw, b1, a1, a2, hk, toI]
  · have d0 : decide (st.rest = 0) = false := by simp [z]
    obtain ⟨k, hk, hk2⟩ := a3 st.rest
    refine ⟨{ st with rest := st.rest / m }, k, ?_, hk2, ⟨h.w, h.t0, by have := h.t1; show st.turn ≤ _; omega⟩⟩
    unfold F__law_take m__law_take
    simp only [runF, runB, sSeq, sIf, sAsg, sRet, sNext, sDrop, sRaise, xVar, xC, xOp, xCB, xUn, aCons, aNil, rdv, rdvs, rdS, rdO_some, rdO_none, R_bind_ok, R_bind_bad, R_bind_exc, xTest, xTru, xAnd, xOr, xNot, xIf, xAndV, xOrV, xNotV, xChain, blOf, truO, blR, mv, put, maskA1, maskA2, maskA3, List.mem_cons, List.not_mem_nil, true_or, or_true, or_false, false_or, Bool.and_self, isi_tt, isi_ss, lc_nil, gEq_int, gNe_int, gLt_int, gLe_int, gGt_int, gGe_int, gLen, gIx, gAdd_int, gSub_int, gAug_int, xCall, takeArgs, take1, giveBack, bkAdd, share, shares, xTup, xLst, sAug, shS, emps, mName, mTup, mgCons, mgNil, xLc, xISeq, xIZip, xIRng1_eq, xIRng2_eq, rngV_ints, rngU_ints, rng1C_ok, rng2C_ok, kindOf, xSl, oPart, oNone, intOf, itemsOf, back, at0, at1, xApp, xExt, xPopAt, ownS, sz_0, sz_1, sz_2, sz_3, sz_4, sz_5, sz_6, sz_7, sz_8, List.getElem?_cons_zero, List.getElem?_cons_succ, List.getElem?_nil, List.set_cons_zero, List.set_cons_succ, List.length_cons, List.length_nil, List.cons_append, List.nil_append, List.append_nil, List.replicate, Option.bind_some, Option.bind_none, Option.map_some, Option.map_none, Option.some_or, Option.none_or, Option.or_some, Option.or_none, Option.getD_some, Option.getD_none, if_true, if_false, Bool.false_eq_true, Bool.not_true, Bool.not_false, decide_true, decide_false, List.map_cons, List.map_nil, reduceIte, Nat.reduceAdd, Nat.reduceLT, Nat.reduceEqDiff, Nat.zero_add, Int.reduceSub, Int.reduceAdd, Int.reduceLT, Int.reduceLE, Int.reduceEq, xDrw, drwS, d0, DL.sDPut, a1, a2, hk, toI]
theorem pick_ok {n : Nat} {st : Draw} (h : DOk n st) (hn : n ≤ 1000000) {L : List D} (h0 : L ≠ []) (hm : L.length < 1000000) : ∃ st' x, F__law_pick [.drw st, .sh (.lst L)] = .ok (.sh x, [.drw st', .sh (.lst L)]) ∧ x ∈ L ∧ DOk (n + 1) st' := by
  have hp : 0 < L.length := List.length_pos_iff.mpr h0
  obtain ⟨st', k, e, hk, q⟩ := take_ok h hn hp (by omega)
  obtain ⟨x, hx⟩ : ∃ x, L[k]? = some x := ⟨L[k], by simp⟩
  refine ⟨st', x, ?_, List.mem_of_getElem? hx, q⟩
  have a := atN hx
  unfold F__law_pick m__law_pick
  simp only [runF, runB, sSeq, sIf, sAsg, sRet, sNext, sDrop, sRaise, xVar, xC, xOp, xCB, xUn, aCons, aNil, rdv, rdvs, rdS, rdO_some, rdO_none, R_bind_ok, R_bind_bad, R_bind_exc, xTest, xTru, xAnd, xOr, xNot, xIf, xAndV, xOrV, xNotV, xChain, blOf, truO, blR, mv, put, maskA1, maskA2, maskA3, List.mem_cons, List.not_mem_nil, true_or, or_true, or_false, false_or, Bool.and_self, isi_tt, isi_ss, lc_nil, gEq_int, gNe_int, gLt_int, gLe_int, gGt_int, gGe_int, gLen, gIx, gAdd_int, gSub_int, gAug_int, xCall, takeArgs, take1, giveBack, bkAdd, share, shares, xTup, xLst, sAug, shS, emps, mName, mTup, mgCons, mgNil, xLc, xISeq, xIZip, xIRng1_eq, xIRng2_eq, rngV_ints, rngU_ints, rng1C_ok, rng2C_ok, kindOf, xSl, oPart, oNone, intOf, itemsOf, back, at0, at1, xApp, xExt, xPopAt, ownS, sz_0, sz_1, sz_2, sz_3, sz_4, sz_5, sz_6, sz_7, sz_8, List.getElem?_cons_zero, List.getElem?_cons_succ, List.getElem?_nil, List.set_cons_zero, List.set_cons_succ, List.length_cons, List.length_nil, List.cons_append, List.nil_append, List.append_nil, List.replicate, Option.bind_some, Option.bind_none, Option.map_some, Option.map_none, Option.some_or, Option.none_or, Option.or_some, Option.or_none, Option.getD_some, Option.getD_none, if_true, if_false, Bool.false_eq_true, Bool.not_true, Bool.not_false, decide_true, decide_false, List.map_cons, List.map_nil, reduceIte, Nat.reduceAdd, Nat.reduceLT, Nat.reduceEqDiff, Nat.zero_add, Int.reduceSub, Int.reduceAdd, Int.reduceLT, Int.reduceLE, Int.reduceEq, e, a]
end K40
end
section
set_option maxRecDepth 100000
set_option maxHeartbeats 1000000
namespace K40
def hit (w t : List Nat) (p : Nat) : Bool := decide ((t.drop p).take w.length = w)
def occ (w t : List Nat) : List Nat := (List.range t.length).filter (hit w t)
def lst (e : Nat) (t : List Nat) : List Nat := t.drop (t.length - min e t.length)
theorem filter_less {f : Nat → Bool} {K N : Nat} (h : ∀ p, K ≤ p → f p = false) (hN : K ≤ N) : (List.range N).filter f = (List.range K).filter f := by
  obtain ⟨j, rfl⟩ : ∃ j, N = K + j := ⟨N - K, by omega⟩
  rw [List.range_add, List.filter_append]
  have : ((List.range j).map (K + ·)).filter f = [] := by
    rw [List.filter_eq_nil_iff]
    intro x hx
    obtain ⟨i, _, rfl⟩ := List.mem_map.mp hx
    rw [h (K + i) (by omega)]
    simp
  rw [this, List.append_nil]
theorem hit_no {w t : List Nat} {p : Nat} (h : t.length < p + w.length) (hw : w ≠ []) : hit w t p = false := by
  have hw : 0 < w.length := List.length_pos_iff.mpr hw
  unfold hit
  refine decide_eq_false fun e => ?_
  have := congrArg List.length e
  rw [List.length_take, List.length_drop] at this
  omega
theorem occ_range {w t : List Nat} {N : Nat} (hw : w ≠ []) (h : t.length + 1 ≤ N + w.length) : (List.range N).filter (hit w t) = occ w t := by
  have hw0 : 0 < w.length := List.length_pos_iff.mpr hw
  have k : ∀ p, t.length + 1 - w.length ≤ p → hit w t p = false := fun p hp => hit_no (by omega) hw
  unfold occ
  rw [filter_less (K := t.length + 1 - w.length) (N := N) k (by omega), filter_less (K := t.length + 1 - w.length) (N := t.length) k (by omega)]
theorem lst_len (e : Nat) (t : List Nat) : (lst e t).length = min e t.length := by
  unfold lst
  rw [List.length_drop]
  omega
theorem lst_split (e : Nat) (t : List Nat) : t.take (t.length - min e t.length) ++ lst e t = t := List.take_append_drop _ _
theorem filter_shift (f : Nat → Bool) (c : Nat) (l : List Nat) : (l.map (c + ·)).filter f = (l.filter fun p => f (c + p)).map (c + ·) := by
  rw [List.filter_map]
  rfl
theorem filter_eq {f g : Nat → Bool} {l : List Nat} (h : ∀ p ∈ l, f p = g p) : l.filter f = l.filter g := List.filter_congr h
def crossing (w a b : List Nat) : List Nat := (occ w (lst (w.length - 1) a ++ b.take (w.length - 1))).filter fun p => decide (p < (lst (w.length - 1) a).length) && decide ((lst (w.length - 1) a).length < p + w.length)
theorem crossing_eq {w a b : List Nat} (hw : w ≠ []) : crossing w a b = (List.range (lst (w.length - 1) a).length).filter (hit w (lst (w.length - 1) a ++ b.take (w.length - 1))) := by
  have hw0 : 0 < w.length := List.length_pos_iff.mpr hw
  unfold crossing occ
  have l1 := lst_len (w.length - 1) a
  rw [List.length_append, List.range_add, List.filter_append, List.filter_append, List.filter_filter]
  have e1 : (((List.range (List.take (w.length - 1) b).length).map ((lst (w.length - 1) a).length + ·)).filter (hit w (lst (w.length - 1) a ++ b.take (w.length - 1)))).filter (fun p => decide (p < (lst (w.length - 1) a).length) && decide ((lst (w.length - 1) a).length < p + w.length)) = [] := by
    rw [List.filter_eq_nil_iff]
    intro x hx
    obtain ⟨i, _, rfl⟩ := List.mem_map.mp (List.mem_filter.mp hx).1
    simp
    omega
  rw [e1, List.append_nil]
  refine filter_eq fun p hp => ?_
  have hp := List.mem_range.mp hp
  rw [decide_eq_true (by omega : p < (lst (w.length - 1) a).length), decide_eq_true (by omega : (lst (w.length - 1) a).length < p + w.length)]
  rfl
theorem hit_left {w a b : List Nat} {p : Nat} (h : p + w.length ≤ a.length) : hit w (a ++ b) p = hit w a p := by
  unfold hit
  rw [List.drop_append_of_le_length (by omega), List.take_append_of_le_length (by rw [List.length_drop]; omega)]
theorem hit_right {w a b : List Nat} {p : Nat} : hit w (a ++ b) (a.length + p) = hit w b p := by
  unfold hit
  rw [List.drop_append, List.drop_eq_nil_of_le (by omega)]
  simp
theorem hit_mid {w a b : List Nat} {p : Nat} (h : p < a.length) : hit w (a ++ b.take (w.length - 1)) p = hit w (a ++ b) p := by
  unfold hit
  congr 1
  rw [List.drop_append_of_le_length (by omega), List.drop_append_of_le_length (by omega), List.take_append, List.take_append, List.take_take, List.length_drop]
  rw [Nat.min_eq_left (by omega)]
theorem occ_append {w a b : List Nat} (hw : w ≠ []) : occ w (a ++ b) = occ w a ++ ((crossing w a b).map (a.length - (lst (w.length - 1) a).length + ·) ++ (occ w b).map (a.length + ·)) := by
  have hw0 : 0 < w.length := List.length_pos_iff.mpr hw
  have l1 := lst_len (w.length - 1) a
  have e0 : occ w (a ++ b) = (List.range (a.length + b.length)).filter (hit w (a ++ b)) := (by unfold occ; rw [List.length_append])
  rw [e0, List.range_add, List.filter_append, filter_shift]
  have e2 : (List.range b.length).filter (fun p => hit w (a ++ b) (a.length + p)) = occ w b := filter_eq fun p _ => hit_right
  rw [e2, ← List.append_assoc]
  congr 1
  obtain ⟨c, hc⟩ : ∃ c, a.length = c + (lst (w.length - 1) a).length := ⟨a.length - (lst (w.length - 1) a).length, by omega⟩
  have e3 : a.length - (lst (w.length - 1) a).length = c := by omega
  rw [e3]
  have e4 : List.range a.length = List.range c ++ (List.range (lst (w.length - 1) a).length).map (c + ·) := by rw [hc, List.range_add]
  rw [e4, List.filter_append, filter_shift, crossing_eq hw]
  congr 1
  · rw [← occ_range (N := c) hw (by omega)]
    exact filter_eq fun p hp => hit_left (by have := List.mem_range.mp hp; omega)
  · congr 1
    refine filter_eq fun p hp => ?_
    have hp := List.mem_range.mp hp
    rw [hit_mid hp]
    have sp := lst_split (w.length - 1) a
    have tl : (a.take (a.length - min (w.length - 1) a.length)).length = c := by rw [List.length_take]; omega
    conv => lhs; rw [← sp, List.append_assoc, ← tl]
    exact hit_right
theorem ahead_append {e : Nat} {a b : List Nat} : (a ++ b).take e = if a.length < e then (a.take e ++ b.take e).take e else a.take e := by
  by_cases h : a.length < e
  · rw [if_pos h, List.take_of_length_le (l := a) (by omega), List.take_append, List.take_append, List.take_take]
    congr 2
    omega
  · rw [if_neg h, List.take_append_of_le_length (by omega)]
theorem lst_right {e : Nat} {a b : List Nat} (h : e ≤ b.length) : lst e (a ++ b) = lst e b := by
  unfold lst
  rw [List.length_append, List.drop_append]
  rw [List.drop_eq_nil_of_le (by omega), List.nil_append]
  congr 1
  omega
theorem lst_lst {e : Nat} {a : List Nat} : lst e (lst e a) = lst e a := by
  have h := lst_len e a
  generalize lst e a = l at h ⊢
  unfold lst
  have : l.length - min e l.length = 0 := by omega
  rw [this, List.drop_zero]
theorem lst_mid {e : Nat} {a b : List Nat} : lst e (lst e a ++ b) = lst e (a ++ b) := by
  conv => rhs; rw [← lst_split e a, List.append_assoc]
  by_cases h : e ≤ (lst e a ++ b).length
  · exact (lst_right h).symm
  · have l1 := lst_len e a
    rw [List.length_append, l1] at h
    have : a.take (a.length - min e a.length) = [] := by
      apply List.eq_nil_of_length_eq_zero
      rw [List.length_take]
      omega
    rw [this, List.nil_append]
theorem last_append {e : Nat} {a b : List Nat} : lst e (a ++ b) = lst e (if b.length < e then lst e a ++ lst e b else lst e b) := by
  by_cases h : b.length < e
  · rw [if_pos h, lst_mid]
    have : lst e b = b := by
      unfold lst
      rw [Nat.min_eq_right (by omega), Nat.sub_self, List.drop_zero]
    rw [this]
  · rw [if_neg h, lst_lst, lst_right (by omega)]
end K40
end
section
set_option maxRecDepth 100000
set_option maxHeartbeats 1000000
namespace K40
def rep (k : Nat) (l : List Nat) : List Nat := (List.replicate k l).flatten
theorem rep_succ (k : Nat) (l : List Nat) : rep (k + 1) l = l ++ rep k l := by
  unfold rep
  rw [List.replicate_succ, List.flatten_cons]
theorem rep_len (k : Nat) (l : List Nat) : (rep k l).length = k * l.length := by
  induction k with
  | zero => simp [rep]
  | succ k ih => rw [rep_succ, List.length_append, ih, Nat.succ_mul, Nat.add_comm]
theorem rep_add (j k : Nat) (l : List Nat) : rep (j + k) l = rep j l ++ rep k l := by
  unfold rep
  rw [← List.replicate_append_replicate, List.flatten_append]
theorem rep_get {l : List Nat} : ∀ {k i : Nat}, i < k * l.length → (rep k l)[i]? = l[i % l.length]?
  | 0, i, h => by simp at h
  | k + 1, i, h => by
    rw [rep_succ]
    by_cases hi : i < l.length
    · rw [List.getElem?_append_left hi, Nat.mod_eq_of_lt hi]
    · rw [List.getElem?_append_right (by omega), rep_get (by rw [Nat.succ_mul] at h; omega), Nat.mod_eq_sub_mod (by omega : i ≥ l.length)]
theorem circle_le {m n a : Nat} (hn : 0 < n) (ha : a < n) : a + m ≤ (m / n + 2) * n := by
  have := Nat.div_add_mod m n
  have h2 := Nat.mod_lt m hn
  rw [Nat.add_mul, Nat.mul_comm (m / n) n]
  omega
theorem hit_rep {w l : List Nat} {R p : Nat} (hl : 0 < l.length) (hp : p + w.length ≤ R * l.length) : hit w (rep R l) p = hit w (rep (w.length / l.length + 2) l) (p % l.length) := by
  unfold hit
  have hm := Nat.mod_lt p hl
  have hc := circle_le (m := w.length) hl hm
  have e : ((rep R l).drop p).take w.length = ((rep (w.length / l.length + 2) l).drop (p % l.length)).take w.length := by
    apply List.ext_getElem?
    intro i
    by_cases hi : i < w.length
    · rw [List.getElem?_take_of_lt hi, List.getElem?_take_of_lt hi, List.getElem?_drop, List.getElem?_drop, rep_get (by omega), rep_get (by omega), Nat.mod_add_mod]
    · rw [List.getElem?_eq_none (by rw [List.length_take]; omega), List.getElem?_eq_none (by rw [List.length_take]; omega)]
  rw [e]
theorem dv {q s n : Nat} (h : s < n) : (q * n + s) / n = q := by
  rw [Nat.mul_comm, Nat.mul_add_div (by omega), Nat.div_eq_of_lt h, Nat.add_zero]
theorem term {N n a : Nat} (ha : a < n) : (if a < N + 1 then (N - a) / n + 1 else 0) = (if a < N then (N - 1 - a) / n + 1 else 0) + if a = N % n then 1 else 0 := by
  have hd := Nat.div_add_mod N n
  have hr := Nat.mod_lt N (Nat.lt_of_le_of_lt (Nat.zero_le _) ha)
  generalize N / n = q at hd
  generalize N % n = r at hd hr ⊢
  rw [Nat.mul_comm] at hd
  subst hd
  cases q with
  | zero =>
    rw [Nat.zero_mul, Nat.zero_add]
    by_cases h1 : a < r
    · rw [if_pos (by omega), if_pos h1, if_neg (by omega), Nat.div_eq_of_lt (by omega), Nat.div_eq_of_lt (by omega)]
    · by_cases h2 : a = r
      · subst h2
        rw [if_pos (by omega), if_neg (by omega), if_pos rfl, Nat.sub_self, Nat.zero_div]
      · rw [if_neg (by omega), if_neg h1, if_neg h2]
  | succ q =>
    have hs : (q + 1) * n = q * n + n := Nat.succ_mul q n
    by_cases h1 : a < r
    · rw [if_pos (by omega), if_pos (by omega), if_neg (by omega)]
      rw [show (q + 1) * n + r - a = (q + 1) * n + (r - a) by omega, dv (by omega), show (q + 1) * n + r - 1 - a = (q + 1) * n + (r - 1 - a) by omega, dv (by omega)]
    · by_cases h2 : a = r
      · subst h2
        rw [if_pos (by omega), if_pos (by omega), if_pos rfl]
        rw [show (q + 1) * n + a - a = (q + 1) * n + 0 by omega, dv (by omega), show (q + 1) * n + a - 1 - a = q * n + (n - 1) by omega, dv (by omega)]
      · rw [if_pos (by omega), if_pos (by omega), if_neg h2]
        rw [show (q + 1) * n + r - a = q * n + (n - (a - r)) by omega, dv (by omega), show (q + 1) * n + r - 1 - a = q * n + (n - 1 - (a - r)) by omega, dv (by omega)]
theorem sum_add (l : List Nat) (f g : Nat → Nat) : (l.map fun a => f a + g a).sum = (l.map f).sum + (l.map g).sum := by
  induction l with
  | nil => rfl
  | cons a l ih => simp only [List.map_cons, List.sum_cons, ih]; omega
theorem sum_zero (l : List Nat) : (l.map fun _ => 0).sum = 0 := by
  induction l with
  | nil => rfl
  | cons a l ih => simp only [List.map_cons, List.sum_cons, ih]
theorem sum_same {l : List Nat} {f g : Nat → Nat} (h : ∀ a ∈ l, f a = g a) : (l.map f).sum = (l.map g).sum := by rw [List.map_congr_left h]
theorem sum_point {c j : Nat} : ∀ {n : Nat}, j < n → ((List.range n).map fun a => if a = j then c else 0).sum = c
  | 0, h => by omega
  | n + 1, h => by
    rw [List.range_succ, List.map_append, List.sum_append]
    by_cases e : j = n
    · subst e
      have : ((List.range j).map fun a => if a = j then c else 0).sum = 0 := by
        rw [sum_same (g := fun _ => 0) fun a ha => if_neg (by have := List.mem_range.mp ha; omega)]
        exact sum_zero _
      rw [this]
      simp
    · rw [sum_point (by omega)]
      simp
      omega
theorem sum_filter (l : List Nat) (p : Nat → Bool) (f : Nat → Nat) : ((l.filter p).map f).sum = (l.map fun a => if p a = true then f a else 0).sum := by
  induction l with
  | nil => rfl
  | cons a l ih =>
    rw [List.filter_cons]
    cases h : p a <;> simp [h, ih]
theorem count_mod {g : Nat → Bool} {n : Nat} (hn : 0 < n) : ∀ N : Nat, ((List.range N).filter fun p => g (p % n)).length = (((List.range n).filter fun a => g a && decide (a < N)).map fun a => (N - 1 - a) / n + 1).sum
  | 0 => by
    rw [sum_filter, sum_same (g := fun _ => 0) fun a _ => by simp, sum_zero]
    rfl
  | N + 1 => by
    rw [List.range_succ, List.filter_append, List.length_append, count_mod hn N, sum_filter, sum_filter]
    have e1 : ([N].filter fun p => g (p % n)).length = ((List.range n).map fun a => if a = N % n then (if g (N % n) = true then 1 else 0) else 0).sum := by
      rw [sum_point (Nat.mod_lt _ hn)]
      cases h : g (N % n) <;> simp [List.filter, h]
    rw [e1, ← sum_add]
    refine sum_same fun a ha => ?_
    have t := term (N := N) (List.mem_range.mp ha)
    rw [Nat.add_sub_cancel]
    cases hg : g a with
    | false =>
      by_cases hj : a = N % n
      · rw [← hj, hg]
        simp
      · simp [hj]
    | true =>
      by_cases hj : a = N % n
      · rw [← hj, hg]
        rw [if_pos hj] at t
        simpa using t.symm
      · rw [if_neg hj] at t
        simpa [hj] using t.symm
theorem first_mod {g : Nat → Bool} {n N : Nat} (hn : 0 < n) : ((List.range N).filter fun p => g (p % n)).head? = ((List.range n).filter fun a => g a && decide (a < N)).head? := by
  have base : ∀ K, K ≤ n → K ≤ N → (List.range K).filter (fun p => g (p % n)) = (List.range K).filter fun a => g a && decide (a < N) := fun K h1 h2 => filter_eq fun p hp => by
    have hp := List.mem_range.mp hp
    rw [Nat.mod_eq_of_lt (by omega), decide_eq_true (by omega : p < N), Bool.and_true]
  by_cases h : N ≤ n
  · rw [filter_less (f := fun a => g a && decide (a < N)) (K := N) (N := n) (fun p hp => by simp; omega) h, base N h (Nat.le_refl _)]
  · obtain ⟨j, rfl⟩ : ∃ j, N = n + j := ⟨N - n, by omega⟩
    rw [List.range_add, List.filter_append, base n (Nat.le_refl _) (by omega), List.head?_append]
    cases e : (List.range n).filter fun a => g a && decide (a < n + j) with
    | cons x l => rfl
    | nil =>
      have : ((List.range j).map (n + ·)).filter (fun p => g (p % n)) = [] := by
        rw [List.filter_eq_nil_iff] at e ⊢
        intro x _
        have := e (x % n) (List.mem_range.mpr (Nat.mod_lt _ hn))
        have hx := Nat.mod_lt x hn
        rw [decide_eq_true (by omega : x % n < n + j), Bool.and_true] at this
        exact this
      rw [this]
      rfl
def rnd (w l : List Nat) (R a : Nat) : Bool := hit w (rep (w.length / l.length + 2) l) a && decide (a + w.length ≤ R * l.length)
theorem occ_rep {w l : List Nat} {R : Nat} (hw : w ≠ []) (hl : 0 < l.length) : occ w (rep R l) = (List.range (R * l.length + 1 - w.length)).filter fun p => hit w (rep (w.length / l.length + 2) l) (p % l.length) := by
  rw [← occ_range (N := R * l.length + 1 - w.length) hw (by rw [rep_len]; omega)]
  exact filter_eq fun p hp => hit_rep hl (by have := List.mem_range.mp hp; omega)
theorem rounds_times {w l : List Nat} {R : Nat} (hw : w ≠ []) (hl : 0 < l.length) : (occ w (rep R l)).length = (((List.range l.length).filter (rnd w l R)).map fun a => (R * l.length - w.length - a) / l.length + 1).sum := by
  rw [occ_rep hw hl, count_mod (g := hit w (rep (w.length / l.length + 2) l)) hl, filter_eq (g := rnd w l R) fun p hp => ?_]
  · refine sum_same fun a ha => ?_
    have h := (List.mem_filter.mp ha).2
    unfold rnd at h
    simp at h
    congr 2
    omega
  · unfold rnd
    congr 1
    exact decide_eq_decide.mpr (by omega)
theorem rounds_first {w l : List Nat} {R : Nat} (hw : w ≠ []) (hl : 0 < l.length) : (occ w (rep R l)).head? = ((List.range l.length).filter (rnd w l R)).head? := by
  rw [occ_rep hw hl, first_mod (g := hit w (rep (w.length / l.length + 2) l)) hl, filter_eq (g := rnd w l R) fun p hp => ?_]
  unfold rnd
  congr 1
  exact decide_eq_decide.mpr (by omega)
theorem occ_behind {w a b : List Nat} (hw : w ≠ []) (h : ∀ c ∈ a, c ∉ w) : occ w (a ++ b) = (occ w b).map (a.length + ·) := by
  unfold occ
  rw [List.length_append, List.range_add, List.filter_append, filter_shift]
  have : (List.range a.length).filter (hit w (a ++ b)) = [] := by
    rw [List.filter_eq_nil_iff]
    intro p hp
    have hp := List.mem_range.mp hp
    unfold hit
    cases w with
    | nil => exact absurd rfl hw
    | cons x w =>
      rw [decide_eq_true_eq]
      intro e
      have e0 := congrArg (·[0]?) e
      simp only [List.length_cons, List.getElem?_cons_zero] at e0
      rw [List.getElem?_take_of_lt (by omega), List.getElem?_drop, Nat.add_zero, List.getElem?_append_left hp] at e0
      have m := List.mem_of_getElem? e0
      exact h x m (by simp)
  rw [this, List.nil_append]
  congr 1
  exact filter_eq fun p _ => hit_right
end K40
end
section
set_option maxRecDepth 100000
set_option maxHeartbeats 1000000
namespace K40
open PySem DL L2
def S (l : List Nat) : Str := ⟨l.toArray⟩
theorem S_cps (l : List Nat) : (S l).cps.toList = l := rfl
theorem S_len (l : List Nat) : (S l).length = l.length := rfl
theorem S_of (s : Str) : s = S s.cps.toList := by
  cases s
  simp [S]
theorem S_inj {a b : List Nat} (h : S a = S b) : a = b := by
  have := congrArg (fun s : Str => s.cps.toList) h
  exact this
theorem S_dec (a b : List Nat) : decide (S a = S b) = decide (a = b) := decide_eq_decide.mpr ⟨S_inj, fun h => by rw [h]⟩
theorem len_S {l : List Nat} (h : l.length ≤ 1000000) : gLen [.str (S l)] = some (.sh (.int (l.length : Nat))) := by
  show (if szOk (S l).length = true then some (Vl.sh (.int ((S l).length : Nat))) else none) = _
  rw [S_len, if_pos (szK h)]
theorem eq_S (a b : List Nat) : gEq (.str (S a)) (.str (S b)) = some (decide (a = b)) := by
  show some (decide (S a = S b)) = _
  rw [S_dec]
theorem add_S {a b : List Nat} (h : a.length + b.length ≤ 1000000) : gAdd (.str (S a)) (.str (S b)) = some (.sh (.str (S (a ++ b)))) := by
  have e : S a ++ S b = S (a ++ b) := by
    show Str.mk ((S a).cps ++ (S b).cps) = _
    unfold S
    simp
  unfold gAdd
  show (Option.or none ((if szOk ((S a).length + (S b).length) = true then some (Vl.sh (D.str (S a ++ S b))) else none).or _)) = _
  rw [S_len, S_len, if_pos (szK h), e]
  rfl
theorem sl_S {l : List Nat} {lo hi : Option Int} (h : l.length ≤ 1000000) : gSl (.str (S l)) lo hi = some (.sh (.str (S (cutD l lo hi)))) := by
  unfold gSl gSlL gSlT gSlS
  show (if szOk (S l).length = true then some (Vl.sh (.str (cutS (S l) lo hi))) else none) = _
  rw [S_len, if_pos (szK h)]
  rfl
theorem ix_S {l : List Nat} {i c : Nat} (h : l.length ≤ 1000000) (hc : l[i]? = some c) : gIx (.str (S l)) (.int (i : Int)) = some (.sh (.str (S [c]))) := by
  show (if szOk (S l).length = true then (atI (S l).cps.toList (i : Int)).map fun c => Vl.sh (.str (sgn c)) else none) = _
  rw [S_len, if_pos (szK h), S_cps, atN hc]
  rfl
theorem items_S (l : List Nat) : itemsOf (.str (S l)) = some (l.map fun c => D.str (S [c])) := rfl
theorem in_S (c : Nat) (l : List Nat) : gIns false (.str (S [c])) (.str (S l)) = some (decide (c ∈ l)) := by
  unfold gIns gIn
  show (Option.or (if flatD (.str (S [c])) = true then Option.map _ (itemsFlat (.str (S l))) else none) _) = _
  rfl
theorem notin_S (c : Nat) (l : List Nat) : gIns true (.str (S [c])) (.str (S l)) = some (!decide (c ∈ l)) := rfl
theorem repS_S (k : Nat) (l : List Nat) : repS k (S l) = S (rep k l) := by
  apply repS_ext
  rw [repS_list]
  rfl
theorem mul_S {l : List Nat} {k : Nat} (hk : k ≤ 1000000) (h : l.length * k ≤ 1000000) : gMulX (.str (S l)) (.int (k : Int)) = some (.sh (.str (S (rep k l)))) := by
  have e : gRepS (.str (S l)) (.int (k : Int)) = some (.sh (.str (S (rep k l)))) := by
    show (if (decide ((0 : Int) ≤ (k : Int)) && decide ((k : Int) ≤ 1000000) && szOk ((S l).length * (k : Int).toNat)) = true then some (Vl.sh (D.str (repS (k : Int).toNat (S l)))) else none) = _
    rw [Int.toNat_natCast, S_len, szK h, repS_S, decide_eq_true (by omega), decide_eq_true (by omega)]
    rfl
  unfold gMulX
  rw [e]
  rfl
variable {ρ ρ' : DL.Env} {d a b z : D}
theorem int_filter {f : D → Bool} {g : Nat → Bool} {N : Nat} (h : ∀ p, p < N → f (.int (0 + (p : Int))) = g p) : (((List.range N).map fun (i : Nat) => D.int (0 + (i : Int))).filter f).map id = ((List.range N).filter g).map fun p => D.int (p : Nat) := by
  rw [List.filter_map, List.map_id]
  have e : (List.range N).filter (f ∘ fun (i : Nat) => D.int (0 + (i : Int))) = (List.range N).filter g := List.filter_congr fun p hp => h p (List.mem_range.mp hp)
  rw [e]
  refine List.map_congr_left fun p _ => ?_
  rw [Int.zero_add]
def tH (t w : List Nat) : D → Bool
  | .int i => hit w t i.toNat
  | _ => false
def natsD (l : List Nat) : List D := l.map fun p => D.int (p : Nat)
theorem starts_eq {t w : List Nat} (ht : t.length ≤ 100000) (hw : w ≠ []) (hw2 : w.length ≤ 100) : x_starts_in_1 [.sh (.str (S t)), .sh (.str (S w)), .emp] = .ok (.own (natsD (occ w t)), [.sh (.str (S t)), .sh (.str (S w)), .emp]) := by
  unfold x_starts_in_1
  have lt := len_S (l := t) (by omega)
  have lw := len_S (l := w) (by omega)
  have ev : EvA (aCons (xOp gAdd (xOp gSub (xCB gLen (aCons (xVar 0) aNil)) (xCB gLen (aCons (xVar 1) aNil))) (xC (.int 1))) aNil) [.sh (.str (S t)), .sh (.str (S w)), .emp] [.int ((t.length : Int) - (w.length : Int) + 1)] :=
    evA_cons (evS_op (evS_op (evS_cb (evA_cons (evS_var rfl).ev evA_nil) lt).ev (evS_cb (evA_cons (evS_var rfl).ev evA_nil) lw).ev (gSub_int _ _)).ev evS_c.ev (gAdd_int _ _)).ev evA_nil
  have hi := evI_rng ev (small_i (by omega) (by omega))
  have e := lcT_eq (mg := mName 2) (mt := xTest (xOp (blR gEq) (xSl gSl (xVar 0) (oPart (xVar 2)) (oPart (xOp gAdd (xVar 2) (xCB gLen (aCons (xVar 1) aNil))))) (xVar 1))) (me := e_starts_in_1) (vs := [2]) (t := tH t w) (f := id) hi (fun x hx => ?_) rfl (by simp; omega)
  · rw [e, int_filter (g := hit w t) fun p _ => ?_]
    · have hw0 : 0 < w.length := List.length_pos_iff.mpr hw
      rw [occ_range hw (by omega)]
      rfl
    · show hit w t (0 + (p : Int)).toNat = _
      congr 1
      omega
  · obtain ⟨p, hp, rfl⟩ := List.mem_map.mp hx
    rw [Int.zero_add]
    refine ⟨[.sh (.str (S t)), .sh (.str (S w)), .sh (.int (p : Nat))], rfl, ?_, fun _ => evS_var rfl, rfl⟩
    have ob : Ovl (oPart (xOp gAdd (xVar 2) (xCB gLen (aCons (xVar 1) aNil)))) [.sh (.str (S t)), .sh (.str (S w)), .sh (.int (p : Nat))] (some (((p + w.length : Nat) : Nat) : Int)) := ovl_part (evS_op (evS_var rfl).ev (evS_cb (evA_cons (evS_var rfl).ev evA_nil) lw).ev (by rw [gAdd_int, Int.natCast_add])).ev
    have sl := sl_S (l := t) (lo := some (p : Int)) (hi := some ((p + w.length : Nat) : Int)) (by omega)
    rw [cutD_pq, Nat.add_sub_cancel_left] at sl
    exact tv_test (evS_cmp (evS_sl (evS_var rfl).ev (ovl_part (evS_var rfl).ev) ob sl).ev (evS_var rfl).ev (eq_S _ _)).ev
theorem starts_ok {t w : List Nat} (ht : t.length ≤ 100000) (hw : w ≠ []) (hw2 : w.length ≤ 100) : ∃ l, F_starts_in [.sh (.str (S t)), .sh (.str (S w))] = .ok (.own (natsD (occ w t)), l) := by
  have e := starts_eq ht hw hw2
  refine isF_gen (ρ := [.sh (.str (S t)), .sh (.str (S w)), .emp]) rfl ?_
  unfold m_starts_in sRet
  show R.bind (x_starts_in_1 [.sh (.str (S t)), .sh (.str (S w)), .emp]) _ = _
  rw [e]
  rfl
theorem lstarts_ok {t w : List Nat} (ht : t.length ≤ 100000) (hw : w ≠ []) (hw2 : w.length ≤ 100) : ∃ l, F__law_starts [.sh (.str (S t)), .sh (.str (S w))] = .ok (.own (natsD (occ w t)), l) := starts_ok ht hw hw2
end K40
end
section
set_option maxRecDepth 100000
set_option maxHeartbeats 1000000
namespace K40
open PySem DL L2
variable {ρ ρ' : DL.Env} {d a b z : D}
def fstD : Option Nat → D
  | some p => .int (p : Nat)
  | none => .non
def lkN : List Str := ["many", "ahead", "last", "times", "first"]
def lkF (w t : List Nat) : List D := [.int (t.length : Nat), .str (S (t.take (w.length - 1))), .str (S (lst (w.length - 1) t)), .int ((occ w t).length : Nat), fstD (occ w t).head?]
def lk (w t : List Nat) : D := .ins fl_Looked lkN (lkF w t)
theorem fn1 : ("many" : Str) ∈ fl_Looked := by decide +kernel
theorem fn2 : ("ahead" : Str) ∈ fl_Looked := by decide +kernel
theorem fn3 : ("last" : Str) ∈ fl_Looked := by decide +kernel
theorem fn4 : ("times" : Str) ∈ fl_Looked := by decide +kernel
theorem fn5 : ("first" : Str) ∈ fl_Looked := by decide +kernel
variable {x1 x2 x3 x4 x5 y : D}
theorem pa1 : putN "many" [] = (["many"] : List Str) ∧ putA "many" y [] [] = [y] := ⟨rfl, rfl⟩
theorem pa2 : putN "ahead" (["many"] : List Str) = (["many", "ahead"] : List Str) ∧ putA "ahead" y (["many"] : List Str) [x1] = [x1, y] := ⟨by kernel_rfl, by kernel_rfl⟩
theorem pa3 : putN "last" (["many", "ahead"] : List Str) = (["many", "ahead", "last"] : List Str) ∧ putA "last" y (["many", "ahead"] : List Str) [x1, x2] = [x1, x2, y] := ⟨by kernel_rfl, by kernel_rfl⟩
theorem pa4 : putN "times" (["many", "ahead", "last"] : List Str) = (["many", "ahead", "last", "times"] : List Str) ∧ putA "times" y (["many", "ahead", "last"] : List Str) [x1, x2, x3] = [x1, x2, x3, y] := ⟨by kernel_rfl, by kernel_rfl⟩
theorem pa5 : putN "first" (["many", "ahead", "last", "times"] : List Str) = lkN ∧ putA "first" y (["many", "ahead", "last", "times"] : List Str) [x1, x2, x3, x4] = [x1, x2, x3, x4, y] := ⟨by kernel_rfl, by kernel_rfl⟩
theorem pb1 : putN "many" lkN = lkN ∧ putA "many" y lkN [x1, x2, x3, x4, x5] = [y, x2, x3, x4, x5] := ⟨by kernel_rfl, by kernel_rfl⟩
theorem pb2 : putN "ahead" lkN = lkN ∧ putA "ahead" y lkN [x1, x2, x3, x4, x5] = [x1, y, x3, x4, x5] := ⟨by kernel_rfl, by kernel_rfl⟩
theorem pb3 : putN "last" lkN = lkN ∧ putA "last" y lkN [x1, x2, x3, x4, x5] = [x1, x2, y, x4, x5] := ⟨by kernel_rfl, by kernel_rfl⟩
theorem pb4 : putN "times" lkN = lkN ∧ putA "times" y lkN [x1, x2, x3, x4, x5] = [x1, x2, x3, y, x5] := ⟨by kernel_rfl, by kernel_rfl⟩
theorem pb5 : putN "first" lkN = lkN ∧ putA "first" y lkN [x1, x2, x3, x4, x5] = [x1, x2, x3, x4, y] := ⟨by kernel_rfl, by kernel_rfl⟩
theorem lo1 : (lkN.zip [x1, x2, x3, x4, x5]).lookup ("many" : Str) = some x1 := by kernel_rfl
theorem lo2 : (lkN.zip [x1, x2, x3, x4, x5]).lookup ("ahead" : Str) = some x2 := by kernel_rfl
theorem lo3 : (lkN.zip [x1, x2, x3, x4, x5]).lookup ("last" : Str) = some x3 := by kernel_rfl
theorem lo4 : (lkN.zip [x1, x2, x3, x4, x5]).lookup ("times" : Str) = some x4 := by kernel_rfl
theorem lo5 : (lkN.zip [x1, x2, x3, x4, x5]).lookup ("first" : Str) = some x5 := by kernel_rfl
theorem edge_eq {w : List Nat} (hw : w ≠ []) : (w.length : Int) - 1 = ((w.length - 1 : Nat) : Int) := by
  have : 0 < w.length := List.length_pos_iff.mpr hw
  omega
theorem natsD_len (l : List Nat) : (natsD l).length = l.length := by unfold natsD; simp
theorem first_eq (l : List Nat) : (if (!(natsD l).isEmpty) = true then (natsD l).headD .non else .non) = fstD l.head? := by
  cases l <;> rfl
theorem evS_first {i : Nat} {l : List Nat} (h : ρ[i]? = some (.own (natsD l))) : EvS (xIf (xTest (xOp (blR gNeE) (xVar i) (xLst aNil))) (xOp gIx (xVar i) (xC (.int 0))) (xC .non)) ρ (fstD l.head?) := by
  rw [← first_eq]
  refine evS_if (tv_test (evS_cmp (ev_varO h) (evS_lst evAS_nil sz_0).ev (neE_own _)).ev) (fun q => ?_) fun _ => evS_c
  cases l with
  | nil => cases q
  | cons p l =>
    refine evS_op (ev_varO h) evS_c.ev ?_
    show (atI (D.int (p : Nat) :: natsD l) 0).map Vl.sh = _
    rw [atI_0]
    rfl
theorem min_cut {e n : Nat} : ((n : Int) - ((min e n : Nat) : Int)) = ((n - min e n : Nat) : Int) := by omega
theorem init_ok {w t : List Nat} (ht : t.length ≤ 100000) (hw : w ≠ []) (hw2 : w.length ≤ 20) : F_Looked___init__ [.ob (.ins fl_Looked [] []), .sh (.str (S w)), .sh (.str (S t))] = .ok (.sh .non, [.ob (.ins fl_Looked lkN (lkF w t)), .sh (.str (S w)), .sh (.str (S t))]) := by
  have lt := len_S (l := t) (by omega)
  have lw := len_S (l := w) (by omega)
  have st := call_eq (bs := [false, false]) (ρ := [.ob (.ins fl_Looked [] []), .sh (.str (S w)), .sh (.str (S t)), .emp, .emp]) (evAP_cons (evS_var (i := 2) rfl) (evAP_cons (evS_var (i := 1) rfl) evAP_nil)) rfl (starts_ok ht hw (by omega)).choose_spec
  have e1 : sPars [3, 4] (aCons (xCall [false, false] F_starts_in (aCons (xVar 2) (aCons (xVar 1) aNil))) (aCons (xOp DL.gSub (xCB gLen (aCons (xVar 1) aNil)) (xC (.int 1))) aNil)) [.ob (.ins fl_Looked [] []), .sh (.str (S w)), .sh (.str (S t)), .emp, .emp] =
      .ok (.nx [.ob (.ins fl_Looked [] []), .sh (.str (S w)), .sh (.str (S t)), .own (natsD (occ w t)), .sh (.int ((w.length - 1 : Nat) : Int))]) := by
    have e := xOp_eq (g := DL.gSub) (evS_cb (ρ := [.ob (.ins fl_Looked [] []), .sh (.str (S w)), .sh (.str (S t)), .emp, .emp]) (evA_cons (evS_var (i := 1) rfl).ev evA_nil) lw).ev (evS_c (d := .int 1)).ev (gSub_int _ _)
    rw [edge_eq hw] at e
    exact pars_eq (acons_eq st (acons_eq e rfl)) rfl
  have s2 := sl_S (l := t) (lo := none) (hi := some ((w.length - 1 : Nat) : Int)) (by omega)
  rw [cutD_q] at s2
  have s3 := sl_S (l := t) (lo := some ((t.length - min (w.length - 1) t.length : Nat) : Int)) (hi := none) (by omega)
  rw [cutD_p] at s3
  have r : m_Looked___init__ [.ob (.ins fl_Looked [] []), .sh (.str (S w)), .sh (.str (S t)), .emp, .emp] = .ok (.nx [.ob (.ins fl_Looked lkN (lkF w t)), .sh (.str (S w)), .sh (.str (S t)), .own (natsD (occ w t)), .sh (.int ((w.length - 1 : Nat) : Int))]) := by
    unfold m_Looked___init__
    refine (seq_n e1).trans ?_
    refine (seq_n (nxt_fld (evS_cb (evA_cons (evS_var rfl).ev evA_nil) lt) rfl fn1 pa1 (by decide))).trans ?_
    refine (seq_n (nxt_fld (evS_sl (evS_var rfl).ev ovl_none (ovl_part (evS_var rfl).ev) s2) rfl fn2 pa2 (by decide))).trans ?_
    refine (seq_n (nxt_fld (d := .str (S (lst (w.length - 1) t))) (evS_sl (evS_var rfl).ev (ovl_part (i := ((t.length - min (w.length - 1) t.length : Nat) : Int)) (evS_op (evS_cb (evA_cons (evS_var rfl).ev evA_nil) lt).ev (evS_cb (evA_cons (evS_var rfl).ev (evA_cons (evS_cb (evA_cons (evS_var rfl).ev evA_nil) lt).ev evA_nil)) (min_Z _ _)).ev (by rw [gSub_int, min_cut])).ev) ovl_none s3) rfl fn3 pa3 (by decide))).trans ?_
    refine (seq_n (nxt_fld (d := .int ((occ w t).length : Nat)) (evS_cb (evA_cons (ev_varO rfl) evA_nil) (by show some (Vl.sh (D.int ((natsD (occ w t)).length : Nat))) = _; rw [natsD_len])) rfl fn4 pa4 (by decide))).trans ?_
    exact nxt_fld (evS_first (l := occ w t) rfl) rfl fn5 pa5 (by decide)
  exact run_nx (fix := fun i => decide (i ∈ ([0, 1, 2] : List Nat))) (np := 3) (nl := 2) (m := m_Looked___init__) (as := [.ob (.ins fl_Looked [] []), .sh (.str (S w)), .sh (.str (S t))]) rfl r
theorem new_eq {m : MA} {w t : List Nat} (h : EvAP m ρ [.str (S w), .str (S t)]) (ht : t.length ≤ 100000) (hw : w ≠ []) (hw2 : w.length ≤ 20) : xNewI fl_Looked F_Looked___init__ m ρ = .ok (.ob (.ins fl_Looked lkN (lkF w t)), ρ) := by
  obtain ⟨vs, e, s, _⟩ := h
  have i := init_ok ht hw hw2
  unfold xNewI
  simp only [e, R_bind_ok, s, rdO_some]
  have i : F_Looked___init__ (.ob (.ins fl_Looked [] []) :: shF [.str (S w), .str (S t)]) = _ := i
  rw [i, R_bind_ok]
end K40
end
section
set_option maxRecDepth 100000
set_option maxHeartbeats 1000000
namespace K40
open PySem DL L2
variable {ρ ρ' : DL.Env} {d a b z : D}
theorem lk_eq {w t : List Nat} {i : Nat} (h : ρ[i]? = some (.sh (lk w t))) : xVar i ρ = .ok (.sh (.ins fl_Looked lkN (lkF w t)), ρ) := by unfold xVar; rw [h]; rfl
theorem nats_filter {f : D → Bool} {g : Nat → Bool} {l : List Nat} (h : ∀ p : Nat, f (.int (p : Nat)) = g p) : ((natsD l).filter f).map id = natsD (l.filter g) := by
  unfold natsD
  rw [List.map_id, List.filter_map]
  have e : l.filter (f ∘ fun p : Nat => D.int (p : Nat)) = l.filter g := List.filter_congr fun p _ => h p
  rw [e]
def tC (k m : Nat) : D → Bool
  | .int i => decide (i < (k : Int)) && decide ((k : Int) < i + (m : Int))
  | _ => false
theorem cross_eq {w x y : List Nat} {s3 s4 s5 s6 : Sl} (hw : w ≠ []) (hw2 : w.length ≤ 20) : x_looked_behind_1 [.sh (.str (S w)), .sh (lk w x), .sh (lk w y), s3, s4, s5, s6, .emp] = .ok (.own (natsD (crossing w x y)), [.sh (.str (S w)), .sh (lk w x), .sh (lk w y), s3, s4, s5, s6, .emp]) := by
  have l1 := lst_len (w.length - 1) x
  have l2 : (y.take (w.length - 1)).length ≤ 20 := by rw [List.length_take]; omega
  have lw := len_S (l := w) (by omega)
  have ll := len_S (l := lst (w.length - 1) x) (by omega)
  have ad := add_S (a := lst (w.length - 1) x) (b := y.take (w.length - 1)) (by omega)
  unfold x_looked_behind_1
  have fl : ∀ {ρ : DL.Env}, ρ[1]? = some (.sh (lk w x)) → EvS (xFldI "last" (xVar 1)) ρ (.str (S (lst (w.length - 1) x))) := fun h => evS_fldS (lk_eq h) fn3 lo3
  have fa : ∀ {ρ : DL.Env}, ρ[2]? = some (.sh (lk w y)) → EvS (xFldI "ahead" (xVar 2)) ρ (.str (S (y.take (w.length - 1)))) := fun h => evS_fldS (lk_eq h) fn2 lo2
  have st := evS_callO (bs := [false, false]) (ρ := [.sh (.str (S w)), .sh (lk w x), .sh (lk w y), s3, s4, s5, s6, .emp]) (evAP_cons (evS_op (fl rfl).ev (fa rfl).ev ad) (evAP_cons (evS_var (i := 0) rfl) evAP_nil)) rfl (starts_ok (t := lst (w.length - 1) x ++ y.take (w.length - 1)) (w := w) (by rw [List.length_append]; omega) hw (by omega))
  have hi := evI_seq st rfl
  have e := lcT_eq (mg := mName 7) (mt := xTest (xChain gLt gLt (xVar 7) (xCB gLen (aCons (xFldI "last" (xVar 1)) aNil)) (xOp gAdd (xVar 7) (xCB gLen (aCons (xVar 0) aNil))))) (me := e_looked_behind_1) (vs := [7]) (t := tC (lst (w.length - 1) x).length w.length) (f := id) hi (fun q hq => ?_) rfl (by rw [natsD_len]; unfold occ; exact Nat.le_trans (List.length_filter_le _ _) (by rw [List.length_range, List.length_append]; omega))
  · rw [e, nats_filter (g := fun p => decide (p < (lst (w.length - 1) x).length) && decide ((lst (w.length - 1) x).length < p + w.length)) fun p => ?_]
    · rfl
    · show (decide ((p : Int) < ((lst (w.length - 1) x).length : Int)) && decide (((lst (w.length - 1) x).length : Int) < (p : Int) + (w.length : Int))) = _
      have d1 : decide ((p : Int) < ((lst (w.length - 1) x).length : Int)) = decide (p < (lst (w.length - 1) x).length) := decide_eq_decide.mpr (by omega)
      have d2 : decide (((lst (w.length - 1) x).length : Int) < (p : Int) + (w.length : Int)) = decide ((lst (w.length - 1) x).length < p + w.length) := decide_eq_decide.mpr (by omega)
      rw [d1, d2]
  · obtain ⟨p, _, rfl⟩ := List.mem_map.mp hq
    refine ⟨[.sh (.str (S w)), .sh (lk w x), .sh (lk w y), s3, s4, s5, s6, .sh (.int (p : Nat))], rfl, ?_, fun _ => evS_var rfl, rfl⟩
    exact tv_test (evS_chain (evS_var rfl).ev (evS_cb (evA_cons (fl rfl).ev evA_nil) ll).ev (evS_op (evS_var rfl).ev (evS_cb (evA_cons (evS_var rfl).ev evA_nil) lw).ev (gAdd_int _ _)).ev (gLt_int _ _) (gLt_int _ _)).ev
theorem fst_app {a b c : List Nat} {k j : Nat} : fstD (a ++ (b.map (k + ·) ++ c.map (j + ·))).head? = match a, b, c with
    | p :: _, _, _ => .int (p : Nat)
    | [], p :: _, _ => .int ((k : Int) + (p : Int))
    | [], [], p :: _ => .int ((j : Int) + (p : Int))
    | [], [], [] => .non := by
  match a, b, c with
  | p :: _, _, _ => rfl
  | [], p :: _, _ => exact congrArg D.int (Int.natCast_add k p)
  | [], [], p :: _ => exact congrArg D.int (Int.natCast_add j p)
  | [], [], [] => rfl
abbrev LB (w x y cr : List Nat) (s6 : Sl) (ds : List D) : DL.Env := [.sh (.str (S w)), .sh (lk w x), .sh (lk w y), .sh (.int ((w.length - 1 : Nat) : Int)), .own (natsD cr), .ob (.ins fl_Looked lkN ds), s6, .emp]
theorem isN_fst (o : Option Nat) : gIsN (fstD o) .non = some o.isNone := by cases o <;> rfl
theorem notN_fst (o : Option Nat) : gNotN (fstD o) .non = some o.isSome := by cases o <;> rfl
theorem emp_nats (l : List Nat) : (natsD l).isEmpty = l.isEmpty := by cases l <;> rfl
def B1 : MS := sIf (xAnd (xTest (xOp (blR gIsN) (xFldI "first" (xVar 5)) (xC .non))) (xTest (xOp (blR gNeE) (xVar 4) (xLst aNil)))) (sFldI "first" 5 (xOp gAdd (xOp DL.gSub (xFldI "many" (xVar 1)) (xCB gLen (aCons (xFldI "last" (xVar 1)) aNil))) (xOp gIx (xVar 4) (xC (.int 0))))) sNext
def B2 : MS := sIf (xAnd (xTest (xOp (blR gIsN) (xFldI "first" (xVar 5)) (xC .non))) (xTest (xOp (blR gNotN) (xFldI "first" (xVar 2)) (xC .non)))) (sFldI "first" 5 (xOp gAdd (xFldI "many" (xVar 1)) (xFldI "first" (xVar 2)))) sNext
theorem last_le (w x : List Nat) : (lst (w.length - 1) x).length ≤ x.length := by rw [lst_len]; exact Nat.min_le_right _ _
theorem firsts_ok {w x y cr : List Nat} {s6 : Sl} {d1 d2 d3 d4 : D} (hw : w ≠ []) (hw2 : w.length ≤ 20) (hc : cr = crossing w x y) : sSeq B1 (sSeq B2 (sRet (xVar 5))) (LB w x y cr s6 [d1, d2, d3, d4, fstD (occ w x).head?]) = .ok (.rt (.ob (.ins fl_Looked lkN [d1, d2, d3, d4, fstD (occ w (x ++ y)).head?])) ([.sh (.str (S w)), .sh (lk w x), .sh (lk w y), .sh (.int ((w.length - 1 : Nat) : Int)), .own (natsD cr), .emp, s6, .emp])) := by
  have ll := len_S (l := lst (w.length - 1) x) (by rw [lst_len]; omega)
  rw [occ_append hw, fst_app, ← hc]
  have hle := last_le w x
  have t1 : ∀ x5, Tv (xAnd (xTest (xOp (blR gIsN) (xFldI "first" (xVar 5)) (xC .non))) (xTest (xOp (blR gNeE) (xVar 4) (xLst aNil)))) (LB w x y cr s6 [d1, d2, d3, d4, fstD x5]) (x5.isNone && !cr.isEmpty) := fun x5 =>
    tv_and (tv_test (evS_cmp (evS_fldO rfl fn5 lo5).ev evS_c.ev (isN_fst _)).ev) fun _ => tv_test (evS_cmp (ev_varO rfl) (evS_lst evAS_nil sz_0).ev (by rw [neE_own, emp_nats])).ev
  have t2 : ∀ x5, Tv (xAnd (xTest (xOp (blR gIsN) (xFldI "first" (xVar 5)) (xC .non))) (xTest (xOp (blR gNotN) (xFldI "first" (xVar 2)) (xC .non)))) (LB w x y cr s6 [d1, d2, d3, d4, fstD x5]) (x5.isNone && (occ w y).head?.isSome) := fun x5 =>
    tv_and (tv_test (evS_cmp (evS_fldO rfl fn5 lo5).ev evS_c.ev (isN_fst _)).ev) fun _ => tv_test (evS_cmp (evS_fldS (lk_eq rfl) fn5 lo5).ev evS_c.ev (notN_fst _)).ev
  have fl : EvS (xFldI "last" (xVar 1)) (LB w x y cr s6 [d1, d2, d3, d4, fstD none]) (.str (S (lst (w.length - 1) x))) := evS_fldS (lk_eq rfl) fn3 lo3
  have fm : EvS (xFldI "many" (xVar 1)) (LB w x y cr s6 [d1, d2, d3, d4, fstD none]) (.int (x.length : Nat)) := evS_fldS (lk_eq rfl) fn1 lo1
  have ff : EvS (xFldI "first" (xVar 2)) (LB w x y cr s6 [d1, d2, d3, d4, fstD none]) (fstD (occ w y).head?) := evS_fldS (lk_eq rfl) fn5 lo5
  unfold B1 B2
  cases e1 : occ w x with
  | cons p l =>
    refine (seq_n ((if_no (t1 (some p))).trans rfl)).trans ?_
    refine (seq_n ((if_no (t2 (some p))).trans rfl)).trans ?_
    rfl
  | nil =>
    cases cr with
    | cons c l =>
      have t1 := t1 none
      have g : gIx (.lst (natsD (c :: l))) (.int 0) = some (.sh (.int (c : Nat))) := by
        show (atI (D.int (c : Nat) :: natsD l) 0).map Vl.sh = _
        rw [atI_0]
        rfl
      have b := nxt_fld (n := "first") (i := 5) (evS_op (evS_op fm.ev (evS_cb (evA_cons fl.ev evA_nil) ll).ev (gSub_int _ _)).ev (evS_op (ev_varO (i := 4) rfl) (evS_c (d := .int 0)).ev g).ev (gAdd_int _ _)) rfl fn5 pb5 (by decide +kernel)
      refine (seq_n ((if_yes t1).trans b)).trans ?_
      have t2 := t2 (some (x.length - (lst (w.length - 1) x).length + c))
      have e3 : ((x.length : Int) - ((lst (w.length - 1) x).length : Int) + (c : Int)) = ((x.length - (lst (w.length - 1) x).length + c : Nat) : Int) := by omega
      have e4 : (((x.length - (lst (w.length - 1) x).length : Nat) : Int) + (c : Int)) = ((x.length - (lst (w.length - 1) x).length + c : Nat) : Int) := by omega
      rw [e3]
      simp only [e4]
      refine (seq_n ((if_no t2).trans rfl)).trans ?_
      rfl
    | nil =>
      have t1 := t1 none
      have t2 := t2 none
      refine (seq_n ((if_no t1).trans rfl)).trans ?_
      cases e3 : occ w y with
      | nil =>
        rw [e3] at t2
        refine (seq_n ((if_no t2).trans rfl)).trans ?_
        rfl
      | cons c l =>
        rw [e3] at t2 ff
        have b := nxt_fld (n := "first") (i := 5) (evS_op fm.ev ff.ev (gAdd_int _ _)) rfl fn5 pb5 (by decide +kernel)
        refine (seq_n ((if_yes t2).trans b)).trans ?_
        rfl
end K40
end
section
set_option maxRecDepth 100000
set_option maxHeartbeats 1000000
namespace K40
open PySem DL L2
variable {ρ ρ' : DL.Env} {d a b z : D}
theorem emp_S : (Str.ofString "") = S [] := by kernel_rfl
theorem behind_ok {w x y : List Nat} (hw : w ≠ []) (hw2 : w.length ≤ 20) : ∃ l, F_looked_behind [.sh (.str (S w)), .sh (lk w x), .sh (lk w y)] = .ok (.ob (.ins fl_Looked lkN (lkF w (x ++ y))), l) := by
  have lw := len_S (l := w) (by omega)
  have lx := lst_len (w.length - 1) x
  have ly := lst_len (w.length - 1) y
  have hx : (x.take (w.length - 1)).length ≤ 20 := by rw [List.length_take]; omega
  have hy : (y.take (w.length - 1)).length ≤ 20 := by rw [List.length_take]; omega
  have e1 : sAsg 3 (xOp DL.gSub (xCB gLen (aCons (xVar 0) aNil)) (xC (.int 1))) [.sh (.str (S w)), .sh (lk w x), .sh (lk w y), .emp, .emp, .emp, .emp, .emp] = .ok (.nx [.sh (.str (S w)), .sh (lk w x), .sh (lk w y), .sh (.int ((w.length - 1 : Nat) : Int)), .emp, .emp, .emp, .emp]) :=
    asg_sh (xOp_eq (evS_cb (evA_cons (evS_var rfl).ev evA_nil) lw).ev evS_c.ev (by rw [gSub_int, edge_eq hw])) (by simp)
  have e2 := asg_own (i := 4) (cross_eq (x := x) (y := y) (s3 := .sh (.int ((w.length - 1 : Nat) : Int))) (s4 := .emp) (s5 := .emp) (s6 := .emp) hw hw2) (by simp)
  have n3 := new_eq (w := w) (t := []) (m := aCons (xVar 0) (aCons (xC (.str "")) aNil)) (ρ := [.sh (.str (S w)), .sh (lk w x), .sh (lk w y), .sh (.int ((w.length - 1 : Nat) : Int)), .own (natsD (crossing w x y)), .emp, .emp, .emp]) (by
    rw [← emp_S]
    exact evAP_cons (evS_var rfl) (evAP_cons evS_c evAP_nil)) (by simp) hw hw2
  have e3 := asg_ob (i := 5) n3 (by simp)
  have F1 : ∀ {ρ : DL.Env} {n : Str} {d : D}, ρ[1]? = some (.sh (lk w x)) → n ∈ fl_Looked → (lkN.zip (lkF w x)).lookup n = some d → EvS (xFldI n (xVar 1)) ρ d := fun h1 h2 h3 => evS_fldS (lk_eq h1) h2 h3
  have F2 : ∀ {ρ : DL.Env} {n : Str} {d : D}, ρ[2]? = some (.sh (lk w y)) → n ∈ fl_Looked → (lkN.zip (lkF w y)).lookup n = some d → EvS (xFldI n (xVar 2)) ρ d := fun h1 h2 h3 => evS_fldS (lk_eq h1) h2 h3
  have c1 : decide ((x.length : Int) < ((w.length - 1 : Nat) : Int)) = decide (x.length < w.length - 1) := decide_eq_decide.mpr (by omega)
  have c2 : decide ((y.length : Int) < ((w.length - 1 : Nat) : Int)) = decide (y.length < w.length - 1) := decide_eq_decide.mpr (by omega)
  have r : m_looked_behind [.sh (.str (S w)), .sh (lk w x), .sh (lk w y), .emp, .emp, .emp, .emp, .emp] = .ok (.rt (.ob (.ins fl_Looked lkN (lkF w (x ++ y)))) ([.sh (.str (S w)), .sh (lk w x), .sh (lk w y), .sh (.int ((w.length - 1 : Nat) : Int)), .own (natsD (crossing w x y)), .emp, .sh (.str (S (if y.length < w.length - 1 then lst (w.length - 1) x ++ lst (w.length - 1) y else lst (w.length - 1) y))), .emp])) := by
    unfold m_looked_behind
    refine (seq_n e1).trans ?_
    refine (seq_n e2).trans ?_
    refine (seq_n e3).trans ?_
    refine (seq_n (nxt_fld (d := .int ((x ++ y).length : Nat)) (evS_is (evS_op (F1 rfl fn1 lo1).ev (F2 rfl fn1 lo1).ev (gAdd_int _ _)) (by rw [List.length_append, Int.natCast_add])) rfl fn1 pb1 (by decide +kernel))).trans ?_
    refine (seq_n (nxt_fld (d := .str (S ((x ++ y).take (w.length - 1)))) (evS_is (evS_if (k := decide (x.length < w.length - 1)) (tv_test (evS_cmp (F1 rfl fn1 lo1).ev (evS_var rfl).ev (by rw [gLt_int, c1])).ev) (fun _ => evS_sl (evS_op (F1 rfl fn2 lo2).ev (F2 rfl fn2 lo2).ev (add_S (a := x.take (w.length - 1)) (b := y.take (w.length - 1)) (by omega))).ev ovl_none (ovl_part (evS_var rfl).ev) (by
      rw [sl_S (by rw [List.length_append]; omega), cutD_q])) fun _ => F1 rfl fn2 lo2) (by
      have aa : (x ++ y).take (w.length - 1) = if x.length < w.length - 1 then (x.take (w.length - 1) ++ y.take (w.length - 1)).take (w.length - 1) else x.take (w.length - 1) := ahead_append
      rw [aa]
      by_cases h : x.length < w.length - 1
      · rw [decide_eq_true h, if_pos h]
        rfl
      · rw [decide_eq_false h, if_neg h]
        rfl)) rfl fn2 pb2 (by decide +kernel))).trans ?_
    have e6 : ∀ {ρ : DL.Env}, ρ[1]? = some (.sh (lk w x)) → ρ[2]? = some (.sh (lk w y)) → ρ[3]? = some (.sh (.int ((w.length - 1 : Nat) : Int))) → 6 < ρ.length → sAsg 6 (xIf (xTest (xOp (blR gLt) (xFldI "many" (xVar 2)) (xVar 3))) (xOp gAdd (xFldI "last" (xVar 1)) (xFldI "last" (xVar 2))) (xFldI "last" (xVar 2))) ρ = .ok (.nx (ρ.set 6 (.sh (.str (S (if y.length < w.length - 1 then lst (w.length - 1) x ++ lst (w.length - 1) y else lst (w.length - 1) y)))))) := fun {ρ} h1 h2 h3 h4 => by
      have e := evS_if (c := xTest (xOp (blR gLt) (xFldI "many" (xVar 2)) (xVar 3))) (m := xOp gAdd (xFldI "last" (xVar 1)) (xFldI "last" (xVar 2))) (n := xFldI "last" (xVar 2)) (k := decide (y.length < w.length - 1)) (tv_test (evS_cmp (F2 h2 fn1 lo1).ev (evS_var h3).ev (by rw [gLt_int, c2])).ev) (fun _ => evS_op (F1 h1 fn3 lo3).ev (F2 h2 fn3 lo3).ev (add_S (a := lst (w.length - 1) x) (b := lst (w.length - 1) y) (by omega))) fun _ => F2 h2 fn3 lo3
      obtain ⟨s, hs, hn⟩ := nxt_asg e h4
      have q : (if decide (y.length < w.length - 1) = true then D.str (S (lst (w.length - 1) x ++ lst (w.length - 1) y)) else D.str (S (lst (w.length - 1) y))) = D.str (S (if y.length < w.length - 1 then lst (w.length - 1) x ++ lst (w.length - 1) y else lst (w.length - 1) y)) := by
        by_cases h : y.length < w.length - 1
        · rw [decide_eq_true h, if_pos h]
          rfl
        · rw [decide_eq_false h, if_neg h]
          rfl
      rcases hs with rfl | ⟨l, hl, _⟩
      · rw [q] at hn
        exact hn
      · rw [q] at hl
        cases hl
    refine (seq_n (e6 rfl rfl rfl (by simp))).trans ?_
    have jl : (if y.length < w.length - 1 then lst (w.length - 1) x ++ lst (w.length - 1) y else lst (w.length - 1) y).length ≤ 40 := by
      by_cases h : y.length < w.length - 1
      · rw [if_pos h, List.length_append]
        omega
      · rw [if_neg h]
        omega
    have la : lst (w.length - 1) (x ++ y) = lst (w.length - 1) (if y.length < w.length - 1 then lst (w.length - 1) x ++ lst (w.length - 1) y else lst (w.length - 1) y) := last_append
    generalize hj : (if y.length < w.length - 1 then lst (w.length - 1) x ++ lst (w.length - 1) y else lst (w.length - 1) y) = j at jl la ⊢
    have lj := len_S (l := j) (by omega)
    have s3 := sl_S (l := j) (lo := some ((j.length - min (w.length - 1) j.length : Nat) : Int)) (hi := none) (by omega)
    rw [cutD_p] at s3
    have s3 : gSl (.str (S j)) (some ((j.length - min (w.length - 1) j.length : Nat) : Int)) none = some (.sh (.str (S (lst (w.length - 1) j)))) := s3
    rw [← la] at s3
    refine (seq_n (nxt_fld (d := .str (S (lst (w.length - 1) (x ++ y)))) (evS_sl (evS_var rfl).ev (ovl_part (i := ((j.length - min (w.length - 1) j.length : Nat) : Int)) (evS_op (evS_cb (evA_cons (evS_var rfl).ev evA_nil) lj).ev (evS_cb (evA_cons (evS_var rfl).ev (evA_cons (evS_cb (evA_cons (evS_var rfl).ev evA_nil) lj).ev evA_nil)) (min_Z _ _)).ev (by rw [gSub_int, min_cut])).ev) ovl_none s3) rfl fn3 pb3 (by decide +kernel))).trans ?_
    have oc := congrArg List.length (occ_append (w := w) (a := x) (b := y) hw)
    rw [List.length_append, List.length_append, List.length_map, List.length_map] at oc
    refine (seq_n (nxt_fld (d := .int ((occ w (x ++ y)).length : Nat)) (evS_is (evS_op (evS_op (F1 rfl fn4 lo4).ev (F2 rfl fn4 lo4).ev (gAdd_int _ _)).ev (evS_cb (evA_cons (ev_varO rfl) evA_nil) (by show some (Vl.sh (D.int ((natsD (crossing w x y)).length : Nat))) = _; rw [natsD_len])).ev (gAdd_int _ _)) (by rw [oc]; congr 1; omega)) rfl fn4 pb4 (by decide +kernel))).trans ?_
    refine (seq_n (nxt_fld (F1 rfl fn5 lo5) rfl fn5 pb5 (by decide +kernel))).trans ?_
    exact firsts_ok hw hw2 rfl
  exact isF_gen (fix := fun i => decide (i ∈ ([0, 1, 2] : List Nat))) (np := 3) (nl := 5) (m := m_looked_behind) (as := [.sh (.str (S w)), .sh (lk w x), .sh (lk w y)]) rfl r
end K40
end
section
set_option maxRecDepth 100000
set_option maxHeartbeats 1000000
namespace K40
open PySem DL L2
variable {ρ ρ' : DL.Env} {d a b z : D}
def abc : List Nat := [97, 98, 99]
theorem abc_S : (Str.ofString "abc") = S abc := by kernel_rfl
def okW (l : List Nat) : Bool := l.all fun c => decide (c ∈ abc)
def fAb : D → Bool
  | .str s => decide (s.cps.toList.headD 0 ∈ abc)
  | _ => false
theorem letters_ok {l : List Nat} {lo hi : Int} (hl : l.length ≤ 100000) : ∃ q, F_are_letters [.sh (.str (S l)), .sh (.int lo), .sh (.int hi)] = .ok (.sh (.bl ((decide (lo ≤ (l.length : Int)) && decide ((l.length : Int) ≤ hi)) && okW l)), q) := by
  refine isF_of rfl ?_
  unfold m_are_letters
  have ll := len_S (l := l) (by omega)
  have e : (l.map fun c => D.str (S [c])).map (fun d => D.bl (fAb d)) = l.map fun c => D.bl (decide (c ∈ abc)) := by
    rw [List.map_map]
    exact List.map_congr_left fun c _ => rfl
  refine ret_is (ret_of (evS_andB (k := true) (evS_cb (evA_cons (evS_var rfl).ev (evA_cons evS_c.ev evA_nil)) (isi_ss _)).ev fun _ => evS_andB (evS_chain (evS_var rfl).ev (evS_cb (evA_cons (evS_var rfl).ev evA_nil) ll).ev (evS_var rfl).ev (gLe_int _ _) (gLe_int _ _)).ev fun _ => evS_cb (z := .bl (okW l)) (evA_cons (EvS.ev (d := .lst (l.map fun c => .bl (decide (c ∈ abc)))) ?_) evA_nil) (gAll_map l fun c => decide (c ∈ abc))) bl_lst) rfl
  rw [← e]
  refine evS_lc (evI_seq (evS_var rfl) (items_S l)) (fun x hx => ?_) rfl (by simp; omega)
  obtain ⟨c, _, rfl⟩ := List.mem_map.mp hx
  refine ⟨_, rfl, ?_, rfl⟩
  unfold e_are_letters_1
  rw [abc_S]
  exact evS_cmp (evS_var rfl).ev evS_c.ev (in_S c abc)
inductive Rw where
  | say (s : List Nat)
  | thn (i j : Nat)
def rwD : Rw → D
  | .say s => .tup [.str "say", .str (S s)]
  | .thn i j => .tup [.str "then", .int (i : Nat), .int (j : Nat)]
def okR (p : Nat) : Rw → Prop
  | .say s => okW s = true ∧ s.length ≤ 40
  | .thn i j => i < p ∧ j < p
theorem num_ok {i p : Nat} (h : i < p) : ∃ q, F_is_number [.sh (.int (i : Nat)), .sh (.int (p : Nat))] = .ok (.sh (.bl true), q) := by
  refine isF_of rfl ?_
  unfold m_is_number
  refine ret_is (ret_of (evS_andB (k := true) (evS_cb (evA_cons (evS_var rfl).ev (evA_cons evS_c.ev evA_nil)) rfl).ev fun _ => evS_andB (evS_notV (k := false) (evS_cb (evA_cons (evS_var rfl).ev (evA_cons evS_c.ev evA_nil)) rfl).ev).ev fun _ => evS_chain evS_c.ev (evS_var rfl).ev (evS_var rfl).ev (gLe_int _ _) (gLt_int _ _)) bl_lst) ?_
  rw [decide_eq_true (by omega : (0 : Int) ≤ (i : Int)), decide_eq_true (by omega : (i : Int) < (p : Int))]
  rfl
theorem eqs_say : gEq (.str "say") (.str "say") = some true := rfl
theorem eqs_then1 : gEq (.str "then") (.str "say") = some false := rfl
theorem eqs_then : gEq (.str "then") (.str "then") = some true := rfl
theorem row_ok {p : Nat} {r : Rw} (h : okR p r) : ∃ q, F_is_row [.sh (rwD r), .sh (.int (p : Nat))] = .ok (.sh (.bl true), q) := by
  refine isF_of rfl ?_
  unfold m_is_row
  cases r with
  | say s =>
    obtain ⟨h1, h2⟩ := h
    obtain ⟨q, le⟩ := letters_ok (l := s) (lo := 0) (hi := 40) (by omega)
    rw [h1, decide_eq_true (by omega : (0 : Int) ≤ (s.length : Int)), decide_eq_true (by omega : (s.length : Int) ≤ 40)] at le
    refine ret_seq (ρ' := [.sh (rwD (.say s)), .sh (.int (p : Nat))]) ((if_no (tvF (tv_or (tv_not (tv_truB (k := true) (evS_cb (evA_cons (evS_var rfl).ev (evA_cons evS_c.ev evA_nil)) rfl).ev)) fun _ => tv_or (tv_test (k := false) (evS_cmp (evS_var rfl).ev (evS_tup evAS_nil sz_0).ev rfl).ev) fun _ => tv_not (tv_truB (k := true) (evS_cb (evA_cons (evS_op (evS_var rfl).ev evS_c.ev (ix_tup (i := 0) rfl)).ev (evA_cons evS_c.ev evA_nil)) rfl).ev)) rfl)).trans rfl) ?_
    refine ret_yes (tv_test (evS_cmp (evS_op (evS_var rfl).ev evS_c.ev (ix_tup (i := 0) rfl)).ev evS_c.ev eqs_say).ev) ?_
    refine ret_is (ret_of (evS_andB (k := true) (evS_cmp (evS_cb (evA_cons (evS_var rfl).ev evA_nil) rfl).ev evS_c.ev rfl).ev fun _ => evS_call (z := .bl true) (evAP_cons (evS_op (evS_var rfl).ev evS_c.ev (ix_tup (i := 1) rfl)) (evAP_cons evS_c (evAP_cons evS_c evAP_nil))) rfl ⟨q, le⟩) bl_lst) rfl
  | thn i j =>
    obtain ⟨h1, h2⟩ := h
    refine ret_seq (ρ' := [.sh (rwD (.thn i j)), .sh (.int (p : Nat))]) ((if_no (tvF (tv_or (tv_not (tv_truB (k := true) (evS_cb (evA_cons (evS_var rfl).ev (evA_cons evS_c.ev evA_nil)) rfl).ev)) fun _ => tv_or (tv_test (k := false) (evS_cmp (evS_var rfl).ev (evS_tup evAS_nil sz_0).ev rfl).ev) fun _ => tv_not (tv_truB (k := true) (evS_cb (evA_cons (evS_op (evS_var rfl).ev evS_c.ev (ix_tup (i := 0) rfl)).ev (evA_cons evS_c.ev evA_nil)) rfl).ev)) rfl)).trans rfl) ?_
    refine ret_on (tv_test (evS_cmp (evS_op (evS_var rfl).ev evS_c.ev (ix_tup (i := 0) rfl)).ev evS_c.ev eqs_then1).ev) ?_
    refine ret_is (ret_of (evS_andB (k := true) (evS_cmp (evS_op (evS_var rfl).ev evS_c.ev (ix_tup (i := 0) rfl)).ev evS_c.ev eqs_then).ev fun _ => evS_andB (k := true) (evS_cmp (evS_cb (evA_cons (evS_var rfl).ev evA_nil) rfl).ev evS_c.ev rfl).ev fun _ => evS_andB (k := true) (EvS.ev (evS_call (evAP_cons (evS_op (evS_var rfl).ev evS_c.ev (ix_tup (i := 1) rfl)) (evAP_cons (evS_var rfl) evAP_nil)) rfl (num_ok h1))) fun _ => evS_call (z := .bl true) (evAP_cons (evS_op (evS_var rfl).ev evS_c.ev (ix_tup (i := 2) rfl)) (evAP_cons (evS_var rfl) evAP_nil)) rfl (num_ok h2)) bl_lst) rfl
def shD (rs : List Rw) : D := .tup [.str "short", .tup (rs.map rwD)]
structure WF (rs : List Rw) : Prop where
  one : 1 ≤ rs.length
  most : rs.length ≤ 4000
  rows : ∀ (p : Nat) (r : Rw), rs[p]? = some r → okR p r
theorem ne_short : gNe (.str "short") (.str "short") = some false := rfl
theorem short_ok {rs : List Rw} (h : WF rs) : ∃ q, F_is_short [.sh (shD rs)] = .ok (.sh (.bl true), q) := by
  refine isF_of rfl ?_
  unfold m_is_short
  have g0 : gIx (shD rs) (.int 0) = some (.sh (.str "short")) := ix_tup (i := 0) rfl
  have g1 : gIx (shD rs) (.int 1) = some (.sh (.tup (rs.map rwD))) := ix_tup (i := 1) rfl
  have gl : gLen [.tup (rs.map rwD)] = some (.sh (.int (rs.length : Nat))) := by
    show some (Vl.sh (D.int ((rs.map rwD).length : Nat))) = _
    rw [List.length_map]
  have m := h.most
  have o := h.one
  refine ret_seq (ρ' := [.sh (shD rs), .emp, .emp]) ((if_no (tvF (tv_or (tv_not (tv_truB (k := true) (evS_cb (evA_cons (evS_var rfl).ev (evA_cons evS_c.ev evA_nil)) rfl).ev)) fun _ => tv_or (tv_test (k := false) (evS_cmp (evS_cb (evA_cons (evS_var rfl).ev evA_nil) rfl).ev evS_c.ev rfl).ev) fun _ => tv_or (tv_not (tv_truB (k := true) (evS_cb (evA_cons (evS_op (evS_var rfl).ev evS_c.ev g0).ev (evA_cons evS_c.ev evA_nil)) rfl).ev)) fun _ => tv_test (k := false) (evS_cmp (evS_op (evS_var rfl).ev evS_c.ev g0).ev evS_c.ev ne_short).ev) rfl)).trans rfl) ?_
  refine ret_seq (ρ' := [.sh (shD rs), .emp, .emp]) ((if_no (tvF (tv_or (tv_not (tv_truB (k := true) (evS_cb (evA_cons (evS_op (evS_var rfl).ev evS_c.ev g1).ev (evA_cons evS_c.ev evA_nil)) rfl).ev)) fun _ => tv_not (tv_test (evS_chain evS_c.ev (evS_cb (evA_cons (evS_op (evS_var rfl).ev evS_c.ev g1).ev evA_nil) gl).ev evS_c.ev (gLe_int _ _) (gLe_int _ _)).ev)) (by
    rw [decide_eq_true (by omega : (1 : Int) ≤ (rs.length : Int)), decide_eq_true (by omega : (rs.length : Int) ≤ 4000)]
    rfl))).trans rfl) ?_
  refine ret_of (evS_cb (evA_cons (EvS.ev (d := .lst ((enumD 0 (rs.map rwD)).map fun _ => .bl true)) ?_) evA_nil) (all_true _)) bl_lst
  refine evS_lc (evI_enum (evAS_cons (evS_op (evS_var rfl).ev evS_c.ev g1) evAS_nil) rfl) (fun x hx => ?_) rfl (by rw [enumD_len, List.length_map]; omega)
  obtain ⟨i, d, h1, rfl⟩ := enum_mem hx
  rw [List.getElem?_map] at h1
  obtain ⟨r, hr, rfl⟩ := Option.map_eq_some_iff.mp h1
  rw [Nat.zero_add]
  refine ⟨[.sh (shD rs), .sh (.int (i : Nat)), .sh (rwD r)], rfl, ?_, rfl⟩
  unfold e_is_short_1
  exact evS_call (evAP_cons (evS_var rfl) (evAP_cons (evS_var rfl) evAP_nil)) rfl (row_ok (h.rows i r hr))
theorem need_ok {rs : List Rw} (h : WF rs) : ∃ q, F_need_short [.sh (shD rs)] = .ok (.sh .non, q) := by
  have e : m_need_short [.sh (shD rs)] = .ok (.nx [.sh (shD rs)]) := by
    unfold m_need_short
    exact (if_no (tvF (tv_not (tv_truB (k := true) (EvS.ev (evS_call (bs := [false]) (evAP_cons (evS_var (i := 0) rfl) evAP_nil) rfl (short_ok h))))) rfl)).trans rfl
  exact ⟨_, run_nx (fix := fun i => decide (i ∈ ([0] : List Nat))) (np := 1) (nl := 0) (m := m_need_short) (as := [.sh (shD rs)]) rfl e⟩
theorem needw_ok {w : List Nat} (hw : w ≠ []) (hw2 : w.length ≤ 20) (hw3 : okW w = true) : ∃ q, F_need_word [.sh (.str (S w))] = .ok (.sh .non, q) := by
  have hw0 : 0 < w.length := List.length_pos_iff.mpr hw
  obtain ⟨q, le⟩ := letters_ok (l := w) (lo := 1) (hi := 20) (by omega)
  rw [hw3, decide_eq_true (by omega : (1 : Int) ≤ (w.length : Int)), decide_eq_true (by omega : (w.length : Int) ≤ 20)] at le
  have e : m_need_word [.sh (.str (S w))] = .ok (.nx [.sh (.str (S w))]) := by
    unfold m_need_word
    exact (if_no (tvF (tv_not (tv_truB (k := true) (EvS.ev (evS_call (bs := [false, false, false]) (evAP_cons (evS_var (i := 0) rfl) (evAP_cons evS_c (evAP_cons evS_c evAP_nil))) rfl ⟨q, le⟩)))) rfl)).trans rfl
  exact ⟨_, run_nx (fix := fun i => decide (i ∈ ([0] : List Nat))) (np := 1) (nl := 0) (m := m_need_word) (as := [.sh (.str (S w))]) rfl e⟩
end K40
end
section
set_option maxRecDepth 100000
set_option maxHeartbeats 1000000
namespace K40
open PySem DL L2
variable {ρ ρ' : DL.Env} {d a b z : D}
def rt (acc : List (List Nat)) : Rw → List Nat
  | .say s => s
  | .thn i j => acc.getD i [] ++ acc.getD j []
def txs : List Rw → List (List Nat) → List (List Nat)
  | [], acc => acc
  | r :: rs, acc => txs rs (acc ++ [rt acc r])
def texts (rs : List Rw) : List (List Nat) := txs rs []
theorem txs_snoc (r : Rw) : ∀ (rs : List Rw) (acc : List (List Nat)), txs (rs ++ [r]) acc = txs rs acc ++ [rt (txs rs acc) r]
  | [], acc => rfl
  | x :: rs, acc => txs_snoc r rs _
theorem txs_len : ∀ (rs : List Rw) (acc : List (List Nat)), (txs rs acc).length = acc.length + rs.length
  | [], acc => rfl
  | x :: rs, acc => by
    show (txs rs (acc ++ [rt acc x])).length = _
    rw [txs_len rs, List.length_append, List.length_cons, List.length_cons, List.length_nil]
    omega
theorem texts_len (rs : List Rw) : (texts rs).length = rs.length := by unfold texts; rw [txs_len]; simp
theorem texts_snoc (rs : List Rw) (r : Rw) : texts (rs ++ [r]) = texts rs ++ [rt (texts rs) r] := txs_snoc r rs []
theorem texts_take {rs : List Rw} {i : Nat} {r : Rw} (h : rs[i]? = some r) : texts (rs.take (i + 1)) = texts (rs.take i) ++ [rt (texts (rs.take i)) r] := by
  rw [take_snoc h, texts_snoc]
def said (rs : List Rw) : List Nat := (texts rs).getLastD []
theorem lk_at {w : List Nat} {l : List (List Nat)} {i : Nat} (hi : i < l.length) : gIx (.lst (l.map (lk w))) (.int (i : Int)) = some (.sh (lk w (l.getD i []))) := by
  have : (l.map (lk w))[i]? = some (lk w (l.getD i [])) := by
    rw [List.getElem?_map, List.getD_eq_getElem?_getD, List.getElem?_eq_getElem hi]
    rfl
  exact ix_lst this
def short1 (rs : List Rw) : gIx (shD rs) (.int 1) = some (.sh (.tup (rs.map rwD))) := ix_tup (i := 1) rfl
theorem row0 (r : Rw) : gIx (rwD r) (.int 0) = some (.sh (.str (match r with | .say _ => "say" | .thn _ _ => "then"))) := by
  cases r <;> exact ix_tup (i := 0) rfl
theorem tv_say {i : Nat} {r : Rw} (h : ρ[i]? = some (.sh (rwD r))) : Tv (xTest (xOp (blR gEq) (xOp gIx (xVar i) (xC (.int 0))) (xC (.str "say")))) ρ (match r with | .say _ => true | .thn _ _ => false) := by
  refine tv_test (evS_cmp (evS_op (evS_var h).ev evS_c.ev (row0 r)).ev evS_c.ev ?_).ev
  cases r <;> rfl
theorem looked_row {w : List Nat} {l : List (List Nat)} {r : Rw} {sh : Sl} {p : Nat} (hw : w ≠ []) (hw2 : w.length ≤ 20) (hr : okR p r) (hp : l.length = p) (hp2 : p < 4000) : b_looked_1 [sh, .sh (.str (S w)), .own (l.map (lk w)), .sh (rwD r)] = .ok (.nx [sh, .sh (.str (S w)), .own ((l ++ [rt l r]).map (lk w)), .sh (rwD r)]) := by
  unfold b_looked_1
  have key : xIf (xTest (xOp (blR gEq) (xOp gIx (xVar 3) (xC (.int 0))) (xC (.str "say")))) (xNewI fl_Looked F_Looked___init__ (aCons (xVar 1) (aCons (xOp gIx (xVar 3) (xC (.int 1))) aNil))) (xCall [false, false, false] F_looked_behind (aCons (xVar 1) (aCons (xOp gIx (xVar 2) (xOp gIx (xVar 3) (xC (.int 1)))) (aCons (xOp gIx (xVar 2) (xOp gIx (xVar 3) (xC (.int 2)))) aNil)))) [sh, .sh (.str (S w)), .own (l.map (lk w)), .sh (rwD r)] = .ok (.ob (.ins fl_Looked lkN (lkF w (rt l r))), [sh, .sh (.str (S w)), .own (l.map (lk w)), .sh (rwD r)]) := by
    refine if_eq (tv_say rfl) (fun h => ?_) fun h => ?_
    · cases r with
      | thn i j => cases h
      | say s => exact new_eq (evAP_cons (evS_var rfl) (evAP_cons (evS_op (evS_var rfl).ev evS_c.ev (ix_tup (i := 1) rfl)) evAP_nil)) (by have h40 : s.length ≤ 40 := hr.2; show s.length ≤ 100000; omega) hw hw2
    · cases r with
      | say s => cases h
      | thn i j =>
        obtain ⟨h1, h2⟩ := hr
        obtain ⟨q, e⟩ := behind_ok (w := w) (x := l.getD i []) (y := l.getD j []) hw hw2
        exact call_eq (bs := [false, false, false]) (evAP_cons (evS_var rfl) (evAP_cons (evS_op (ev_varO rfl) (evS_op (evS_var rfl).ev evS_c.ev (ix_tup (i := 1) rfl)).ev (lk_at (by omega))) (evAP_cons (evS_op (ev_varO rfl) (evS_op (evS_var rfl).ev evS_c.ev (ix_tup (i := 2) rfl)).ev (lk_at (by omega))) evAP_nil))) rfl e
  refine (app_eq rfl (shI_eq key) (by rw [List.length_map]; omega)).trans ?_
  rw [List.map_append]
  rfl
theorem looked_ok {w : List Nat} {rs : List Rw} (h : WF rs) (hw : w ≠ []) (hw2 : w.length ≤ 20) (hw3 : okW w = true) : ∃ q, F_looked [.sh (shD rs), .sh (.str (S w))] = .ok (.sh (lk w (said rs)), q) := by
  obtain ⟨q1, n1⟩ := need_ok h
  obtain ⟨q2, n2⟩ := needw_ok hw hw2 hw3
  have m := h.most
  obtain ⟨ρf, e, s, hs⟩ := for_inv0 (mg := mName 3) (mb := b_looked_1) (ds := rs.map rwD) (ρ := [.sh (shD rs), .sh (.str (S w)), .own [], .emp])
    (fun i ρ => ∃ s, ρ = [.sh (shD rs), .sh (.str (S w)), .own ((texts (rs.take i)).map (lk w)), s]) ⟨.emp, rfl⟩ fun i d ρ hd hi => by
    obtain ⟨s, rfl⟩ := hi
    rw [List.getElem?_map] at hd
    obtain ⟨r, hr, rfl⟩ := Option.map_eq_some_iff.mp hd
    have hi := (List.getElem?_eq_some_iff.mp hr).1
    refine ⟨_, _, rfl, looked_row (p := i) hw hw2 (h.rows i r hr) (by rw [texts_len, List.length_take]; omega) (by omega), .sh (rwD r), ?_⟩
    rw [texts_take hr]
  rw [List.length_map, List.take_length] at hs
  subst hs
  have one := h.one
  obtain ⟨k, x, hk⟩ := split_last (l := texts rs) (by rw [texts_len]; omega)
  have hsaid : said rs = x := by unfold said; rw [hk, lastD]
  rw [hsaid]
  refine isF_of rfl ?_
  unfold m_looked
  refine ret_seq (ρ' := [.sh (shD rs), .sh (.str (S w)), .emp, .emp]) ?_ ?_
  · unfold Nxt sDrop
    rw [call_eq (bs := [false]) (evAP_cons (evS_var rfl) evAP_nil) rfl n1]
    rfl
  refine ret_seq (ρ' := [.sh (shD rs), .sh (.str (S w)), .emp, .emp]) ?_ ?_
  · unfold Nxt sDrop
    rw [call_eq (bs := [false]) (evAP_cons (evS_var rfl) evAP_nil) rfl n2]
    rfl
  refine ret_seq (ρ' := [.sh (shD rs), .sh (.str (S w)), .own [], .emp]) rfl ?_
  have hi := evI_seq (l := rs.map rwD) (evS_op (evS_var (ρ := [.sh (shD rs), .sh (.str (S w)), .own [], .emp]) (i := 0) rfl).ev (evS_c (d := .int 1)).ev (short1 rs)) rfl
  refine ret_seq (ρ' := [.sh (shD rs), .sh (.str (S w)), .own ((texts rs).map (lk w)), s]) ?_ ?_
  · unfold Nxt sFor
    unfold EvI at hi
    simp only [hi, R_bind_ok]
    exact e
  rw [hk, List.map_append]
  refine ret_of (evS_op (ev_varO rfl) (EvS.ev (evS_un (g := gNeg) (z := .int (-1)) evS_c.ev rfl)) ?_) (fun _ z => nomatch z)
  show (atI _ (-1)).map Vl.sh = _
  rw [List.map_cons, List.map_nil, atLast]
  rfl
theorem times_ok {w : List Nat} {rs : List Rw} (h : WF rs) (hw : w ≠ []) (hw2 : w.length ≤ 20) (hw3 : okW w = true) : ∃ q, F_times_in [.sh (shD rs), .sh (.str (S w))] = .ok (.sh (.int ((occ w (said rs)).length : Nat)), q) := by
  obtain ⟨q, e⟩ := looked_ok h hw hw2 hw3
  refine isF_of rfl ?_
  unfold m_times_in
  exact ret_of (evS_fldS (call_eq (bs := [false, false]) (evAP_cons (evS_var rfl) (evAP_cons (evS_var rfl) evAP_nil)) rfl e) fn4 lo4) (fun _ z => nomatch z)
theorem fstD_ne (o : Option Nat) : ∀ l, fstD o ≠ .lst l := by cases o <;> exact fun _ z => nomatch z
theorem first_ok {w : List Nat} {rs : List Rw} (h : WF rs) (hw : w ≠ []) (hw2 : w.length ≤ 20) (hw3 : okW w = true) : ∃ q, F_first_in [.sh (shD rs), .sh (.str (S w))] = .ok (.sh (fstD (occ w (said rs)).head?), q) := by
  obtain ⟨q, e⟩ := looked_ok h hw hw2 hw3
  refine isF_of rfl ?_
  unfold m_first_in
  exact ret_of (evS_fldS (call_eq (bs := [false, false]) (evAP_cons (evS_var rfl) (evAP_cons (evS_var rfl) evAP_nil)) rfl e) fn5 lo5) (fstD_ne _)
end K40
end
section
set_option maxRecDepth 100000
set_option maxHeartbeats 1000000
namespace K40
open PySem DL L2
variable {ρ ρ' : DL.Env} {d a b z : D}
theorem map_at {f : List Nat → D} {l : List (List Nat)} {i : Nat} (hi : i < l.length) : gIx (.lst (l.map f)) (.int (i : Int)) = some (.sh (f (l.getD i []))) := by
  have : (l.map f)[i]? = some (f (l.getD i [])) := by
    rw [List.getElem?_map, List.getD_eq_getElem?_getD, List.getElem?_eq_getElem hi]
    rfl
  exact ix_lst this
def lenD (t : List Nat) : D := .int (t.length : Nat)
def strD (t : List Nat) : D := .str (S t)
theorem len_row {l : List (List Nat)} {r : Rw} {sh : Sl} {p : Nat} (hr : okR p r) (hp : l.length = p) (hp2 : p < 4000) : b__law_lengths_1 [sh, .own (l.map lenD), .sh (rwD r)] = .ok (.nx [sh, .own ((l ++ [rt l r]).map lenD), .sh (rwD r)]) := by
  unfold b__law_lengths_1
  refine (app_ev (d := lenD (rt l r)) rfl ?_ (by rw [List.length_map]; omega)).trans ?_
  · cases r with
    | say s =>
      have h40 : s.length ≤ 40 := hr.2
      exact evS_is (evS_if (k := true) (b := .non) (tv_say (r := .say s) rfl) (fun _ => evS_cb (evA_cons (evS_op (evS_var rfl).ev evS_c.ev (ix_tup (i := 1) rfl)).ev evA_nil) (len_S (by omega))) fun h => nomatch h) rfl
    | thn i j =>
      obtain ⟨h1, h2⟩ := hr
      refine evS_is (evS_if (k := false) (a := .non) (tv_say (r := .thn i j) rfl) (fun h => nomatch h) fun _ => evS_op (evS_op (ev_varO rfl) (evS_op (evS_var rfl).ev evS_c.ev (ix_tup (i := 1) rfl)).ev (map_at (by omega))).ev (evS_op (ev_varO rfl) (evS_op (evS_var rfl).ev evS_c.ev (ix_tup (i := 2) rfl)).ev (map_at (by omega))).ev (gAdd_int _ _)) ?_
      show D.int _ = D.int _
      congr 1
      show _ = ((l.getD i [] ++ l.getD j []).length : Int)
      rw [List.length_append, Int.natCast_add]
  · rw [List.map_append]
    rfl
theorem text_row {l : List (List Nat)} {r : Rw} {sh : Sl} {p : Nat} (hr : okR p r) (hp : l.length = p) (hp2 : p < 4000) (hs : ∀ t ∈ l, t.length ≤ 400000) : b__law_text_1 [sh, .own (l.map strD), .sh (rwD r)] = .ok (.nx [sh, .own ((l ++ [rt l r]).map strD), .sh (rwD r)]) := by
  unfold b__law_text_1
  refine (app_ev (d := strD (rt l r)) rfl ?_ (by rw [List.length_map]; omega)).trans ?_
  · cases r with
    | say s =>
      exact evS_is (evS_if (k := true) (b := .non) (tv_say (r := .say s) rfl) (fun _ => evS_op (evS_var rfl).ev evS_c.ev (ix_tup (i := 1) rfl)) fun h => nomatch h) rfl
    | thn i j =>
      obtain ⟨h1, h2⟩ := hr
      have s1 : (l.getD i []).length ≤ 400000 := by
        rw [List.getD_eq_getElem?_getD, List.getElem?_eq_getElem (by omega : i < l.length)]
        exact hs _ (List.getElem_mem _)
      have s2 : (l.getD j []).length ≤ 400000 := by
        rw [List.getD_eq_getElem?_getD, List.getElem?_eq_getElem (by omega : j < l.length)]
        exact hs _ (List.getElem_mem _)
      exact evS_is (evS_if (k := false) (a := .non) (tv_say (r := .thn i j) rfl) (fun h => nomatch h) fun _ => evS_op (evS_op (ev_varO rfl) (evS_op (evS_var rfl).ev evS_c.ev (ix_tup (i := 1) rfl)).ev (map_at (by omega))).ev (evS_op (ev_varO rfl) (evS_op (evS_var rfl).ev evS_c.ev (ix_tup (i := 2) rfl)).ev (map_at (by omega))).ev (add_S (by omega))) rfl
  · rw [List.map_append]
    rfl
theorem for_rows {mb : MS} {f : List Nat → D} {rs : List Rw} {sh : Sl} (h : WF rs) (hb : ∀ (i : Nat) (r : Rw), rs[i]? = some r → mb [sh, .own ((texts (rs.take i)).map f), .sh (rwD r)] = .ok (.nx [sh, .own ((texts (rs.take i) ++ [rt (texts (rs.take i)) r]).map f), .sh (rwD r)])) : ∃ s, forLoop (mName 2) mb (rs.map rwD) [sh, .own [], .emp] = .ok (.nx [sh, .own ((texts rs).map f), s]) := by
  obtain ⟨ρf, e, s, hs⟩ := for_inv0 (mg := mName 2) (mb := mb) (ds := rs.map rwD) (ρ := [sh, .own [], .emp])
    (fun i ρ => ∃ s, ρ = [sh, .own ((texts (rs.take i)).map f), s]) ⟨.emp, rfl⟩ fun i d ρ hd hi => by
    obtain ⟨s, rfl⟩ := hi
    rw [List.getElem?_map] at hd
    obtain ⟨r, hr, rfl⟩ := Option.map_eq_some_iff.mp hd
    refine ⟨_, _, rfl, hb i r hr, .sh (rwD r), ?_⟩
    rw [texts_take hr]
  rw [List.length_map, List.take_length] at hs
  subst hs
  exact ⟨s, e⟩
theorem rows_items (rs : List Rw) {ρ : DL.Env} (h : ρ[0]? = some (.sh (shD rs))) : EvI (xISeq (xOp gIx (xVar 0) (xC (.int 1)))) ρ (rs.map rwD) := evI_seq (evS_op (evS_var h).ev (evS_c (d := .int 1)).ev (short1 rs)) rfl
theorem lengths_ok {rs : List Rw} (h : WF rs) : ∃ q, F__law_lengths [.sh (shD rs)] = .ok (.own ((texts rs).map lenD), q) := by
  have m := h.most
  obtain ⟨s, e⟩ := for_rows (mb := b__law_lengths_1) (f := lenD) (sh := .sh (shD rs)) h fun i r hr => by
    have hi := (List.getElem?_eq_some_iff.mp hr).1
    exact len_row (p := i) (h.rows i r hr) (by rw [texts_len, List.length_take]; omega) (by omega)
  have hi := rows_items rs (ρ := [.sh (shD rs), .own [], .emp]) rfl
  unfold EvI at hi
  refine isF_gen (fix := fun i => decide (i ∈ ([0] : List Nat))) (np := 1) (nl := 2) (m := m__law_lengths) (as := [.sh (shD rs)]) (ρ := [.sh (shD rs), .emp, s]) rfl ?_
  unfold m__law_lengths
  refine (seq_n (ρ' := [.sh (shD rs), .own [], .emp]) rfl).trans ?_
  refine (seq_n (ρ' := [.sh (shD rs), .own ((texts rs).map lenD), s]) ?_).trans rfl
  unfold sFor
  simp only [hi, R_bind_ok]
  exact e
theorem texts_pre {rs : List Rw} {i : Nat} {t : List Nat} (h : t ∈ texts (rs.take i)) : t ∈ texts rs := by
  have key : ∀ (l k : List Rw), t ∈ texts l → t ∈ texts (l ++ k) := by
    intro l k
    induction k generalizing l with
    | nil => intro h; rwa [List.append_nil]
    | cons r k ih =>
      intro h
      have := ih (l ++ [r]) (by rw [texts_snoc]; exact List.mem_append_left _ h)
      rwa [List.append_assoc] at this
  have := key (rs.take i) (rs.drop i) h
  rwa [List.take_append_drop] at this
theorem text_ok {rs : List Rw} (h : WF rs) (hs : ∀ t ∈ texts rs, t.length ≤ 400000) : ∃ q, F__law_text [.sh (shD rs)] = .ok (.sh (.str (S (said rs))), q) := by
  have m := h.most
  obtain ⟨s, e⟩ := for_rows (mb := b__law_text_1) (f := strD) (sh := .sh (shD rs)) h fun i r hr => by
    have hi := (List.getElem?_eq_some_iff.mp hr).1
    exact text_row (p := i) (h.rows i r hr) (by rw [texts_len, List.length_take]; omega) (by omega) fun t ht => hs t (texts_pre ht)
  have hi := rows_items rs (ρ := [.sh (shD rs), .own [], .emp]) rfl
  unfold EvI at hi
  have one := h.one
  obtain ⟨k, x, hk⟩ := split_last (l := texts rs) (by rw [texts_len]; omega)
  have hsaid : said rs = x := by unfold said; rw [hk, lastD]
  refine isF_of rfl ?_
  unfold m__law_text
  refine ret_seq (ρ' := [.sh (shD rs), .own [], .emp]) rfl ?_
  refine ret_seq (ρ' := [.sh (shD rs), .own ((texts rs).map strD), s]) ?_ ?_
  · unfold Nxt sFor
    simp only [hi, R_bind_ok]
    exact e
  rw [hsaid, hk, List.map_append]
  refine ret_of (evS_op (ev_varO rfl) (EvS.ev (evS_un (g := gNeg) (z := .int (-1)) evS_c.ev rfl)) ?_) (fun _ z => nomatch z)
  show (atI _ (-1)).map Vl.sh = _
  rw [List.map_cons, List.map_nil, atLast]
  rfl
def dbl (w : List Nat) : Nat → List Rw
  | 0 => [.say w]
  | n + 1 => dbl w n ++ [.thn n n]
theorem dbl_len (w : List Nat) : ∀ n, (dbl w n).length = n + 1
  | 0 => rfl
  | n + 1 => by
    show (dbl w n ++ [Rw.thn n n]).length = _
    rw [List.length_append, dbl_len w n]
    rfl
theorem dbl_texts (w : List Nat) : ∀ n, ∃ k, texts (dbl w n) = k ++ [rep (2 ^ n) w]
  | 0 => ⟨[], by
    have : rep (2 ^ 0) w = w := by simp [rep]
    rw [this]
    rfl⟩
  | n + 1 => by
    obtain ⟨k, e⟩ := dbl_texts w n
    refine ⟨texts (dbl w n), ?_⟩
    have l := texts_len (dbl w n)
    rw [dbl_len, e, List.length_append] at l
    have kl : k.length = n := by simpa using l
    have g : (texts (dbl w n)).getD n [] = rep (2 ^ n) w := by rw [e, getD_last kl]
    show texts (dbl w n ++ [Rw.thn n n]) = _
    rw [texts_snoc]
    show texts (dbl w n) ++ [(texts (dbl w n)).getD n [] ++ (texts (dbl w n)).getD n []] = _
    rw [g, ← rep_add, Nat.pow_succ, Nat.mul_two]
theorem dbl_said (w : List Nat) (n : Nat) : said (dbl w n) = rep (2 ^ n) w := by
  obtain ⟨k, e⟩ := dbl_texts w n
  unfold said
  rw [e, lastD]
theorem dbl_wf {w : List Nat} {n : Nat} (h : okW w = true) (h2 : w.length ≤ 40) (hn : n ≤ 1000) : WF (dbl w n) where
  one := by rw [dbl_len]; omega
  most := by rw [dbl_len]; omega
  rows := by
    clear hn
    induction n with
    | zero =>
      intro p r hr
      cases p with
      | zero => cases hr; exact ⟨h, h2⟩
      | succ p => cases hr
    | succ n ih =>
      intro p r hr
      have hr : (dbl w n ++ [Rw.thn n n])[p]? = some r := hr
      by_cases hp : p < n + 1
      · rw [List.getElem?_append_left (by rw [dbl_len]; exact hp)] at hr
        exact ih p r hr
      · have hl := (List.getElem?_eq_some_iff.mp hr).1
        rw [List.length_append, dbl_len] at hl
        have : p = n + 1 := by simp at hl; omega
        subst this
        rw [List.getElem?_append_right (by rw [dbl_len]; exact Nat.le_refl _), dbl_len, Nat.sub_self] at hr
        cases hr
        exact ⟨by omega, by omega⟩
theorem doubled_ok {w : List Nat} {n : Nat} (hn : n ≤ 1000) : ∃ q, F__law_doubled [.sh (.str (S w)), .sh (.int (n : Nat))] = .ok (.sh (shD (dbl w n)), q) := by
  obtain ⟨ρf, e, s, hs⟩ := for_inv0 (mg := mName 3) (mb := b__law_doubled_1) (ds := (List.range n).map fun (i : Nat) => D.int (0 + (i : Int))) (ρ := [.sh (.str (S w)), .sh (.int (n : Nat)), .own [rwD (.say w)], .emp])
    (fun i ρ => ∃ s, ρ = [.sh (.str (S w)), .sh (.int (n : Nat)), .own ((dbl w i).map rwD), s]) ⟨.emp, rfl⟩ fun i d ρ hd hi => by
    obtain ⟨s, rfl⟩ := hi
    have hin : i < n := by simpa using (List.getElem?_eq_some_iff.mp hd).1
    rw [List.getElem?_map, List.getElem?_range hin] at hd
    obtain rfl : D.int (0 + (i : Int)) = d := Option.some.inj hd
    rw [Int.zero_add]
    refine ⟨_, [.sh (.str (S w)), .sh (.int (n : Nat)), .own ((dbl w i).map rwD ++ [rwD (.thn i i)]), .sh (.int (i : Nat))], rfl, ?_, .sh (.int (i : Nat)), by
      show _ = [_, _, Sl.own ((dbl w i ++ [Rw.thn i i]).map rwD), _]
      rw [List.map_append]
      rfl⟩
    unfold b__law_doubled_1
    exact app_ev (d := rwD (.thn i i)) rfl (evS_tup (evAS_cons evS_c (evAS_cons (evS_var rfl) (evAS_cons (evS_var rfl) evAS_nil))) sz_3) (by rw [List.length_map, dbl_len]; omega)
  have l : ((List.range n).map fun (i : Nat) => D.int (0 + (i : Int))).length = n := by simp
  rw [l] at hs
  subst hs
  have hi := evI_rng (ρ := [.sh (.str (S w)), .sh (.int (n : Nat)), .own [rwD (.say w)], .emp]) (evA_cons (evS_var (i := 1) rfl).ev evA_nil) (small_i (i := (n : Int)) (by omega) (by omega))
  unfold EvI at hi
  rw [Int.toNat_natCast] at hi
  refine isF_of rfl ?_
  unfold m__law_doubled
  refine ret_seq (ρ' := [.sh (.str (S w)), .sh (.int (n : Nat)), .own [rwD (.say w)], .emp]) (asg_own (l := [rwD (.say w)]) (by
    have := evS_tup (ρ := [.sh (.str (S w)), .sh (.int (n : Nat)), .emp, .emp]) (evAS_cons (evS_c (d := .str "say")) (evAS_cons (evS_var (i := 0) rfl) evAS_nil)) sz_2
    unfold xLst
    simp only [runF, runB, sSeq, sIf, sAsg, sRet, sNext, sDrop, sRaise, xVar, xC, xOp, xCB, xUn, aCons, aNil, rdv, rdvs, rdS, rdO_some, rdO_none, R_bind_ok, R_bind_bad, R_bind_exc, xTest, xTru, xAnd, xOr, xNot, xIf, xAndV, xOrV, xNotV, xChain, blOf, truO, blR, mv, put, maskA1, maskA2, maskA3, List.mem_cons, List.not_mem_nil, true_or, or_true, or_false, false_or, Bool.and_self, isi_tt, isi_ss, lc_nil, gEq_int, gNe_int, gLt_int, gLe_int, gGt_int, gGe_int, gLen, gIx, gAdd_int, gSub_int, gAug_int, xCall, takeArgs, take1, giveBack, bkAdd, share, shares, xTup, xLst, sAug, shS, emps, mName, mTup, mgCons, mgNil, xLc, xISeq, xIZip, xIRng1_eq, xIRng2_eq, rngV_ints, rngU_ints, rng1C_ok, rng2C_ok, kindOf, xSl, oPart, oNone, intOf, itemsOf, back, at0, at1, xApp, xExt, xPopAt, ownS, sz_0, sz_1, sz_2, sz_3, sz_4, sz_5, sz_6, sz_7, sz_8, List.getElem?_cons_zero, List.getElem?_cons_succ, List.getElem?_nil, List.set_cons_zero, List.set_cons_succ, List.length_cons, List.length_nil, List.cons_append, List.nil_append, List.append_nil, List.replicate, Option.bind_some, Option.bind_none, Option.map_some, Option.map_none, Option.some_or, Option.none_or, Option.or_some, Option.or_none, Option.getD_some, Option.getD_none, if_true, if_false, Bool.false_eq_true, Bool.not_true, Bool.not_false, decide_true, decide_false, List.map_cons, List.map_nil, reduceIte, Nat.reduceAdd, Nat.reduceLT, Nat.reduceEqDiff, Nat.zero_add, Int.reduceSub, Int.reduceAdd, Int.reduceLT, Int.reduceLE, Int.reduceEq]
    rfl) (by simp)) ?_
  refine ret_seq (ρ' := [.sh (.str (S w)), .sh (.int (n : Nat)), .own ((dbl w n).map rwD), s]) ?_ ?_
  · unfold Nxt sFor
    simp only [hi, R_bind_ok]
    exact e
  refine ret_of (evS_tup (evAS_cons evS_c (evAS_cons (evS_cb (evA_cons (ev_varO rfl) evA_nil) (z := .tup ((dbl w n).map rwD)) rfl) evAS_nil)) sz_2) (fun _ z => nomatch z)
theorem power_ok {n : Nat} (hn : n ≤ 1000) : ∃ q, F__law_power [.sh (.int (n : Nat))] = .ok (.sh (.int ((2 ^ n : Nat) : Int)), q) := by
  obtain ⟨ρf, e, s, hs⟩ := for_inv0 (mg := mName 2) (mb := b__law_power_1) (ds := (List.range n).map fun (i : Nat) => D.int (0 + (i : Int))) (ρ := [.sh (.int (n : Nat)), .sh (.int 1), .emp])
    (fun i ρ => ∃ s, ρ = [.sh (.int (n : Nat)), .sh (.int ((2 ^ i : Nat) : Int)), s]) ⟨.emp, rfl⟩ fun i d ρ hd hi => by
    obtain ⟨s, rfl⟩ := hi
    have hin : i < n := by simpa using (List.getElem?_eq_some_iff.mp hd).1
    refine ⟨_, [.sh (.int (n : Nat)), .sh (.int ((2 ^ (i + 1) : Nat) : Int)), .sh d], rfl, ?_, .sh d, rfl⟩
    unfold b__law_power_1
    have g := mulI (a := ((2 ^ i : Nat) : Int)) (b := 2) (by
      rw [Int.natAbs_natCast, Nat.log2_two_pow]
      have : (2 : Int).natAbs.log2 = 1 := by decide
      omega)
    refine asg_sh (xOp_eq (evS_var rfl).ev evS_c.ev (g.trans ?_)) (by simp)
    rw [Nat.pow_succ, Int.natCast_mul]
    rfl
  have l : ((List.range n).map fun (i : Nat) => D.int (0 + (i : Int))).length = n := by simp
  rw [l] at hs
  subst hs
  have hi := evI_rng (ρ := [.sh (.int (n : Nat)), .sh (.int 1), .emp]) (evA_cons (evS_var (i := 0) rfl).ev evA_nil) (small_i (i := (n : Int)) (by omega) (by omega))
  unfold EvI at hi
  rw [Int.toNat_natCast] at hi
  refine isF_of rfl ?_
  unfold m__law_power
  refine ret_seq (ρ' := [.sh (.int (n : Nat)), .sh (.int 1), .emp]) rfl ?_
  refine ret_seq (ρ' := [.sh (.int (n : Nat)), .sh (.int ((2 ^ n : Nat) : Int)), s]) ?_ ?_
  · unfold Nxt sFor
    simp only [hi, R_bind_ok]
    exact e
  exact ret_of (evS_var rfl) (fun _ z => nomatch z)
end K40
end
section
set_option maxRecDepth 100000
set_option maxHeartbeats 1000000
namespace K40
open PySem DL L2
variable {ρ ρ' : DL.Env} {d a b z : D}
def trm (w l : List Nat) (R a : Nat) : Nat := (R * l.length - w.length - a) / l.length + 1
def Tn (w l : List Nat) (R i : Nat) : Nat := (((List.range i).filter (rnd w l R)).map (trm w l R)).sum
def Fn' (w l : List Nat) (R i : Nat) : Option Nat := ((List.range i).filter (rnd w l R)).head?
theorem Tn_succ (w l : List Nat) (R i : Nat) : Tn w l R (i + 1) = if rnd w l R i = true then Tn w l R i + trm w l R i else Tn w l R i := by
  unfold Tn
  rw [List.range_succ, List.filter_append, List.map_append, List.sum_append]
  cases h : rnd w l R i <;> simp [List.filter, h]
theorem Fn_succ (w l : List Nat) (R i : Nat) : Fn' w l R (i + 1) = if rnd w l R i = true then (Fn' w l R i).or (some i) else Fn' w l R i := by
  unfold Fn'
  rw [List.range_succ, List.filter_append, List.head?_append]
  cases h : rnd w l R i <;> simp [List.filter, h]
theorem logR {R k : Nat} (hR : R.log2 ≤ 1000) (hk : k ≤ 1000) : (R : Int).natAbs.log2 + (k : Int).natAbs.log2 < 1000000 := by
  rw [Int.natAbs_natCast, Int.natAbs_natCast]
  have : k.log2 ≤ k := Nat.log2_le_self k
  omega
theorem round_row {w l : List Nat} {R i : Nat} {s7 : Sl} {T : Nat} {F : Option Nat} (hl : 0 < l.length) (hl2 : l.length ≤ 10) (hw2 : w.length ≤ 20) (hR : R.log2 ≤ 1000) (hi : i < l.length) :
    b__law_in_rounds_1 [.sh (.str (S l)), .sh (.int (R : Nat)), .sh (.str (S w)), .sh (.str (S (rep (w.length / l.length + 2) l))), .sh (.int (T : Nat)), .sh (fstD F), .sh (.int (i : Nat)), s7] =
      .ok (.nx [.sh (.str (S l)), .sh (.int (R : Nat)), .sh (.str (S w)), .sh (.str (S (rep (w.length / l.length + 2) l))), .sh (.int ((if rnd w l R i = true then T + trm w l R i else T : Nat) : Int)), .sh (fstD (if rnd w l R i = true then F.or (some i) else F)), .sh (.int (i : Nat)), .sh (.int ((R : Int) * (l.length : Int) - (w.length : Int) - (i : Int)))]) := by
  have ll := len_S (l := l) (by omega)
  have lw := len_S (l := w) (by omega)
  have cl : (rep (w.length / l.length + 2) l).length ≤ 1000 := by
    rw [rep_len]
    have h1 : w.length / l.length ≤ 20 := Nat.le_trans (Nat.div_le_self _ _) hw2
    have h2 := Nat.mul_le_mul (show w.length / l.length + 2 ≤ 22 by omega) hl2
    omega
  have e1 : sAsg 7 (xOp DL.gSub (xOp DL.gSub (xOp gMulX (xVar 1) (xCB gLen (aCons (xVar 0) aNil))) (xCB gLen (aCons (xVar 2) aNil))) (xVar 6)) [.sh (.str (S l)), .sh (.int (R : Nat)), .sh (.str (S w)), .sh (.str (S (rep (w.length / l.length + 2) l))), .sh (.int (T : Nat)), .sh (fstD F), .sh (.int (i : Nat)), s7] = .ok (.nx [.sh (.str (S l)), .sh (.int (R : Nat)), .sh (.str (S w)), .sh (.str (S (rep (w.length / l.length + 2) l))), .sh (.int (T : Nat)), .sh (fstD F), .sh (.int (i : Nat)), .sh (.int ((R : Int) * (l.length : Int) - (w.length : Int) - (i : Int)))]) :=
    asg_sh (xOp_eq (evS_op (evS_op (evS_var (i := 1) rfl).ev (evS_cb (evA_cons (evS_var (i := 0) rfl).ev evA_nil) ll).ev (mulI (logR hR (by omega)))).ev (evS_cb (evA_cons (evS_var (i := 2) rfl).ev evA_nil) lw).ev (gSub_int _ _)).ev (evS_var (i := 6) rfl).ev (gSub_int _ _)) (by simp)
  unfold b__law_in_rounds_1
  refine (seq_n e1).trans ?_
  have sl := sl_S (l := rep (w.length / l.length + 2) l) (lo := some (i : Int)) (hi := some ((i + w.length : Nat) : Int)) (by omega)
  rw [cutD_pq, Nat.add_sub_cancel_left] at sl
  have hr : rnd w l R i = (hit w (rep (w.length / l.length + 2) l) i && decide ((0 : Int) ≤ (R : Int) * (l.length : Int) - (w.length : Int) - (i : Int))) := by
    unfold rnd
    congr 1
    refine decide_eq_decide.mpr ?_
    have : ((R * l.length : Nat) : Int) = (R : Int) * (l.length : Int) := Int.natCast_mul _ _
    omega
  have tv : ∀ {ρ : DL.Env}, ρ = [.sh (.str (S l)), .sh (.int (R : Nat)), .sh (.str (S w)), .sh (.str (S (rep (w.length / l.length + 2) l))), .sh (.int (T : Nat)), .sh (fstD F), .sh (.int (i : Nat)), .sh (.int ((R : Int) * (l.length : Int) - (w.length : Int) - (i : Int)))] → Tv (xAnd (xTest (xOp (blR gEq) (xSl gSl (xVar 3) (oPart (xVar 6)) (oPart (xOp gAdd (xVar 6) (xCB gLen (aCons (xVar 2) aNil))))) (xVar 2))) (xTest (xOp (blR gGe) (xVar 7) (xC (.int 0))))) ρ (rnd w l R i) := fun h => by
    subst h
    rw [hr]
    exact tv_and (tv_test (evS_cmp (evS_sl (evS_var rfl).ev (ovl_part (evS_var rfl).ev) (ovl_part (evS_op (evS_var rfl).ev (evS_cb (evA_cons (evS_var rfl).ev evA_nil) lw).ev (by rw [gAdd_int, ← Int.natCast_add])).ev) sl).ev (evS_var rfl).ev (eq_S _ _)).ev) fun _ => tv_test (evS_cmp (evS_var rfl).ev evS_c.ev (gGe_int _ _)).ev
  have tv := tv rfl
  cases hb : rnd w l R i with
  | false =>
    rw [hb] at tv
    exact (if_no tv).trans rfl
  | true =>
    rw [hb] at tv
    have hroom : i + w.length ≤ R * l.length := by
      unfold rnd at hb
      rw [Bool.and_eq_true, decide_eq_true_eq] at hb
      exact hb.2
    have er : (R : Int) * (l.length : Int) - (w.length : Int) - (i : Int) = ((R * l.length - w.length - i : Nat) : Int) := by
      have : ((R * l.length : Nat) : Int) = (R : Int) * (l.length : Int) := Int.natCast_mul _ _
      omega
    refine (if_yes tv).trans ?_
    rw [er]
    have fd : gFdiv (.int ((R * l.length - w.length - i : Nat) : Int)) (.int (l.length : Nat)) = some (.sh (.int (((R * l.length - w.length - i) / l.length : Nat) : Int))) := fdivI (by omega) (by omega)
    refine (seq_n (asg_sh (d := .int ((T + trm w l R i : Nat) : Int)) (xOp_eq (evS_op (evS_var rfl).ev (evS_op (evS_var rfl).ev (evS_cb (evA_cons (evS_var rfl).ev evA_nil) ll).ev fd).ev (gAdd_int _ _)).ev evS_c.ev (by
      rw [gAdd_int]
      unfold trm
      congr 3)) (by simp))).trans ?_
    refine asg_sh (d := fstD (F.or (some i))) (if_eq (k := F.isNone) (tv_test (evS_cmp (evS_var rfl).ev evS_c.ev (isN_fst F)).ev) (fun h => ?_) fun h => ?_) (by simp)
    · cases F with
      | none => rfl
      | some p => cases h
    · cases F with
      | none => cases h
      | some p => rfl
theorem rounds_ok {w l : List Nat} {R : Nat} (hw : w ≠ []) (hl : 0 < l.length) (hl2 : l.length ≤ 10) (hw2 : w.length ≤ 20) (hR : R.log2 ≤ 1000) : ∃ q, F__law_in_rounds [.sh (.str (S l)), .sh (.int (R : Nat)), .sh (.str (S w))] = .ok (.sh (.tup [.int ((occ w (rep R l)).length : Nat), fstD (occ w (rep R l)).head?]), q) := by
  have ll := len_S (l := l) (by omega)
  have lw := len_S (l := w) (by omega)
  obtain ⟨ρf, e, s6, s7, hs⟩ := for_inv0 (mg := mName 6) (mb := b__law_in_rounds_1) (ds := (List.range l.length).map fun (i : Nat) => D.int (0 + (i : Int))) (ρ := [.sh (.str (S l)), .sh (.int (R : Nat)), .sh (.str (S w)), .sh (.str (S (rep (w.length / l.length + 2) l))), .sh (.int 0), .sh .non, .emp, .emp])
    (fun i ρ => ∃ s6 s7, ρ = [.sh (.str (S l)), .sh (.int (R : Nat)), .sh (.str (S w)), .sh (.str (S (rep (w.length / l.length + 2) l))), .sh (.int (Tn w l R i : Nat)), .sh (fstD (Fn' w l R i)), s6, s7]) ⟨.emp, .emp, rfl⟩ fun i d ρ hd hi => by
    obtain ⟨s6, s7, rfl⟩ := hi
    have hin : i < l.length := by simpa using (List.getElem?_eq_some_iff.mp hd).1
    rw [List.getElem?_map, List.getElem?_range hin] at hd
    obtain rfl : D.int (0 + (i : Int)) = d := Option.some.inj hd
    rw [Int.zero_add]
    refine ⟨_, _, rfl, round_row hl hl2 hw2 hR hin, .sh (.int (i : Nat)), .sh (.int ((R : Int) * (l.length : Int) - (w.length : Int) - (i : Int))), ?_⟩
    rw [Tn_succ, Fn_succ]
  have len : ((List.range l.length).map fun (i : Nat) => D.int (0 + (i : Int))).length = l.length := by simp
  rw [len] at hs
  subst hs
  have rt1 : Tn w l R l.length = (occ w (rep R l)).length := (rounds_times hw hl).symm
  have rt2 : Fn' w l R l.length = (occ w (rep R l)).head? := (rounds_first hw hl).symm
  rw [rt1, rt2] at e
  refine isF_of rfl ?_
  unfold m__law_in_rounds
  have fd : gFdiv (.int (w.length : Nat)) (.int (l.length : Nat)) = some (.sh (.int ((w.length / l.length : Nat) : Int))) := fdivI (by omega) (by omega)
  have h1 : w.length / l.length ≤ 20 := Nat.le_trans (Nat.div_le_self _ _) hw2
  have h2 := Nat.mul_le_mul hl2 (show w.length / l.length + 2 ≤ 22 by omega)
  have mu := mul_S (l := l) (k := w.length / l.length + 2) (by omega) (by omega)
  have c := xOp_eq (g := gMulX) (ρ := [.sh (.str (S l)), .sh (.int (R : Nat)), .sh (.str (S w)), .emp, .emp, .emp, .emp, .emp]) (evS_var (i := 0) rfl).ev (evS_op (g := gAdd) (evS_op (g := gFdiv) (evS_cb (evA_cons (evS_var (i := 2) rfl).ev evA_nil) lw).ev (evS_cb (evA_cons (evS_var (i := 0) rfl).ev evA_nil) ll).ev fd).ev (evS_c (d := .int 2)).ev (by rw [gAdd_int]; rfl)).ev mu
  refine ret_seq (ρ' := [.sh (.str (S l)), .sh (.int (R : Nat)), .sh (.str (S w)), .sh (.str (S (rep (w.length / l.length + 2) l))), .sh (.int 0), .sh .non, .emp, .emp]) (pars_eq (acons_eq c (acons_eq (ρ2 := [.sh (.str (S l)), .sh (.int (R : Nat)), .sh (.str (S w)), .emp, .emp, .emp, .emp, .emp]) rfl rfl)) rfl) ?_
  have hi := evI_rng (ρ := [.sh (.str (S l)), .sh (.int (R : Nat)), .sh (.str (S w)), .sh (.str (S (rep (w.length / l.length + 2) l))), .sh (.int 0), .sh .non, .emp, .emp]) (evA_cons (evS_cb (evA_cons (evS_var (i := 0) rfl).ev evA_nil) ll).ev evA_nil) (small_i (i := (l.length : Int)) (by omega) (by omega))
  unfold EvI at hi
  rw [Int.toNat_natCast] at hi
  refine ret_seq (ρ' := [.sh (.str (S l)), .sh (.int (R : Nat)), .sh (.str (S w)), .sh (.str (S (rep (w.length / l.length + 2) l))), .sh (.int ((occ w (rep R l)).length : Nat)), .sh (fstD (occ w (rep R l)).head?), s6, s7]) ?_ ?_
  · unfold Nxt sFor
    simp only [hi, R_bind_ok]
    exact e
  exact ret_of (evS_tup (evAS_cons (evS_var rfl) (evAS_cons (evS_var rfl) evAS_nil)) sz_2) (fun _ z => nomatch z)
def shf : Rw → Rw
  | .say s => .say s
  | .thn i j => .thn (i + 1) (j + 1)
def bhd (c : List Nat) (rs : List Rw) : List Rw := .say c :: (rs.map shf ++ [.thn 0 rs.length])
theorem txs_shf (c : List Nat) : ∀ (rs : List Rw) (acc : List (List Nat)), txs (rs.map shf) (c :: acc) = c :: txs rs acc
  | [], acc => rfl
  | r :: rs, acc => by
    have : rt (c :: acc) (shf r) = rt acc r := by cases r <;> rfl
    show txs (rs.map shf) (c :: (acc ++ [rt (c :: acc) (shf r)])) = c :: txs rs (acc ++ [rt acc r])
    rw [this]
    exact txs_shf c rs _
theorem bhd_said {c : List Nat} {rs : List Rw} (h : 0 < rs.length) : said (bhd c rs) = c ++ said rs := by
  have e : texts (bhd c rs) = (c :: texts rs) ++ [rt (c :: texts rs) (.thn 0 rs.length)] := by
    show txs (rs.map shf ++ [.thn 0 rs.length]) [c] = _
    rw [txs_snoc, txs_shf]
    rfl
  obtain ⟨k, x, hk⟩ := split_last (l := texts rs) (by rw [texts_len]; omega)
  have kl : k.length + 1 = rs.length := by
    have := texts_len rs
    rw [hk, List.length_append] at this
    simpa using this
  unfold said
  rw [e, lastD, hk, lastD]
  show c ++ (c :: (k ++ [x])).getD rs.length [] = _
  rw [← kl, List.getD_cons_succ, getD_last rfl]
theorem bhd_wf {c : List Nat} {rs : List Rw} (hc : okW c = true) (hc2 : c.length ≤ 40) (h : WF rs) (hl : rs.length ≤ 3990) : WF (bhd c rs) where
  one := by unfold bhd; simp
  most := by unfold bhd; simp; omega
  rows := fun p r hr => by
    unfold bhd at hr
    cases p with
    | zero => cases hr; exact ⟨hc, hc2⟩
    | succ p =>
      rw [List.getElem?_cons_succ] at hr
      by_cases hp : p < rs.length
      · rw [List.getElem?_append_left (by simpa using hp), List.getElem?_map] at hr
        obtain ⟨r0, h0, rfl⟩ := Option.map_eq_some_iff.mp hr
        have := h.rows p r0 h0
        cases r0 with
        | say s => exact this
        | thn i j => exact ⟨Nat.succ_lt_succ this.1, Nat.succ_lt_succ this.2⟩
      · have hq := (List.getElem?_eq_some_iff.mp hr).1
        rw [List.length_append, List.length_map] at hq
        have : p = rs.length := by simp at hq; omega
        subst this
        rw [List.getElem?_append_right (by simp), List.length_map, Nat.sub_self] at hr
        cases hr
        exact ⟨by omega, by omega⟩
end K40
end
section
set_option maxRecDepth 100000
set_option maxHeartbeats 1000000
namespace K40
open PySem DL L2
variable {ρ ρ' ρ1 ρ2 : DL.Env} {d a b z : D} {st st' : Draw} {n m : Nat}
theorem sub_int {i j : Nat} (h : j ≤ i) : ((i : Int) - (j : Int)) = ((i - j : Nat) : Int) := by omega
theorem behindF {c : List Nat} {rs : List Rw} (hc : okW c = true) (hc2 : c.length ≤ 40) (h : WF rs) (hl : rs.length ≤ 3990) : ∃ q, F_behind [.sh (shD [.say c]), .sh (shD rs)] = .ok (.sh (shD (bhd c rs)), q) := by
  have wf1 : WF [.say c] := ⟨by simp, by simp, fun p r hr => by
    cases p with
    | zero => cases hr; exact ⟨hc, hc2⟩
    | succ p => cases hr⟩
  obtain ⟨q1, n1⟩ := need_ok wf1
  obtain ⟨q2, n2⟩ := need_ok h
  obtain ⟨ρf, e, s, hs⟩ := for_inv0 (mg := mName 4) (mb := b_behind_1) (ds := rs.map rwD) (ρ := [.sh (shD [.say c]), .sh (shD rs), .sh (.int 1), .own [rwD (.say c)], .emp])
    (fun i ρ => ∃ s, ρ = [.sh (shD [.say c]), .sh (shD rs), .sh (.int 1), .own ((.say c :: (rs.take i).map shf).map rwD), s]) ⟨.emp, rfl⟩ fun i d ρ hd hi => by
    obtain ⟨s, rfl⟩ := hi
    rw [List.getElem?_map] at hd
    obtain ⟨r, hr, rfl⟩ := Option.map_eq_some_iff.mp hd
    have hi := (List.getElem?_eq_some_iff.mp hr).1
    refine ⟨_, [.sh (shD [.say c]), .sh (shD rs), .sh (.int 1), .own ((.say c :: (rs.take i).map shf).map rwD ++ [rwD (shf r)]), .sh (rwD r)], rfl, ?_, .sh (rwD r), ?_⟩
    · unfold b_behind_1
      refine app_ev (d := rwD (shf r)) rfl ?_ (by simp; omega)
      cases r with
      | say s => exact evS_is (evS_if (k := true) (b := .non) (tv_say (r := .say s) rfl) (fun _ => evS_var rfl) fun h => nomatch h) rfl
      | thn i j => exact evS_is (evS_if (k := false) (a := .non) (tv_say (r := .thn i j) rfl) (fun h => nomatch h) fun _ => evS_tup (evAS_cons evS_c (evAS_cons (evS_op (evS_op (evS_var rfl).ev evS_c.ev (ix_tup (i := 1) rfl)).ev (evS_var rfl).ev (gAdd_int _ _)) (evAS_cons (evS_op (evS_op (evS_var rfl).ev evS_c.ev (ix_tup (i := 2) rfl)).ev (evS_var rfl).ev (gAdd_int _ _)) evAS_nil))) sz_3) rfl
    · rw [take_snoc hr, List.map_append, List.map_cons, List.map_cons, List.map_append]
      rfl
  rw [List.length_map, List.take_length] at hs
  subst hs
  have gl : gLen [.tup (rs.map rwD)] = some (.sh (.int (rs.length : Nat))) := by
    show some (Vl.sh (D.int ((rs.map rwD).length : Nat))) = _
    rw [List.length_map]
  refine isF_of rfl ?_
  unfold m_behind
  refine ret_seq (ρ' := [.sh (shD [.say c]), .sh (shD rs), .emp, .emp, .emp]) ?_ ?_
  · unfold Nxt sDrop
    rw [call_eq (bs := [false]) (evAP_cons (evS_var rfl) evAP_nil) rfl n1]
    rfl
  refine ret_seq (ρ' := [.sh (shD [.say c]), .sh (shD rs), .emp, .emp, .emp]) ?_ ?_
  · unfold Nxt sDrop
    rw [call_eq (bs := [false]) (evAP_cons (evS_var rfl) evAP_nil) rfl n2]
    rfl
  refine ret_seq (ρ' := [.sh (shD [.say c]), .sh (shD rs), .sh (.int 1), .emp, .emp]) (asgV (evV_cb (evAV_cons (evV_op (evV_var rfl) evV_c (short1 [.say c])) evAV_nil) rfl) (fun _ z => nomatch z) (by simp)) ?_
  refine ret_seq (ρ' := [.sh (shD [.say c]), .sh (shD rs), .sh (.int 1), .emp, .emp]) ((if_no (tvF (tv_test (evS_cmp (evS_op (evS_var rfl).ev (evS_cb (evA_cons (evS_op (evS_var rfl).ev evS_c.ev (short1 rs)).ev evA_nil) gl).ev (gAdd_int _ _)).ev evS_c.ev (gGe_int _ _)).ev) (decide_eq_false (by omega)))).trans rfl) ?_
  refine ret_seq (ρ' := [.sh (shD [.say c]), .sh (shD rs), .sh (.int 1), .own [rwD (.say c)], .emp]) (asgV_own (cbV_eq (g := gList) (evAV_cons (evV_op (evV_var (i := 0) rfl) (evV_c (d := .int 1)) (short1 [.say c])) evAV_nil) rfl) (by simp)) ?_
  have hi := evI_seq (l := rs.map rwD) (evS_op (evS_var (ρ := [.sh (shD [.say c]), .sh (shD rs), .sh (.int 1), .own [rwD (.say c)], .emp]) (i := 1) rfl).ev (evS_c (d := .int 1)).ev (short1 rs)) rfl
  refine ret_seq (ρ' := [.sh (shD [.say c]), .sh (shD rs), .sh (.int 1), .own ((.say c :: rs.map shf).map rwD), s]) (forV hi e) ?_
  have len : ((.say c :: rs.map shf).map rwD).length = rs.length + 1 := by simp
  have last : EvS (xTup (aCons (xC (.str "then")) (aCons (xOp DL.gSub (xVar 2) (xC (.int 1))) (aCons (xOp DL.gSub (xCB gLen (aCons (xVar 3) aNil)) (xC (.int 1))) aNil)))) [.sh (shD [.say c]), .sh (shD rs), .sh (.int 1), .own ((.say c :: rs.map shf).map rwD), s] (rwD (.thn 0 rs.length)) := by
    refine evS_tup (evAS_cons evS_c (evAS_cons (evS_op (evS_var rfl).ev evS_c.ev (gSub_int _ _)) (evAS_cons (evS_op (evS_cb (evA_cons (ev_varO rfl) evA_nil) (z := .int ((rs.length + 1 : Nat) : Int)) ?_).ev evS_c.ev ?_) evAS_nil))) sz_3
    · show some (Vl.sh (D.int (((.say c :: rs.map shf).map rwD).length : Nat))) = _
      rw [len]
    · rw [gSub_int]
      congr 3
      omega
  refine ret_is (ret_of (evS_tup (evAS_cons evS_c (evAS_cons (evS_tup (evAS_star (ev_varO rfl) rfl (evAS_cons last evAS_nil)) (szK (by rw [List.length_append, len]; simp; omega))) evAS_nil)) sz_2) (fun _ z => nomatch z)) ?_
  unfold shD bhd
  simp only [List.map_cons, List.map_append, List.cons_append, List.map_nil]
theorem pickS_ok {L : List Nat} (h : DOk n st) (hn : n ≤ 1000000) (h0 : L ≠ []) (hm : L.length ≤ 1000) : ∃ st' c, F__law_pick [.drw st, .sh (.str (S L))] = .ok (.sh (.str (S [c])), [.drw st', .sh (.str (S L))]) ∧ c ∈ L ∧ DOk (n + 1) st' := by
  have hp : 0 < L.length := List.length_pos_iff.mpr h0
  obtain ⟨st', k, e, hk, q⟩ := take_ok h hn hp (by omega)
  obtain ⟨c, hc⟩ : ∃ c, L[k]? = some c := ⟨L[k], by simp⟩
  refine ⟨st', c, ?_, List.mem_of_getElem? hc, q⟩
  have ll := len_S (l := L) (by omega)
  have t := evV_callD (bs := [true, false]) (F := F__law_take) (i := 0) (ρ := [.drw st, .sh (.str (S L))]) (st := st) rfl (evAV_cons (evV_cb (evAV_cons (evV_var (i := 1) rfl) evAV_nil) ll) evAV_nil) rfl rfl e
  have r := retV (evV_op (g := gIx) (evV_var (ρ := [.drw st, .sh (.str (S L))]) (i := 1) rfl) t (ix_S (by omega) hc)) (fun _ z => nomatch z)
  unfold F__law_pick runF runB
  have r : m__law_pick ([.drw st, .sh (.str (S L))] ++ List.replicate 0 .emp) = .ok (.rt (.sh (.str (S [c]))) [.drw st', .sh (.str (S L))]) := r
  rw [if_pos (show [Sl.drw st, Sl.sh (D.str (S L))].length = 2 from rfl), r]
  rfl
def chD (c : Nat) : D := .str (S [c])
theorem letters_lc {mg : MG} {me : MX} {vs : List Nat} {ρs : Draw → DL.Env} {L : List Nat} (h0 : L ≠ []) (hm : L.length ≤ 1000) (hs : ∀ (st st' : Draw) (x : D) (c : Nat), F__law_pick [.drw st, .sh (.str (S L))] = .ok (.sh (.str (S [c])), [.drw st', .sh (.str (S L))]) → ∃ ρ1 ρ2, mg x (ρs st) = some ρ1 ∧ me ρ1 = .ok (.sh (chD c), ρ2) ∧ emps ρ2 vs = ρs st') {ds : List D} (hd : DOk n st) (hn : n + ds.length ≤ 900000) : ∃ (l : List Nat) (st' : Draw), lcLoop mg xYes me vs ds (ρs st) [] = .ok (l.map chD, ρs st') ∧ l.length = ds.length ∧ (∀ c ∈ l, c ∈ L) ∧ DOk (n + ds.length) st' := by
  obtain ⟨out, st', e, ⟨l, rfl, hl, hk⟩, hlen⟩ := lc_acc (S := Draw) (mg := mg) (me := me) (vs := vs) (ρs := ρs) (Inv := fun acc st => ∃ l : List Nat, acc = l.map chD ∧ (∀ c ∈ l, c ∈ L) ∧ DOk (n + l.length) st) (ds := ds) (acc := []) (s := st) ⟨[], rfl, fun _ z => (nomatch z), hd⟩ (fun d _ acc s _ hacc hI => by
    obtain ⟨l, rfl, hl, hk⟩ := hI
    rw [List.length_map] at hacc
    simp at hacc
    obtain ⟨st2, c, e, hc, hk2⟩ := pickS_ok hk (by omega) h0 hm
    obtain ⟨ρ1, ρ2, h1, h2, h3⟩ := hs s st2 d c e
    refine ⟨ρ1, _, ρ2, chD c, ρ2, st2, h1, h2, rfl, h3, l ++ [c], by rw [List.map_append]; rfl, fun x hx => ?_, by rw [List.length_append]; exact hk2⟩
    rcases List.mem_append.mp hx with hx | hx
    · exact hl x hx
    · rw [List.mem_singleton.mp hx]; exact hc) (by simp; omega)
  simp at hlen
  exact ⟨l, st', e, hlen, hl, by rw [← hlen]; exact hk⟩
theorem joinL_nil : ∀ l : List (List Nat), TL.joinL [] l = l.flatten
  | [] => rfl
  | [p] => by simp [TL.joinL]
  | p :: q :: r => by
    show p ++ ([] ++ TL.joinL [] (q :: r)) = _
    rw [joinL_nil (q :: r)]
    rfl
theorem join_S (l : List Nat) : Txt.join (Str.ofString "") (l.map fun c => S [c]) = S l := by
  apply repS_ext
  rw [TL.join_eq]
  have h := TL.tl_join (Str.ofString "") (l.map fun c => S [c])
  have e : TL.tl (Str.ofString "") = [] := by kernel_rfl
  rw [e, joinL_nil] at h
  refine Eq.trans h ?_
  rw [List.map_map]
  show (l.map fun c => [c]).flatten = l
  clear h
  induction l with
  | nil => rfl
  | cons c l ih => simp [ih]
theorem join_ok {l : List Nat} (h : l.length ≤ 1000) : gJoin "" [.lst (l.map chD)] = some (.sh (.str (S l))) := by
  have e : strsOf (l.map chD) = some (l.map fun c => S [c]) := by
    have := strsOf_of (l.map fun c => S [c])
    rwa [List.map_map] at this
  show (strsOf (l.map chD)).bind _ = _
  rw [e, Option.bind_some]
  have l0 : (Str.ofString "").length = 0 := by kernel_rfl
  have s1 : ((l.map fun c => S [c]).map (·.length)).sum = l.length := by
    rw [List.map_map]
    clear e h
    induction l with
    | nil => rfl
    | cons c l ih =>
      rw [List.map_cons, List.sum_cons, ih, List.length_cons]
      show 1 + l.length = _
      omega
  rw [if_pos (by rw [l0, s1]; exact decide_eq_true (by omega)), join_S]
end K40
end
section
set_option maxRecDepth 100000
set_option maxHeartbeats 1000000
namespace K40
open PySem DL L2
variable {ρ ρ' ρ1 ρ2 : DL.Env} {d a b z : D} {st st' : Draw} {n m : Nat}
theorem takeV {i m : Nat} {nA : MA} {st0 : Draw} (h0 : ρ[i]? = some (.drw st0)) (ha : EvAV nA ρ ρ1 [.int (m : Nat)]) (h1 : ρ1[i]? = some (.drw st)) (h : DOk n st) (hn : n ≤ 1000000) (hm0 : 0 < m) (hm : m < 1000000000) : ∃ st' k, EvV (xCall [true, false] F__law_take (aCons (xVar i) nA)) ρ (ρ1.set i (.drw st')) (.int (k : Nat)) ∧ k < m ∧ DOk (n + 1) st' := by
  obtain ⟨st', k, e, hk, q⟩ := take_ok h hn hm0 hm
  exact ⟨st', k, evV_callD h0 ha h1 rfl e, hk, q⟩
theorem pickV {i : Nat} {L : List D} {nA : MA} {st0 : Draw} (h0 : ρ[i]? = some (.drw st0)) (ha : EvAV nA ρ ρ1 [.lst L]) (h1 : ρ1[i]? = some (.drw st)) (h : DOk n st) (hn : n ≤ 1000000) (hL : L ≠ []) (hm : L.length ≤ 1000) : ∃ st' x, EvV (xCall [true, false] F__law_pick (aCons (xVar i) nA)) ρ (ρ1.set i (.drw st')) x ∧ x ∈ L ∧ DOk (n + 1) st' := by
  obtain ⟨st', x, e, hx, q⟩ := pick_ok h hn hL (by omega)
  exact ⟨st', x, evV_callD h0 ha h1 rfl e, hx, q⟩
structure RS (rs : List Rw) : Prop where
  rows : ∀ (p : Nat) (r : Rw), rs[p]? = some r → okR p r
  short : ∀ s, Rw.say s ∈ rs → s.length ≤ 3
theorem RS.snoc {rs : List Rw} {r : Rw} (h : RS rs) (h1 : okR rs.length r) (h2 : ∀ s, r = .say s → s.length ≤ 3) : RS (rs ++ [r]) where
  rows := fun p x hx => by
    by_cases hp : p < rs.length
    · rw [List.getElem?_append_left hp] at hx
      exact h.rows p x hx
    · have hq := (List.getElem?_eq_some_iff.mp hx).1
      rw [List.length_append] at hq
      have : p = rs.length := by simp at hq; omega
      subst this
      rw [List.getElem?_append_right (Nat.le_refl _), Nat.sub_self] at hx
      cases hx
      exact h1
  short := fun s hs => by
    rcases List.mem_append.mp hs with hs | hs
    · exact h.short s hs
    · exact h2 s (List.mem_singleton.mp hs).symm
abbrev SE (st : Draw) (many : Nat) (L : List Nat) (rs : List Rw) (s4 : Sl) : DL.Env := [.drw st, .sh (.int (many : Nat)), .sh (.str (S L)), .own (rs.map rwD), s4, .emp]
theorem okW_of {L l : List Nat} (hL : okW L = true) (h : ∀ c ∈ l, c ∈ L) : okW l = true := by
  unfold okW at *
  rw [List.all_eq_true] at *
  exact fun c hc => hL c (h c hc)
theorem say_ok {st : Draw} {many i : Nat} {L : List Nat} {rs : List Rw} (hd : DOk n st) (hn : n ≤ 800000) (hL0 : L ≠ []) (hL1 : L.length ≤ 1000) (hL : okW L = true) (hl : rs.length = i) (hi : i < 1000) (hr : RS rs) :
    ∃ st' l, sDrop (xApp 3 (xTup (aCons (xC (.str "say")) (aCons (xMeS gJoin (xC (.str "")) (aCons x__law_short_1 aNil)) aNil)))) (SE st many L rs (.sh (.int (i : Nat)))) = .ok (.nx (SE st' many L (rs ++ [.say l]) (.sh (.int (i : Nat))))) ∧ DOk (n + 5) st' ∧ RS (rs ++ [.say l]) := by
  have la : EvAV (aCons (xLst (aCons (xC (.int 0)) (aCons (xC (.int 1)) (aCons (xC (.int 2)) (aCons (xC (.int 3)) (aCons (xC (.int 3)) aNil)))))) aNil) (SE st many L rs (.sh (.int (i : Nat)))) (SE st many L rs (.sh (.int (i : Nat)))) [.lst [.int 0, .int 1, .int 2, .int 3, .int 3]] := evAV_cons (evV_lst (evAV_cons evV_c (evAV_cons evV_c (evAV_cons evV_c (evAV_cons evV_c (evAV_cons evV_c evAV_nil))))) sz_5) evAV_nil
  obtain ⟨st1, x, e1, hx, d1⟩ := pickV (i := 0) rfl la rfl hd (by omega) (by simp) (by simp)
  obtain ⟨k, hk, rfl⟩ : ∃ k : Nat, k ≤ 3 ∧ x = .int (k : Nat) := by
    simp only [List.mem_cons, List.not_mem_nil, or_false] at hx
    rcases hx with rfl | rfl | rfl | rfl | rfl
    · exact ⟨0, by omega, rfl⟩
    · exact ⟨1, by omega, rfl⟩
    · exact ⟨2, by omega, rfl⟩
    · exact ⟨3, by omega, rfl⟩
    · exact ⟨3, by omega, rfl⟩
  have e2 := rngE (evAV_cons e1 evAV_nil) (small_i (by omega) (by omega))
  obtain ⟨l, st2, e3, hll, hlc, d2⟩ := letters_lc (mg := mName 5) (me := e__law_short_1) (vs := [5]) (ρs := fun st => [.drw st, .sh (.int (many : Nat)), .sh (.str (S L)), .own (rs.map rwD), .sh (.int (i : Nat)), .emp]) hL0 hL1 (fun st st' x c e => by
    refine ⟨[.drw st, .sh (.int (many : Nat)), .sh (.str (S L)), .own (rs.map rwD), .sh (.int (i : Nat)), .sh x], [.drw st', .sh (.int (many : Nat)), .sh (.str (S L)), .own (rs.map rwD), .sh (.int (i : Nat)), .sh x], rfl, ?_, rfl⟩
    exact callD_eq (i := 0) rfl (evAV_cons (evV_var (i := 2) rfl) evAV_nil) rfl rfl e) (ds := (List.range ((k : Nat) : Int).toNat).map fun (i : Nat) => D.int (0 + (i : Int))) d1 (by simp; omega)
  have hlk : l.length = k := by rw [hll]; simp
  have e4 := lcV (vs := [5]) (ρ2 := SE st2 many L rs (.sh (.int (i : Nat)))) e2 e3 (by rfl)
  have e5 : EvV (xTup (aCons (xC (.str "say")) (aCons (xMeS gJoin (xC (.str "")) (aCons x__law_short_1 aNil)) aNil))) (SE st many L rs (.sh (.int (i : Nat)))) (SE st2 many L rs (.sh (.int (i : Nat)))) (rwD (.say l)) :=
    evV_tup (evAV_cons evV_c (evAV_cons (evV_meS evV_c (evAV_cons (evV_own e4) evAV_nil) (join_ok (by omega))) evAV_nil)) sz_2
  refine ⟨st2, l, ?_, d2.to (by simp; omega), hr.snoc ⟨okW_of hL hlc, by omega⟩ fun s hs => by cases hs; omega⟩
  refine (appV ⟨_, rfl⟩ e5 rfl (by rw [List.length_map]; omega)).trans ?_
  show _ = R.ok (Out.nx [_, _, _, Sl.own ((rs ++ [Rw.say l]).map rwD), _, _])
  rw [List.map_append]
  rfl
theorem min4 {i : Nat} : gMin2 [.int (i : Nat), .int 4] = some (.sh (.int ((min i 4 : Nat) : Int))) := min_Z i 4
theorem then_ok {st : Draw} {many i : Nat} {L : List Nat} {rs : List Rw} (hd : DOk n st) (hn : n ≤ 800000) (hl : rs.length = i) (hi : i < 1000) (hi2 : 2 ≤ i) (hr : RS rs) :
    ∃ st' p q, sDrop (xApp 3 (xTup (aCons (xC (.str "then")) (aCons (xOp DL.gSub (xOp DL.gSub (xVar 4) (xC (.int 1))) (xCall [true, false] F__law_take (aCons (xVar 0) (aCons (xCB gMin2 (aCons (xVar 4) (aCons (xC (.int 4)) aNil))) aNil)))) (aCons (xOp DL.gSub (xOp DL.gSub (xVar 4) (xC (.int 1))) (xCall [true, false] F__law_take (aCons (xVar 0) (aCons (xCB gMin2 (aCons (xVar 4) (aCons (xC (.int 4)) aNil))) aNil)))) aNil))))) (SE st many L rs (.sh (.int (i : Nat)))) = .ok (.nx (SE st' many L (rs ++ [.thn p q]) (.sh (.int (i : Nat))))) ∧ DOk (n + 5) st' ∧ RS (rs ++ [.thn p q]) := by
  have ar : ∀ st, EvAV (aCons (xCB gMin2 (aCons (xVar 4) (aCons (xC (.int 4)) aNil))) aNil) (SE st many L rs (.sh (.int (i : Nat)))) (SE st many L rs (.sh (.int (i : Nat)))) [.int ((min i 4 : Nat) : Int)] := fun st => evAV_cons (evV_cb (evAV_cons (evV_var rfl) (evAV_cons evV_c evAV_nil)) min4) evAV_nil
  obtain ⟨st1, k1, e1, h1, d1⟩ := takeV (i := 0) rfl (ar st) rfl hd (by omega) (by omega) (by omega)
  obtain ⟨st2, k2, e2, h2, d2⟩ := takeV (i := 0) rfl (ar st1) rfl d1 (by omega) (by omega) (by omega)
  have f1 : EvV (xOp DL.gSub (xOp DL.gSub (xVar 4) (xC (.int 1))) (xCall [true, false] F__law_take (aCons (xVar 0) (aCons (xCB gMin2 (aCons (xVar 4) (aCons (xC (.int 4)) aNil))) aNil)))) (SE st many L rs (.sh (.int (i : Nat)))) (SE st1 many L rs (.sh (.int (i : Nat)))) (.int ((i - 1 - k1 : Nat) : Int)) :=
    evV_op (evV_op (evV_var (i := 4) rfl) (evV_c (d := .int 1)) (gSub_int _ _)) e1 (by rw [gSub_int]; congr 3; omega)
  have f2 : EvV (xOp DL.gSub (xOp DL.gSub (xVar 4) (xC (.int 1))) (xCall [true, false] F__law_take (aCons (xVar 0) (aCons (xCB gMin2 (aCons (xVar 4) (aCons (xC (.int 4)) aNil))) aNil)))) (SE st1 many L rs (.sh (.int (i : Nat)))) (SE st2 many L rs (.sh (.int (i : Nat)))) (.int ((i - 1 - k2 : Nat) : Int)) :=
    evV_op (evV_op (evV_var (i := 4) rfl) (evV_c (d := .int 1)) (gSub_int _ _)) e2 (by rw [gSub_int]; congr 3; omega)
  refine ⟨st2, i - 1 - k1, i - 1 - k2, ?_, d2.to (by omega), hr.snoc ⟨by omega, by omega⟩ fun s hs => nomatch hs⟩
  refine (appV ⟨_, rfl⟩ (evV_tup (evAV_cons (evV_c (d := .str "then")) (evAV_cons f1 (evAV_cons f2 evAV_nil))) sz_3) rfl (by rw [List.length_map]; omega)).trans ?_
  show _ = R.ok (Out.nx [_, _, _, Sl.own ((rs ++ [Rw.thn (i - 1 - k1) (i - 1 - k2)]).map rwD), _, _])
  rw [List.map_append]
  rfl
theorem row_drawn {st : Draw} {many i : Nat} {L : List Nat} {rs : List Rw} (hd : DOk n st) (hn : n ≤ 700000) (hL0 : L ≠ []) (hL1 : L.length ≤ 1000) (hL : okW L = true) (hl : rs.length = i) (hi : i < 1000) (hr : RS rs) :
    ∃ st' r, b__law_short_1 (SE st many L rs (.sh (.int (i : Nat)))) = .ok (.nx (SE st' many L (rs ++ [r]) (.sh (.int (i : Nat))))) ∧ DOk (n + 6) st' ∧ RS (rs ++ [r]) := by
  have t1 : TvD (xTest (xOp (blR gLt) (xVar 4) (xC (.int 2)))) (SE st many L rs (.sh (.int (i : Nat)))) (SE st many L rs (.sh (.int (i : Nat)))) (decide ((i : Int) < 2)) := tvD_test (evV_cmp (evV_var rfl) evV_c (gLt_int _ _))
  unfold b__law_short_1
  by_cases h2 : i < 2
  · rw [decide_eq_true (by omega)] at t1
    obtain ⟨st', l, e, d', r'⟩ := say_ok (many := many) hd (by omega) hL0 hL1 hL hl hi hr
    exact ⟨st', .say l, (ifD_yes (tvD_orT t1)).trans e, d'.to (by omega), r'⟩
  · rw [decide_eq_false (by omega)] at t1
    obtain ⟨st1, k, e1, hk, d1⟩ := takeV (i := 0) (m := 6) (ρ := SE st many L rs (.sh (.int (i : Nat)))) rfl (evAV_cons (evV_c (d := .int 6)) evAV_nil) rfl hd (by omega) (by omega) (by omega)
    have t2 := tvD_orF t1 (tvD_test (evV_cmp e1 (evV_c (d := .int 0)) (gEq_int _ _)))
    by_cases hk0 : k = 0
    · rw [decide_eq_true (by omega)] at t2
      obtain ⟨st', l, e, d', r'⟩ := say_ok (st := st1) (many := many) d1 (by omega) hL0 hL1 hL hl hi hr
      exact ⟨st', .say l, (ifD_yes t2).trans e, d'.to (by omega), r'⟩
    · rw [decide_eq_false (by omega)] at t2
      obtain ⟨st', p, q, e, d', r'⟩ := then_ok (st := st1) (many := many) (L := L) d1 (by omega) hl hi (by omega) hr
      exact ⟨st', .thn p q, (ifD_no t2).trans e, d'.to (by omega), r'⟩
theorem short_drawn {st : Draw} {many : Nat} {L : List Nat} (hd : DOk n st) (hn : n ≤ 600000) (hL0 : L ≠ []) (hL1 : L.length ≤ 1000) (hL : okW L = true) (hm : many ≤ 100) :
    ∃ st' rs x, F__law_short [.drw st, .sh (.int (many : Nat)), .sh (.str (S L))] = .ok (.sh (shD rs), .drw st' :: x) ∧ rs.length = many ∧ RS rs ∧ DOk (n + 6 * many) st' := by
  obtain ⟨ρf, e, st', rs, s4, hs, hl, hr, d'⟩ := for_inv0 (mg := mName 4) (mb := b__law_short_1) (ds := (List.range many).map fun (i : Nat) => D.int (0 + (i : Int))) (ρ := SE st many L [] .emp)
    (fun i ρ => ∃ st' rs s4, ρ = SE st' many L rs s4 ∧ rs.length = i ∧ RS rs ∧ DOk (n + 6 * i) st') ⟨st, [], .emp, rfl, rfl, ⟨fun p r h => by simp at h, fun s h => by simp at h⟩, hd⟩ fun i d ρ hd hi => by
    obtain ⟨st', rs, s4, rfl, hl, hr, d'⟩ := hi
    have hin : i < many := by simpa using (List.getElem?_eq_some_iff.mp hd).1
    rw [List.getElem?_map, List.getElem?_range hin] at hd
    obtain rfl : D.int (0 + (i : Int)) = d := Option.some.inj hd
    rw [Int.zero_add]
    obtain ⟨st2, r, e2, d2, r2⟩ := row_drawn (st := st') (many := many) (L := L) (rs := rs) d' (by omega) hL0 hL1 hL hl (by omega) hr
    exact ⟨_, _, rfl, e2, st2, rs ++ [r], .sh (.int (i : Nat)), rfl, by rw [List.length_append, hl]; rfl, r2, d2.to (by omega)⟩
  have len : ((List.range many).map fun (i : Nat) => D.int (0 + (i : Int))).length = many := by simp
  rw [len] at hl d'
  subst hs
  have hi := rngE (ρ := SE st many L [] .emp) (evAV_cons (evV_var (i := 1) rfl) evAV_nil) (small_i (i := (many : Int)) (by omega) (by omega))
  rw [Int.toNat_natCast] at hi
  have run : m__law_short [.drw st, .sh (.int (many : Nat)), .sh (.str (S L)), .emp, .emp, .emp] = .ok (.rt (.sh (shD rs)) (SE st' many L rs s4)) := by
    unfold m__law_short
    refine (seq_n (ρ' := SE st many L [] .emp) rfl).trans ?_
    refine (seq_n (forV hi e)).trans ?_
    have r := retV (evV_tup (ρ := SE st' many L rs s4) (ρ1 := SE st' many L rs s4) (evAV_cons (evV_c (d := .str "short")) (evAV_cons (evV_cbP (g := gTuple) (z := .tup (rs.map rwD)) (evA_cons (ev_varO (i := 3) rfl) evA_nil) rfl) evAV_nil)) sz_2) (fun _ z => nomatch z)
    exact r
  refine ⟨st', rs, [.sh (.int (many : Nat)), .sh (.str (S L))], ?_, hl, hr, d'⟩
  unfold F__law_short runF runB
  have run : m__law_short ([.drw st, .sh (.int (many : Nat)), .sh (.str (S L))] ++ List.replicate 3 .emp) = _ := run
  rw [if_pos (show [Sl.drw st, Sl.sh (D.int (many : Nat)), Sl.sh (D.str (S L))].length = 3 from rfl), run]
  rfl
end K40
end
section
set_option maxRecDepth 100000
set_option maxHeartbeats 1000000
namespace K40
open PySem DL L2
variable {ρ ρ' ρ1 ρ2 : DL.Env} {d a b z : D} {st st' : Draw} {n m : Nat}
theorem RS.wf {rs : List Rw} (h : RS rs) (h1 : 1 ≤ rs.length) (h2 : rs.length ≤ 4000) : WF rs := ⟨h1, h2, h.rows⟩
theorem getD_mem {P : List Nat → Prop} {l : List (List Nat)} {i : Nat} (h : ∀ t ∈ l, P t) (h0 : P []) : P (l.getD i []) := by
  rw [List.getD_eq_getElem?_getD]
  cases e : l[i]? with
  | none => exact h0
  | some t => exact h t (List.mem_of_getElem? e)
theorem texts_inv {rs : List Rw} {P : Nat → List Nat → Prop} (h0 : ∀ i, P i []) (hs : ∀ i s, Rw.say s ∈ rs → P i s) (hm : ∀ i t, P i t → P (i + 1) t) (ha : ∀ i x y, P i x → P i y → P (i + 1) (x ++ y)) : ∀ i, i ≤ rs.length → ∀ t ∈ texts (rs.take i), P i t := by
  intro i
  induction i with
  | zero => intro _ t ht; simp [texts, txs] at ht
  | succ i ih =>
    intro hi t ht
    have ih := ih (by omega)
    obtain ⟨r, hr⟩ : ∃ r, rs[i]? = some r := ⟨rs[i], by simp⟩
    rw [texts_take hr] at ht
    rcases List.mem_append.mp ht with ht | ht
    · exact hm i t (ih t ht)
    · rw [List.mem_singleton.mp ht]
      cases r with
      | say s => exact hs _ s (List.mem_of_getElem? hr)
      | thn p q => exact ha i _ _ (getD_mem ih (h0 i)) (getD_mem ih (h0 i))
theorem texts_size {rs : List Rw} (h : RS rs) (hl : rs.length ≤ 14) : ∀ t ∈ texts rs, t.length ≤ 400000 := by
  intro t ht
  have := texts_inv (rs := rs) (P := fun i t => t.length ≤ 3 * 2 ^ i) (fun i => Nat.zero_le _) (fun i s hs => by
    have := h.short s hs
    have : 0 < 2 ^ i := Nat.pow_pos (by omega)
    omega) (fun i t ht => by rw [Nat.pow_succ]; omega) (fun i x y hx hy => by rw [List.length_append, Nat.pow_succ]; omega) rs.length (Nat.le_refl _) t (by rw [List.take_length]; exact ht)
  have h2 : 2 ^ rs.length ≤ 2 ^ 14 := Nat.pow_le_pow_right (by omega) hl
  have h3 : (2 : Nat) ^ 14 = 16384 := by decide
  omega
theorem okW_app {x y : List Nat} (hx : okW x = true) (hy : okW y = true) : okW (x ++ y) = true := by
  unfold okW at *
  rw [List.all_append, hx, hy]
  rfl
theorem texts_okW {rs : List Rw} (h : RS rs) : ∀ t ∈ texts rs, okW t = true := by
  intro t ht
  exact texts_inv (rs := rs) (P := fun _ t => okW t = true) (fun _ => rfl) (fun _ s hs => by
    obtain ⟨i, hi⟩ := List.getElem?_of_mem hs
    exact (h.rows i _ hi).1) (fun _ _ h => h) (fun _ _ _ => okW_app) rs.length (Nat.le_refl _) t (by rw [List.take_length]; exact ht)
theorem said_mem {rs : List Rw} (h : 1 ≤ rs.length) : said rs ∈ texts rs := by
  obtain ⟨k, x, hk⟩ := split_last (l := texts rs) (by rw [texts_len]; omega)
  unfold said
  rw [hk, lastD]
  simp
theorem lengths_last {rs : List Rw} (h : WF rs) (hx : ρ[2]? = some (.sh (shD rs))) : EvV (xOp gIx (xCall [false] F__law_lengths (aCons (xVar 2) aNil)) (xUn gNeg (xC (.int 1)))) ρ ρ (.int ((said rs).length : Nat)) := by
  obtain ⟨q, e⟩ := lengths_ok h
  refine evV_op (evV_own (callV_eq (bs := [false]) (evAV_cons (evV_var hx) evAV_nil) rfl e)) (evV_un (g := gNeg) (z := .int (-1)) evV_c rfl) ?_
  have one := h.one
  obtain ⟨k, x, hk⟩ := split_last (l := texts rs) (by rw [texts_len]; omega)
  have hsaid : said rs = x := by unfold said; rw [hk, lastD]
  rw [hsaid, hk, List.map_append]
  show (atI _ (-1)).map Vl.sh = _
  rw [List.map_cons, List.map_nil, atLast]
  rfl
theorem sl_last (l : List D) : gSl (.tup l) none (some (-1)) = some (.sh (.tup l.dropLast)) := by
  have e : cutD l none (some (-1)) = l.dropLast := by
    unfold cutD
    rw [HT.sIx_none, List.drop_zero, Nat.sub_zero]
    have : HT.sIx l.length l.length (some (-1)) = l.length - 1 := by
      show (if (-1 : Int) < 0 then ((-1 : Int) + (l.length : Int)).toNat else min ((-1 : Int).toNat) l.length) = _
      rw [if_pos (by omega)]
      omega
    rw [this, List.dropLast_eq_take]
  unfold gSl gSlL gSlT
  rw [Option.none_or]
  show (some (Vl.sh (.tup (cutD l none (some (-1)))))).or _ = _
  rw [e]
  rfl
theorem RS.drop {rs : List Rw} (h : RS rs) : RS rs.dropLast where
  rows := fun p r hr => by
    rw [List.getElem?_dropLast] at hr
    split at hr
    · exact h.rows p r hr
    · cases hr
  short := fun s hs => h.short s (List.dropLast_subset _ hs)
theorem cut_ok {st : Draw} : ∀ (j : Nat) (rs : List Rw), RS rs → 1 ≤ rs.length → rs.length ≤ j + 1 → rs.length ≤ 14 → ∃ rs', RS rs' ∧ 1 ≤ rs'.length ∧ rs'.length ≤ 14 ∧ (said rs').length ≤ 300 ∧
    whLoop (xTest (xOp (blR gGt) (xOp gIx (xCall [false] F__law_lengths (aCons (xVar 2) aNil)) (xUn gNeg (xC (.int 1)))) (xVar 1))) b__law_small_short_1 (j + 1) [.drw st, .sh (.int 300), .sh (shD rs)] = .ok (.nx [.drw st, .sh (.int 300), .sh (shD rs')]) := by
  intro j
  induction j with
  | zero =>
    intro rs h h1 h2 h3
    have hx : (said rs).length ≤ 300 := by
      match rs, h1, h2 with
      | [r], _, _ =>
        have ho := h.rows 0 r rfl
        cases r with
        | say s =>
          have := h.short s (by simp)
          show s.length ≤ 300
          omega
        | thn i j => exact absurd ho.1 (by omega)
    have t := tvD_test (evV_cmp (lengths_last (ρ := [.drw st, .sh (.int 300), .sh (shD rs)]) (h.wf h1 (by omega)) rfl) (evV_var (i := 1) rfl) (gGt_int _ _))
    rw [decide_eq_false (by omega)] at t
    exact ⟨rs, h, h1, h3, hx, wh_out t⟩
  | succ j ih =>
    intro rs h h1 h2 h3
    have t := tvD_test (evV_cmp (lengths_last (ρ := [.drw st, .sh (.int 300), .sh (shD rs)]) (h.wf h1 (by omega)) rfl) (evV_var (i := 1) rfl) (gGt_int _ _))
    by_cases hx : (said rs).length ≤ 300
    · rw [decide_eq_false (by omega)] at t
      exact ⟨rs, h, h1, h3, hx, wh_out t⟩
    · rw [decide_eq_true (by omega)] at t
      have h4 : 2 ≤ rs.length := by
        match rs, h1 with
        | [r], _ =>
          have ho := h.rows 0 r rfl
          cases r with
          | say s =>
            have := h.short s (by simp)
            have hx : ¬ s.length ≤ 300 := hx
            omega
          | thn i j => exact absurd ho.1 (by omega)
        | r :: r2 :: rs, _ => simp
      obtain ⟨rs', k1, k2, k3, k4, k5⟩ := ih rs.dropLast h.drop (by rw [List.length_dropLast]; omega) (by rw [List.length_dropLast]; omega) (by rw [List.length_dropLast]; omega)
      refine ⟨rs', k1, k2, k3, k4, ?_⟩
      rw [wh_go t (ρ1 := [.drw st, .sh (.int 300), .sh (shD rs.dropLast)]) ?_]
      · exact k5
      · unfold b__law_small_short_1
        have e : (rs.map rwD).dropLast = rs.dropLast.map rwD := by rw [List.map_dropLast]
        refine (asgV (d := shD rs.dropLast) (evV_tup (evAV_cons evV_c (evAV_cons (evV_sl (evV_op (evV_var rfl) evV_c (short1 rs)) rfl (ovl_partV (evV_un (g := gNeg) (z := .int (-1)) evV_c rfl)) (by rw [sl_last, e])) evAV_nil)) sz_2) (fun _ z => nomatch z) (by simp)).trans rfl
theorem str_lits : D.str "a" = .str (S [97]) ∧ D.str "ab" = .str (S [97, 98]) ∧ D.str "abc" = .str (S [97, 98, 99]) ∧ D.str "aab" = .str (S [97, 97, 98]) := ⟨by kernel_rfl, by kernel_rfl, by kernel_rfl, by kernel_rfl⟩
theorem small_ok {st : Draw} (hd : DOk n st) (hn : n ≤ 500000) : ∃ st' rs x, F__law_small_short [.drw st, .sh (.int 300)] = .ok (.sh (.tup [shD rs, .str (S (said rs))]), .drw st' :: x) ∧ WF rs ∧ (said rs).length ≤ 300 ∧ okW (said rs) = true ∧ DOk (n + 100) st' := by
  obtain ⟨st1, x1, e1, hx1, d1⟩ := pickV (i := 0) (ρ := [.drw st, .sh (.int 300), .emp]) (nA := aCons (xLst (aCons (xC (.int 1)) (aCons (xC (.int 2)) (aCons (xC (.int 5)) (aCons (xC (.int 8)) (aCons (xC (.int 10)) (aCons (xC (.int 12)) (aCons (xC (.int 14)) aNil)))))))) aNil) rfl (evAV_cons (evV_lst (evAV_cons evV_c (evAV_cons evV_c (evAV_cons evV_c (evAV_cons evV_c (evAV_cons evV_c (evAV_cons evV_c (evAV_cons evV_c evAV_nil))))))) sz_7) evAV_nil) rfl hd (by omega) (by simp) (by simp)
  obtain ⟨many, hm1, hm2, rfl⟩ : ∃ k : Nat, 1 ≤ k ∧ k ≤ 14 ∧ x1 = .int (k : Nat) := by
    simp only [List.mem_cons, List.not_mem_nil, or_false] at hx1
    rcases hx1 with rfl | rfl | rfl | rfl | rfl | rfl | rfl
    · exact ⟨1, by omega, by omega, rfl⟩
    · exact ⟨2, by omega, by omega, rfl⟩
    · exact ⟨5, by omega, by omega, rfl⟩
    · exact ⟨8, by omega, by omega, rfl⟩
    · exact ⟨10, by omega, by omega, rfl⟩
    · exact ⟨12, by omega, by omega, rfl⟩
    · exact ⟨14, by omega, by omega, rfl⟩
  obtain ⟨st2, x2, e2, hx2, d2⟩ := pickV (i := 0) (ρ := [.drw st1, .sh (.int 300), .emp]) (nA := aCons (xLst (aCons (xC (.str "a")) (aCons (xC (.str "ab")) (aCons (xC (.str "abc")) (aCons (xC (.str "aab")) aNil))))) aNil) rfl (evAV_cons (evV_lst (evAV_cons evV_c (evAV_cons evV_c (evAV_cons evV_c (evAV_cons evV_c evAV_nil)))) sz_4) evAV_nil) rfl d1 (by omega) (by simp) (by simp)
  obtain ⟨L, hL0, hL1, hL2, rfl⟩ : ∃ L : List Nat, L ≠ [] ∧ L.length ≤ 1000 ∧ okW L = true ∧ x2 = .str (S L) := by
    obtain ⟨s1, s2, s3, s4⟩ := str_lits
    simp only [List.mem_cons, List.not_mem_nil, or_false] at hx2
    rcases hx2 with rfl | rfl | rfl | rfl
    · exact ⟨_, by simp, by simp, by decide, s1⟩
    · exact ⟨_, by simp, by simp, by decide, s2⟩
    · exact ⟨_, by simp, by simp, by decide, s3⟩
    · exact ⟨_, by simp, by simp, by decide, s4⟩
  obtain ⟨st3, rs, x3, e3, hl, hr, d3⟩ := short_drawn (many := many) (L := L) d2 (by omega) hL0 hL1 hL2 (by omega)
  have e4 := callD_eq (bs := [true, false, false]) (F := F__law_short) (i := 0) (ρ := [.drw st, .sh (.int 300), .emp]) (st := st2) rfl (evAV_cons e1 (evAV_cons e2 evAV_nil)) rfl rfl e3
  obtain ⟨rs', r1, r2, r3, r4, r5⟩ := cut_ok (st := st3) 99 rs hr (by omega) (by omega) (by omega)
  have wf := r1.wf r2 (by omega)
  have tx := text_ok wf (texts_size r1 r3)
  have run : m__law_small_short [.drw st, .sh (.int 300), .emp] = .ok (.rt (.sh (.tup [shD rs', .str (S (said rs'))])) [.drw st3, .sh (.int 300), .sh (shD rs')]) := by
    unfold m__law_small_short
    refine (seq_n (ρ' := [.drw st3, .sh (.int 300), .sh (shD rs)]) (asgV_sh e4 (by simp))).trans ?_
    refine (seq_n r5).trans ?_
    exact retV (evV_tup (evAV_cons (evV_var rfl) (evAV_cons (evV_call (bs := [false]) (evAV_cons (evV_var rfl) evAV_nil) rfl tx) evAV_nil)) sz_2) (fun _ z => nomatch z)
  refine ⟨st3, rs', [.sh (.int 300)], ?_, wf, r4, texts_okW r1 _ (said_mem r2), d3.to (by omega)⟩
  unfold F__law_small_short runF runB
  have run : m__law_small_short ([.drw st, .sh (.int 300)] ++ List.replicate 1 .emp) = _ := run
  rw [if_pos (show [Sl.drw st, Sl.sh (D.int 300)].length = 2 from rfl), run]
  rfl
end K40
end
section
set_option maxRecDepth 100000
set_option maxHeartbeats 1000000
namespace K40
open PySem DL L2
variable {ρ ρ' ρ1 ρ2 : DL.Env} {d a b z : D} {st st' : Draw} {n m : Nat}
def isNo : R (Vl × List Sl) → Bool
  | .ok (.sh (.bl false), _) => true
  | _ => false
theorem isNo_ok {r : R (Vl × List Sl)} (h : isNo r = true) : ∃ l, r = .ok (.sh (.bl false), l) := by
  unfold isNo at h
  split at h
  · exact ⟨_, rfl⟩
  · cases h
def sayA : D := .tup [.str "say", .str "a"]
def BL1 : List D := [.non, .int 5, .tup [], .str "short", .tup [.str "short"], .tup [.str "short", .tup []], .tup [.str "short", .tup [.tup [.str "say", .str "d"]]], .tup [.str "short", .tup [.tup [.str "say", .str (repS 41 "a")]]], .tup [.str "short", .tup [.tup [.str "then", .int 0, .int 0]]]]
def BL2 : List D := [.tup [.str "short", .lst [sayA]], .lst [.str "short", .tup [sayA]], .tup [.str "shorts", .tup [sayA]], .tup [.str "short", .tup [sayA, .tup [.str "then", .int 0, .int 1]]]]
def bigT : D := .tup [.str "short", .tup (List.replicate 4001 [sayA]).flatten]
def BL3 : List D := [.tup [.str "short", .tup [.tup [.str "say"]]], .tup [.str "short", .tup [sayA, .tup [.str "then", .int 0, .bl true]]], bigT, .tup [.str "short", .tup [.str "say", .str "a"]]]
def BL4 : List D := [.tup [.str "short", .tup [.tup [.str "say"]]], .tup [.str "short", .tup [sayA, .tup [.str "then", .int 0, .bl true]]], .tup [.str "short", .tup [.str "say", .str "a"]]]
theorem bad1 : ∀ x ∈ BL1, isNo (F_is_short [.sh x]) = true := by decide +kernel
theorem bad2 : ∀ x ∈ BL2, isNo (F_is_short [.sh x]) = true := by decide +kernel
theorem bad4 : ∀ x ∈ BL4, isNo (F_is_short [.sh x]) = true := by decide +kernel
theorem bad_big : ∃ l, F_is_short [.sh bigT] = .ok (.sh (.bl false), l) := by
  refine isF_of rfl ?_
  unfold m_is_short
  have g0 : gIx bigT (.int 0) = some (.sh (.str "short")) := ix_tup (i := 0) rfl
  have g1 : gIx bigT (.int 1) = some (.sh (.tup (List.replicate 4001 [sayA]).flatten)) := ix_tup (i := 1) rfl
  have gl : gLen [.tup (List.replicate 4001 [sayA]).flatten] = some (.sh (.int (4001 : Nat))) := by
    show some (Vl.sh (D.int (((List.replicate 4001 [sayA]).flatten).length : Nat))) = _
    rw [List.length_flatten, List.map_replicate]
    simp
  refine ret_seq (ρ' := [.sh bigT, .emp, .emp]) ((if_no (tvF (tv_or (tv_not (tv_truB (k := true) (evS_cb (evA_cons (evS_var rfl).ev (evA_cons evS_c.ev evA_nil)) rfl).ev)) fun _ => tv_or (tv_test (k := false) (evS_cmp (evS_cb (evA_cons (evS_var rfl).ev evA_nil) rfl).ev evS_c.ev rfl).ev) fun _ => tv_or (tv_not (tv_truB (k := true) (evS_cb (evA_cons (evS_op (evS_var rfl).ev evS_c.ev g0).ev (evA_cons evS_c.ev evA_nil)) rfl).ev)) fun _ => tv_test (k := false) (evS_cmp (evS_op (evS_var rfl).ev evS_c.ev g0).ev evS_c.ev ne_short).ev) rfl)).trans rfl) ?_
  refine ret_yes (tvT (tv_or (tv_not (tv_truB (k := true) (evS_cb (evA_cons (evS_op (evS_var rfl).ev evS_c.ev g1).ev (evA_cons evS_c.ev evA_nil)) rfl).ev)) fun _ => tv_not (tv_test (evS_chain evS_c.ev (evS_cb (evA_cons (evS_op (evS_var rfl).ev evS_c.ev g1).ev evA_nil) gl).ev evS_c.ev (gLe_int _ _) (gLe_int _ _)).ev)) ?_) (ret_of evS_c bl_lst)
  rw [decide_eq_false (by omega : ¬ ((4001 : Nat) : Int) ≤ 4000), Bool.and_false]
  rfl
def BadS (x : D) : Prop := ∃ l, F_is_short [.sh x] = .ok (.sh (.bl false), l)
theorem bads_all : ∀ x ∈ BL1 ++ BL2 ++ BL3, BadS x := by
  intro x hx
  rcases List.mem_append.mp hx with hx | hx
  · rcases List.mem_append.mp hx with hx | hx
    · exact isNo_ok (bad1 x hx)
    · exact isNo_ok (bad2 x hx)
  · have h4 := bad4 x
    unfold BL3 at hx
    simp only [List.mem_cons, List.not_mem_nil, or_false] at hx
    rcases hx with rfl | rfl | rfl | rfl
    · exact isNo_ok (h4 (by simp [BL4]))
    · exact isNo_ok (h4 (by simp [BL4]))
    · exact bad_big
    · exact isNo_ok (h4 (by simp [BL4]))
def LBA : MX := (xOp gAdd (xVar 1) (xLst (aCons (xTup (aCons (xC (.str "short")) (aCons (xTup (aCons (xTup (aCons (xC (.str "say")) aNil)) aNil)) aNil))) (aCons (xTup (aCons (xC (.str "short")) (aCons (xTup (aCons (xTup (aCons (xC (.str "say")) (aCons (xC (.str "a")) aNil))) (aCons (xTup (aCons (xC (.str "then")) (aCons (xC (.int 0)) (aCons (xC (.bl true)) aNil)))) aNil))) aNil))) (aCons (xTup (aCons (xC (.str "short")) (aCons (xOp gMulX (xTup (aCons (xTup (aCons (xC (.str "say")) (aCons (xC (.str "a")) aNil))) aNil)) (xC (.int 4001))) aNil))) (aCons (xTup (aCons (xC (.str "short")) (aCons (xTup (aCons (xC (.str "say")) (aCons (xC (.str "a")) aNil))) aNil))) aNil))))))
theorem badshort_ok {st : Draw} (hd : DOk n st) (hn : n ≤ 900000) : ∃ st' x l, F__law_bad_short [.drw st] = .ok (.sh x, .drw st' :: l) ∧ BadS x ∧ DOk (n + 1) st' := by
  have a3 : EvV LBA [.drw st, .own (BL1 ++ BL2)] [.drw st, .own (BL1 ++ BL2)] (.lst (BL1 ++ BL2 ++ BL3)) := by
    refine evV_own ?_
    kernel_rfl
  obtain ⟨st1, x, e, hx, d1⟩ := pick_ok hd (by omega) (L := BL1 ++ BL2 ++ BL3) (by simp [BL1]) (by simp [BL1, BL2, BL3])
  have c := callD_eq (bs := [true, false]) (F := F__law_pick) (i := 0) (ρ := [.drw st, .own (BL1 ++ BL2)]) rfl (evAV_cons a3 evAV_nil) rfl rfl e
  refine ⟨st1, x, [], ?_, bads_all x hx, d1⟩
  have e1 : (sAsg 1 (xLst (aCons (xC .non) (aCons (xC (.int 5)) (aCons (xTup aNil) (aCons (xC (.str "short")) (aCons (xTup (aCons (xC (.str "short")) aNil)) (aCons (xTup (aCons (xC (.str "short")) (aCons (xTup aNil) aNil))) (aCons (xTup (aCons (xC (.str "short")) (aCons (xTup (aCons (xTup (aCons (xC (.str "say")) (aCons (xC (.str "d")) aNil))) aNil)) aNil))) (aCons (xTup (aCons (xC (.str "short")) (aCons (xTup (aCons (xTup (aCons (xC (.str "say")) (aCons (xOp gMulX (xC (.str "a")) (xC (.int 41))) aNil))) aNil)) aNil))) (aCons (xTup (aCons (xC (.str "short")) (aCons (xTup (aCons (xTup (aCons (xC (.str "then")) (aCons (xC (.int 0)) (aCons (xC (.int 0)) aNil)))) aNil)) aNil))) aNil))))))))))) [.drw st, .emp] = .ok (.nx [.drw st, .own BL1]) := by kernel_rfl
  have e2 : (sAsg 1 (xOp gAdd (xVar 1) (xLst (aCons (xTup (aCons (xC (.str "short")) (aCons (xLst (aCons (xTup (aCons (xC (.str "say")) (aCons (xC (.str "a")) aNil))) aNil)) aNil))) (aCons (xLst (aCons (xC (.str "short")) (aCons (xTup (aCons (xTup (aCons (xC (.str "say")) (aCons (xC (.str "a")) aNil))) aNil)) aNil))) (aCons (xTup (aCons (xC (.str "shorts")) (aCons (xTup (aCons (xTup (aCons (xC (.str "say")) (aCons (xC (.str "a")) aNil))) aNil)) aNil))) (aCons (xTup (aCons (xC (.str "short")) (aCons (xTup (aCons (xTup (aCons (xC (.str "say")) (aCons (xC (.str "a")) aNil))) (aCons (xTup (aCons (xC (.str "then")) (aCons (xC (.int 0)) (aCons (xC (.int 1)) aNil)))) aNil))) aNil))) aNil))))))) [.drw st, .own BL1] = .ok (.nx [.drw st, .own (BL1 ++ BL2)]) := by kernel_rfl
  have run : m__law_bad_short [.drw st, .emp] = .ok (.rt (.sh x) [.drw st1, .own (BL1 ++ BL2)]) := by
    unfold m__law_bad_short
    refine (seq_n e1).trans ((seq_n e2).trans ?_)
    unfold sRet
    have c : xCall [true, false] F__law_pick (aCons (xVar 0) (aCons LBA aNil)) [.drw st, .own (BL1 ++ BL2)] = .ok (.sh x, [.drw st1, .own (BL1 ++ BL2)]) := c
    unfold LBA at c
    rw [c, R_bind_ok]
    rfl
  unfold F__law_bad_short runF runB
  have run : m__law_bad_short ([.drw st] ++ List.replicate 1 .emp) = _ := run
  rw [if_pos (show [Sl.drw st].length = 1 from rfl), run]
  rfl
theorem exc_short {x y : D} (h : BadS x) : F_times_in [.sh x, .sh y] = .exc "BadShort" none ∧ F_first_in [.sh x, .sh y] = .exc "BadShort" none := by
  have e1 : F_need_short [.sh x] = .exc "BadShort" none := by
    refine run_exc (fix := fun i => decide (i ∈ ([0] : List Nat))) (np := 1) (nl := 0) (m := m_need_short) (as := [.sh x]) rfl ?_
    unfold m_need_short
    exact (if_yes (tvT (tv_not (tv_truB (k := false) (EvS.ev (evS_call (bs := [false]) (evAP_cons (evS_var (i := 0) rfl) evAP_nil) rfl h)))) rfl)).trans rfl
  have e2 : F_looked [.sh x, .sh y] = .exc "BadShort" none := by
    refine run_exc (fix := fun i => decide (i ∈ ([0, 1] : List Nat))) (np := 2) (nl := 2) (m := m_looked) (as := [.sh x, .sh y]) rfl ?_
    unfold m_looked
    exact seq_exc (drop_exc (call_exc (bs := [false]) (evAP_cons (evS_var (i := 0) rfl) evAP_nil) rfl e1))
  have c : ∀ ρ : DL.Env, ρ[0]? = some (.sh x) → ρ[1]? = some (.sh y) → xCall [false, false] F_looked (aCons (xVar 0) (aCons (xVar 1) aNil)) ρ = .exc "BadShort" none := fun ρ h0 h1 => call_exc (bs := [false, false]) (evAP_cons (evS_var h0) (evAP_cons (evS_var h1) evAP_nil)) rfl e2
  exact ⟨run_exc (fix := fun i => decide (i ∈ ([0, 1] : List Nat))) (np := 2) (nl := 0) (m := m_times_in) (as := [.sh x, .sh y]) rfl (ret_exc (fld_exc (c _ rfl rfl))), run_exc (fix := fun i => decide (i ∈ ([0, 1] : List Nat))) (np := 2) (nl := 0) (m := m_first_in) (as := [.sh x, .sh y]) rfl (ret_exc (fld_exc (c _ rfl rfl)))⟩
def OL : List D := [.non, .str "", .str "d", .str (repS 21 "a"), .tup [.str "a"], .int 5, .str "A"]
theorem odd_no : ∀ x ∈ OL, isNo (F_are_letters [.sh x, .sh (.int 1), .sh (.int 20)]) = true := by decide +kernel
theorem exc_word {rs : List Rw} {y : D} (h : WF rs) (hy : y ∈ OL) : F_times_in [.sh (shD rs), .sh y] = .exc "BadWord" none ∧ F_first_in [.sh (shD rs), .sh y] = .exc "BadWord" none := by
  obtain ⟨q1, n1⟩ := need_ok h
  have e1 : F_need_word [.sh y] = .exc "BadWord" none := by
    refine run_exc (fix := fun i => decide (i ∈ ([0] : List Nat))) (np := 1) (nl := 0) (m := m_need_word) (as := [.sh y]) rfl ?_
    unfold m_need_word
    exact (if_yes (tvT (tv_not (tv_truB (k := false) (EvS.ev (evS_call (bs := [false, false, false]) (evAP_cons (evS_var (i := 0) rfl) (evAP_cons evS_c (evAP_cons evS_c evAP_nil))) rfl (isNo_ok (odd_no y hy)))))) rfl)).trans rfl
  have e2 : F_looked [.sh (shD rs), .sh y] = .exc "BadWord" none := by
    refine run_exc (fix := fun i => decide (i ∈ ([0, 1] : List Nat))) (np := 2) (nl := 2) (m := m_looked) (as := [.sh (shD rs), .sh y]) rfl ?_
    unfold m_looked
    refine (seq_n (ρ' := [.sh (shD rs), .sh y, .emp, .emp]) ?_).trans ?_
    · unfold sDrop
      show R.bind (xCall [false] F_need_short (aCons (xVar 0) aNil) [.sh (shD rs), .sh y, .emp, .emp]) _ = _
      rw [call_eq (bs := [false]) (evAP_cons (evS_var rfl) evAP_nil) rfl n1]
      rfl
    exact seq_exc (drop_exc (call_exc (bs := [false]) (evAP_cons (evS_var (i := 1) rfl) evAP_nil) rfl e1))
  have c : ∀ ρ : DL.Env, ρ[0]? = some (.sh (shD rs)) → ρ[1]? = some (.sh y) → xCall [false, false] F_looked (aCons (xVar 0) (aCons (xVar 1) aNil)) ρ = .exc "BadWord" none := fun ρ h0 h1 => call_exc (bs := [false, false]) (evAP_cons (evS_var h0) (evAP_cons (evS_var h1) evAP_nil)) rfl e2
  exact ⟨run_exc (fix := fun i => decide (i ∈ ([0, 1] : List Nat))) (np := 2) (nl := 0) (m := m_times_in) (as := [.sh (shD rs), .sh y]) rfl (ret_exc (fld_exc (c _ rfl rfl))), run_exc (fix := fun i => decide (i ∈ ([0, 1] : List Nat))) (np := 2) (nl := 0) (m := m_first_in) (as := [.sh (shD rs), .sh y]) rfl (ret_exc (fld_exc (c _ rfl rfl)))⟩
end K40
end
section
set_option maxRecDepth 100000
set_option maxHeartbeats 1000000
namespace K40
open PySem DL L2
variable {ρ ρ' ρ1 ρ2 : DL.Env} {d a b : D} {st st' : Draw} {n m : Nat} {z s2 s3 s4 s5 s6 s7 s8 s9 s10 s11 s12 s13 s14 s15 s16 s17 s18 : Sl}
def LB1 : MS := (sAsg 6 (xMeS gJoin (xC (.str "")) (aCons x_law_1 aNil)))
def LB2 : MS := (sIf (xAnd (xTest (xOp (blR gNe) (xVar 4) (xC (.str "")))) (xTest (xOp (blR gEq) (xCall [true, false] F__law_take (aCons (xVar 1) (aCons (xC (.int 2)) aNil))) (xC (.int 0))))) (sSeq (sAsg 7 (xCall [true, false] F__law_take (aCons (xVar 1) (aCons (xCB gLen (aCons (xVar 4) aNil)) aNil)))) (sAsg 6 (xSl gSl (xVar 4) (oPart (xVar 7)) (oPart (xOp gAdd (xOp gAdd (xVar 7) (xC (.int 1))) (xCall [true, false] F__law_take (aCons (xVar 1) (aCons (xC (.int 20)) aNil)))))))) sNext)
def LB3 : MS := (sAsg 8 (xCall [false, false] F__law_starts (aCons (xVar 4) (aCons (xVar 6) aNil))))
def LB4 : MS := (sAsg 9 (xLst (aCons (xCB gLen (aCons (xVar 8) aNil)) (aCons (xIf (xTest (xOp (blR gNeE) (xVar 8) (xLst aNil))) (xOp gIx (xVar 8) (xC (.int 0))) (xC .non)) aNil))))
def LB5 : MS := (sIf (xTest (xOp (blR gNe) (xCB gReprs (aCons (xLst (aCons (xCall [false, false] F_times_in (aCons (xVar 3) (aCons (xVar 6) aNil))) (aCons (xCall [false, false] F_first_in (aCons (xVar 3) (aCons (xVar 6) aNil))) aNil))) aNil)) (xCB gReprs (aCons (xVar 9) aNil)))) (sRet (xC (.bl false))) sNext)
def LB6 : MS := (sIf (xTest (xOp (blR gNe) (xCB gReprs (aCons (xLst (aCons (xCallK 0 2 [1, 0] F_times_in aNil (aCons (xVar 6) (aCons (xVar 3) aNil))) (aCons (xCallK 0 2 [1, 0] F_first_in aNil (aCons (xVar 6) (aCons (xVar 3) aNil))) aNil))) aNil)) (xCB gReprs (aCons (xVar 9) aNil)))) (sRet (xC (.bl false))) sNext)
theorem LB_eq : b_law_1 = (sSeq LB1 (sSeq LB2 (sSeq LB3 (sSeq LB4 (sSeq LB5 LB6))))) := rfl
def LC1 : MS := (sAsgG (mTup 2 (mgCons (mName 3) (mgCons (mName 4) mgNil))) (xCall [true, false] F__law_small_short (aCons (xVar 1) (aCons (xC (.int 300)) aNil))))
def LC2 : MS := (sFor (xIRng1 (aCons (xC (.int 4)) aNil)) (mName 5) b_law_1)
def LC3 : MS := (sPars [10, 11] (aCons (xMeS gJoin (xC (.str "")) (aCons x_law_2 aNil)) (aCons (xOp gAdd (xC (.int 1)) (xCall [true, false] F__law_take (aCons (xVar 1) (aCons (xC (.int 200)) aNil)))) aNil)))
def LC4 : MS := (sPars [12, 7] (aCons (xCall [false, false] F__law_doubled (aCons (xVar 10) (aCons (xVar 11) aNil))) (aCons (xCall [true, false] F__law_take (aCons (xVar 1) (aCons (xCB gLen (aCons (xVar 10) aNil)) aNil))) aNil)))
def LC5 : MS := (sAsg 6 (xSl gSl (xOp gMulX (xVar 10) (xC (.int 9))) (oPart (xVar 7)) (oPart (xOp gAdd (xOp gAdd (xVar 7) (xC (.int 1))) (xCall [true, false] F__law_take (aCons (xVar 1) (aCons (xC (.int 20)) aNil)))))))
def LC6 : MS := (sAsg 6 (xIf (xTest (xOp (blR gGt) (xCall [true, false] F__law_take (aCons (xVar 1) (aCons (xC (.int 4)) aNil))) (xC (.int 0)))) (xVar 6) (xOp gAdd (xSl gSl (xVar 6) oNone (oPart (xC (.int 19)))) (xCall [true, false] F__law_pick (aCons (xVar 1) (aCons (xC (.str "abc")) aNil))))))
def LC7 : MS := (sIf (xTest (xOp (blR gNe) (xCB gReprs (aCons (xTup (aCons (xCall [false, false] F_times_in (aCons (xVar 12) (aCons (xVar 6) aNil))) (aCons (xCall [false, false] F_first_in (aCons (xVar 12) (aCons (xVar 6) aNil))) aNil))) aNil)) (xCB gReprs (aCons (xCall [false, false, false] F__law_in_rounds (aCons (xVar 10) (aCons (xCall [false] F__law_power (aCons (xVar 11) aNil)) (aCons (xVar 6) aNil)))) aNil)))) (sRet (xC (.bl false))) sNext)
def LC8 : MS := (sAsg 13 (xCall [false, false] F_behind (aCons (xTup (aCons (xC (.str "short")) (aCons (xTup (aCons (xTup (aCons (xC (.str "say")) (aCons (xOp gMulX (xC (.str "c")) (xC (.int 40))) aNil))) aNil)) aNil))) (aCons (xVar 12) aNil))))
def LC9 : MS := (sIf (xAnd (xTest (xOp (blR (gIns true)) (xC (.str "c")) (xVar 10))) (xTest (xOp (blR (gIns true)) (xC (.str "c")) (xVar 6)))) (sSeq (sAsgG (mTup 2 (mgCons (mName 14) (mgCons (mName 15) mgNil))) (xCall [false, false, false] F__law_in_rounds (aCons (xVar 10) (aCons (xCall [false] F__law_power (aCons (xVar 11) aNil)) (aCons (xVar 6) aNil))))) (sIf (xTest (xOp (blR gNe) (xCB gReprs (aCons (xTup (aCons (xCall [false, false] F_times_in (aCons (xVar 13) (aCons (xVar 6) aNil))) (aCons (xCall [false, false] F_first_in (aCons (xVar 13) (aCons (xVar 6) aNil))) aNil))) aNil)) (xCB gReprs (aCons (xTup (aCons (xVar 14) (aCons (xIf (xTest (xOp (blR gIsN) (xVar 15) (xC .non))) (xC .non) (xOp gAdd (xVar 15) (xC (.int 40)))) aNil))) aNil)))) (sRet (xC (.bl false))) sNext)) sNext)
def LC10 : MS := (sPars [16, 17] (aCons (xCall [true] F__law_bad_short (aCons (xVar 1) aNil)) (aCons (xCall [true, false] F__law_pick (aCons (xVar 1) (aCons (xLst (aCons (xC .non) (aCons (xC (.str "")) (aCons (xC (.str "d")) (aCons (xOp gMulX (xC (.str "a")) (xC (.int 21))) (aCons (xTup (aCons (xC (.str "a")) aNil)) (aCons (xC (.int 5)) (aCons (xC (.str "A")) aNil)))))))) aNil))) aNil)))
def LC11 (TT : List (Addr × Str)) (fa : Ct) : MS := (sFor (xISeq (xLst (aCons (xC (.ref (fa "times_in"))) (aCons (xC (.ref (fa "first_in"))) aNil)))) (mName 18) (b_law_2 TT fa))
theorem LC_eq (TT : List (Addr × Str)) (fa : Ct) : b_law_3 TT fa = (sSeq LC1 (sSeq LC2 (sSeq LC3 (sSeq LC4 (sSeq LC5 (sSeq LC6 (sSeq LC7 (sSeq LC8 (sSeq LC9 (sSeq LC10 (LC11 TT fa))))))))))) := rfl

abbrev TE (z : Sl) (st : Draw) (s2 s3 s4 s5 s6 s7 s8 s9 s10 s11 s12 s13 s14 s15 s16 s17 s18 : Sl) : DL.Env := [z, .drw st, s2, s3, s4, s5, s6, s7, s8, s9, s10, s11, s12, s13, s14, s15, s16, s17, s18, .emp]
theorem occ_len (w t : List Nat) : (occ w t).length ≤ t.length := by
  unfold occ
  exact Nat.le_trans (List.length_filter_le _ _) (by rw [List.length_range]; exact Nat.le_refl _)
theorem occ_head {w t : List Nat} {p : Nat} (h : (occ w t).head? = some p) : p < t.length := by
  have : p ∈ occ w t := List.mem_of_mem_head? (by rw [h]; rfl)
  unfold occ at this
  exact List.mem_range.mp (List.mem_filter.mp this).1
theorem log_le {p k : Nat} (h : p < 2 ^ k) (hk : k ≤ 1000) : (p : Int).natAbs.log2 < 1920 := by
  rw [Int.natAbs_natCast]
  by_cases z : p = 0
  · rw [z]; simp
  · have := (Nat.log2_lt z).mpr h
    omega
theorem pair_os (x : Nat) (o : Option Nat) : [some ((x : Nat) : Int), o.map fun p => ((p : Nat) : Int)].map oD = [.int (x : Nat), fstD o] := by cases o <;> rfl
theorem os_small {x k : Nat} {o : Option Nat} (hk : k ≤ 1000) (h1 : x < 2 ^ k) (h2 : ∀ p, o = some p → p < 2 ^ k) : ∀ y ∈ [some ((x : Nat) : Int), o.map fun p => ((p : Nat) : Int)], ∀ i, y = some i → i.natAbs.log2 < 1920 := by
  intro y hy i hi
  simp only [List.mem_cons, List.not_mem_nil, or_false] at hy
  rcases hy with rfl | rfl
  · cases hi
    exact log_le h1 hk
  · cases o with
    | none => cases hi
    | some p =>
      cases hi
      exact log_le (h2 p rfl) hk
theorem rep_L {w t : List Nat} {k : Nat} (hk : k ≤ 1000) (ht : t.length < 2 ^ k) : ∃ s, gReprs [.lst [.int ((occ w t).length : Nat), fstD (occ w t).head?]] = some (.sh (.str s)) := by
  have := repr_osL (os_small (x := (occ w t).length) (o := (occ w t).head?) hk (Nat.lt_of_le_of_lt (occ_len w t) ht) fun p hp => Nat.lt_trans (occ_head hp) ht) (by simp)
  rwa [pair_os] at this
theorem rep_T {x k : Nat} {o : Option Nat} (hk : k ≤ 1000) (h1 : x < 2 ^ k) (h2 : ∀ p, o = some p → p < 2 ^ k) : ∃ s, gReprs [.tup [.int (x : Nat), fstD o]] = some (.sh (.str s)) := by
  have := repr_osT (os_small hk h1 h2) (by simp)
  rwa [pair_os] at this
theorem lit_aab : (Str.ofString "aab") = S [97, 97, 98] := by kernel_rfl
theorem lit_abc : (Str.ofString "abc") = S [97, 98, 99] := by kernel_rfl
theorem word1 (hd : DOk n st) (hn : n ≤ 500000) : ∃ (st' : Draw) (w : List Nat), LB1 (TE z st s2 s3 s4 s5 s6 s7 s8 s9 s10 s11 s12 s13 s14 s15 s16 s17 s18) = .ok (.nx (TE z st' s2 s3 s4 s5 (.sh (.str (S w))) s7 s8 s9 s10 s11 s12 s13 s14 s15 s16 s17 s18)) ∧ w ≠ [] ∧ w.length ≤ 20 ∧ okW w = true ∧ DOk (n + 7) st' := by
  obtain ⟨st1, k, e1, hk, d1⟩ := takeV (i := 1) (m := 6) (ρ := TE z st s2 s3 s4 s5 s6 s7 s8 s9 s10 s11 s12 s13 s14 s15 s16 s17 s18) (nA := aCons (xC (.int 6)) aNil) rfl (evAV_cons (evV_c (d := .int 6)) evAV_nil) rfl hd (by omega) (by omega) (by omega)
  have e2 := rngE (evAV_cons (evV_op (evV_c (d := .int 1)) e1 (gAdd_int _ _)) evAV_nil) (small_i (by omega) (by omega))
  obtain ⟨l, st2, e3, hll, hlc, d2⟩ := letters_lc (mg := mName 19) (me := e_law_1) (vs := [19]) (ρs := fun st => TE z st s2 s3 s4 s5 s6 s7 s8 s9 s10 s11 s12 s13 s14 s15 s16 s17 s18) (L := [97, 97, 98]) (by simp) (by simp) (fun st st' x c e => by
    refine ⟨[z, .drw st, s2, s3, s4, s5, s6, s7, s8, s9, s10, s11, s12, s13, s14, s15, s16, s17, s18, .sh x], [z, .drw st', s2, s3, s4, s5, s6, s7, s8, s9, s10, s11, s12, s13, s14, s15, s16, s17, s18, .sh x], rfl, ?_, rfl⟩
    rw [← lit_aab] at e
    exact callD_eq (i := 1) rfl (evAV_cons evV_c evAV_nil) rfl rfl e) (ds := (List.range ((1 : Int) + (k : Int)).toNat).map fun (i : Nat) => D.int (0 + (i : Int))) d1 (by simp; omega)
  have hlk : l.length = k + 1 := by rw [hll]; simp; omega
  have e4 := lcV (vs := [19]) (ρ2 := TE z st2 s2 s3 s4 s5 s6 s7 s8 s9 s10 s11 s12 s13 s14 s15 s16 s17 s18) e2 e3 (by rfl)
  refine ⟨st2, l, ?_, by intro h; rw [h] at hlk; simp at hlk, by omega, okW_of (L := [97, 97, 98]) (by decide) hlc, d2.to (by simp; omega)⟩
  exact (asgV (evV_meS (evV_c (d := .str "")) (evAV_cons (evV_own e4) evAV_nil) (join_ok (by omega))) (fun _ z => nomatch z) (by simp)).trans rfl
theorem part1 (hd : DOk n st) (hn : n ≤ 500000) : ∃ (st' : Draw) (w : List Nat) (k : Nat), LC3 (TE z st s2 s3 s4 s5 s6 s7 s8 s9 s10 s11 s12 s13 s14 s15 s16 s17 s18) = .ok (.nx (TE z st' s2 s3 s4 s5 s6 s7 s8 s9 (.sh (.str (S w))) (.sh (.int (k : Nat))) s12 s13 s14 s15 s16 s17 s18)) ∧ 0 < w.length ∧ w.length ≤ 5 ∧ okW w = true ∧ 1 ≤ k ∧ k ≤ 200 ∧ DOk (n + 7) st' := by
  obtain ⟨st1, k, e1, hk, d1⟩ := takeV (i := 1) (m := 5) (ρ := TE z st s2 s3 s4 s5 s6 s7 s8 s9 s10 s11 s12 s13 s14 s15 s16 s17 s18) (nA := aCons (xC (.int 5)) aNil) rfl (evAV_cons (evV_c (d := .int 5)) evAV_nil) rfl hd (by omega) (by omega) (by omega)
  have e2 := rngE (evAV_cons (evV_op (evV_c (d := .int 1)) e1 (gAdd_int _ _)) evAV_nil) (small_i (by omega) (by omega))
  obtain ⟨l, st2, e3, hll, hlc, d2⟩ := letters_lc (mg := mName 19) (me := e_law_2) (vs := [19]) (ρs := fun st => TE z st s2 s3 s4 s5 s6 s7 s8 s9 s10 s11 s12 s13 s14 s15 s16 s17 s18) (L := [97, 98, 99]) (by simp) (by simp) (fun st st' x c e => by
    refine ⟨[z, .drw st, s2, s3, s4, s5, s6, s7, s8, s9, s10, s11, s12, s13, s14, s15, s16, s17, s18, .sh x], [z, .drw st', s2, s3, s4, s5, s6, s7, s8, s9, s10, s11, s12, s13, s14, s15, s16, s17, s18, .sh x], rfl, ?_, rfl⟩
    rw [← lit_abc] at e
    exact callD_eq (i := 1) rfl (evAV_cons evV_c evAV_nil) rfl rfl e) (ds := (List.range ((1 : Int) + (k : Int)).toNat).map fun (i : Nat) => D.int (0 + (i : Int))) d1 (by simp; omega)
  have hlk : l.length = k + 1 := by rw [hll]; simp; omega
  have e4 := lcV (vs := [19]) (ρ2 := TE z st2 s2 s3 s4 s5 s6 s7 s8 s9 s10 s11 s12 s13 s14 s15 s16 s17 s18) e2 e3 (by rfl)
  have d2 : DOk (n + 6) st2 := d2.to (by simp; omega)
  obtain ⟨st3, j, e5, hj, d3⟩ := takeV (i := 1) (m := 200) (ρ := TE z st2 s2 s3 s4 s5 s6 s7 s8 s9 s10 s11 s12 s13 s14 s15 s16 s17 s18) (nA := aCons (xC (.int 200)) aNil) rfl (evAV_cons (evV_c (d := .int 200)) evAV_nil) rfl d2 (by omega) (by omega) (by omega)
  obtain ⟨v1, f1, g1⟩ := evV_meS (evV_c (d := .str "")) (evAV_cons (evV_own e4) evAV_nil) (join_ok (by omega))
  obtain ⟨v2, f2, g2⟩ := evV_op (g := gAdd) (evV_c (d := .int 1)) e5 (gAdd_int _ _)
  cases g1
  cases g2
  refine ⟨st3, l, j + 1, ?_, by omega, by omega, okW_of (L := [97, 98, 99]) (by decide) hlc, by omega, by omega, d3.to (by omega)⟩
  refine (pars_eq (acons_eq f1 (acons_eq f2 rfl)) rfl).trans ?_
  rw [show (1 : Int) + (j : Int) = ((j + 1 : Nat) : Int) by omega]
  rfl
theorem cut_word {t : List Nat} {at0 k : Nat} (ha : at0 < t.length) (hk : k < 20) (ht : okW t = true) : ((t.drop at0).take (at0 + 1 + k - at0)) ≠ [] ∧ ((t.drop at0).take (at0 + 1 + k - at0)).length ≤ 20 ∧ okW ((t.drop at0).take (at0 + 1 + k - at0)) = true := by
  refine ⟨fun h => ?_, ?_, ?_⟩
  · have := congrArg List.length h
    rw [List.length_take, List.length_drop] at this
    simp at this
    omega
  · rw [List.length_take]
    omega
  · refine okW_of ht fun c hc => List.mem_of_mem_drop (List.mem_of_mem_take hc)
theorem word2 {w t : List Nat} (hd : DOk n st) (hn : n ≤ 500000) (hw : w ≠ []) (hw2 : w.length ≤ 20) (hw3 : okW w = true) (ht : t.length ≤ 300) (hok : okW t = true) : ∃ (st' : Draw) (v : List Nat) (s7' : Sl), LB2 (TE z st s2 s3 (.sh (.str (S t))) s5 (.sh (.str (S w))) s7 s8 s9 s10 s11 s12 s13 s14 s15 s16 s17 s18) = .ok (.nx (TE z st' s2 s3 (.sh (.str (S t))) s5 (.sh (.str (S v))) s7' s8 s9 s10 s11 s12 s13 s14 s15 s16 s17 s18)) ∧ v ≠ [] ∧ v.length ≤ 20 ∧ okW v = true ∧ DOk (n + 4) st' := by
  have t1 : TvD (xTest (xOp (blR gNe) (xVar 4) (xC (.str "")))) (TE z st s2 s3 (.sh (.str (S t))) s5 (.sh (.str (S w))) s7 s8 s9 s10 s11 s12 s13 s14 s15 s16 s17 s18) (TE z st s2 s3 (.sh (.str (S t))) s5 (.sh (.str (S w))) s7 s8 s9 s10 s11 s12 s13 s14 s15 s16 s17 s18) (!decide (t = [])) := tvD_test (evV_cmp (evV_var rfl) evV_c (by rw [gNe_str, emp_S, S_dec]))
  unfold LB2
  by_cases h0 : t = []
  · rw [decide_eq_true h0] at t1
    exact ⟨st, w, s7, (ifD_no (tvD_andF t1)).trans rfl, hw, hw2, hw3, hd.to (by omega)⟩
  · rw [decide_eq_false h0] at t1
    obtain ⟨st1, k, e1, hk, d1⟩ := takeV (i := 1) (m := 2) (ρ := TE z st s2 s3 (.sh (.str (S t))) s5 (.sh (.str (S w))) s7 s8 s9 s10 s11 s12 s13 s14 s15 s16 s17 s18) (nA := aCons (xC (.int 2)) aNil) rfl (evAV_cons (evV_c (d := .int 2)) evAV_nil) rfl hd (by omega) (by omega) (by omega)
    have t2 := tvD_andT t1 (tvD_test (evV_cmp e1 (evV_c (d := .int 0)) (gEq_int _ _)))
    by_cases hk0 : k = 0
    · rw [decide_eq_true (by omega)] at t2
      have tl : 0 < t.length := List.length_pos_iff.mpr h0
      have lt := len_S (l := t) (by omega)
      obtain ⟨st2, p, e2, hp, d2⟩ := takeV (i := 1) (m := t.length) (ρ := TE z st1 s2 s3 (.sh (.str (S t))) s5 (.sh (.str (S w))) s7 s8 s9 s10 s11 s12 s13 s14 s15 s16 s17 s18) (nA := aCons (xCB gLen (aCons (xVar 4) aNil)) aNil) rfl (evAV_cons (evV_cb (evAV_cons (evV_var rfl) evAV_nil) lt) evAV_nil) rfl d1 (by omega) tl (by omega)
      obtain ⟨st3, q, e3, hq, d3⟩ := takeV (i := 1) (m := 20) (ρ := TE z st2 s2 s3 (.sh (.str (S t))) s5 (.sh (.str (S w))) (.sh (.int (p : Nat))) s8 s9 s10 s11 s12 s13 s14 s15 s16 s17 s18) (nA := aCons (xC (.int 20)) aNil) rfl (evAV_cons (evV_c (d := .int 20)) evAV_nil) rfl d2 (by omega) (by omega) (by omega)
      obtain ⟨c1, c2, c3⟩ := cut_word hp hq hok
      refine ⟨st3, (t.drop p).take (p + 1 + q - p), .sh (.int (p : Nat)), ?_, c1, c2, c3, d3.to (by omega)⟩
      refine (ifD_yes t2).trans ?_
      refine (seq_n (asgV e2 (fun _ z => nomatch z) (by simp))).trans ?_
      have sl := sl_S (l := t) (lo := some (p : Int)) (hi := some ((p + 1 + q : Nat) : Int)) (by omega)
      rw [cutD_pq] at sl
      exact (asgV (evV_sl (evV_var (ρ := TE z st2 s2 s3 (.sh (.str (S t))) s5 (.sh (.str (S w))) (.sh (.int (p : Nat))) s8 s9 s10 s11 s12 s13 s14 s15 s16 s17 s18) (i := 4) rfl) (ovl_partV (evV_var (i := 7) rfl)) (ovl_partV (evV_op (g := gAdd) (evV_op (g := gAdd) (evV_var (i := 7) rfl) (evV_c (d := .int 1)) (gAdd_int _ _)) e3 (by rw [gAdd_int]; rfl))) sl) (fun _ z => nomatch z) (by simp)).trans rfl
    · rw [decide_eq_false (by omega)] at t2
      exact ⟨st1, w, s7, (ifD_no t2).trans rfl, hw, hw2, hw3, d1.to (by omega)⟩
theorem lap_ok {rs : List Rw} (hd : DOk n st) (hn : n ≤ 400000) (wf : WF rs) (ht : (said rs).length ≤ 300) (hok : okW (said rs) = true) : ∃ (st' : Draw) (s6' s7' s8' s9' : Sl), b_law_1 (TE z st s2 (.sh (shD rs)) (.sh (.str (S (said rs)))) s5 s6 s7 s8 s9 s10 s11 s12 s13 s14 s15 s16 s17 s18) = .ok (.nx (TE z st' s2 (.sh (shD rs)) (.sh (.str (S (said rs)))) s5 s6' s7' s8' s9' s10 s11 s12 s13 s14 s15 s16 s17 s18)) ∧ DOk (n + 11) st' := by
  obtain ⟨st1, w1, e1, a1, a2, a3, d1⟩ := word1 (z := z) (s2 := s2) (s3 := .sh (shD rs)) (s4 := .sh (.str (S (said rs)))) (s5 := s5) (s6 := s6) (s7 := s7) (s8 := s8) (s9 := s9) (s10 := s10) (s11 := s11) (s12 := s12) (s13 := s13) (s14 := s14) (s15 := s15) (s16 := s16) (s17 := s17) (s18 := s18) hd (by omega)
  obtain ⟨st2, w, s7', e2, hw, hw2, hw3, d2⟩ := word2 (z := z) (s2 := s2) (s3 := .sh (shD rs)) (s5 := s5) (s7 := s7) (s8 := s8) (s9 := s9) (s10 := s10) (s11 := s11) (s12 := s12) (s13 := s13) (s14 := s14) (s15 := s15) (s16 := s16) (s17 := s17) (s18 := s18) d1 (by omega) a1 a2 a3 ht hok
  obtain ⟨q, e3⟩ := lstarts_ok (t := said rs) (w := w) (by omega) hw (by omega)
  have e4 := asgV_own (i := 8) (callV_eq (bs := [false, false]) (ρ := TE z st2 s2 (.sh (shD rs)) (.sh (.str (S (said rs)))) s5 (.sh (.str (S w))) s7' s8 s9 s10 s11 s12 s13 s14 s15 s16 s17 s18) (evAV_cons (evV_var (i := 4) rfl) (evAV_cons (evV_var (i := 6) rfl) evAV_nil)) rfl e3) (by simp)
  obtain ⟨s, hs⟩ := rep_L (w := w) (t := said rs) (k := 10) (by omega) (by have : (2 : Nat) ^ 10 = 1024 := (by decide); omega)
  have e5 : LB4 (TE z st2 s2 (.sh (shD rs)) (.sh (.str (S (said rs)))) s5 (.sh (.str (S w))) s7' (.own (natsD (occ w (said rs)))) s9 s10 s11 s12 s13 s14 s15 s16 s17 s18) = .ok (.nx (TE z st2 s2 (.sh (shD rs)) (.sh (.str (S (said rs)))) s5 (.sh (.str (S w))) s7' (.own (natsD (occ w (said rs)))) (.own [.int ((occ w (said rs)).length : Nat), fstD (occ w (said rs)).head?]) s10 s11 s12 s13 s14 s15 s16 s17 s18)) := by
    have x := lstS_eq (evAS_cons (evS_cb (g := gLen) (ρ := TE z st2 s2 (.sh (shD rs)) (.sh (.str (S (said rs)))) s5 (.sh (.str (S w))) s7' (.own (natsD (occ w (said rs)))) s9 s10 s11 s12 s13 s14 s15 s16 s17 s18) (z := .int ((occ w (said rs)).length : Nat)) (evA_cons (ev_varO (i := 8) rfl) evA_nil) (by show some (Vl.sh (D.int ((natsD (occ w (said rs))).length : Nat))) = _; rw [natsD_len])) (evAS_cons (evS_first (i := 8) (l := occ w (said rs)) rfl) evAS_nil)) sz_2
    unfold LB4
    exact (asgV_own x (show 9 < 20 by decide)).trans rfl
  have t1 := times_ok wf hw hw2 hw3
  have t2 := first_ok wf hw hw2 hw3
  have e6 : LB5 (TE z st2 s2 (.sh (shD rs)) (.sh (.str (S (said rs)))) s5 (.sh (.str (S w))) s7' (.own (natsD (occ w (said rs)))) (.own [.int ((occ w (said rs)).length : Nat), fstD (occ w (said rs)).head?]) s10 s11 s12 s13 s14 s15 s16 s17 s18) = .ok (.nx _) :=
    same_rep (evS_lst (evAS_cons (evS_call (bs := [false, false]) (evAP_cons (evS_var rfl) (evAP_cons (evS_var rfl) evAP_nil)) rfl t1) (evAS_cons (evS_call (bs := [false, false]) (evAP_cons (evS_var rfl) (evAP_cons (evS_var rfl) evAP_nil)) rfl t2) evAS_nil)) sz_2).ev (ev_varO rfl) hs
  have e7 : LB6 (TE z st2 s2 (.sh (shD rs)) (.sh (.str (S (said rs)))) s5 (.sh (.str (S w))) s7' (.own (natsD (occ w (said rs)))) (.own [.int ((occ w (said rs)).length : Nat), fstD (occ w (said rs)).head?]) s10 s11 s12 s13 s14 s15 s16 s17 s18) = .ok (.nx _) :=
    same_rep (evS_lst (evAS_cons (evS_callK evAS_nil (evAS_cons (evS_var rfl) (evAS_cons (evS_var rfl) evAS_nil)) rfl rfl t1) (evAS_cons (evS_callK evAS_nil (evAS_cons (evS_var rfl) (evAS_cons (evS_var rfl) evAS_nil)) rfl rfl t2) evAS_nil)) sz_2).ev (ev_varO rfl) hs
  refine ⟨st2, .sh (.str (S w)), s7', .own (natsD (occ w (said rs))), .own [.int ((occ w (said rs)).length : Nat), fstD (occ w (said rs)).head?], ?_, d2⟩
  rw [LB_eq]
  exact (seq_n e1).trans ((seq_n e2).trans ((seq_n e4).trans ((seq_n e5).trans ((seq_n e6).trans e7))))
end K40
end
section
set_option maxRecDepth 100000
set_option maxHeartbeats 1000000
namespace K40
open PySem DL L2
variable {ρ ρ' ρ1 ρ2 : DL.Env} {d a b : D} {st st' : Draw} {n m : Nat} {z s2 s3 s4 s5 s6 s7 s8 s9 s10 s11 s12 s13 s14 s15 s16 s17 s18 : Sl}
theorem lc1 (hd : DOk n st) (hn : n ≤ 400000) : ∃ (st' : Draw) (rs : List Rw), LC1 (TE z st s2 s3 s4 s5 s6 s7 s8 s9 s10 s11 s12 s13 s14 s15 s16 s17 s18) = .ok (.nx (TE z st' s2 (.sh (shD rs)) (.sh (.str (S (said rs)))) s5 s6 s7 s8 s9 s10 s11 s12 s13 s14 s15 s16 s17 s18)) ∧ WF rs ∧ (said rs).length ≤ 300 ∧ okW (said rs) = true ∧ DOk (n + 100) st' := by
  obtain ⟨st', rs, x, e, h1, h2, h3, h4⟩ := small_ok hd (by omega)
  have c := evV_callD (bs := [true, false]) (F := F__law_small_short) (i := 1) (ρ := TE z st s2 s3 s4 s5 s6 s7 s8 s9 s10 s11 s12 s13 s14 s15 s16 s17 s18) rfl (evAV_cons (evV_c (d := .int 300)) evAV_nil) rfl rfl e
  exact ⟨st', rs, asgGV c rfl, h1, h2, h3, h4⟩
theorem lc2 {rs : List Rw} (hd : DOk n st) (hn : n ≤ 300000) (wf : WF rs) (ht : (said rs).length ≤ 300) (hok : okW (said rs) = true) : ∃ (st' : Draw) (s5' s6' s7' s8' s9' : Sl), LC2 (TE z st s2 (.sh (shD rs)) (.sh (.str (S (said rs)))) s5 s6 s7 s8 s9 s10 s11 s12 s13 s14 s15 s16 s17 s18) = .ok (.nx (TE z st' s2 (.sh (shD rs)) (.sh (.str (S (said rs)))) s5' s6' s7' s8' s9' s10 s11 s12 s13 s14 s15 s16 s17 s18)) ∧ DOk (n + 44) st' := by
  obtain ⟨ρf, e, st', s5', s6', s7', s8', s9', d', hs⟩ := for_inv0 (mg := mName 5) (mb := b_law_1) (ds := (List.range 4).map fun (i : Nat) => D.int (0 + (i : Int))) (ρ := TE z st s2 (.sh (shD rs)) (.sh (.str (S (said rs)))) s5 s6 s7 s8 s9 s10 s11 s12 s13 s14 s15 s16 s17 s18)
    (fun i ρ => ∃ (st' : Draw) (s5' s6' s7' s8' s9' : Sl), DOk (n + 11 * i) st' ∧ ρ = TE z st' s2 (.sh (shD rs)) (.sh (.str (S (said rs)))) s5' s6' s7' s8' s9' s10 s11 s12 s13 s14 s15 s16 s17 s18) ⟨st, s5, s6, s7, s8, s9, hd, rfl⟩ fun i d ρ hd hi => by
    obtain ⟨st1, t5, t6, t7, t8, t9, d1, rfl⟩ := hi
    have hi4 : i < 4 := by simpa using (List.getElem?_eq_some_iff.mp hd).1
    obtain ⟨st2, u6, u7, u8, u9, e2, d2⟩ := lap_ok (z := z) (s2 := s2) (s5 := .sh d) (s6 := t6) (s7 := t7) (s8 := t8) (s9 := t9) (s10 := s10) (s11 := s11) (s12 := s12) (s13 := s13) (s14 := s14) (s15 := s15) (s16 := s16) (s17 := s17) (s18 := s18) d1 (by omega) wf ht hok
    exact ⟨_, _, rfl, e2, st2, .sh d, u6, u7, u8, u9, d2.to (by omega), rfl⟩
  subst hs
  refine ⟨st', s5', s6', s7', s8', s9', ?_, d'.to (by simp)⟩
  exact forV (rngE (evAV_cons (evV_c (d := .int 4)) evAV_nil) (small_i (by omega) (by omega))) e
theorem lc4 {w : List Nat} {k : Nat} (hd : DOk n st) (hn : n ≤ 300000) (hw : 0 < w.length) (hw2 : w.length ≤ 5) (hk : k ≤ 200) : ∃ (st' : Draw) (p : Nat), LC4 (TE z st s2 s3 s4 s5 s6 s7 s8 s9 (.sh (.str (S w))) (.sh (.int (k : Nat))) s12 s13 s14 s15 s16 s17 s18) = .ok (.nx (TE z st' s2 s3 s4 s5 s6 (.sh (.int (p : Nat))) s8 s9 (.sh (.str (S w))) (.sh (.int (k : Nat))) (.sh (shD (dbl w k))) s13 s14 s15 s16 s17 s18)) ∧ p < w.length ∧ DOk (n + 1) st' := by
  have lw := len_S (l := w) (by omega)
  obtain ⟨q, e1⟩ := doubled_ok (w := w) (n := k) (by omega)
  have f1 := callV_eq (bs := [false, false]) (ρ := TE z st s2 s3 s4 s5 s6 s7 s8 s9 (.sh (.str (S w))) (.sh (.int (k : Nat))) s12 s13 s14 s15 s16 s17 s18) (evAV_cons (evV_var (i := 10) rfl) (evAV_cons (evV_var (i := 11) rfl) evAV_nil)) rfl e1
  obtain ⟨st1, p, e2, hp, d1⟩ := takeV (i := 1) (m := w.length) (ρ := TE z st s2 s3 s4 s5 s6 s7 s8 s9 (.sh (.str (S w))) (.sh (.int (k : Nat))) s12 s13 s14 s15 s16 s17 s18) (nA := aCons (xCB gLen (aCons (xVar 10) aNil)) aNil) rfl (evAV_cons (evV_cb (evAV_cons (evV_var (i := 10) rfl) evAV_nil) lw) evAV_nil) rfl hd (by omega) hw (by omega)
  obtain ⟨v2, f2, g2⟩ := e2
  cases g2
  exact ⟨st1, p, (pars_eq (acons_eq f1 (acons_eq f2 rfl)) rfl).trans rfl, hp, d1⟩
theorem cut_rep {w : List Nat} {p k : Nat} (hp : p < w.length) (hk : k < 20) (hok : okW w = true) (h5 : w.length ≤ 5) : (((rep 9 w).drop p).take (p + 1 + k - p)) ≠ [] ∧ (((rep 9 w).drop p).take (p + 1 + k - p)).length ≤ 20 ∧ okW (((rep 9 w).drop p).take (p + 1 + k - p)) = true := by
  have hr : okW (rep 9 w) = true := by
    unfold okW at *
    rw [List.all_eq_true] at *
    intro c hc
    unfold rep at hc
    obtain ⟨l, hl, hc⟩ := List.mem_flatten.mp hc
    rw [(List.mem_replicate.mp hl).2] at hc
    exact hok c hc
  exact cut_word (by rw [rep_len]; omega) hk hr
theorem lc5 {w : List Nat} {p : Nat} (hd : DOk n st) (hn : n ≤ 300000) (hp : p < w.length) (hw2 : w.length ≤ 5) (hok : okW w = true) : ∃ (st' : Draw) (v : List Nat), LC5 (TE z st s2 s3 s4 s5 s6 (.sh (.int (p : Nat))) s8 s9 (.sh (.str (S w))) s11 s12 s13 s14 s15 s16 s17 s18) = .ok (.nx (TE z st' s2 s3 s4 s5 (.sh (.str (S v))) (.sh (.int (p : Nat))) s8 s9 (.sh (.str (S w))) s11 s12 s13 s14 s15 s16 s17 s18)) ∧ v ≠ [] ∧ v.length ≤ 20 ∧ okW v = true ∧ DOk (n + 1) st' := by
  obtain ⟨st1, k, e1, hk, d1⟩ := takeV (i := 1) (m := 20) (ρ := TE z st s2 s3 s4 s5 s6 (.sh (.int (p : Nat))) s8 s9 (.sh (.str (S w))) s11 s12 s13 s14 s15 s16 s17 s18) (nA := aCons (xC (.int 20)) aNil) rfl (evAV_cons (evV_c (d := .int 20)) evAV_nil) rfl hd (by omega) (by omega) (by omega)
  obtain ⟨c1, c2, c3⟩ := cut_rep hp hk hok hw2
  refine ⟨st1, ((rep 9 w).drop p).take (p + 1 + k - p), ?_, c1, c2, c3, d1⟩
  have mu := mul_S (l := w) (k := 9) (by omega) (by omega)
  have sl := sl_S (l := rep 9 w) (lo := some (p : Int)) (hi := some ((p + 1 + k : Nat) : Int)) (by rw [rep_len]; omega)
  rw [cutD_pq] at sl
  exact (asgV (evV_sl (evV_op (g := gMulX) (ρ := TE z st s2 s3 s4 s5 s6 (.sh (.int (p : Nat))) s8 s9 (.sh (.str (S w))) s11 s12 s13 s14 s15 s16 s17 s18) (evV_var (i := 10) rfl) (evV_c (d := .int 9)) mu) (ovl_partV (evV_var (i := 7) rfl)) (ovl_partV (evV_op (g := gAdd) (evV_op (g := gAdd) (evV_var (i := 7) rfl) (evV_c (d := .int 1)) (gAdd_int _ _)) e1 (by rw [gAdd_int]; rfl))) sl) (fun _ z => nomatch z) (show 6 < 20 by decide)).trans rfl
theorem lc6 {w : List Nat} (hd : DOk n st) (hn : n ≤ 300000) (hw : w ≠ []) (hw2 : w.length ≤ 20) (hok : okW w = true) : ∃ (st' : Draw) (v : List Nat), LC6 (TE z st s2 s3 s4 s5 (.sh (.str (S w))) s7 s8 s9 s10 s11 s12 s13 s14 s15 s16 s17 s18) = .ok (.nx (TE z st' s2 s3 s4 s5 (.sh (.str (S v))) s7 s8 s9 s10 s11 s12 s13 s14 s15 s16 s17 s18)) ∧ v ≠ [] ∧ v.length ≤ 20 ∧ okW v = true ∧ DOk (n + 2) st' := by
  obtain ⟨st1, k, e1, hk, d1⟩ := takeV (i := 1) (m := 4) (ρ := TE z st s2 s3 s4 s5 (.sh (.str (S w))) s7 s8 s9 s10 s11 s12 s13 s14 s15 s16 s17 s18) (nA := aCons (xC (.int 4)) aNil) rfl (evAV_cons (evV_c (d := .int 4)) evAV_nil) rfl hd (by omega) (by omega) (by omega)
  have t1 := tvD_test (evV_cmp e1 (evV_c (d := .int 0)) (gGt_int _ _))
  by_cases hk0 : 0 < k
  · rw [decide_eq_true (by omega)] at t1
    exact ⟨st1, w, (asgV (evV_if (d := .str (S w)) t1 (fun _ => evV_var (i := 6) rfl) fun h => nomatch h) (fun _ z => nomatch z) (show 6 < 20 by decide)).trans rfl, hw, hw2, hok, d1.to (by omega)⟩
  · rw [decide_eq_false (by omega)] at t1
    obtain ⟨st2, c, e2, hc, d2⟩ := pickS_ok (L := [97, 98, 99]) d1 (by omega) (by simp) (by simp)
    rw [← lit_abc] at e2
    have f2 := evV_callD (bs := [true, false]) (F := F__law_pick) (i := 1) (ρ := TE z st1 s2 s3 s4 s5 (.sh (.str (S w))) s7 s8 s9 s10 s11 s12 s13 s14 s15 s16 s17 s18) rfl (evAV_cons (evV_c (d := .str "abc")) evAV_nil) rfl rfl e2
    have sl := sl_S (l := w) (lo := none) (hi := some ((19 : Nat) : Int)) (by omega)
    rw [cutD_q] at sl
    have tl : (w.take 19).length ≤ 19 := by rw [List.length_take]; omega
    refine ⟨st2, w.take 19 ++ [c], (asgV (evV_if (d := .str (S (w.take 19 ++ [c]))) t1 (fun h => nomatch h) fun _ => evV_op (evV_sl (evV_var (i := 6) rfl) rfl (ovl_partV (evV_c (d := .int 19))) sl) f2 (add_S (by simp; omega))) (fun _ z => nomatch z) (show 6 < 20 by decide)).trans rfl, by simp, by rw [List.length_append]; simp; omega, ?_, d2.to (by omega)⟩
    refine okW_app (okW_of hok fun x hx => List.mem_of_mem_take hx) (okW_of (L := [97, 98, 99]) (by decide) fun x hx => ?_)
    rw [List.mem_singleton.mp hx]
    exact hc
theorem far_len {w : List Nat} {k : Nat} (hw2 : w.length ≤ 5) (hk : k ≤ 200) : (rep (2 ^ k) w).length < 2 ^ 210 := by
  rw [rep_len]
  have h1 : 2 ^ k ≤ 2 ^ 200 := Nat.pow_le_pow_right (by omega) hk
  have h2 := Nat.mul_le_mul h1 hw2
  have h3 : (2 : Nat) ^ 200 * 5 < 2 ^ 210 - 100 := by decide
  omega
theorem far_len2 {w : List Nat} {k : Nat} (hw2 : w.length ≤ 5) (hk : k ≤ 200) : (rep (2 ^ k) w).length + 100 < 2 ^ 210 := by
  rw [rep_len]
  have h1 : 2 ^ k ≤ 2 ^ 200 := Nat.pow_le_pow_right (by omega) hk
  have h2 := Nat.mul_le_mul h1 hw2
  have h3 : (2 : Nat) ^ 200 * 5 < 2 ^ 210 - 100 := by decide
  omega
theorem rounds_ev {p w : List Nat} {k : Nat} (h6 : ρ[6]? = some (.sh (.str (S w)))) (h10 : ρ[10]? = some (.sh (.str (S p)))) (h11 : ρ[11]? = some (.sh (.int (k : Nat)))) (hw : w ≠ []) (hw2 : w.length ≤ 20) (hp : 0 < p.length) (hp2 : p.length ≤ 5) (hk : k ≤ 200) : EvV (xCall [false, false, false] F__law_in_rounds (aCons (xVar 10) (aCons (xCall [false] F__law_power (aCons (xVar 11) aNil)) (aCons (xVar 6) aNil)))) ρ ρ (.tup [.int ((occ w (rep (2 ^ k) p)).length : Nat), fstD (occ w (rep (2 ^ k) p)).head?]) :=
  evV_call (evAV_cons (evV_var h10) (evAV_cons (evV_call (bs := [false]) (evAV_cons (evV_var h11) evAV_nil) rfl (power_ok (by omega))) (evAV_cons (evV_var h6) evAV_nil))) rfl (rounds_ok (R := 2 ^ k) hw hp (by omega) hw2 (by rw [Nat.log2_two_pow]; omega))
theorem pair_ev {rs : List Rw} {w : List Nat} {i : Nat} (hi : ρ[i]? = some (.sh (shD rs))) (h6 : ρ[6]? = some (.sh (.str (S w)))) (wf : WF rs) (hw : w ≠ []) (hw2 : w.length ≤ 20) (hok : okW w = true) : EvS (xTup (aCons (xCall [false, false] F_times_in (aCons (xVar i) (aCons (xVar 6) aNil))) (aCons (xCall [false, false] F_first_in (aCons (xVar i) (aCons (xVar 6) aNil))) aNil))) ρ (.tup [.int ((occ w (said rs)).length : Nat), fstD (occ w (said rs)).head?]) :=
  evS_tup (evAS_cons (evS_call (bs := [false, false]) (evAP_cons (evS_var hi) (evAP_cons (evS_var h6) evAP_nil)) rfl (times_ok wf hw hw2 hok)) (evAS_cons (evS_call (bs := [false, false]) (evAP_cons (evS_var hi) (evAP_cons (evS_var h6) evAP_nil)) rfl (first_ok wf hw hw2 hok)) evAS_nil)) sz_2
theorem lc7 {p w : List Nat} {k : Nat} (hw : w ≠ []) (hw2 : w.length ≤ 20) (hok : okW w = true) (hp : 0 < p.length) (hp2 : p.length ≤ 5) (hpk : okW p = true) (hk : k ≤ 200) : LC7 (TE z st s2 s3 s4 s5 (.sh (.str (S w))) s7 s8 s9 (.sh (.str (S p))) (.sh (.int (k : Nat))) (.sh (shD (dbl p k))) s13 s14 s15 s16 s17 s18) = .ok (.nx (TE z st s2 s3 s4 s5 (.sh (.str (S w))) s7 s8 s9 (.sh (.str (S p))) (.sh (.int (k : Nat))) (.sh (shD (dbl p k))) s13 s14 s15 s16 s17 s18)) := by
  have e1 := pair_ev (ρ := TE z st s2 s3 s4 s5 (.sh (.str (S w))) s7 s8 s9 (.sh (.str (S p))) (.sh (.int (k : Nat))) (.sh (shD (dbl p k))) s13 s14 s15 s16 s17 s18) (i := 12) rfl rfl (dbl_wf (n := k) hpk (by omega) (by omega)) hw hw2 hok
  have e2 := rounds_ev (ρ := TE z st s2 s3 s4 s5 (.sh (.str (S w))) s7 s8 s9 (.sh (.str (S p))) (.sh (.int (k : Nat))) (.sh (shD (dbl p k))) s13 s14 s15 s16 s17 s18) rfl rfl rfl hw hw2 hp hp2 hk
  rw [dbl_said] at e1
  have fl := far_len hp2 hk
  obtain ⟨s, hs⟩ := rep_T (x := (occ w (rep (2 ^ k) p)).length) (o := (occ w (rep (2 ^ k) p)).head?) (k := 210) (by omega) (Nat.lt_of_le_of_lt (occ_len w _) fl) (fun q hq => Nat.lt_trans (occ_head hq) fl)
  exact same_rep e1.ev e2.ev hs
def c40 : List Nat := rep 40 [99]
theorem lit_c : (Str.ofString "c") = S [99] := by kernel_rfl
theorem c40_ok : okW c40 = true ∧ c40.length = 40 := by decide +kernel
theorem lc8 {p : List Nat} {k : Nat} (hp2 : p.length ≤ 5) (hpk : okW p = true) (hk : k ≤ 200) : LC8 (TE z st s2 s3 s4 s5 s6 s7 s8 s9 s10 s11 (.sh (shD (dbl p k))) s13 s14 s15 s16 s17 s18) = .ok (.nx (TE z st s2 s3 s4 s5 s6 s7 s8 s9 s10 s11 (.sh (shD (dbl p k))) (.sh (shD (bhd c40 (dbl p k)))) s14 s15 s16 s17 s18)) := by
  have mu := mul_S (l := [99]) (k := 40) (by omega) (by simp)
  rw [← lit_c] at mu
  have b := behindF (c := c40) c40_ok.1 (by rw [c40_ok.2]; omega) (dbl_wf (w := p) (n := k) hpk (by omega) (by omega)) (by rw [dbl_len]; omega)
  exact (asgV (evV_call (bs := [false, false]) (ρ := TE z st s2 s3 s4 s5 s6 s7 s8 s9 s10 s11 (.sh (shD (dbl p k))) s13 s14 s15 s16 s17 s18) (evAV_cons (d := shD [.say c40]) (evV_tup (evAV_cons (evV_c (d := .str "short")) (evAV_cons (evV_tup (evAV_cons (evV_tup (evAV_cons (evV_c (d := .str "say")) (evAV_cons (evV_op (g := gMulX) (evV_c (d := .str "c")) (evV_c (d := .int 40)) mu) evAV_nil)) sz_2) evAV_nil) sz_1) evAV_nil)) sz_2) (evAV_cons (evV_var (i := 12) rfl) evAV_nil)) rfl b) (fun _ z => nomatch z) (show 13 < 20 by decide)).trans rfl
theorem lc9 {p w : List Nat} {k : Nat} (hw : w ≠ []) (hw2 : w.length ≤ 20) (hok : okW w = true) (hp : 0 < p.length) (hp2 : p.length ≤ 5) (hpk : okW p = true) (hk : k ≤ 200) : ∃ s14' s15' : Sl, LC9 (TE z st s2 s3 s4 s5 (.sh (.str (S w))) s7 s8 s9 (.sh (.str (S p))) (.sh (.int (k : Nat))) s12 (.sh (shD (bhd c40 (dbl p k)))) s14 s15 s16 s17 s18) = .ok (.nx (TE z st s2 s3 s4 s5 (.sh (.str (S w))) s7 s8 s9 (.sh (.str (S p))) (.sh (.int (k : Nat))) s12 (.sh (shD (bhd c40 (dbl p k)))) s14' s15' s16 s17 s18)) := by
  have n1 := notin_S 99 p
  have n2 := notin_S 99 w
  rw [← lit_c] at n1 n2
  have t : Tv (xAnd (xTest (xOp (blR (gIns true)) (xC (.str "c")) (xVar 10))) (xTest (xOp (blR (gIns true)) (xC (.str "c")) (xVar 6)))) (TE z st s2 s3 s4 s5 (.sh (.str (S w))) s7 s8 s9 (.sh (.str (S p))) (.sh (.int (k : Nat))) s12 (.sh (shD (bhd c40 (dbl p k)))) s14 s15 s16 s17 s18) (!decide (99 ∈ p) && !decide (99 ∈ w)) :=
    tv_and (tv_test (evS_cmp evS_c.ev (evS_var rfl).ev n1).ev) fun _ => tv_test (evS_cmp evS_c.ev (evS_var rfl).ev n2).ev
  unfold LC9
  cases hb : (!decide (99 ∈ p) && !decide (99 ∈ w)) with
  | false =>
    rw [hb] at t
    exact ⟨s14, s15, (if_no t).trans rfl⟩
  | true =>
    rw [hb] at t
    have hcw : 99 ∉ w := by
      simp at hb
      exact hb.2
    have wf := bhd_wf (c := c40) c40_ok.1 (by rw [c40_ok.2]; omega) (dbl_wf (w := p) (n := k) hpk (by omega) (by omega)) (by rw [dbl_len]; omega)
    have sd : said (bhd c40 (dbl p k)) = c40 ++ rep (2 ^ k) p := by rw [bhd_said (by rw [dbl_len]; omega), dbl_said]
    have oc : occ w (said (bhd c40 (dbl p k))) = (occ w (rep (2 ^ k) p)).map (40 + ·) := by
      rw [sd, occ_behind hw, c40_ok.2]
      intro c hc hcw2
      unfold c40 rep at hc
      obtain ⟨l, hl, hc⟩ := List.mem_flatten.mp hc
      rw [(List.mem_replicate.mp hl).2] at hc
      rw [List.mem_singleton.mp hc] at hcw2
      exact hcw hcw2
    have e2 := rounds_ev (ρ := TE z st s2 s3 s4 s5 (.sh (.str (S w))) s7 s8 s9 (.sh (.str (S p))) (.sh (.int (k : Nat))) s12 (.sh (shD (bhd c40 (dbl p k)))) s14 s15 s16 s17 s18) rfl rfl rfl hw hw2 hp hp2 hk
    generalize hO : occ w (rep (2 ^ k) p) = O at e2 oc
    have fl := far_len2 hp2 hk
    have ol : O.length < 2 ^ 210 := by
      rw [← hO]
      have := occ_len w (rep (2 ^ k) p)
      omega
    have oh : ∀ q, (O.map (40 + ·)).head? = some q → q < 2 ^ 210 := by
      intro q hq
      rw [List.head?_map] at hq
      obtain ⟨r, hr, rfl⟩ := Option.map_eq_some_iff.mp hq
      rw [← hO] at hr
      have := occ_head hr
      omega
    obtain ⟨s, hs⟩ := rep_T (x := O.length) (o := (O.map (40 + ·)).head?) (k := 210) (by omega) ol oh
    refine ⟨.sh (.int (O.length : Nat)), .sh (fstD O.head?), (if_yes t).trans ?_⟩
    refine (seq_n (asgGV (ρ2 := TE z st s2 s3 s4 s5 (.sh (.str (S w))) s7 s8 s9 (.sh (.str (S p))) (.sh (.int (k : Nat))) s12 (.sh (shD (bhd c40 (dbl p k)))) (.sh (.int (O.length : Nat))) (.sh (fstD O.head?)) s16 s17 s18) e2 rfl)).trans ?_
    have e1 := pair_ev (ρ := TE z st s2 s3 s4 s5 (.sh (.str (S w))) s7 s8 s9 (.sh (.str (S p))) (.sh (.int (k : Nat))) s12 (.sh (shD (bhd c40 (dbl p k)))) (.sh (.int (O.length : Nat))) (.sh (fstD O.head?)) s16 s17 s18) (i := 13) rfl rfl wf hw hw2 hok
    rw [oc, List.length_map] at e1
    refine same_rep e1.ev (EvS.ev (evS_tup (evAS_cons (evS_var rfl) (evAS_cons (d := fstD (O.map (40 + ·)).head?) ?_ evAS_nil)) sz_2)) hs
    have ti : Tv (xTest (xOp (blR gIsN) (xVar 15) (xC .non))) (TE z st s2 s3 s4 s5 (.sh (.str (S w))) s7 s8 s9 (.sh (.str (S p))) (.sh (.int (k : Nat))) s12 (.sh (shD (bhd c40 (dbl p k)))) (.sh (.int (O.length : Nat))) (.sh (fstD O.head?)) s16 s17 s18) O.head?.isNone := tv_test (evS_cmp (evS_var rfl).ev evS_c.ev (isN_fst _)).ev
    rw [List.head?_map]
    cases hh : O.head? with
    | none =>
      rw [hh] at ti
      exact evS_is (evS_if (k := true) (b := .non) ti (fun _ => evS_c) fun h => nomatch h) rfl
    | some q =>
      rw [hh] at ti
      refine evS_is (evS_if (k := false) (a := .non) ti (fun h => nomatch h) fun _ => evS_op (evS_var rfl).ev evS_c.ev (gAdd_int _ _)) ?_
      show D.int ((q : Int) + 40) = D.int ((40 + q : Nat) : Int)
      congr 1
      omega
theorem OL_eq (ρ : DL.Env) : xLst (aCons (xC .non) (aCons (xC (.str "")) (aCons (xC (.str "d")) (aCons (xOp gMulX (xC (.str "a")) (xC (.int 21))) (aCons (xTup (aCons (xC (.str "a")) aNil)) (aCons (xC (.int 5)) (aCons (xC (.str "A")) aNil))))))) ρ = .ok (.own OL, ρ) := by kernel_rfl
theorem lc10 (hd : DOk n st) (hn : n ≤ 300000) : ∃ (st' : Draw) (x y : D), LC10 (TE z st s2 s3 s4 s5 s6 s7 s8 s9 s10 s11 s12 s13 s14 s15 s16 s17 s18) = .ok (.nx (TE z st' s2 s3 s4 s5 s6 s7 s8 s9 s10 s11 s12 s13 s14 s15 (.sh x) (.sh y) s18)) ∧ BadS x ∧ y ∈ OL ∧ DOk (n + 2) st' := by
  obtain ⟨st1, x, l, e1, hx, d1⟩ := badshort_ok hd (by omega)
  have f1 := callD_eq (bs := [true]) (F := F__law_bad_short) (i := 1) (ρ := TE z st s2 s3 s4 s5 s6 s7 s8 s9 s10 s11 s12 s13 s14 s15 s16 s17 s18) rfl evAV_nil rfl rfl e1
  obtain ⟨st2, y, e2, hy, d2⟩ := pick_ok d1 (by omega) (L := OL) (by simp [OL]) (by simp [OL])
  have f2 := callD_eq (bs := [true, false]) (F := F__law_pick) (i := 1) (ρ := TE z st1 s2 s3 s4 s5 s6 s7 s8 s9 s10 s11 s12 s13 s14 s15 s16 s17 s18) rfl (evAV_cons (evV_own (OL_eq _)) evAV_nil) rfl rfl e2
  exact ⟨st2, x, y, (pars_eq (acons_eq f1 (acons_eq f2 rfl)) rfl).trans rfl, hx, hy, d2.to (by omega)⟩
theorem find2 {fa : Ct} {ad : Addr} (h : ad = fa "times_in" ∨ ad = fa "first_in") : ∃ F, (F = F_times_in ∨ F = F_first_in) ∧ findF ad [(fa "times_in", F_times_in), (fa "first_in", F_first_in)] = some F := by
  unfold findF
  by_cases h1 : fa "times_in" = ad
  · exact ⟨F_times_in, .inl rfl, if_pos h1⟩
  · unfold findF
    by_cases h2 : fa "first_in" = ad
    · exact ⟨F_first_in, .inr rfl, by rw [if_neg h1, if_pos h2]⟩
    · rcases h with h | h
      · exact absurd h.symm h1
      · exact absurd h.symm h2
theorem lc11 {TT : List (Addr × Str)} {fa : Ct} {zd x y : D} {rs : List Rw} (wf : WF rs) (hx : BadS x) (hy : y ∈ OL) : ∃ s18' : Sl, LC11 TT fa (TE (.tab TT zd) st s2 (.sh (shD rs)) s4 s5 s6 s7 s8 s9 s10 s11 s12 s13 s14 s15 (.sh x) (.sh y) s18) = .ok (.nx (TE (.tab TT zd) st s2 (.sh (shD rs)) s4 s5 s6 s7 s8 s9 s10 s11 s12 s13 s14 s15 (.sh x) (.sh y) s18')) := by
  obtain ⟨ρf, e, s18', hs⟩ := for_inv0 (mg := mName 18) (mb := b_law_2 TT fa) (ds := [.ref (fa "times_in"), .ref (fa "first_in")]) (ρ := TE (.tab TT zd) st s2 (.sh (shD rs)) s4 s5 s6 s7 s8 s9 s10 s11 s12 s13 s14 s15 (.sh x) (.sh y) s18)
    (fun i ρ => ∃ s18' : Sl, ρ = TE (.tab TT zd) st s2 (.sh (shD rs)) s4 s5 s6 s7 s8 s9 s10 s11 s12 s13 s14 s15 (.sh x) (.sh y) s18') ⟨s18, rfl⟩ fun i d ρ hd hi => by
    obtain ⟨t18, rfl⟩ := hi
    obtain ⟨ad, rfl, ha⟩ : ∃ ad, d = .ref ad ∧ (ad = fa "times_in" ∨ ad = fa "first_in") := by
      have hm := List.mem_of_getElem? hd
      simp only [List.mem_cons, List.not_mem_nil, or_false] at hm
      rcases hm with rfl | rfl
      · exact ⟨_, rfl, .inl rfl⟩
      · exact ⟨_, rfl, .inr rfl⟩
    obtain ⟨F, hF, ef⟩ := find2 ha
    have x1 : F [.sh x, .sh y] = .exc "BadShort" none := by rcases hF with h | h <;> rw [h] <;> first | exact (exc_short hx).1 | exact (exc_short hx).2
    have x2 : F [.sh (shD rs), .sh y] = .exc "BadWord" none := by rcases hF with h | h <;> rw [h] <;> first | exact (exc_word wf hy).1 | exact (exc_word wf hy).2
    refine ⟨_, _, rfl, ?_, .sh (.ref ad), rfl⟩
    unfold b_law_2
    refine (seq_n (caught_row (c := "BadShort") (p := none) rfl ?_)).trans (caught_row (c := "BadWord") (p := none) rfl ?_)
    · exact (callVX rfl ef).trans (call_exc (bs := [false, false]) (evAP_cons (evS_var (i := 16) rfl) (evAP_cons (evS_var (i := 17) rfl) evAP_nil)) rfl x1)
    · exact (callVX rfl ef).trans (call_exc (bs := [false, false]) (evAP_cons (evS_var (i := 3) rfl) (evAP_cons (evS_var (i := 17) rfl) evAP_nil)) rfl x2)
  subst hs
  refine ⟨s18', ?_⟩
  exact forV (ρ1 := TE (.tab TT zd) st s2 (.sh (shD rs)) s4 s5 s6 s7 s8 s9 s10 s11 s12 s13 s14 s15 (.sh x) (.sh y) s18) rfl e
end K40
end
section
set_option maxRecDepth 100000
set_option maxHeartbeats 1000000
namespace K40
open PySem DL L2
variable {ρ ρ' ρ1 ρ2 : DL.Env} {d a b : D} {st st' : Draw} {n m : Nat} {z s2 s3 s4 s5 s6 s7 s8 s9 s10 s11 s12 s13 s14 s15 s16 s17 s18 : Sl}
theorem body_ok {TT : List (Addr × Str)} {fa : Ct} {zd : D} (hd : DOk n st) (hn : n ≤ 200000) : ∃ (st' : Draw) (t3 t4 t5 t6 t7 t8 t9 t10 t11 t12 t13 t14 t15 t16 t17 t18 : Sl), b_law_3 TT fa (TE (.tab TT zd) st s2 s3 s4 s5 s6 s7 s8 s9 s10 s11 s12 s13 s14 s15 s16 s17 s18) = .ok (.nx (TE (.tab TT zd) st' s2 t3 t4 t5 t6 t7 t8 t9 t10 t11 t12 t13 t14 t15 t16 t17 t18)) ∧ DOk (n + 200) st' := by
  obtain ⟨st1, rs, e1, wf, ht, hok, d1⟩ := lc1 (z := .tab TT zd) (s2 := s2) (s3 := s3) (s4 := s4) (s5 := s5) (s6 := s6) (s7 := s7) (s8 := s8) (s9 := s9) (s10 := s10) (s11 := s11) (s12 := s12) (s13 := s13) (s14 := s14) (s15 := s15) (s16 := s16) (s17 := s17) (s18 := s18) hd (by omega)
  obtain ⟨st2, u5, u6, u7, u8, u9, e2, d2⟩ := lc2 (z := .tab TT zd) (s2 := s2) (s5 := s5) (s6 := s6) (s7 := s7) (s8 := s8) (s9 := s9) (s10 := s10) (s11 := s11) (s12 := s12) (s13 := s13) (s14 := s14) (s15 := s15) (s16 := s16) (s17 := s17) (s18 := s18) d1 (by omega) wf ht hok
  obtain ⟨st3, p, k, e3, hp, hp2, hpk, hk1, hk, d3⟩ := part1 (z := .tab TT zd) (s2 := s2) (s3 := .sh (shD rs)) (s4 := .sh (.str (S (said rs)))) (s5 := u5) (s6 := u6) (s7 := u7) (s8 := u8) (s9 := u9) (s10 := s10) (s11 := s11) (s12 := s12) (s13 := s13) (s14 := s14) (s15 := s15) (s16 := s16) (s17 := s17) (s18 := s18) d2 (by omega)
  obtain ⟨st4, q, e4, hq, d4⟩ := lc4 (z := .tab TT zd) (s2 := s2) (s3 := .sh (shD rs)) (s4 := .sh (.str (S (said rs)))) (s5 := u5) (s6 := u6) (s7 := u7) (s8 := u8) (s9 := u9) (s12 := s12) (s13 := s13) (s14 := s14) (s15 := s15) (s16 := s16) (s17 := s17) (s18 := s18) d3 (by omega) hp hp2 hk
  obtain ⟨st5, w1, e5, a1, a2, a3, d5⟩ := lc5 (z := .tab TT zd) (s2 := s2) (s3 := .sh (shD rs)) (s4 := .sh (.str (S (said rs)))) (s5 := u5) (s6 := u6) (s8 := u8) (s9 := u9) (s11 := .sh (.int (k : Nat))) (s12 := .sh (shD (dbl p k))) (s13 := s13) (s14 := s14) (s15 := s15) (s16 := s16) (s17 := s17) (s18 := s18) d4 (by omega) hq hp2 hpk
  obtain ⟨st6, w, e6, hw, hw2, hwk, d6⟩ := lc6 (z := .tab TT zd) (s2 := s2) (s3 := .sh (shD rs)) (s4 := .sh (.str (S (said rs)))) (s5 := u5) (s7 := .sh (.int (q : Nat))) (s8 := u8) (s9 := u9) (s10 := .sh (.str (S p))) (s11 := .sh (.int (k : Nat))) (s12 := .sh (shD (dbl p k))) (s13 := s13) (s14 := s14) (s15 := s15) (s16 := s16) (s17 := s17) (s18 := s18) d5 (by omega) a1 a2 a3
  have e7 := lc7 (z := .tab TT zd) (st := st6) (s2 := s2) (s3 := .sh (shD rs)) (s4 := .sh (.str (S (said rs)))) (s5 := u5) (s7 := .sh (.int (q : Nat))) (s8 := u8) (s9 := u9) (s13 := s13) (s14 := s14) (s15 := s15) (s16 := s16) (s17 := s17) (s18 := s18) hw hw2 hwk hp hp2 hpk hk
  have e8 := lc8 (z := .tab TT zd) (st := st6) (s2 := s2) (s3 := .sh (shD rs)) (s4 := .sh (.str (S (said rs)))) (s5 := u5) (s6 := .sh (.str (S w))) (s7 := .sh (.int (q : Nat))) (s8 := u8) (s9 := u9) (s10 := .sh (.str (S p))) (s11 := .sh (.int (k : Nat))) (s13 := s13) (s14 := s14) (s15 := s15) (s16 := s16) (s17 := s17) (s18 := s18) hp2 hpk hk
  obtain ⟨v14, v15, e9⟩ := lc9 (z := .tab TT zd) (st := st6) (s2 := s2) (s3 := .sh (shD rs)) (s4 := .sh (.str (S (said rs)))) (s5 := u5) (s7 := .sh (.int (q : Nat))) (s8 := u8) (s9 := u9) (s12 := .sh (shD (dbl p k))) (s14 := s14) (s15 := s15) (s16 := s16) (s17 := s17) (s18 := s18) hw hw2 hwk hp hp2 hpk hk
  obtain ⟨st7, x, y, e10, hx, hy, d7⟩ := lc10 (z := .tab TT zd) (s2 := s2) (s3 := .sh (shD rs)) (s4 := .sh (.str (S (said rs)))) (s5 := u5) (s6 := .sh (.str (S w))) (s7 := .sh (.int (q : Nat))) (s8 := u8) (s9 := u9) (s10 := .sh (.str (S p))) (s11 := .sh (.int (k : Nat))) (s12 := .sh (shD (dbl p k))) (s13 := .sh (shD (bhd c40 (dbl p k)))) (s14 := v14) (s15 := v15) (s16 := s16) (s17 := s17) (s18 := s18) d6 (by omega)
  obtain ⟨v18, e11⟩ := lc11 (TT := TT) (fa := fa) (zd := zd) (st := st7) (s2 := s2) (s4 := .sh (.str (S (said rs)))) (s5 := u5) (s6 := .sh (.str (S w))) (s7 := .sh (.int (q : Nat))) (s8 := u8) (s9 := u9) (s10 := .sh (.str (S p))) (s11 := .sh (.int (k : Nat))) (s12 := .sh (shD (dbl p k))) (s13 := .sh (shD (bhd c40 (dbl p k)))) (s14 := v14) (s15 := v15) (s18 := s18) wf hx hy
  refine ⟨st7, .sh (shD rs), .sh (.str (S (said rs))), u5, .sh (.str (S w)), .sh (.int (q : Nat)), u8, u9, .sh (.str (S p)), .sh (.int (k : Nat)), .sh (shD (dbl p k)), .sh (shD (bhd c40 (dbl p k))), v14, v15, .sh x, .sh y, v18, ?_, d7.to (by omega)⟩
  rw [LC_eq]
  exact (seq_n e1).trans ((seq_n e2).trans ((seq_n e3).trans ((seq_n e4).trans ((seq_n e5).trans ((seq_n e6).trans ((seq_n e7).trans ((seq_n e8).trans ((seq_n e9).trans ((seq_n e10).trans e11)))))))))
theorem F_true (Pt : Addr) (fa : Ct) (ns : List Int) (len : ns.length ≤ 63) (bits : ∀ z ∈ ns, Builtin.Int.intBits z ≤ 1048576) : ∃ ρ', F_law (TTof Pt) fa [.tab (TTof Pt) (.scr ns)] = .ok (.sh (.bl true), ρ') := by
  obtain ⟨st, ⟨l0, e0⟩, d0⟩ := begun_ok len
  have em : gMin2 [.int (ns.length : Int), .int 8] = some (.sh (.int (((min ns.length 8 : Nat)) : Int))) := min_Z ns.length 8
  have hs : smallI (3 + ((min ns.length 8 : Nat) : Int)) = true := small_i (by omega) (by omega)
  have ht : (3 + ((min ns.length 8 : Nat) : Int)).toNat = 3 + min ns.length 8 := by omega
  obtain ⟨ρ, h, st2, t2, t3, t4, t5, t6, t7, t8, t9, t10, t11, t12, t13, t14, t15, t16, t17, t18, d2, e'⟩ := for_inv0 (mg := mName 2) (mb := b_law_3 (TTof Pt) fa) (ds := (List.range (3 + min ns.length 8)).map fun (k : Nat) => D.int (0 + (k : Int))) (ρ := TE (.tab (TTof Pt) (.scr ns)) st .emp .emp .emp .emp .emp .emp .emp .emp .emp .emp .emp .emp .emp .emp .emp .emp .emp)
    (fun i ρ => ∃ (st' : Draw) (t2 t3 t4 t5 t6 t7 t8 t9 t10 t11 t12 t13 t14 t15 t16 t17 t18 : Sl), DOk (200 * i) st' ∧ ρ = TE (.tab (TTof Pt) (.scr ns)) st' t2 t3 t4 t5 t6 t7 t8 t9 t10 t11 t12 t13 t14 t15 t16 t17 t18) ⟨st, _, _, _, _, _, _, _, _, _, _, _, _, _, _, _, _, _, d0, rfl⟩ fun i d ρ hd hi => by
    obtain ⟨st1, t2, t3, t4, t5, t6, t7, t8, t9, t10, t11, t12, t13, t14, t15, t16, t17, t18, dd, rfl⟩ := hi
    have hi11 : i < 3 + min ns.length 8 := by simpa using (List.getElem?_eq_some_iff.mp hd).1
    obtain ⟨st', u3, u4, u5, u6, u7, u8, u9, u10, u11, u12, u13, u14, u15, u16, u17, u18, e', d'⟩ := body_ok (TT := TTof Pt) (fa := fa) (zd := .scr ns) (s2 := .sh d) (s3 := t3) (s4 := t4) (s5 := t5) (s6 := t6) (s7 := t7) (s8 := t8) (s9 := t9) (s10 := t10) (s11 := t11) (s12 := t12) (s13 := t13) (s14 := t14) (s15 := t15) (s16 := t16) (s17 := t17) (s18 := t18) dd (by omega)
    exact ⟨_, _, rfl, e', st', .sh d, u3, u4, u5, u6, u7, u8, u9, u10, u11, u12, u13, u14, u15, u16, u17, u18, d'.to (by omega), rfl⟩
  subst e'
  have e1 : sAsg 1 (xCall [false] F__law_begun (aCons (xVar 0) aNil)) [.tab (TTof Pt) (.scr ns), .emp, .emp, .emp, .emp, .emp, .emp, .emp, .emp, .emp, .emp, .emp, .emp, .emp, .emp, .emp, .emp, .emp, .emp, .emp] = .ok (.nx (TE (.tab (TTof Pt) (.scr ns)) st .emp .emp .emp .emp .emp .emp .emp .emp .emp .emp .emp .emp .emp .emp .emp .emp .emp)) := by
    simp only [runF, runB, sSeq, sIf, sAsg, sRet, sNext, sDrop, sRaise, xVar, xC, xOp, xCB, xUn, aCons, aNil, rdv, rdvs, rdS, rdO_some, rdO_none, R_bind_ok, R_bind_bad, R_bind_exc, xTest, xTru, xAnd, xOr, xNot, xIf, xAndV, xOrV, xNotV, xChain, blOf, truO, blR, mv, put, maskA1, maskA2, maskA3, List.mem_cons, List.not_mem_nil, true_or, or_true, or_false, false_or, Bool.and_self, isi_tt, isi_ss, lc_nil, gEq_int, gNe_int, gLt_int, gLe_int, gGt_int, gGe_int, gLen, gIx, gAdd_int, gSub_int, gAug_int, xCall, takeArgs, take1, giveBack, bkAdd, share, shares, xTup, xLst, sAug, shS, emps, mName, mTup, mgCons, mgNil, xLc, xISeq, xIZip, xIRng1_eq, xIRng2_eq, rngV_ints, rngU_ints, rng1C_ok, rng2C_ok, kindOf, xSl, oPart, oNone, intOf, itemsOf, back, at0, at1, xApp, xExt, xPopAt, ownS, sz_0, sz_1, sz_2, sz_3, sz_4, sz_5, sz_6, sz_7, sz_8, List.getElem?_cons_zero, List.getElem?_cons_succ, List.getElem?_nil, List.set_cons_zero, List.set_cons_succ, List.length_cons, List.length_nil, List.cons_append, List.nil_append, List.append_nil, List.replicate, Option.bind_some, Option.bind_none, Option.map_some, Option.map_none, Option.some_or, Option.none_or, Option.or_some, Option.or_none, Option.getD_some, Option.getD_none, if_true, if_false, Bool.false_eq_true, Bool.not_true, Bool.not_false, decide_true, decide_false, List.map_cons, List.map_nil, reduceIte, Nat.reduceAdd, Nat.reduceLT, Nat.reduceEqDiff, Nat.zero_add, Int.reduceSub, Int.reduceAdd, Int.reduceLT, Int.reduceLE, Int.reduceEq, e0]
  have e2 : sFor (xIRng1 (aCons (xOp gAdd (xC (.int 3)) (xCB gMin2 (aCons (xCB gLen (aCons (xVar 0) aNil)) (aCons (xC (.int 8)) aNil)))) aNil)) (mName 2) (b_law_3 (TTof Pt) fa) (TE (.tab (TTof Pt) (.scr ns)) st .emp .emp .emp .emp .emp .emp .emp .emp .emp .emp .emp .emp .emp .emp .emp .emp .emp) = .ok (.nx (TE (.tab (TTof Pt) (.scr ns)) st2 t2 t3 t4 t5 t6 t7 t8 t9 t10 t11 t12 t13 t14 t15 t16 t17 t18)) := by
    rw [← h]
    simp only [runF, runB, sSeq, sIf, sAsg, sRet, sNext, sDrop, sRaise, xVar, xC, xOp, xCB, xUn, aCons, aNil, rdv, rdvs, rdS, rdO_some, rdO_none, R_bind_ok, R_bind_bad, R_bind_exc, xTest, xTru, xAnd, xOr, xNot, xIf, xAndV, xOrV, xNotV, xChain, blOf, truO, blR, mv, put, maskA1, maskA2, maskA3, List.mem_cons, List.not_mem_nil, true_or, or_true, or_false, false_or, Bool.and_self, isi_tt, isi_ss, lc_nil, gEq_int, gNe_int, gLt_int, gLe_int, gGt_int, gGe_int, gLen, gIx, gAdd_int, gSub_int, gAug_int, xCall, takeArgs, take1, giveBack, bkAdd, share, shares, xTup, xLst, sAug, shS, emps, mName, mTup, mgCons, mgNil, xLc, xISeq, xIZip, xIRng1_eq, xIRng2_eq, rngV_ints, rngU_ints, rng1C_ok, rng2C_ok, kindOf, xSl, oPart, oNone, intOf, itemsOf, back, at0, at1, xApp, xExt, xPopAt, ownS, sz_0, sz_1, sz_2, sz_3, sz_4, sz_5, sz_6, sz_7, sz_8, List.getElem?_cons_zero, List.getElem?_cons_succ, List.getElem?_nil, List.set_cons_zero, List.set_cons_succ, List.length_cons, List.length_nil, List.cons_append, List.nil_append, List.append_nil, List.replicate, Option.bind_some, Option.bind_none, Option.map_some, Option.map_none, Option.some_or, Option.none_or, Option.or_some, Option.or_none, Option.getD_some, Option.getD_none, if_true, if_false, Bool.false_eq_true, Bool.not_true, Bool.not_false, decide_true, decide_false, List.map_cons, List.map_nil, reduceIte, Nat.reduceAdd, Nat.reduceLT, Nat.reduceEqDiff, Nat.zero_add, Int.reduceSub, Int.reduceAdd, Int.reduceLT, Int.reduceLE, Int.reduceEq, sFor, em, hs, ht]
  have run : m_law (TTof Pt) fa [.tab (TTof Pt) (.scr ns), .emp, .emp, .emp, .emp, .emp, .emp, .emp, .emp, .emp, .emp, .emp, .emp, .emp, .emp, .emp, .emp, .emp, .emp, .emp] = .ok (.rt (.sh (.bl true)) (TE (.tab (TTof Pt) (.scr ns)) st2 t2 t3 t4 t5 t6 t7 t8 t9 t10 t11 t12 t13 t14 t15 t16 t17 t18)) := by
    unfold m_law
    exact (seq_n e1).trans ((seq_n e2).trans rfl)
  exact isF_gen (fix := fun i => decide (i ∈ ([0] : List Nat))) (np := 1) (nl := 19) (as := [.tab (TTof Pt) (.scr ns)]) rfl run
end K40
end
section
open PySem PySem.W PyProof.Rows in
set_option maxHeartbeats 0 in
open_top hd for PySem.Challenge.rw_samewriting_k40_whole_words_counted_in_l
end
section
set_option maxRecDepth 100000
set_option maxHeartbeats 2000000
namespace K40
open PySem PySem.Spec PyProof.Rows L2 DL
abbrev si_TooMany : Stmt := (clsBody (topS 4)).getD 0 (.Pass ⟨0, 0, 0, 0⟩)
theorem nsc_TooMany : NdefX.NScope (["self", "most", "__class__"] : List Str) (["self", "most"] : List Str) (["__class__"] : List Str) (defScope si_TooMany) := NdefX.nscope_by (by decide +kernel)
theorem sup_TooMany {P : Program} {K : PySem.W.Frag} {mg : Str → Option Value} {C fI cc cda : Addr} {oI dcI pmI ctI : Value} {odI : Option Addr} {slI : Array (Option Value)} (T : SupC K P C fI cc cda "most")
    (lk : K.lookup fI = some ⟨oI, odI, .func (PySem.W.fnX "__init__" "TooMany.__init__" (defArgs si_TooMany) (defBody si_TooMany) (defScope si_TooMany) [("__class__", cc)] .none .none dcI pmI none (.ref cda) ctI), slI⟩) (hcd : PySem.W.codeIn K (.ref cda) "TooMany.__init__" = true) (hmg : mg "super" = none) : SupT K mg P C "most" :=
  ⟨fun w base => ⟨fI, _, T.ox, T.ini, T.tyI, fn_super (k := 0) lk hcd T nsc_TooMany rfl hmg ⟨_, rfl, rfl⟩ rfl (fun L => ⟨_, rfl⟩) (fun L => rfl) (fun L => rfl) rfl rfl (fun L => rfl), fun s us _ hl => match us, hl with | [_, _], _ => .of_eq rfl⟩⟩
theorem all_mk {l : PySem.W.OpenLaw} {w : World} {K : PySem.W.Frag} {h : Heap} {mg : Str → Option Value} {fa Pt : Addr} (X : K.In h) (G : h.Ns mainGlobals mg) (hfa : mg "law" = some (.ref fa))
        {tk_LETTERS : Tok}
    {tk_MOST_ROWS : Tok}
    {tk_MOST_SAID : Tok}
    {tk_MOST_WORD : Tok}
    {aC_BadShort aC_BadWord aC_TooMany aC_WritingError : Addr}
    {fI_TooMany cc_TooMany cda_TooMany : Addr} {odI_TooMany cld_TooMany cdd_TooMany : Option Addr} {slI_TooMany csl_TooMany ccs_TooMany : Array (Option Value)} {oI_TooMany dcI_TooMany pmI_TooMany ctI_TooMany cl_TooMany ccl_TooMany : Value} {vs_TooMany : Array Value} {file_TooMany : Str} {tf_TooMany : Tok}
    {fa_is_number : Addr} {od_is_number an_is_number : Option Addr} {sl_is_number : Array (Option Value)} {oc_is_number kV_is_number dc_is_number pm_is_number cd_is_number ct_is_number : Value}
    {fa_are_letters : Addr} {od_are_letters an_are_letters : Option Addr} {sl_are_letters : Array (Option Value)} {oc_are_letters kV_are_letters dc_are_letters pm_are_letters cd_are_letters ct_are_letters : Value}
    {fa_is_row : Addr} {od_is_row an_is_row : Option Addr} {sl_is_row : Array (Option Value)} {oc_is_row kV_is_row dc_is_row pm_is_row cd_is_row ct_is_row : Value}
    {fa_is_short : Addr} {od_is_short an_is_short : Option Addr} {sl_is_short : Array (Option Value)} {oc_is_short kV_is_short dc_is_short pm_is_short cd_is_short ct_is_short : Value}
    {fa_need_short : Addr} {od_need_short an_need_short : Option Addr} {sl_need_short : Array (Option Value)} {oc_need_short kV_need_short dc_need_short pm_need_short cd_need_short ct_need_short : Value}
    {fa_behind : Addr} {od_behind an_behind : Option Addr} {sl_behind : Array (Option Value)} {oc_behind kV_behind dc_behind pm_behind cd_behind ct_behind : Value}
    {fa_need_word : Addr} {od_need_word an_need_word : Option Addr} {sl_need_word : Array (Option Value)} {oc_need_word kV_need_word dc_need_word pm_need_word cd_need_word ct_need_word : Value}
    {fa_starts_in : Addr} {od_starts_in an_starts_in : Option Addr} {sl_starts_in : Array (Option Value)} {oc_starts_in kV_starts_in dc_starts_in pm_starts_in cd_starts_in ct_starts_in : Value}
    {fa_Looked___init__ cC_Looked : Addr} {od_Looked___init__ an_Looked___init__ : Option Addr} {sl_Looked___init__ : Array (Option Value)} {oc_Looked___init__ kV_Looked___init__ dc_Looked___init__ pm_Looked___init__ cd_Looked___init__ ct_Looked___init__ : Value}
    {fa_looked_behind : Addr} {od_looked_behind an_looked_behind : Option Addr} {sl_looked_behind : Array (Option Value)} {oc_looked_behind kV_looked_behind dc_looked_behind pm_looked_behind cd_looked_behind ct_looked_behind : Value}
    {fa_looked : Addr} {od_looked an_looked : Option Addr} {sl_looked : Array (Option Value)} {oc_looked kV_looked dc_looked pm_looked cd_looked ct_looked : Value}
    {fa_times_in : Addr} {od_times_in an_times_in : Option Addr} {sl_times_in : Array (Option Value)} {oc_times_in kV_times_in dc_times_in pm_times_in cd_times_in ct_times_in : Value}
    {fa_first_in : Addr} {od_first_in an_first_in : Option Addr} {sl_first_in : Array (Option Value)} {oc_first_in kV_first_in dc_first_in pm_first_in cd_first_in ct_first_in : Value}
    {fa__law_begun : Addr} {od__law_begun an__law_begun : Option Addr} {sl__law_begun : Array (Option Value)} {oc__law_begun kV__law_begun dc__law_begun pm__law_begun cd__law_begun ct__law_begun : Value}
    {fa__law_mixed : Addr} {od__law_mixed an__law_mixed : Option Addr} {sl__law_mixed : Array (Option Value)} {oc__law_mixed kV__law_mixed dc__law_mixed pm__law_mixed cd__law_mixed ct__law_mixed : Value}
    {fa__law_take : Addr} {od__law_take an__law_take : Option Addr} {sl__law_take : Array (Option Value)} {oc__law_take kV__law_take dc__law_take pm__law_take cd__law_take ct__law_take : Value}
    {fa__law_pick : Addr} {od__law_pick an__law_pick : Option Addr} {sl__law_pick : Array (Option Value)} {oc__law_pick kV__law_pick dc__law_pick pm__law_pick cd__law_pick ct__law_pick : Value}
    {fa__law_short : Addr} {od__law_short an__law_short : Option Addr} {sl__law_short : Array (Option Value)} {oc__law_short kV__law_short dc__law_short pm__law_short cd__law_short ct__law_short : Value}
    {fa__law_lengths : Addr} {od__law_lengths an__law_lengths : Option Addr} {sl__law_lengths : Array (Option Value)} {oc__law_lengths kV__law_lengths dc__law_lengths pm__law_lengths cd__law_lengths ct__law_lengths : Value}
    {fa__law_text : Addr} {od__law_text an__law_text : Option Addr} {sl__law_text : Array (Option Value)} {oc__law_text kV__law_text dc__law_text pm__law_text cd__law_text ct__law_text : Value}
    {fa__law_small_short : Addr} {od__law_small_short an__law_small_short : Option Addr} {sl__law_small_short : Array (Option Value)} {oc__law_small_short kV__law_small_short dc__law_small_short pm__law_small_short cd__law_small_short ct__law_small_short : Value}
    {fa__law_bad_short : Addr} {od__law_bad_short an__law_bad_short : Option Addr} {sl__law_bad_short : Array (Option Value)} {oc__law_bad_short kV__law_bad_short dc__law_bad_short pm__law_bad_short cd__law_bad_short ct__law_bad_short : Value}
    {fa__law_doubled : Addr} {od__law_doubled an__law_doubled : Option Addr} {sl__law_doubled : Array (Option Value)} {oc__law_doubled kV__law_doubled dc__law_doubled pm__law_doubled cd__law_doubled ct__law_doubled : Value}
    {fa__law_power : Addr} {od__law_power an__law_power : Option Addr} {sl__law_power : Array (Option Value)} {oc__law_power kV__law_power dc__law_power pm__law_power cd__law_power ct__law_power : Value}
    {fa__law_starts : Addr} {od__law_starts an__law_starts : Option Addr} {sl__law_starts : Array (Option Value)} {oc__law_starts kV__law_starts dc__law_starts pm__law_starts cd__law_starts ct__law_starts : Value}
    {fa__law_in_rounds : Addr} {od__law_in_rounds an__law_in_rounds : Option Addr} {sl__law_in_rounds : Array (Option Value)} {oc__law_in_rounds kV__law_in_rounds dc__law_in_rounds pm__law_in_rounds cd__law_in_rounds ct__law_in_rounds : Value}
    {fa__law_caught : Addr} {od__law_caught an__law_caught : Option Addr} {sl__law_caught : Array (Option Value)} {oc__law_caught kV__law_caught dc__law_caught pm__law_caught cd__law_caught ct__law_caught : Value}
    {fa_law : Addr} {od_law an_law : Option Addr} {sl_law : Array (Option Value)} {oc_law kV_law dc_law pm_law ct_law : Value} {cL : Addr}
    (hb_abs : PySem.W.nsIn K mainGlobals "abs" = some none)
    (hb_all : PySem.W.nsIn K mainGlobals "all" = some none)
    (hb_bool : PySem.W.nsIn K mainGlobals "bool" = some none)
    (hb_enumerate : PySem.W.nsIn K mainGlobals "enumerate" = some none)
    (hb_int : PySem.W.nsIn K mainGlobals "int" = some none)
    (hb_isinstance : PySem.W.nsIn K mainGlobals "isinstance" = some none)
    (hb_len : PySem.W.nsIn K mainGlobals "len" = some none)
    (hb_list : PySem.W.nsIn K mainGlobals "list" = some none)
    (hb_min : PySem.W.nsIn K mainGlobals "min" = some none)
    (hb_range : PySem.W.nsIn K mainGlobals "range" = some none)
    (hb_repr : PySem.W.nsIn K mainGlobals "repr" = some none)
    (hb_str : PySem.W.nsIn K mainGlobals "str" = some none)
    (hb_tuple : PySem.W.nsIn K mainGlobals "tuple" = some none)
    (hc_LETTERS : PySem.W.nsIn K mainGlobals "LETTERS" = some (some (.str "abc" tk_LETTERS)))
    (hc_MOST_ROWS : PySem.W.nsIn K mainGlobals "MOST_ROWS" = some (some (.int 4000 tk_MOST_ROWS)))
    (hc_MOST_SAID : PySem.W.nsIn K mainGlobals "MOST_SAID" = some (some (.int 40 tk_MOST_SAID)))
    (hc_MOST_WORD : PySem.W.nsIn K mainGlobals "MOST_WORD" = some (some (.int 20 tk_MOST_WORD)))
    (hg_BadShort : PySem.W.nsIn K mainGlobals "BadShort" = some (some (.ref aC_BadShort)))
    (hx_BadShort : PySem.W.excIn K aC_BadShort [.type "ValueError", .type "Exception", .type "BaseException", .type "object"] "ValueError.__new__" = true)
    (hk_BadShort : PySem.W.keepIn K (.ref aC_BadShort) = true)
    (he_BadShort : PySem.W.subIn K (.ref aC_BadShort) (.type "BaseException") = some true)
    (ht_BadShort : PySem.W.typeIn K (.ref aC_BadShort) = some (.type "type"))
    (hw0_BadShort : PySem.W.kitOne K (.type "NoneType") (.ref aC_BadShort) = some false)
    (hw1_BadShort : PySem.W.exmOne K (.ref aC_BadShort) (.ref aC_WritingError) = some true)
    (hw2_BadShort : PySem.W.findIn K (.ref aC_BadShort) "__getattribute__" = some (some (.builtin "BaseException.__getattribute__")))
    (hw3_BadShort : PySem.W.findIn K (.ref aC_BadShort) "__getattr__" = some none)
    (hw4_BadShort : PySem.W.hasDictIn K aC_BadShort = true)
    (hw5_BadShort : PySem.W.findIn K (.ref aC_BadShort) "__class__" = some (some (.builtin "object.__class__")))
    (hw6_BadShort : PySem.W.specialIn K (.builtin "object.__class__") "__get__" = some (some (.builtin "getset_descriptor.__get__")))
    (hw7_BadShort : PySem.W.takesIn K (.builtin "object.__class__") = some true)
    (hw8_BadShort : PySem.W.mroIn K aC_BadShort (.type "object") = some true)
    (hw9_BadShort : PySem.W.kitOne K (.ref aC_BadShort) (.ref aC_BadShort) = some true)
    (hg_BadWord : PySem.W.nsIn K mainGlobals "BadWord" = some (some (.ref aC_BadWord)))
    (hx_BadWord : PySem.W.excIn K aC_BadWord [.type "ValueError", .type "Exception", .type "BaseException", .type "object"] "ValueError.__new__" = true)
    (hk_BadWord : PySem.W.keepIn K (.ref aC_BadWord) = true)
    (he_BadWord : PySem.W.subIn K (.ref aC_BadWord) (.type "BaseException") = some true)
    (ht_BadWord : PySem.W.typeIn K (.ref aC_BadWord) = some (.type "type"))
    (hw0_BadWord : PySem.W.kitOne K (.type "NoneType") (.ref aC_BadWord) = some false)
    (hw1_BadWord : PySem.W.exmOne K (.ref aC_BadWord) (.ref aC_WritingError) = some true)
    (hw2_BadWord : PySem.W.findIn K (.ref aC_BadWord) "__getattribute__" = some (some (.builtin "BaseException.__getattribute__")))
    (hw3_BadWord : PySem.W.findIn K (.ref aC_BadWord) "__getattr__" = some none)
    (hw4_BadWord : PySem.W.hasDictIn K aC_BadWord = true)
    (hw5_BadWord : PySem.W.findIn K (.ref aC_BadWord) "__class__" = some (some (.builtin "object.__class__")))
    (hw6_BadWord : PySem.W.specialIn K (.builtin "object.__class__") "__get__" = some (some (.builtin "getset_descriptor.__get__")))
    (hw7_BadWord : PySem.W.takesIn K (.builtin "object.__class__") = some true)
    (hw8_BadWord : PySem.W.mroIn K aC_BadWord (.type "object") = some true)
    (hw9_BadWord : PySem.W.kitOne K (.ref aC_BadWord) (.ref aC_BadWord) = some true)
    (hg_TooMany : PySem.W.nsIn K mainGlobals "TooMany" = some (some (.ref aC_TooMany)))
    (yso_TooMany : oexIn K aC_TooMany = true)
    (yss_TooMany : PySem.W.findIn K (.ref aC_TooMany) "__setattr__" = some (some (.builtin "object.__setattr__")))
    (yse_TooMany : PySem.W.subIn K (.ref aC_TooMany) (.type "BaseException") = some true)
    (yst_TooMany : PySem.W.typeIn K (.ref aC_TooMany) = some (.type "type"))
    (ysk_TooMany : PySem.W.keepIn K (.ref aC_TooMany) = true)
    (ysi_TooMany : PySem.W.findIn K (.ref aC_TooMany) "__init__" = some (some (.ref fI_TooMany)))
    (ysf_TooMany : PySem.W.typeIn K (.ref fI_TooMany) = some (.type "function"))
    (ysl_TooMany : K.lookup fI_TooMany = some ⟨oI_TooMany, odI_TooMany, .func (PySem.W.fnX "__init__" "TooMany.__init__" (defArgs si_TooMany) (defBody si_TooMany) (defScope si_TooMany) [("__class__", cc_TooMany)] .none .none dcI_TooMany pmI_TooMany none (.ref cda_TooMany) ctI_TooMany), slI_TooMany⟩)
    (ysd_TooMany : PySem.W.codeIn K (.ref cda_TooMany) "TooMany.__init__" = true)
    (ysc_TooMany : K.lookup cc_TooMany = some ⟨cl_TooMany, cld_TooMany, .cell (some (.ref aC_TooMany)), csl_TooMany⟩)
    (ysm_TooMany : PySem.W.mroIn K aC_TooMany (.ref aC_TooMany) = some true)
    (ysy_TooMany : PySem.W.nsIn K cStatics "thirdparty.any" = some none)
    (ysu_TooMany : PySem.W.ks_superIn K aC_TooMany aC_TooMany "__init__" = some (some (.builtin "ValueError.__init__")))
    (ysv_TooMany : PySem.W.subIn K (.ref aC_TooMany) (.type "ValueError") = some true)
    (ysg_TooMany : K.lookup cda_TooMany = some ⟨ccl_TooMany, cdd_TooMany, .fields vs_TooMany, ccs_TooMany⟩)
    (ysh_TooMany : vs_TooMany[2]? = some (.str file_TooMany tf_TooMany))
    (ysj_TooMany : ((l.prog.main.file : Str) == file_TooMany) = true)
    (ysp_TooMany : (l.prog.main.scope.names.lookup ("super" : Str)).isSome = false)
    (ysn_TooMany : PySem.W.findIn K (.ref aC_TooMany) "most" = some none)
    (ysb_TooMany : PySem.W.nsIn K mainGlobals "super" = some none)
    (hg_WritingError : PySem.W.nsIn K mainGlobals "WritingError" = some (some (.ref aC_WritingError)))
    (a_is_number : PySem.W.nsIn K mainGlobals "is_number" = some (some (.ref fa_is_number)))
    (l_is_number : K.lookup fa_is_number = some ⟨oc_is_number, od_is_number, .func (PySem.W.fnOf "is_number" "is_number" (defArgs s_is_number) (defBody s_is_number) (defScope s_is_number) .none kV_is_number dc_is_number pm_is_number an_is_number cd_is_number ct_is_number), sl_is_number⟩)
    (c_is_number : PySem.W.codeIn K cd_is_number "is_number" = true)
    (k_is_number : PySem.W.keepIn K (.ref fa_is_number) = true)
    (a_are_letters : PySem.W.nsIn K mainGlobals "are_letters" = some (some (.ref fa_are_letters)))
    (l_are_letters : K.lookup fa_are_letters = some ⟨oc_are_letters, od_are_letters, .func (PySem.W.fnOf "are_letters" "are_letters" (defArgs s_are_letters) (defBody s_are_letters) (defScope s_are_letters) .none kV_are_letters dc_are_letters pm_are_letters an_are_letters cd_are_letters ct_are_letters), sl_are_letters⟩)
    (c_are_letters : PySem.W.codeIn K cd_are_letters "are_letters" = true)
    (k_are_letters : PySem.W.keepIn K (.ref fa_are_letters) = true)
    (a_is_row : PySem.W.nsIn K mainGlobals "is_row" = some (some (.ref fa_is_row)))
    (l_is_row : K.lookup fa_is_row = some ⟨oc_is_row, od_is_row, .func (PySem.W.fnOf "is_row" "is_row" (defArgs s_is_row) (defBody s_is_row) (defScope s_is_row) .none kV_is_row dc_is_row pm_is_row an_is_row cd_is_row ct_is_row), sl_is_row⟩)
    (c_is_row : PySem.W.codeIn K cd_is_row "is_row" = true)
    (k_is_row : PySem.W.keepIn K (.ref fa_is_row) = true)
    (a_is_short : PySem.W.nsIn K mainGlobals "is_short" = some (some (.ref fa_is_short)))
    (l_is_short : K.lookup fa_is_short = some ⟨oc_is_short, od_is_short, .func (PySem.W.fnOf "is_short" "is_short" (defArgs s_is_short) (defBody s_is_short) (defScope s_is_short) .none kV_is_short dc_is_short pm_is_short an_is_short cd_is_short ct_is_short), sl_is_short⟩)
    (c_is_short : PySem.W.codeIn K cd_is_short "is_short" = true)
    (k_is_short : PySem.W.keepIn K (.ref fa_is_short) = true)
    (a_need_short : PySem.W.nsIn K mainGlobals "need_short" = some (some (.ref fa_need_short)))
    (l_need_short : K.lookup fa_need_short = some ⟨oc_need_short, od_need_short, .func (PySem.W.fnOf "need_short" "need_short" (defArgs s_need_short) (defBody s_need_short) (defScope s_need_short) .none kV_need_short dc_need_short pm_need_short an_need_short cd_need_short ct_need_short), sl_need_short⟩)
    (c_need_short : PySem.W.codeIn K cd_need_short "need_short" = true)
    (k_need_short : PySem.W.keepIn K (.ref fa_need_short) = true)
    (a_behind : PySem.W.nsIn K mainGlobals "behind" = some (some (.ref fa_behind)))
    (l_behind : K.lookup fa_behind = some ⟨oc_behind, od_behind, .func (PySem.W.fnOf "behind" "behind" (defArgs s_behind) (defBody s_behind) (defScope s_behind) .none kV_behind dc_behind pm_behind an_behind cd_behind ct_behind), sl_behind⟩)
    (c_behind : PySem.W.codeIn K cd_behind "behind" = true)
    (k_behind : PySem.W.keepIn K (.ref fa_behind) = true)
    (a_need_word : PySem.W.nsIn K mainGlobals "need_word" = some (some (.ref fa_need_word)))
    (l_need_word : K.lookup fa_need_word = some ⟨oc_need_word, od_need_word, .func (PySem.W.fnOf "need_word" "need_word" (defArgs s_need_word) (defBody s_need_word) (defScope s_need_word) .none kV_need_word dc_need_word pm_need_word an_need_word cd_need_word ct_need_word), sl_need_word⟩)
    (c_need_word : PySem.W.codeIn K cd_need_word "need_word" = true)
    (k_need_word : PySem.W.keepIn K (.ref fa_need_word) = true)
    (a_starts_in : PySem.W.nsIn K mainGlobals "starts_in" = some (some (.ref fa_starts_in)))
    (l_starts_in : K.lookup fa_starts_in = some ⟨oc_starts_in, od_starts_in, .func (PySem.W.fnOf "starts_in" "starts_in" (defArgs s_starts_in) (defBody s_starts_in) (defScope s_starts_in) .none kV_starts_in dc_starts_in pm_starts_in an_starts_in cd_starts_in ct_starts_in), sl_starts_in⟩)
    (c_starts_in : PySem.W.codeIn K cd_starts_in "starts_in" = true)
    (k_starts_in : PySem.W.keepIn K (.ref fa_starts_in) = true)
    (gC_Looked : PySem.W.nsIn K mainGlobals "Looked" = some (some (.ref cC_Looked)))
    (a_Looked___init__ : PySem.W.findIn K (.ref cC_Looked) "__init__" = some (some (.ref fa_Looked___init__)))
    (i_Looked___init__ : PySem.W.isFn K (.ref fa_Looked___init__) = true)
    (l_Looked___init__ : K.lookup fa_Looked___init__ = some ⟨oc_Looked___init__, od_Looked___init__, .func (PySem.W.fnOf "__init__" "Looked.__init__" (defArgs s_Looked___init__) (defBody s_Looked___init__) (defScope s_Looked___init__) .none kV_Looked___init__ dc_Looked___init__ pm_Looked___init__ an_Looked___init__ cd_Looked___init__ ct_Looked___init__), sl_Looked___init__⟩)
    (c_Looked___init__ : PySem.W.codeIn K cd_Looked___init__ "Looked.__init__" = true)
    (k_Looked___init__ : PySem.W.keepIn K (.ref fa_Looked___init__) = true)
    (pg_Looked : PySem.W.plainGet K cC_Looked Str.empty = true)
    (hd_Looked : PySem.W.hasDictIn K cC_Looked = true)
    (po_Looked : PySem.W.plainOver K cC_Looked = true)
    (sa_Looked : PySem.W.findIn K (.ref cC_Looked) "__setattr__" = some (some (.builtin "object.__setattr__")))
    (mk_Looked : PySem.W.makesIn K cC_Looked = true)
    (kc_Looked : PySem.W.keepIn K (.ref cC_Looked) = true)
    (nf_Looked_many : PySem.W.findIn K (.ref cC_Looked) "many" = some none)
    (nf_Looked_ahead : PySem.W.findIn K (.ref cC_Looked) "ahead" = some none)
    (nf_Looked_last : PySem.W.findIn K (.ref cC_Looked) "last" = some none)
    (nf_Looked_times : PySem.W.findIn K (.ref cC_Looked) "times" = some none)
    (nf_Looked_first : PySem.W.findIn K (.ref cC_Looked) "first" = some none)
    (a_looked_behind : PySem.W.nsIn K mainGlobals "looked_behind" = some (some (.ref fa_looked_behind)))
    (l_looked_behind : K.lookup fa_looked_behind = some ⟨oc_looked_behind, od_looked_behind, .func (PySem.W.fnOf "looked_behind" "looked_behind" (defArgs s_looked_behind) (defBody s_looked_behind) (defScope s_looked_behind) .none kV_looked_behind dc_looked_behind pm_looked_behind an_looked_behind cd_looked_behind ct_looked_behind), sl_looked_behind⟩)
    (c_looked_behind : PySem.W.codeIn K cd_looked_behind "looked_behind" = true)
    (k_looked_behind : PySem.W.keepIn K (.ref fa_looked_behind) = true)
    (a_looked : PySem.W.nsIn K mainGlobals "looked" = some (some (.ref fa_looked)))
    (l_looked : K.lookup fa_looked = some ⟨oc_looked, od_looked, .func (PySem.W.fnOf "looked" "looked" (defArgs s_looked) (defBody s_looked) (defScope s_looked) .none kV_looked dc_looked pm_looked an_looked cd_looked ct_looked), sl_looked⟩)
    (c_looked : PySem.W.codeIn K cd_looked "looked" = true)
    (k_looked : PySem.W.keepIn K (.ref fa_looked) = true)
    (a_times_in : PySem.W.nsIn K mainGlobals "times_in" = some (some (.ref fa_times_in)))
    (l_times_in : K.lookup fa_times_in = some ⟨oc_times_in, od_times_in, .func (PySem.W.fnOf "times_in" "times_in" (defArgs s_times_in) (defBody s_times_in) (defScope s_times_in) .none kV_times_in dc_times_in pm_times_in an_times_in cd_times_in ct_times_in), sl_times_in⟩)
    (c_times_in : PySem.W.codeIn K cd_times_in "times_in" = true)
    (k_times_in : PySem.W.keepIn K (.ref fa_times_in) = true)
    (a_first_in : PySem.W.nsIn K mainGlobals "first_in" = some (some (.ref fa_first_in)))
    (l_first_in : K.lookup fa_first_in = some ⟨oc_first_in, od_first_in, .func (PySem.W.fnOf "first_in" "first_in" (defArgs s_first_in) (defBody s_first_in) (defScope s_first_in) .none kV_first_in dc_first_in pm_first_in an_first_in cd_first_in ct_first_in), sl_first_in⟩)
    (c_first_in : PySem.W.codeIn K cd_first_in "first_in" = true)
    (k_first_in : PySem.W.keepIn K (.ref fa_first_in) = true)
    (a__law_begun : PySem.W.nsIn K mainGlobals "_law_begun" = some (some (.ref fa__law_begun)))
    (l__law_begun : K.lookup fa__law_begun = some ⟨oc__law_begun, od__law_begun, .func (PySem.W.fnOf "_law_begun" "_law_begun" (defArgs s__law_begun) (defBody s__law_begun) (defScope s__law_begun) .none kV__law_begun dc__law_begun pm__law_begun an__law_begun cd__law_begun ct__law_begun), sl__law_begun⟩)
    (c__law_begun : PySem.W.codeIn K cd__law_begun "_law_begun" = true)
    (k__law_begun : PySem.W.keepIn K (.ref fa__law_begun) = true)
    (a__law_mixed : PySem.W.nsIn K mainGlobals "_law_mixed" = some (some (.ref fa__law_mixed)))
    (l__law_mixed : K.lookup fa__law_mixed = some ⟨oc__law_mixed, od__law_mixed, .func (PySem.W.fnOf "_law_mixed" "_law_mixed" (defArgs s__law_mixed) (defBody s__law_mixed) (defScope s__law_mixed) .none kV__law_mixed dc__law_mixed pm__law_mixed an__law_mixed cd__law_mixed ct__law_mixed), sl__law_mixed⟩)
    (c__law_mixed : PySem.W.codeIn K cd__law_mixed "_law_mixed" = true)
    (k__law_mixed : PySem.W.keepIn K (.ref fa__law_mixed) = true)
    (a__law_take : PySem.W.nsIn K mainGlobals "_law_take" = some (some (.ref fa__law_take)))
    (l__law_take : K.lookup fa__law_take = some ⟨oc__law_take, od__law_take, .func (PySem.W.fnOf "_law_take" "_law_take" (defArgs s__law_take) (defBody s__law_take) (defScope s__law_take) .none kV__law_take dc__law_take pm__law_take an__law_take cd__law_take ct__law_take), sl__law_take⟩)
    (c__law_take : PySem.W.codeIn K cd__law_take "_law_take" = true)
    (k__law_take : PySem.W.keepIn K (.ref fa__law_take) = true)
    (a__law_pick : PySem.W.nsIn K mainGlobals "_law_pick" = some (some (.ref fa__law_pick)))
    (l__law_pick : K.lookup fa__law_pick = some ⟨oc__law_pick, od__law_pick, .func (PySem.W.fnOf "_law_pick" "_law_pick" (defArgs s__law_pick) (defBody s__law_pick) (defScope s__law_pick) .none kV__law_pick dc__law_pick pm__law_pick an__law_pick cd__law_pick ct__law_pick), sl__law_pick⟩)
    (c__law_pick : PySem.W.codeIn K cd__law_pick "_law_pick" = true)
    (k__law_pick : PySem.W.keepIn K (.ref fa__law_pick) = true)
    (a__law_short : PySem.W.nsIn K mainGlobals "_law_short" = some (some (.ref fa__law_short)))
    (l__law_short : K.lookup fa__law_short = some ⟨oc__law_short, od__law_short, .func (PySem.W.fnOf "_law_short" "_law_short" (defArgs s__law_short) (defBody s__law_short) (defScope s__law_short) .none kV__law_short dc__law_short pm__law_short an__law_short cd__law_short ct__law_short), sl__law_short⟩)
    (c__law_short : PySem.W.codeIn K cd__law_short "_law_short" = true)
    (k__law_short : PySem.W.keepIn K (.ref fa__law_short) = true)
    (a__law_lengths : PySem.W.nsIn K mainGlobals "_law_lengths" = some (some (.ref fa__law_lengths)))
    (l__law_lengths : K.lookup fa__law_lengths = some ⟨oc__law_lengths, od__law_lengths, .func (PySem.W.fnOf "_law_lengths" "_law_lengths" (defArgs s__law_lengths) (defBody s__law_lengths) (defScope s__law_lengths) .none kV__law_lengths dc__law_lengths pm__law_lengths an__law_lengths cd__law_lengths ct__law_lengths), sl__law_lengths⟩)
    (c__law_lengths : PySem.W.codeIn K cd__law_lengths "_law_lengths" = true)
    (k__law_lengths : PySem.W.keepIn K (.ref fa__law_lengths) = true)
    (a__law_text : PySem.W.nsIn K mainGlobals "_law_text" = some (some (.ref fa__law_text)))
    (l__law_text : K.lookup fa__law_text = some ⟨oc__law_text, od__law_text, .func (PySem.W.fnOf "_law_text" "_law_text" (defArgs s__law_text) (defBody s__law_text) (defScope s__law_text) .none kV__law_text dc__law_text pm__law_text an__law_text cd__law_text ct__law_text), sl__law_text⟩)
    (c__law_text : PySem.W.codeIn K cd__law_text "_law_text" = true)
    (k__law_text : PySem.W.keepIn K (.ref fa__law_text) = true)
    (a__law_small_short : PySem.W.nsIn K mainGlobals "_law_small_short" = some (some (.ref fa__law_small_short)))
    (l__law_small_short : K.lookup fa__law_small_short = some ⟨oc__law_small_short, od__law_small_short, .func (PySem.W.fnOf "_law_small_short" "_law_small_short" (defArgs s__law_small_short) (defBody s__law_small_short) (defScope s__law_small_short) .none kV__law_small_short dc__law_small_short pm__law_small_short an__law_small_short cd__law_small_short ct__law_small_short), sl__law_small_short⟩)
    (c__law_small_short : PySem.W.codeIn K cd__law_small_short "_law_small_short" = true)
    (k__law_small_short : PySem.W.keepIn K (.ref fa__law_small_short) = true)
    (a__law_bad_short : PySem.W.nsIn K mainGlobals "_law_bad_short" = some (some (.ref fa__law_bad_short)))
    (l__law_bad_short : K.lookup fa__law_bad_short = some ⟨oc__law_bad_short, od__law_bad_short, .func (PySem.W.fnOf "_law_bad_short" "_law_bad_short" (defArgs s__law_bad_short) (defBody s__law_bad_short) (defScope s__law_bad_short) .none kV__law_bad_short dc__law_bad_short pm__law_bad_short an__law_bad_short cd__law_bad_short ct__law_bad_short), sl__law_bad_short⟩)
    (c__law_bad_short : PySem.W.codeIn K cd__law_bad_short "_law_bad_short" = true)
    (k__law_bad_short : PySem.W.keepIn K (.ref fa__law_bad_short) = true)
    (a__law_doubled : PySem.W.nsIn K mainGlobals "_law_doubled" = some (some (.ref fa__law_doubled)))
    (l__law_doubled : K.lookup fa__law_doubled = some ⟨oc__law_doubled, od__law_doubled, .func (PySem.W.fnOf "_law_doubled" "_law_doubled" (defArgs s__law_doubled) (defBody s__law_doubled) (defScope s__law_doubled) .none kV__law_doubled dc__law_doubled pm__law_doubled an__law_doubled cd__law_doubled ct__law_doubled), sl__law_doubled⟩)
    (c__law_doubled : PySem.W.codeIn K cd__law_doubled "_law_doubled" = true)
    (k__law_doubled : PySem.W.keepIn K (.ref fa__law_doubled) = true)
    (a__law_power : PySem.W.nsIn K mainGlobals "_law_power" = some (some (.ref fa__law_power)))
    (l__law_power : K.lookup fa__law_power = some ⟨oc__law_power, od__law_power, .func (PySem.W.fnOf "_law_power" "_law_power" (defArgs s__law_power) (defBody s__law_power) (defScope s__law_power) .none kV__law_power dc__law_power pm__law_power an__law_power cd__law_power ct__law_power), sl__law_power⟩)
    (c__law_power : PySem.W.codeIn K cd__law_power "_law_power" = true)
    (k__law_power : PySem.W.keepIn K (.ref fa__law_power) = true)
    (a__law_starts : PySem.W.nsIn K mainGlobals "_law_starts" = some (some (.ref fa__law_starts)))
    (l__law_starts : K.lookup fa__law_starts = some ⟨oc__law_starts, od__law_starts, .func (PySem.W.fnOf "_law_starts" "_law_starts" (defArgs s__law_starts) (defBody s__law_starts) (defScope s__law_starts) .none kV__law_starts dc__law_starts pm__law_starts an__law_starts cd__law_starts ct__law_starts), sl__law_starts⟩)
    (c__law_starts : PySem.W.codeIn K cd__law_starts "_law_starts" = true)
    (k__law_starts : PySem.W.keepIn K (.ref fa__law_starts) = true)
    (a__law_in_rounds : PySem.W.nsIn K mainGlobals "_law_in_rounds" = some (some (.ref fa__law_in_rounds)))
    (l__law_in_rounds : K.lookup fa__law_in_rounds = some ⟨oc__law_in_rounds, od__law_in_rounds, .func (PySem.W.fnOf "_law_in_rounds" "_law_in_rounds" (defArgs s__law_in_rounds) (defBody s__law_in_rounds) (defScope s__law_in_rounds) .none kV__law_in_rounds dc__law_in_rounds pm__law_in_rounds an__law_in_rounds cd__law_in_rounds ct__law_in_rounds), sl__law_in_rounds⟩)
    (c__law_in_rounds : PySem.W.codeIn K cd__law_in_rounds "_law_in_rounds" = true)
    (k__law_in_rounds : PySem.W.keepIn K (.ref fa__law_in_rounds) = true)
    (a__law_caught : PySem.W.nsIn K mainGlobals "_law_caught" = some (some (.ref fa__law_caught)))
    (l__law_caught : K.lookup fa__law_caught = some ⟨oc__law_caught, od__law_caught, .func (PySem.W.fnOf "_law_caught" "_law_caught" (defArgs s__law_caught) (defBody s__law_caught) (defScope s__law_caught) .none kV__law_caught dc__law_caught pm__law_caught an__law_caught cd__law_caught ct__law_caught), sl__law_caught⟩)
    (c__law_caught : PySem.W.codeIn K cd__law_caught "_law_caught" = true)
    (k__law_caught : PySem.W.keepIn K (.ref fa__law_caught) = true)
    (a_law : PySem.W.nsIn K mainGlobals "law" = some (some (.ref fa_law)))
    (l_law : K.lookup fa_law = some ⟨oc_law, od_law, .func (PySem.W.fnOf "law" "law" (defArgs s_law) (defBody s_law) (defScope s_law) .none kV_law dc_law pm_law an_law (.ref cL) ct_law), sl_law⟩)
    (c_law : PySem.W.codeIn K (.ref cL) "law" = true)
    (k_law : PySem.W.keepIn K (.ref fa_law) = true)
    (atT : h.get? Pt = some { cls := .none, data := .fields #[] }) (noT : K.lookup Pt = none) (code : PySem.W.codeHdIn K cL Pt = true) : EndAt l w K 9 63 "script" mg fa h := by
  have e := hfa.symm.trans (PySem.W.mg_of X G a_law)
  cases e
  let T : Tx l.prog K mg := {
    b_abs := PySem.W.mg_none_of X G hb_abs
    b_all := PySem.W.mg_none_of X G hb_all
    b_bool := PySem.W.mg_none_of X G hb_bool
    b_enumerate := PySem.W.mg_none_of X G hb_enumerate
    b_int := PySem.W.mg_none_of X G hb_int
    b_isinstance := PySem.W.mg_none_of X G hb_isinstance
    b_len := PySem.W.mg_none_of X G hb_len
    b_list := PySem.W.mg_none_of X G hb_list
    b_min := PySem.W.mg_none_of X G hb_min
    b_range := PySem.W.mg_none_of X G hb_range
    b_repr := PySem.W.mg_none_of X G hb_repr
    b_str := PySem.W.mg_none_of X G hb_str
    b_tuple := PySem.W.mg_none_of X G hb_tuple
    t_LETTERS := tk_LETTERS
    k_LETTERS := PySem.W.mg_of X G hc_LETTERS
    t_MOST_ROWS := tk_MOST_ROWS
    k_MOST_ROWS := PySem.W.mg_of X G hc_MOST_ROWS
    t_MOST_SAID := tk_MOST_SAID
    k_MOST_SAID := PySem.W.mg_of X G hc_MOST_SAID
    t_MOST_WORD := tk_MOST_WORD
    k_MOST_WORD := PySem.W.mg_of X G hc_MOST_WORD
    ct := ctOf [("BadShort", aC_BadShort), ("BadWord", aC_BadWord), ("TooMany", aC_TooMany), ("WritingError", aC_WritingError)]
    fa := ctOf [("first_in", fa_first_in), ("times_in", fa_times_in)]
    fa_first_in := (show ctOf [("first_in", fa_first_in), ("times_in", fa_times_in)] "first_in" = fa_first_in from ct_hd)
    fa_times_in := (show ctOf [("first_in", fa_first_in), ("times_in", fa_times_in)] "times_in" = fa_times_in from (ct_tl (by decide) ct_hd))
    g_BadShort := by rw [(show ctOf [("BadShort", aC_BadShort), ("BadWord", aC_BadWord), ("TooMany", aC_TooMany), ("WritingError", aC_WritingError)] "BadShort" = aC_BadShort from ct_hd)]; exact PySem.W.mg_of X G hg_BadShort
    x_BadShort := by rw [(show ctOf [("BadShort", aC_BadShort), ("BadWord", aC_BadWord), ("TooMany", aC_TooMany), ("WritingError", aC_WritingError)] "BadShort" = aC_BadShort from ct_hd)]; exact hx_BadShort
    k_BadShort := by rw [(show ctOf [("BadShort", aC_BadShort), ("BadWord", aC_BadWord), ("TooMany", aC_TooMany), ("WritingError", aC_WritingError)] "BadShort" = aC_BadShort from ct_hd)]; exact hk_BadShort
    e_BadShort := by rw [(show ctOf [("BadShort", aC_BadShort), ("BadWord", aC_BadWord), ("TooMany", aC_TooMany), ("WritingError", aC_WritingError)] "BadShort" = aC_BadShort from ct_hd)]; exact he_BadShort
    t_BadShort := by rw [(show ctOf [("BadShort", aC_BadShort), ("BadWord", aC_BadWord), ("TooMany", aC_TooMany), ("WritingError", aC_WritingError)] "BadShort" = aC_BadShort from ct_hd)]; exact ht_BadShort
    w_BadShort := isaOk_of (by rw [(show ctOf [("BadShort", aC_BadShort), ("BadWord", aC_BadWord), ("TooMany", aC_TooMany), ("WritingError", aC_WritingError)] "BadShort" = aC_BadShort from ct_hd)]; exact hw0_BadShort) (by rw [(show ctOf [("BadShort", aC_BadShort), ("BadWord", aC_BadWord), ("TooMany", aC_TooMany), ("WritingError", aC_WritingError)] "BadShort" = aC_BadShort from ct_hd), (show ctOf [("BadShort", aC_BadShort), ("BadWord", aC_BadWord), ("TooMany", aC_TooMany), ("WritingError", aC_WritingError)] "WritingError" = aC_WritingError from (ct_tl (by decide) (ct_tl (by decide) (ct_tl (by decide) ct_hd))))]; exact hw1_BadShort) (by rw [(show ctOf [("BadShort", aC_BadShort), ("BadWord", aC_BadWord), ("TooMany", aC_TooMany), ("WritingError", aC_WritingError)] "BadShort" = aC_BadShort from ct_hd)]; exact ⟨hw2_BadShort, hw3_BadShort, he_BadShort, hw4_BadShort, hw5_BadShort, hw6_BadShort, hw7_BadShort, hw8_BadShort⟩) (by rw [(show ctOf [("BadShort", aC_BadShort), ("BadWord", aC_BadWord), ("TooMany", aC_TooMany), ("WritingError", aC_WritingError)] "BadShort" = aC_BadShort from ct_hd)]; exact hw9_BadShort)
    g_BadWord := by rw [(show ctOf [("BadShort", aC_BadShort), ("BadWord", aC_BadWord), ("TooMany", aC_TooMany), ("WritingError", aC_WritingError)] "BadWord" = aC_BadWord from (ct_tl (by decide) ct_hd))]; exact PySem.W.mg_of X G hg_BadWord
    x_BadWord := by rw [(show ctOf [("BadShort", aC_BadShort), ("BadWord", aC_BadWord), ("TooMany", aC_TooMany), ("WritingError", aC_WritingError)] "BadWord" = aC_BadWord from (ct_tl (by decide) ct_hd))]; exact hx_BadWord
    k_BadWord := by rw [(show ctOf [("BadShort", aC_BadShort), ("BadWord", aC_BadWord), ("TooMany", aC_TooMany), ("WritingError", aC_WritingError)] "BadWord" = aC_BadWord from (ct_tl (by decide) ct_hd))]; exact hk_BadWord
    e_BadWord := by rw [(show ctOf [("BadShort", aC_BadShort), ("BadWord", aC_BadWord), ("TooMany", aC_TooMany), ("WritingError", aC_WritingError)] "BadWord" = aC_BadWord from (ct_tl (by decide) ct_hd))]; exact he_BadWord
    t_BadWord := by rw [(show ctOf [("BadShort", aC_BadShort), ("BadWord", aC_BadWord), ("TooMany", aC_TooMany), ("WritingError", aC_WritingError)] "BadWord" = aC_BadWord from (ct_tl (by decide) ct_hd))]; exact ht_BadWord
    w_BadWord := isaOk_of (by rw [(show ctOf [("BadShort", aC_BadShort), ("BadWord", aC_BadWord), ("TooMany", aC_TooMany), ("WritingError", aC_WritingError)] "BadWord" = aC_BadWord from (ct_tl (by decide) ct_hd))]; exact hw0_BadWord) (by rw [(show ctOf [("BadShort", aC_BadShort), ("BadWord", aC_BadWord), ("TooMany", aC_TooMany), ("WritingError", aC_WritingError)] "BadWord" = aC_BadWord from (ct_tl (by decide) ct_hd)), (show ctOf [("BadShort", aC_BadShort), ("BadWord", aC_BadWord), ("TooMany", aC_TooMany), ("WritingError", aC_WritingError)] "WritingError" = aC_WritingError from (ct_tl (by decide) (ct_tl (by decide) (ct_tl (by decide) ct_hd))))]; exact hw1_BadWord) (by rw [(show ctOf [("BadShort", aC_BadShort), ("BadWord", aC_BadWord), ("TooMany", aC_TooMany), ("WritingError", aC_WritingError)] "BadWord" = aC_BadWord from (ct_tl (by decide) ct_hd))]; exact ⟨hw2_BadWord, hw3_BadWord, he_BadWord, hw4_BadWord, hw5_BadWord, hw6_BadWord, hw7_BadWord, hw8_BadWord⟩) (by rw [(show ctOf [("BadShort", aC_BadShort), ("BadWord", aC_BadWord), ("TooMany", aC_TooMany), ("WritingError", aC_WritingError)] "BadWord" = aC_BadWord from (ct_tl (by decide) ct_hd))]; exact hw9_BadWord)
    g_TooMany := by rw [(show ctOf [("BadShort", aC_BadShort), ("BadWord", aC_BadWord), ("TooMany", aC_TooMany), ("WritingError", aC_WritingError)] "TooMany" = aC_TooMany from (ct_tl (by decide) (ct_tl (by decide) ct_hd)))]; exact PySem.W.mg_of X G hg_TooMany
    s_TooMany := by rw [(show ctOf [("BadShort", aC_BadShort), ("BadWord", aC_BadWord), ("TooMany", aC_TooMany), ("WritingError", aC_WritingError)] "TooMany" = aC_TooMany from (ct_tl (by decide) (ct_tl (by decide) ct_hd)))]; exact sup_TooMany ⟨oex_of yso_TooMany yss_TooMany yse_TooMany yst_TooMany ysk_TooMany, ysi_TooMany, ysf_TooMany, ⟨_, _, _, ysc_TooMany⟩, ysm_TooMany, ysy_TooMany, ysu_TooMany, ysv_TooMany, ⟨_, _, _, _, _, _, ysg_TooMany, ysh_TooMany, ysj_TooMany⟩, ysp_TooMany, ysn_TooMany⟩ ysl_TooMany ysd_TooMany (PySem.W.mg_none_of X G ysb_TooMany)
    g_WritingError := by rw [(show ctOf [("BadShort", aC_BadShort), ("BadWord", aC_BadWord), ("TooMany", aC_TooMany), ("WritingError", aC_WritingError)] "WritingError" = aC_WritingError from (ct_tl (by decide) (ct_tl (by decide) (ct_tl (by decide) ct_hd))))]; exact PySem.W.mg_of X G hg_WritingError
    a_is_number := fa_is_number
    fd_is_number := _
    f_is_number := fun_mk (st := s_is_number) l_is_number c_is_number k_is_number
    g_is_number := PySem.W.mg_of X G a_is_number
    bi_is_number := Fun.binds (ps := ["thing", "end"]) (fun_mk (st := s_is_number) l_is_number c_is_number k_is_number) fun _ _ _ _ _ _ us hl => match us, hl with | [_, _], _ => rfl
    a_are_letters := fa_are_letters
    fd_are_letters := _
    f_are_letters := fun_mk (st := s_are_letters) l_are_letters c_are_letters k_are_letters
    g_are_letters := PySem.W.mg_of X G a_are_letters
    bi_are_letters := Fun.binds (ps := ["thing", "least", "most"]) (fun_mk (st := s_are_letters) l_are_letters c_are_letters k_are_letters) fun _ _ _ _ _ _ us hl => match us, hl with | [_, _, _], _ => rfl
    a_is_row := fa_is_row
    fd_is_row := _
    f_is_row := fun_mk (st := s_is_row) l_is_row c_is_row k_is_row
    g_is_row := PySem.W.mg_of X G a_is_row
    bi_is_row := Fun.binds (ps := ["thing", "place"]) (fun_mk (st := s_is_row) l_is_row c_is_row k_is_row) fun _ _ _ _ _ _ us hl => match us, hl with | [_, _], _ => rfl
    a_is_short := fa_is_short
    fd_is_short := _
    f_is_short := fun_mk (st := s_is_short) l_is_short c_is_short k_is_short
    g_is_short := PySem.W.mg_of X G a_is_short
    bi_is_short := Fun.binds (ps := ["thing"]) (fun_mk (st := s_is_short) l_is_short c_is_short k_is_short) fun _ _ _ _ _ _ us hl => match us, hl with | [_], _ => rfl
    a_need_short := fa_need_short
    fd_need_short := _
    f_need_short := fun_mk (st := s_need_short) l_need_short c_need_short k_need_short
    g_need_short := PySem.W.mg_of X G a_need_short
    bi_need_short := Fun.binds (ps := ["short"]) (fun_mk (st := s_need_short) l_need_short c_need_short k_need_short) fun _ _ _ _ _ _ us hl => match us, hl with | [_], _ => rfl
    a_behind := fa_behind
    fd_behind := _
    f_behind := fun_mk (st := s_behind) l_behind c_behind k_behind
    g_behind := PySem.W.mg_of X G a_behind
    bi_behind := Fun.binds (ps := ["one", "other"]) (fun_mk (st := s_behind) l_behind c_behind k_behind) fun _ _ _ _ _ _ us hl => match us, hl with | [_, _], _ => rfl
    a_need_word := fa_need_word
    fd_need_word := _
    f_need_word := fun_mk (st := s_need_word) l_need_word c_need_word k_need_word
    g_need_word := PySem.W.mg_of X G a_need_word
    bi_need_word := Fun.binds (ps := ["word"]) (fun_mk (st := s_need_word) l_need_word c_need_word k_need_word) fun _ _ _ _ _ _ us hl => match us, hl with | [_], _ => rfl
    a_starts_in := fa_starts_in
    fd_starts_in := _
    f_starts_in := fun_mk (st := s_starts_in) l_starts_in c_starts_in k_starts_in
    g_starts_in := PySem.W.mg_of X G a_starts_in
    bi_starts_in := Fun.binds (ps := ["text", "word"]) (fun_mk (st := s_starts_in) l_starts_in c_starts_in k_starts_in) fun _ _ _ _ _ _ us hl => match us, hl with | [_, _], _ => rfl
    a_Looked___init__ := fa_Looked___init__
    fd_Looked___init__ := _
    f_Looked___init__ := fun_mk (st := s_Looked___init__) l_Looked___init__ c_Looked___init__ k_Looked___init__
    bi_Looked___init__ := Fun.binds (ps := ["self", "word", "text"]) (fun_mk (st := s_Looked___init__) l_Looked___init__ c_Looked___init__ k_Looked___init__) fun _ _ _ _ _ _ us hl => match us, hl with | [_, _, _], _ => rfl
    cC_Looked := cC_Looked
    gC_Looked := PySem.W.mg_of X G gC_Looked
    mk_Looked := ⟨mk_Looked, a_Looked___init__, i_Looked___init__, kc_Looked⟩
    ic_Looked := ⟨⟨pg_Looked, hd_Looked, po_Looked, sa_Looked⟩, fun z hz => by unfold fl_Looked at hz; simp only [List.mem_cons, List.not_mem_nil, or_false] at hz; rcases hz with rfl | rfl | rfl | rfl | rfl <;> first | exact nf_Looked_many | exact nf_Looked_ahead | exact nf_Looked_last | exact nf_Looked_times | exact nf_Looked_first⟩
    a_looked_behind := fa_looked_behind
    fd_looked_behind := _
    f_looked_behind := fun_mk (st := s_looked_behind) l_looked_behind c_looked_behind k_looked_behind
    g_looked_behind := PySem.W.mg_of X G a_looked_behind
    bi_looked_behind := Fun.binds (ps := ["word", "one", "other"]) (fun_mk (st := s_looked_behind) l_looked_behind c_looked_behind k_looked_behind) fun _ _ _ _ _ _ us hl => match us, hl with | [_, _, _], _ => rfl
    a_looked := fa_looked
    fd_looked := _
    f_looked := fun_mk (st := s_looked) l_looked c_looked k_looked
    g_looked := PySem.W.mg_of X G a_looked
    bi_looked := Fun.binds (ps := ["short", "word"]) (fun_mk (st := s_looked) l_looked c_looked k_looked) fun _ _ _ _ _ _ us hl => match us, hl with | [_, _], _ => rfl
    a_times_in := fa_times_in
    fd_times_in := _
    f_times_in := fun_mk (st := s_times_in) l_times_in c_times_in k_times_in
    g_times_in := PySem.W.mg_of X G a_times_in
    bi_times_in := Fun.binds (ps := ["short", "word"]) (fun_mk (st := s_times_in) l_times_in c_times_in k_times_in) fun _ _ _ _ _ _ us hl => match us, hl with | [_, _], _ => rfl
    a_first_in := fa_first_in
    fd_first_in := _
    f_first_in := fun_mk (st := s_first_in) l_first_in c_first_in k_first_in
    g_first_in := PySem.W.mg_of X G a_first_in
    bi_first_in := Fun.binds (ps := ["short", "word"]) (fun_mk (st := s_first_in) l_first_in c_first_in k_first_in) fun _ _ _ _ _ _ us hl => match us, hl with | [_, _], _ => rfl
    a__law_begun := fa__law_begun
    fd__law_begun := _
    f__law_begun := fun_mk (st := s__law_begun) l__law_begun c__law_begun k__law_begun
    g__law_begun := PySem.W.mg_of X G a__law_begun
    bi__law_begun := Fun.binds (ps := ["script"]) (fun_mk (st := s__law_begun) l__law_begun c__law_begun k__law_begun) fun _ _ _ _ _ _ us hl => match us, hl with | [_], _ => rfl
    a__law_mixed := fa__law_mixed
    fd__law_mixed := _
    f__law_mixed := fun_mk (st := s__law_mixed) l__law_mixed c__law_mixed k__law_mixed
    g__law_mixed := PySem.W.mg_of X G a__law_mixed
    bi__law_mixed := Fun.binds (ps := ["draw"]) (fun_mk (st := s__law_mixed) l__law_mixed c__law_mixed k__law_mixed) fun _ _ _ _ _ _ us hl => match us, hl with | [_], _ => rfl
    a__law_take := fa__law_take
    fd__law_take := _
    f__law_take := fun_mk (st := s__law_take) l__law_take c__law_take k__law_take
    g__law_take := PySem.W.mg_of X G a__law_take
    bi__law_take := Fun.binds (ps := ["draw", "many"]) (fun_mk (st := s__law_take) l__law_take c__law_take k__law_take) fun _ _ _ _ _ _ us hl => match us, hl with | [_, _], _ => rfl
    a__law_pick := fa__law_pick
    fd__law_pick := _
    f__law_pick := fun_mk (st := s__law_pick) l__law_pick c__law_pick k__law_pick
    g__law_pick := PySem.W.mg_of X G a__law_pick
    bi__law_pick := Fun.binds (ps := ["draw", "some"]) (fun_mk (st := s__law_pick) l__law_pick c__law_pick k__law_pick) fun _ _ _ _ _ _ us hl => match us, hl with | [_, _], _ => rfl
    a__law_short := fa__law_short
    fd__law_short := _
    f__law_short := fun_mk (st := s__law_short) l__law_short c__law_short k__law_short
    g__law_short := PySem.W.mg_of X G a__law_short
    bi__law_short := Fun.binds (ps := ["draw", "many", "letters"]) (fun_mk (st := s__law_short) l__law_short c__law_short k__law_short) fun _ _ _ _ _ _ us hl => match us, hl with | [_, _, _], _ => rfl
    a__law_lengths := fa__law_lengths
    fd__law_lengths := _
    f__law_lengths := fun_mk (st := s__law_lengths) l__law_lengths c__law_lengths k__law_lengths
    g__law_lengths := PySem.W.mg_of X G a__law_lengths
    bi__law_lengths := Fun.binds (ps := ["short"]) (fun_mk (st := s__law_lengths) l__law_lengths c__law_lengths k__law_lengths) fun _ _ _ _ _ _ us hl => match us, hl with | [_], _ => rfl
    a__law_text := fa__law_text
    fd__law_text := _
    f__law_text := fun_mk (st := s__law_text) l__law_text c__law_text k__law_text
    g__law_text := PySem.W.mg_of X G a__law_text
    bi__law_text := Fun.binds (ps := ["short"]) (fun_mk (st := s__law_text) l__law_text c__law_text k__law_text) fun _ _ _ _ _ _ us hl => match us, hl with | [_], _ => rfl
    a__law_small_short := fa__law_small_short
    fd__law_small_short := _
    f__law_small_short := fun_mk (st := s__law_small_short) l__law_small_short c__law_small_short k__law_small_short
    g__law_small_short := PySem.W.mg_of X G a__law_small_short
    bi__law_small_short := Fun.binds (ps := ["draw", "most"]) (fun_mk (st := s__law_small_short) l__law_small_short c__law_small_short k__law_small_short) fun _ _ _ _ _ _ us hl => match us, hl with | [_, _], _ => rfl
    a__law_bad_short := fa__law_bad_short
    fd__law_bad_short := _
    f__law_bad_short := fun_mk (st := s__law_bad_short) l__law_bad_short c__law_bad_short k__law_bad_short
    g__law_bad_short := PySem.W.mg_of X G a__law_bad_short
    bi__law_bad_short := Fun.binds (ps := ["draw"]) (fun_mk (st := s__law_bad_short) l__law_bad_short c__law_bad_short k__law_bad_short) fun _ _ _ _ _ _ us hl => match us, hl with | [_], _ => rfl
    a__law_doubled := fa__law_doubled
    fd__law_doubled := _
    f__law_doubled := fun_mk (st := s__law_doubled) l__law_doubled c__law_doubled k__law_doubled
    g__law_doubled := PySem.W.mg_of X G a__law_doubled
    bi__law_doubled := Fun.binds (ps := ["word", "many"]) (fun_mk (st := s__law_doubled) l__law_doubled c__law_doubled k__law_doubled) fun _ _ _ _ _ _ us hl => match us, hl with | [_, _], _ => rfl
    a__law_power := fa__law_power
    fd__law_power := _
    f__law_power := fun_mk (st := s__law_power) l__law_power c__law_power k__law_power
    g__law_power := PySem.W.mg_of X G a__law_power
    bi__law_power := Fun.binds (ps := ["many"]) (fun_mk (st := s__law_power) l__law_power c__law_power k__law_power) fun _ _ _ _ _ _ us hl => match us, hl with | [_], _ => rfl
    a__law_starts := fa__law_starts
    fd__law_starts := _
    f__law_starts := fun_mk (st := s__law_starts) l__law_starts c__law_starts k__law_starts
    g__law_starts := PySem.W.mg_of X G a__law_starts
    bi__law_starts := Fun.binds (ps := ["text", "word"]) (fun_mk (st := s__law_starts) l__law_starts c__law_starts k__law_starts) fun _ _ _ _ _ _ us hl => match us, hl with | [_, _], _ => rfl
    a__law_in_rounds := fa__law_in_rounds
    fd__law_in_rounds := _
    f__law_in_rounds := fun_mk (st := s__law_in_rounds) l__law_in_rounds c__law_in_rounds k__law_in_rounds
    g__law_in_rounds := PySem.W.mg_of X G a__law_in_rounds
    bi__law_in_rounds := Fun.binds (ps := ["part", "rounds", "word"]) (fun_mk (st := s__law_in_rounds) l__law_in_rounds c__law_in_rounds k__law_in_rounds) fun _ _ _ _ _ _ us hl => match us, hl with | [_, _, _], _ => rfl
    a__law_caught := fa__law_caught
    fd__law_caught := _
    f__law_caught := fun_mk (st := s__law_caught) l__law_caught c__law_caught k__law_caught
    g__law_caught := PySem.W.mg_of X G a__law_caught
    bi__law_caught := Fun.binds (ps := ["work"]) (fun_mk (st := s__law_caught) l__law_caught c__law_caught k__law_caught) fun _ _ _ _ _ _ us hl => match us, hl with | [_], _ => rfl
    a_law := fa
    fd_law := _
    f_law := fun_mk (st := s_law) l_law c_law k_law
    g_law := PySem.W.mg_of X G a_law
    bi_law := Fun.binds (ps := ["script"]) (fun_mk (st := s_law) l_law c_law k_law) fun _ _ _ _ _ _ us hl => match us, hl with | [_], _ => rfl
    kb_first_in_0_word_short := fun _ us ws _ h1 h2 => match us, ws, h1, h2 with | [], [_, _], _, _ => .of_eq rfl
    kb_times_in_0_word_short := fun _ us ws _ h1 h2 => match us, ws, h1, h2 with | [], [_, _], _, _ => .of_eq rfl }
  refine ⟨_, cL, Pt, _, atT, noT, PySem.W.codeHd_of_K X code, fun s v => .of_eq rfl, fun H a ns len bits h1 h2 h3 h4 => ?_, fun base _ _ tb => ok_law T l_law c_law tb⟩
  obtain ⟨ρ', e⟩ := F_true Pt T.fa ns len bits
  exact law_spM e h1 h2 h3 h4


end K40

open PySem PySem.W PyProof.Rows in
set_option maxHeartbeats 0 in
theorem PySem.Challenge.cw_samewriting_k40_whole_words_counted_in_l_holds : PySem.Challenge.rw_samewriting_k40_whole_words_counted_in_l.Holds := by
 exact hd (by
  k_fill
  refine DL.end_walk (n := 63) (k := 9) (x := "script") rfl (by decide) rfl ⟨rfl, by decide, by decide⟩ (fun w h Y => PySem.W.km_in_of Y) ?F
  case F =>
    intro w mg fa h Y KX G hmg
    have tabs := PySem.W.km_tabs_of Y
    refine' K40.all_mk KX G hmg ?hb_abs ?hb_all ?hb_bool ?hb_enumerate ?hb_int ?hb_isinstance ?hb_len ?hb_list ?hb_min ?hb_range ?hb_repr ?hb_str ?hb_tuple ?hc_LETTERS ?hc_MOST_ROWS ?hc_MOST_SAID ?hc_MOST_WORD ?hg_BadShort ?hx_BadShort ?hk_BadShort ?he_BadShort ?ht_BadShort ?hw0_BadShort ?hw1_BadShort ?hw2_BadShort ?hw3_BadShort ?hw4_BadShort ?hw5_BadShort ?hw6_BadShort ?hw7_BadShort ?hw8_BadShort ?hw9_BadShort ?hg_BadWord ?hx_BadWord ?hk_BadWord ?he_BadWord ?ht_BadWord ?hw0_BadWord ?hw1_BadWord ?hw2_BadWord ?hw3_BadWord ?hw4_BadWord ?hw5_BadWord ?hw6_BadWord ?hw7_BadWord ?hw8_BadWord ?hw9_BadWord ?hg_TooMany ?yso_TooMany ?yss_TooMany ?yse_TooMany ?yst_TooMany ?ysk_TooMany ?ysi_TooMany ?ysf_TooMany ?ysl_TooMany ?ysd_TooMany ?ysc_TooMany ?ysm_TooMany ?ysy_TooMany ?ysu_TooMany ?ysv_TooMany ?ysg_TooMany ?ysh_TooMany ?ysj_TooMany ?ysp_TooMany ?ysn_TooMany ?ysb_TooMany ?hg_WritingError ?a_is_number ?l_is_number ?c_is_number ?k_is_number ?a_are_letters ?l_are_letters ?c_are_letters ?k_are_letters ?a_is_row ?l_is_row ?c_is_row ?k_is_row ?a_is_short ?l_is_short ?c_is_short ?k_is_short ?a_need_short ?l_need_short ?c_need_short ?k_need_short ?a_behind ?l_behind ?c_behind ?k_behind ?a_need_word ?l_need_word ?c_need_word ?k_need_word ?a_starts_in ?l_starts_in ?c_starts_in ?k_starts_in ?gC_Looked ?a_Looked___init__ ?i_Looked___init__ ?l_Looked___init__ ?c_Looked___init__ ?k_Looked___init__ ?pg_Looked ?hd_Looked ?po_Looked ?sa_Looked ?mk_Looked ?kc_Looked ?nf_Looked_many ?nf_Looked_ahead ?nf_Looked_last ?nf_Looked_times ?nf_Looked_first ?a_looked_behind ?l_looked_behind ?c_looked_behind ?k_looked_behind ?a_looked ?l_looked ?c_looked ?k_looked ?a_times_in ?l_times_in ?c_times_in ?k_times_in ?a_first_in ?l_first_in ?c_first_in ?k_first_in ?a__law_begun ?l__law_begun ?c__law_begun ?k__law_begun ?a__law_mixed ?l__law_mixed ?c__law_mixed ?k__law_mixed ?a__law_take ?l__law_take ?c__law_take ?k__law_take ?a__law_pick ?l__law_pick ?c__law_pick ?k__law_pick ?a__law_short ?l__law_short ?c__law_short ?k__law_short ?a__law_lengths ?l__law_lengths ?c__law_lengths ?k__law_lengths ?a__law_text ?l__law_text ?c__law_text ?k__law_text ?a__law_small_short ?l__law_small_short ?c__law_small_short ?k__law_small_short ?a__law_bad_short ?l__law_bad_short ?c__law_bad_short ?k__law_bad_short ?a__law_doubled ?l__law_doubled ?c__law_doubled ?k__law_doubled ?a__law_power ?l__law_power ?c__law_power ?k__law_power ?a__law_starts ?l__law_starts ?c__law_starts ?k__law_starts ?a__law_in_rounds ?l__law_in_rounds ?c__law_in_rounds ?k__law_in_rounds ?a__law_caught ?l__law_caught ?c__law_caught ?k__law_caught ?a_law ?l_law ?c_law ?k_law (tabs _ (List.mem_singleton.mpr rfl)) ?noT ?code
    (case hb_abs => k_is); (case hb_all => k_is); (case hb_bool => k_is); (case hb_enumerate => k_is); (case hb_int => k_is); (case hb_isinstance => k_is); (case hb_len => k_is); (case hb_list => k_is); (case hb_min => k_is); (case hb_range => k_is); (case hb_repr => k_is); (case hb_str => k_is); (case hb_tuple => k_is); (case hc_LETTERS => k_is); (case hc_MOST_ROWS => k_is); (case hc_MOST_SAID => k_is); (case hc_MOST_WORD => k_is); (case hg_BadShort => k_is); (case hx_BadShort => k_exc); (case hk_BadShort => k_is); (case he_BadShort => k_is); (case ht_BadShort => k_is); (case hw0_BadShort => kernel_rfl); (case hw1_BadShort => kernel_rfl); (case hw2_BadShort => k_is); (case hw3_BadShort => k_is); (case hw4_BadShort => k_is); (case hw5_BadShort => k_is); (case hw6_BadShort => k_is); (case hw7_BadShort => k_is); (case hw8_BadShort => k_is); (case hw9_BadShort => kernel_rfl); (case hg_BadWord => k_is); (case hx_BadWord => k_exc); (case hk_BadWord => k_is); (case he_BadWord => k_is); (case ht_BadWord => k_is); (case hw0_BadWord => kernel_rfl); (case hw1_BadWord => kernel_rfl); (case hw2_BadWord => k_is); (case hw3_BadWord => k_is); (case hw4_BadWord => k_is); (case hw5_BadWord => k_is); (case hw6_BadWord => k_is); (case hw7_BadWord => k_is); (case hw8_BadWord => k_is); (case hw9_BadWord => kernel_rfl); (case hg_TooMany => k_is); (case yso_TooMany => kernel_rfl); (case yss_TooMany => k_is); (case yse_TooMany => k_is); (case yst_TooMany => k_is); (case ysk_TooMany => k_is); (case ysi_TooMany => k_is); (case ysf_TooMany => k_is); (case ysl_TooMany => k_is); (case ysd_TooMany => k_is); (case ysc_TooMany => k_is); (case ysm_TooMany => k_is); (case ysy_TooMany => k_is); (case ysu_TooMany => kernel_rfl); (case ysv_TooMany => k_is); (case ysg_TooMany => k_is); (case ysh_TooMany => rfl); (case ysj_TooMany => rfl); (case ysp_TooMany => rfl); (case ysn_TooMany => k_is); (case ysb_TooMany => k_is); (case hg_WritingError => k_is); (case a_is_number => k_is); (case l_is_number => k_is); (case c_is_number => k_is); (case k_is_number => k_is); (case a_are_letters => k_is); (case l_are_letters => k_is); (case c_are_letters => k_is); (case k_are_letters => k_is); (case a_is_row => k_is); (case l_is_row => k_is); (case c_is_row => k_is); (case k_is_row => k_is); (case a_is_short => k_is); (case l_is_short => k_is); (case c_is_short => k_is); (case k_is_short => k_is); (case a_need_short => k_is); (case l_need_short => k_is); (case c_need_short => k_is); (case k_need_short => k_is); (case a_behind => k_is); (case l_behind => k_is); (case c_behind => k_is); (case k_behind => k_is); (case a_need_word => k_is); (case l_need_word => k_is); (case c_need_word => k_is); (case k_need_word => k_is); (case a_starts_in => k_is); (case l_starts_in => k_is); (case c_starts_in => k_is); (case k_starts_in => k_is); (case gC_Looked => k_is); (case a_Looked___init__ => k_is); (case i_Looked___init__ => k_is); (case l_Looked___init__ => k_is); (case c_Looked___init__ => k_is); (case k_Looked___init__ => k_is); (case pg_Looked => k_is); (case hd_Looked => k_is); (case po_Looked => k_is); (case sa_Looked => k_is); (case mk_Looked => k_is); (case kc_Looked => k_is); (case nf_Looked_many => k_is); (case nf_Looked_ahead => k_is); (case nf_Looked_last => k_is); (case nf_Looked_times => k_is); (case nf_Looked_first => k_is); (case a_looked_behind => k_is); (case l_looked_behind => k_is); (case c_looked_behind => k_is); (case k_looked_behind => k_is); (case a_looked => k_is); (case l_looked => k_is); (case c_looked => k_is); (case k_looked => k_is); (case a_times_in => k_is); (case l_times_in => k_is); (case c_times_in => k_is); (case k_times_in => k_is); (case a_first_in => k_is); (case l_first_in => k_is); (case c_first_in => k_is); (case k_first_in => k_is); (case a__law_begun => k_is); (case l__law_begun => k_is); (case c__law_begun => k_is); (case k__law_begun => k_is); (case a__law_mixed => k_is); (case l__law_mixed => k_is); (case c__law_mixed => k_is); (case k__law_mixed => k_is); (case a__law_take => k_is); (case l__law_take => k_is); (case c__law_take => k_is); (case k__law_take => k_is); (case a__law_pick => k_is); (case l__law_pick => k_is); (case c__law_pick => k_is); (case k__law_pick => k_is); (case a__law_short => k_is); (case l__law_short => k_is); (case c__law_short => k_is); (case k__law_short => k_is); (case a__law_lengths => k_is); (case l__law_lengths => k_is); (case c__law_lengths => k_is); (case k__law_lengths => k_is); (case a__law_text => k_is); (case l__law_text => k_is); (case c__law_text => k_is); (case k__law_text => k_is); (case a__law_small_short => k_is); (case l__law_small_short => k_is); (case c__law_small_short => k_is); (case k__law_small_short => k_is); (case a__law_bad_short => k_is); (case l__law_bad_short => k_is); (case c__law_bad_short => k_is); (case k__law_bad_short => k_is); (case a__law_doubled => k_is); (case l__law_doubled => k_is); (case c__law_doubled => k_is); (case k__law_doubled => k_is); (case a__law_power => k_is); (case l__law_power => k_is); (case c__law_power => k_is); (case k__law_power => k_is); (case a__law_starts => k_is); (case l__law_starts => k_is); (case c__law_starts => k_is); (case k__law_starts => k_is); (case a__law_in_rounds => k_is); (case l__law_in_rounds => k_is); (case c__law_in_rounds => k_is); (case k__law_in_rounds => k_is); (case a__law_caught => k_is); (case l__law_caught => k_is); (case c__law_caught => k_is); (case k__law_caught => k_is); (case a_law => k_is); (case l_law => k_is); (case c_law => k_is); (case k_law => k_is); (case noT => kernel_rfl); (case code => kernel_rfl))
end
