import PyProof.Rows.All
import Wide.All
import OpenK.AllK
import Wide.FinOn
import HandS.ForMost
import HandS.ForExc
import HandS.TupAny
import HandS.Wide
import HandS.IsInst
import HandS.RaiseMore
import HandS.Codes
import HandS.Lambda
import HandS.ExcInit
import HandS.ExcIs
import HandS.ExcField
import HandS.Style
import KE.KExcIs
import HandS.EndTab
import PySem.Challenge.RW_leasedkeepers_k25_whole_frames_and_texts
section
set_option Elab.async false
set_option linter.all false
set_option maxRecDepth 100000
set_option maxHeartbeats 4000000
namespace DL
open PySem PySem.Spec PyProof.Rows L2

/-- plain data, as a def of the text sees it -/
inductive Dat where
  | non
  | bl (b : Bool)
  | int (i : Int)
  | str (x : List Nat)
  | tup (ds : List Dat)
  | lst (ds : List Dat)
  | rol (ds : List Dat)
  | exc (C : Addr) (fs : List Str) (ds : List Dat)
  | hd

/-- an exception object of the class at C, its dict d, not in the air -/
def exO (C : Addr) (d : Option Addr) (a : Addr) : HO := .ext fun h => ∃ (oe : Obj) (vs : Array Value), h.get? a = some oe ∧ Zc (.ref C) d oe ∧ oe.data = .fields vs

mutual
/-- v stands for the data d -/
def Rp (K : PySem.W.Frag) (h : Option Addr) (H : Hp) : Dat → V → Prop
  | .non, v => v = .non
  | .bl b, v => v = .bl b
  | .int i, v => v = .int i
  | .str x, v => v = .str ⟨x.toArray⟩
  | .tup ds, v => ∃ (a : Addr) (xs : List V), v = .ref a ∧ SqT K H a xs ∧ RpL K h H ds xs
  | .lst ds, v => ∃ (a : Addr) (xs : List V), v = .ref a ∧ H a = some (.lst xs) ∧ RpL K h H ds xs
  | .rol ds, v => ∃ (a : Addr) (xs : List V), v = .ref a ∧ SqL K H a xs ∧ RpL K h H ds xs
  | .exc C fs ds, v => ∃ (a : Addr) (d : Option Addr), v = .ref a ∧ H a = some (exO C d a) ∧ ((fs = [] ∧ d = none) ∨ ∃ (dd : Addr) (xs : List V), d = some dd ∧ H dd = some (.xd (fs.zip xs)) ∧ xs.length = fs.length ∧ RpL K h H ds xs)
  | .hd, v => ∃ a : Addr, h = some a ∧ v = .ref a
def RpL (K : PySem.W.Frag) (h : Option Addr) (H : Hp) : List Dat → List V → Prop
  | [], vs => vs = []
  | d :: ds, vs => ∃ (v : V) (r : List V), vs = v :: r ∧ Rp K h H d v ∧ RpL K h H ds r
end

section
variable {K : PySem.W.Frag} {h : Option Addr} {H H' : Hp}
theorem same_sqT {a : Addr} {xs : List V} (e : Same H H') (q : SqT K H a xs) : SqT K H' a xs := by
  rcases q with (q | ⟨o, q⟩) | q
  · exact .inl (.inl (e _ _ q))
  · exact .inl (.inr ⟨o, e _ _ q⟩)
  · exact .inr q
mutual
theorem Rp.mono (e : Same H H') : ∀ (d : Dat) (v : V), Rp K h H d v → Rp K h H' d v
  | .non, _, q => q
  | .bl _, _, q => q
  | .int _, _, q => q
  | .str _, _, q => q
  | .tup ds, v, q => by
    simp only [Rp] at q ⊢
    obtain ⟨a, xs, e1, e2, e3⟩ := q
    exact ⟨a, xs, e1, same_sqT e e2, RpL.mono e ds xs e3⟩
  | .lst ds, v, q => by
    simp only [Rp] at q ⊢
    obtain ⟨a, xs, e1, e2, e3⟩ := q
    exact ⟨a, xs, e1, e _ _ e2, RpL.mono e ds xs e3⟩
  | .rol ds, v, q => by
    simp only [Rp] at q ⊢
    obtain ⟨a, xs, e1, e2, e3⟩ := q
    exact ⟨a, xs, e1, Same.seq e e2, RpL.mono e ds xs e3⟩
  | .exc C fs ds, v, q => by
    simp only [Rp] at q ⊢
    obtain ⟨a, d, e1, e2, e3⟩ := q
    refine ⟨a, d, e1, e _ _ e2, ?_⟩
    rcases e3 with e3 | ⟨dd, xs, f1, f2, f3, f4⟩
    · exact .inl e3
    · exact .inr ⟨dd, xs, f1, e _ _ f2, f3, RpL.mono e ds xs f4⟩
  | .hd, _, q => by
    simp only [Rp] at q ⊢
    exact q
theorem RpL.mono (e : Same H H') : ∀ (ds : List Dat) (vs : List V), RpL K h H ds vs → RpL K h H' ds vs
  | [], _, q => by
    simp only [RpL] at q ⊢
    exact q
  | d :: ds, vs, q => by
    simp only [RpL] at q ⊢
    obtain ⟨v, r, e1, e2, e3⟩ := q
    exact ⟨v, r, e1, Rp.mono e d v e2, RpL.mono e ds r e3⟩
end
theorem RpL.nil : RpL K h H [] [] := by simp only [RpL]
theorem RpL.cons {d : Dat} {ds : List Dat} {v : V} {vs : List V} (a : Rp K h H d v) (b : RpL K h H ds vs) : RpL K h H (d :: ds) (v :: vs) := by
  simp only [RpL]
  exact ⟨v, vs, rfl, a, b⟩
theorem RpL.uncons {d : Dat} {ds : List Dat} {vs : List V} (q : RpL K h H (d :: ds) vs) : ∃ v r, vs = v :: r ∧ Rp K h H d v ∧ RpL K h H ds r := by
  simp only [RpL] at q
  exact q
theorem RpL.len : ∀ {ds : List Dat} {vs : List V}, RpL K h H ds vs → vs.length = ds.length
  | [], vs, q => by
    simp only [RpL] at q
    rw [q]
    rfl
  | d :: ds, vs, q => by
    obtain ⟨v, r, rfl, _, e⟩ := q.uncons
    rw [List.length_cons, List.length_cons, RpL.len e]
theorem RpL.append : ∀ {ds es : List Dat} {vs ws : List V}, RpL K h H ds vs → RpL K h H es ws → RpL K h H (ds ++ es) (vs ++ ws)
  | [], es, vs, ws, q, r => by
    simp only [RpL] at q
    rw [q]
    exact r
  | d :: ds, es, vs, ws, q, r => by
    obtain ⟨v, u, rfl, e1, e2⟩ := q.uncons
    exact RpL.cons e1 (RpL.append e2 r)
theorem RpL.get : ∀ {ds : List Dat} {vs : List V} {i : Nat} {v : V}, RpL K h H ds vs → vs[i]? = some v → ∃ d, ds[i]? = some d ∧ Rp K h H d v
  | [], vs, i, v, q, e => by
    simp only [RpL] at q
    rw [q] at e
    simp at e
  | d :: ds, vs, 0, v, q, e => by
    obtain ⟨u, r, rfl, e1, e2⟩ := q.uncons
    simp at e
    subst e
    exact ⟨d, rfl, e1⟩
  | d :: ds, vs, i + 1, v, q, e => by
    obtain ⟨u, r, rfl, e1, e2⟩ := q.uncons
    simp at e
    obtain ⟨d', f1, f2⟩ := RpL.get e2 e
    exact ⟨d', by simpa using f1, f2⟩
theorem RpL.at_ {ds : List Dat} {vs : List V} {i : Nat} {d : Dat} (q : RpL K h H ds vs) (e : ds[i]? = some d) : ∃ v, vs[i]? = some v ∧ Rp K h H d v := by
  have hi : i < vs.length := by
    rw [q.len]
    exact (List.getElem?_eq_some_iff.mp e).1
  obtain ⟨d', f1, f2⟩ := q.get (List.getElem?_eq_getElem hi)
  rw [e] at f1
  cases f1
  exact ⟨_, List.getElem?_eq_getElem hi, f2⟩
theorem RpL.take : ∀ {ds : List Dat} {vs : List V} (n : Nat), RpL K h H ds vs → RpL K h H (ds.take n) (vs.take n)
  | _, _, 0, _ => by simp only [List.take_zero, RpL]
  | [], vs, n + 1, q => by
    simp only [RpL] at q
    rw [q]
    simp only [List.take_nil, RpL]
  | d :: ds, vs, n + 1, q => by
    obtain ⟨u, r, rfl, e1, e2⟩ := q.uncons
    exact RpL.cons e1 (RpL.take n e2)
theorem RpL.drop : ∀ {ds : List Dat} {vs : List V} (n : Nat), RpL K h H ds vs → RpL K h H (ds.drop n) (vs.drop n)
  | _, _, 0, q => q
  | [], vs, n + 1, q => by
    simp only [RpL] at q
    rw [q]
    simp only [List.drop_nil, RpL]
  | d :: ds, vs, n + 1, q => by
    obtain ⟨u, r, rfl, e1, e2⟩ := q.uncons
    exact RpL.drop n e2
theorem RpL.rev : ∀ {ds : List Dat} {vs : List V}, RpL K h H ds vs → RpL K h H ds.reverse vs.reverse
  | [], vs, q => by
    simp only [RpL] at q
    rw [q]
    simp only [List.reverse_nil, RpL]
  | d :: ds, vs, q => by
    obtain ⟨u, r, rfl, e1, e2⟩ := q.uncons
    rw [List.reverse_cons, List.reverse_cons]
    exact (RpL.rev e2).append (RpL.cons e1 RpL.nil)
theorem RpL.set : ∀ {ds : List Dat} {vs : List V} {d : Dat} {v : V} (i : Nat), RpL K h H ds vs → Rp K h H d v → RpL K h H (ds.set i d) (vs.set i v)
  | [], vs, d, v, i, q, r => by
    simp only [RpL] at q
    rw [q]
    simp only [List.set_nil, RpL]
  | d :: ds, vs, d', v', 0, q, r => by
    obtain ⟨u, r', rfl, e1, e2⟩ := q.uncons
    exact RpL.cons r e2
  | d :: ds, vs, d', v', i + 1, q, r => by
    obtain ⟨u, r', rfl, e1, e2⟩ := q.uncons
    exact RpL.cons e1 (RpL.set i e2 r)
end

/-! ### what is hidden -/
open Classical in
noncomputable def hide (G : Addr → Prop) (H : Hp) : Hp := fun a => if G a then none else H a
theorem hide_some {G : Addr → Prop} {H : Hp} {a : Addr} {o : HO} : hide G H a = some o ↔ ¬ G a ∧ H a = some o := by
  unfold hide
  split
  · rename_i g
    exact ⟨fun z => (by cases z), fun z => absurd g z.1⟩
  · rename_i g
    exact ⟨fun z => ⟨g, z⟩, fun z => z.2⟩
/-- all but G stays -/
def KeepX (G : Addr → Prop) (H H' : Hp) : Prop := ∀ a o, ¬ G a → H a = some o → H' a = some o
theorem KeepX.refl {G : Addr → Prop} {H : Hp} : KeepX G H H := fun _ _ _ e => e
theorem KeepX.trans {G : Addr → Prop} {H H1 H2 : Hp} (a : KeepX G H H1) (b : KeepX G H1 H2) : KeepX G H H2 := fun x o n e => b x o n (a x o n e)
theorem KeepX.of {G : Addr → Prop} {H H' : Hp} (a : Same H H') : KeepX G H H' := fun x o _ e => a x o e
theorem hide_keep {G G' : Addr → Prop} {H H' : Hp} (s : ∀ a, G a → G' a) (k : KeepX G H H') : Same (hide G' H) (hide G' H') := fun a o e => by
  obtain ⟨n, e⟩ := hide_some.mp e
  exact hide_some.mpr ⟨n, k a o (fun z => n (s a z)) e⟩
theorem hide_same {G : Addr → Prop} {H H' : Hp} (k : Same H H') : Same (hide G H) (hide G H') := hide_keep (G := fun _ => False) (fun _ z => z.elim) (.of k)
theorem hide_less {G G' : Addr → Prop} {H : Hp} (s : ∀ a, G a → G' a) : Same (hide G' H) (hide G H) := fun a o e => by
  obtain ⟨n, e⟩ := hide_some.mp e
  exact hide_some.mpr ⟨fun z => n (s a z), e⟩
theorem hide_sub {G : Addr → Prop} {H : Hp} : Same (hide G H) H := fun a o e => (hide_some.mp e).2
theorem same_new {H : Hp} {p : Addr} {o : HO} (n : H p = none) : Same H (upd H p o) := fun b u e => by
  rw [upd_ne (ne_of_none e n)]
  exact e
end DL
end
section
set_option Elab.async false
set_option linter.all false
set_option maxRecDepth 100000
set_option maxHeartbeats 4000000
namespace DL
open PySem PySem.Spec PyProof.Rows L2

/-- a resource: what stands at the addresses fp, told by t -/
structure Res (T : Type) where
  fp : Addr → Prop
  hd : Option Addr
  At : Hp → T → Prop
  dom : ∀ H t, At H t → ∀ a, fp a → ∃ o, H a = some o
  mono : ∀ H H' t, At H t → (∀ a o, (fp a ∨ ∀ xs, o ≠ .lst xs) → H a = some o → H' a = some o) → At H' t

inductive SV where
  | d (x : Dat)
  | o (xs : List Dat)
abbrev En := List (Option SV)

inductive Out (α T : Type) where
  | ok (a : α) (t : T)
  | ex (C : Addr) (fs : List Str) (ds : List Dat) (t : T)
  | no
def Out.bind {α β T : Type} (o : Out α T) (k : α → T → Out β T) : Out β T :=
  match o with
  | .ok a t => k a t
  | .ex C fs ds t => .ex C fs ds t
  | .no => .no
def Out.lift {α T : Type} (o : Option α) (t : T) : Out α T :=
  match o with
  | some a => .ok a t
  | none => .no
abbrev Den (T : Type) := En → T → Out Dat T

/-- the addresses that are a slot's own -/
def Ow (σ : L2.St) (ρ : En) (a : Addr) : Prop := ∃ (i : Nat) (xs : List Dat), ρ[i]? = some (some (SV.o xs)) ∧ σ[i]? = some (some (V.ref a))
section
variable {T : Type}
def Hid (R : Res T) (σ : L2.St) (ρ : En) (a : Addr) : Prop := R.fp a ∨ Ow σ ρ a
structure RpS (K : PySem.W.Frag) (R : Res T) (σ : L2.St) (ρ : En) (H : Hp) : Prop where
  len : ρ.length = σ.length
  dat : ∀ (i : Nat) (d : Dat), ρ[i]? = some (some (SV.d d)) → ∃ v, σ[i]? = some (some v) ∧ Rp K R.hd (hide (Hid R σ ρ) H) d v
  own : ∀ (i : Nat) (xs : List Dat), ρ[i]? = some (some (SV.o xs)) → ∃ (p : Addr) (vs : List V), σ[i]? = some (some (V.ref p)) ∧ ¬ R.fp p ∧ H p = some (.lst vs) ∧ RpL K R.hd (hide (Hid R σ ρ) H) xs vs
  inj : ∀ (i j : Nat) (p : Addr) (xs ys : List Dat), ρ[i]? = some (some (SV.o xs)) → ρ[j]? = some (some (SV.o ys)) → σ[i]? = some (some (V.ref p)) → σ[j]? = some (some (V.ref p)) → i = j
def RpX (K : PySem.W.Frag) (h : Option Addr) (H : Hp) (C : Addr) (fs : List Str) (ds : List Dat) (cls : Value) (dd : Option Addr) : Prop :=
  cls = .ref C ∧ ((fs = [] ∧ dd = none) ∨ ∃ (a : Addr) (xs : List V), dd = some a ∧ H a = some (.xd (fs.zip xs)) ∧ xs.length = fs.length ∧ RpL K h H ds xs)
theorem RpX.mono {K : PySem.W.Frag} {h : Option Addr} {H H' : Hp} {C : Addr} {fs : List Str} {ds : List Dat} {cls : Value} {dd : Option Addr} (e : Same H H') (q : RpX K h H C fs ds cls dd) : RpX K h H' C fs ds cls dd := by
  obtain ⟨q0, q⟩ := q
  refine ⟨q0, ?_⟩
  rcases q with q | ⟨a, xs, f1, f2, f3, f4⟩
  · exact .inl q
  · exact .inr ⟨a, xs, f1, e _ _ f2, f3, RpL.mono e _ _ f4⟩

theorem RpS.dom {K : PySem.W.Frag} {R : Res T} {σ : L2.St} {ρ : En} {H : Hp} {t : T} (s : RpS K R σ ρ H) (at_ : R.At H t) : ∀ a, Hid R σ ρ a → ∃ o, H a = some o := fun a q => by
  rcases q with q | ⟨i, xs, e1, e2⟩
  · exact R.dom H t at_ a q
  · obtain ⟨p, vs, f1, _, f3, _⟩ := s.own i xs e1
    rw [f1] at e2
    cases e2
    exact ⟨_, f3⟩
theorem RpS.keep {K : PySem.W.Frag} {R : Res T} {σ : L2.St} {ρ : En} {H H' : Hp} (s : RpS K R σ ρ H) (k : KeepX R.fp H H') : RpS K R σ ρ H' := by
  have hs : Same (hide (Hid R σ ρ) H) (hide (Hid R σ ρ) H') := hide_keep (fun a z => .inl z) k
  refine ⟨s.len, fun i d e => ?_, fun i xs e => ?_, s.inj⟩
  · obtain ⟨v, e1, e2⟩ := s.dat i d e
    exact ⟨v, e1, Rp.mono hs _ _ e2⟩
  · obtain ⟨p, vs, e1, e2, e3, e4⟩ := s.own i xs e
    exact ⟨p, vs, e1, e2, k _ _ e2 e3, RpL.mono hs _ _ e4⟩

/-- what stands behind an expression -/
def Post {α β : Type} (rel : Hp → α → β → Prop) (K : PySem.W.Frag) (W : WX) (R : Res T) (σ : L2.St) (ρ : En) (H : Hp) (o : Out α T) (Q : β → Hp → Prop) : Prop :=
  match o with
  | .ok a t => ∀ b H', KeepX R.fp H H' → R.At H' t → rel (hide (Hid R σ ρ) H') a b → Q b H'
  | .ex C fs ds t => ∀ cls dd H', KeepX R.fp H H' → R.At H' t → RpX K R.hd (hide (Hid R σ ρ) H') C fs ds cls dd → W cls dd σ H'
  | .no => False
theorem Post.bind {α β α' β' : Type} {rel : Hp → α → β → Prop} {rel' : Hp → α' → β' → Prop} {K : PySem.W.Frag} {W : WX} {R : Res T} {σ : L2.St} {ρ : En} {H : Hp} {o : Out α T} {k : α → T → Out α' T} {Q : β' → Hp → Prop} {Q1 : β → Hp → Prop}
    (p : Post rel' K W R σ ρ H (o.bind k) Q)
    (h : ∀ a t b H', o = .ok a t → KeepX R.fp H H' → R.At H' t → rel (hide (Hid R σ ρ) H') a b → Post rel' K W R σ ρ H' (k a t) Q → Q1 b H') : Post rel K W R σ ρ H o Q1 := by
  cases o with
  | ok a t =>
    intro b H' k1 at1 r1
    refine h a t b H' rfl k1 at1 r1 ?_
    change Post rel' K W R σ ρ H (k a t) Q at p
    generalize k a t = z at p ⊢
    cases z with
    | ok a' t' => exact fun b' H2 k2 at2 r2 => p b' H2 (k1.trans k2) at2 r2
    | ex C fs ds t' => exact fun cls dd H2 k2 at2 r2 => p cls dd H2 (k1.trans k2) at2 r2
    | no => exact p
  | ex C fs ds t => exact p
  | no => exact p
theorem Post.keep {α β : Type} {rel : Hp → α → β → Prop} {K : PySem.W.Frag} {W : WX} {R : Res T} {σ : L2.St} {ρ : En} {H H1 : Hp} {o : Out α T} {Q : β → Hp → Prop} (p : Post rel K W R σ ρ H o Q) (k : KeepX R.fp H H1) : Post rel K W R σ ρ H1 o Q := by
  cases o with
  | ok a t => exact fun b H' k' at' r => p b H' (k.trans k') at' r
  | ex C fs ds t => exact fun cls dd H' k' at' r => p cls dd H' (k.trans k') at' r
  | no => exact p
theorem Post.ok {α β : Type} {rel : Hp → α → β → Prop} {K : PySem.W.Frag} {W : WX} {R : Res T} {σ : L2.St} {ρ : En} {H : Hp} {a : α} {t : T} {b : β} {Q : β → Hp → Prop} (p : Post rel K W R σ ρ H (.ok a t) Q) {H' : Hp} (k : KeepX R.fp H H') (at_ : R.At H' t)
    (r : rel (hide (Hid R σ ρ) H') a b) : Q b H' := p b H' k at_ r

def tDX {α β : Type} (rel : Option Addr → Hp → α → β → Prop) (K : PySem.W.Frag) (W : WX) (R : Res T) (F : En → T → Out α T) : L2.St → Hp → (β → Hp → Prop) → Prop := fun σ H Q =>
  ∃ (ρ : En) (t : T), RpS K R σ ρ H ∧ R.At H t ∧ Post (rel R.hd) K W R σ ρ H (F ρ t) Q
/-- an expression gives F's data; a test F's answer; arguments F's data -/
def tD (K : PySem.W.Frag) (W : WX) (R : Res T) (F : Den T) : TE := tDX (fun h H d v => Rp K h H d v) K W R F
def tDT (K : PySem.W.Frag) (W : WX) (R : Res T) (F : En → T → Out Bool T) : TT := tDX (fun _ _ (a b : Bool) => a = b) K W R F
def tDA (K : PySem.W.Frag) (W : WX) (R : Res T) (F : En → T → Out (List Dat) T) : TA := tDX (fun h H d v => RpL K h H d v) K W R F
def tDO (K : PySem.W.Frag) (W : WX) (R : Res T) (F : En → T → Out (Option Int) T) : TO := tDX (fun _ _ (a b : Option Int) => a = b) K W R F
end

theorem _root_.L2.PE.imp {X : Cx} {e : Expr} {t t' : TE} (h : PE X e t) (i : ∀ σ H Q, t' σ H Q → t σ H Q) : PE X e t' := ⟨fun pins s σ H Q I q => h.run pins s σ H Q I (i _ _ _ q)⟩
theorem _root_.L2.PT.imp {X : Cx} {e : Expr} {t t' : TT} (h : PT X e t) (i : ∀ σ H Q, t' σ H Q → t σ H Q) : PT X e t' := ⟨fun pins s σ H Q I q => h.run pins s σ H Q I (i _ _ _ q)⟩
theorem _root_.L2.PW.imp {X : Cx} {e : Expr} {t t' : TT} (h : PW X e t) (i : ∀ σ H Q, t' σ H Q → t σ H Q) : PW X e t' := ⟨fun wh pins s σ H Q I q => h.run wh pins s σ H Q I (i _ _ _ q)⟩
theorem _root_.L2.PA.imp {X : Cx} {e : List Expr} {t t' : TA} (h : PA X e t) (i : ∀ σ H Q, t' σ H Q → t σ H Q) : PA X e t' := ⟨fun pos pins s σ H Q I q => h.run pos pins s σ H Q I (i _ _ _ q)⟩
theorem _root_.L2.PS.imp {X : Cx} {e : Stmt} {t t' : TS} (h : PS X e t) (i : ∀ D σ H, t' D σ H → t D σ H) : PS X e t' := ⟨fun pins s σ H D I q => h.run pins s σ H D I (i _ _ _ q)⟩
theorem _root_.L2.PSs.imp {X : Cx} {e : List Stmt} {t t' : TS} (h : PSs X e t) (i : ∀ D σ H, t' D σ H → t D σ H) : PSs X e t' := ⟨fun pins s σ H D I q => h.run pins s σ H D I (i _ _ _ q)⟩

/-! ### the simplest expressions -/
def vName (i : Nat) {T : Type} : Den T := fun ρ t => match ρ[i]? with
  | some (some (SV.d d)) => .ok d t
  | _ => .no
def cst {T α : Type} (a : α) : En → T → Out α T := fun _ t => .ok a t
section
variable {T : Type} {X : Cx} {W : WX} {R : Res T}
theorem d_name {i : Nat} {x : Str} {pos : Pos} (h : PE X (.Name x pos) (tVar i)) : PE X (.Name x pos) (tD X.K W R (vName i)) := h.imp fun σ H Q q => by
  obtain ⟨ρ, t, s, at_, p⟩ := q
  unfold vName at p
  split at p
  · rename_i d e
    obtain ⟨v, e1, e2⟩ := s.dat i d e
    exact ⟨v, e1, p.ok .refl at_ e2⟩
  · exact p.elim
theorem d_const {e : Expr} {v : V} {d : Dat} (h : PE X e (tC v)) (r : ∀ k H, Rp X.K k H d v) : PE X e (tD X.K W R (cst d)) := h.imp fun σ H Q q => by
  obtain ⟨ρ, t, s, at_, p⟩ := q
  exact p.ok .refl at_ (r _ _)
theorem d_int {i : Int} {j pos} : PE X (.Constant (.int i) j pos) (tD X.K W R (cst (.int i))) := d_const pe_int fun _ _ => by simp only [Rp]
theorem d_bl {b : Bool} {j pos} : PE X (.Constant (.bool b) j pos) (tD X.K W R (cst (.bl b))) := d_const pe_bl fun _ _ => by simp only [Rp]
theorem d_non {j pos} : PE X (.Constant .none j pos) (tD X.K W R (cst .non)) := d_const pe_non fun _ _ => by simp only [Rp]
theorem d_str {x : Str} {j pos} (l : List Nat) (e : x = ⟨l.toArray⟩ := by decide +kernel) : PE X (.Constant (.str x) j pos) (tD X.K W R (cst (.str l))) := d_const pe_str fun _ _ => by
  simp only [Rp, e]

/-! ### arguments -/
def aNil {T : Type} : En → T → Out (List Dat) T := fun _ t => .ok [] t
def aCons {T : Type} (F : Den T) (G : En → T → Out (List Dat) T) : En → T → Out (List Dat) T := fun ρ t => (F ρ t).bind fun d t1 => (G ρ t1).bind fun ds t2 => .ok (d :: ds) t2
theorem da_nil : PA X [] (tDA X.K W R aNil) := pa_nil.imp fun σ H Q q => by
  obtain ⟨ρ, t, s, at_, p⟩ := q
  exact p.ok .refl at_ RpL.nil
theorem da_cons {e : Expr} {es : List Expr} {F : Den T} {G : En → T → Out (List Dat) T} (h : PE X e (tD X.K W R F)) (hr : PA X es (tDA X.K W R G)) (hs : starEach (e :: es) X.env = (false, eval e X.env) :: starEach es X.env := by rfl) :
    PA X (e :: es) (tDA X.K W R (aCons F G)) := (pa_cons h hr hs).imp fun σ H Q q => by
  obtain ⟨ρ, t, s, at_, p⟩ := q
  refine ⟨ρ, t, s, at_, Post.bind p fun d t1 v H1 _ k1 at1 r1 p1 => ?_⟩
  refine ⟨ρ, t1, s.keep k1, at1, Post.bind p1 fun ds t2 vs H2 _ k2 at2 r2 p2 => ?_⟩
  exact p2.ok .refl at2 (RpL.cons (Rp.mono (hide_keep (fun a z => .inl z) k2) _ _ r1) r2)

/-! ### operators -/
/-- the operator r on values does g on data -/
def OpD (K : PySem.W.Frag) (r : R2) (g : Dat → Dat → Option Dat) : Prop := ∀ (h : Option Addr) (G : Addr → Prop) (H : Hp) (x y z : Dat) (v w : V) (Q : VK), (∀ a, G a → ∃ o, H a = some o) → g x y = some z →
  Rp K h (hide G H) x v → Rp K h (hide G H) y w → (∀ u H', Same H H' → Rp K h (hide G H') z u → Q u H') → r v w H Q
def op2 {T : Type} (g : Dat → Dat → Option Dat) (F G : Den T) : Den T := fun ρ t => (F ρ t).bind fun x t1 => (G ρ t1).bind fun y t2 => .lift (g x y) t2
theorem at_same {H H' : Hp} {t : T} (at_ : R.At H t) (e : Same H H') : R.At H' t := R.mono H H' t at_ fun a o _ q => e a o q
theorem t_op {r : R2} {g : Dat → Dat → Option Dat} {F G : Den T} (hg : OpD X.K r g) {σ : L2.St} {H : Hp} {Q : VK} (q : tD X.K W R (op2 g F G) σ H Q) : tOp r (tD X.K W R F) (tD X.K W R G) σ H Q := by
  obtain ⟨ρ, t, s, at_, p⟩ := q
  refine ⟨ρ, t, s, at_, Post.bind p fun x t1 v H1 _ k1 at1 r1 p1 => ?_⟩
  refine ⟨ρ, t1, s.keep k1, at1, Post.bind p1 fun y t2 w H2 _ k2 at2 r2 p2 => ?_⟩
  have s2 := (s.keep k1).keep k2
  cases e : g x y with
  | none =>
    rw [e] at p2
    exact p2.elim
  | some z =>
    rw [e] at p2
    exact hg R.hd _ H2 x y z v w Q (s2.dom at2) e (Rp.mono (hide_keep (fun a z => .inl z) k2) _ _ r1) r2 fun u H3 e3 r3 => p2.ok (.of e3) (at_same at2 e3) r3
theorem d_op {op : Operator} {r : R2} {g : Dat → Dat → Option Dat} {a b : Expr} {F G : Den T} {pos : Pos} (ho : OpR X (binaryOp op) r) (hg : OpD X.K r g) (ha : PE X a (tD X.K W R F)) (hb : PE X b (tD X.K W R G)) :
    PE X (.BinOp a op b pos) (tD X.K W R (op2 g F G)) := (pe_op ho ha hb).imp fun σ H Q q => t_op hg q
theorem d_cmp {op : CmpOp} {r : R2} {g : Dat → Dat → Option Dat} {a b : Expr} {F G : Den T} {pos : Pos} (ho : OpR X (compareOp op) r) (hg : OpD X.K r g) (ha : PE X a (tD X.K W R F)) (hb : PE X b (tD X.K W R G)) (hm : behindInMarks op b = false) :
    PE X (.Compare a [op] [b] pos) (tD X.K W R (op2 g F G)) := (pe_cmpR ho ha hb hm).imp fun σ H Q q => t_op hg q
/-- a test by its value, a bool -/
def asB {T : Type} (F : Den T) : En → T → Out Bool T := fun ρ t => (F ρ t).bind fun x t1 => match x with
  | .bl b => .ok b t1
  | _ => .no
theorem t_asB {F : Den T} {te : TE} {σ : L2.St} {H : Hp} {Q : Bool → Hp → Prop} (ht : ∀ Q, tD X.K W R F σ H Q → te σ H Q) (q : tDT X.K W R (asB F) σ H Q) : tTest te σ H Q := by
  obtain ⟨ρ, t, s, at_, p⟩ := q
  refine ht _ ⟨ρ, t, s, at_, Post.bind p fun x t1 v H1 _ k1 at1 r1 p1 => ?_⟩
  cases x with
  | bl b =>
    simp only [Rp] at r1
    exact ⟨b, r1, p1.ok .refl at1 rfl⟩
  | _ => exact p1.elim
theorem dt_cmp {op : CmpOp} {r : R2} {g : Dat → Dat → Option Dat} {a b : Expr} {F G : Den T} {pos : Pos} (ho : OpR X (compareOp op) r) (hg : OpD X.K r g) (ha : PE X a (tD X.K W R F)) (hb : PE X b (tD X.K W R G)) (hm : behindInMarks op b = false) :
    PT X (.Compare a [op] [b] pos) (tDT X.K W R (asB (op2 g F G))) := (pt_cmpR ho ha hb hm).imp fun σ H Q q => t_asB (fun Q' q' => t_op hg q') q
theorem dt_val {e : Expr} {F : Den T} (h : PE X e (tD X.K W R F)) (he : ∀ whole, isTrue e X.env whole = (do let v ← whole; standAt e.pos; holding [v] (truthy v)) := by intro _; rfl) : PT X e (tDT X.K W R (asB F)) :=
  (pt_val h he).imp fun σ H Q q => by
    have z := t_asB (te := tD X.K W R F) (fun Q' q' => q') q
    exact z
end
end DL
end
section
set_option Elab.async false
set_option linter.all false
set_option maxRecDepth 100000
set_option maxHeartbeats 4000000
namespace DL
open PySem PySem.Spec PyProof.Rows L2

/-! ### data as the library's data -/
mutual
def py : Dat → PyData
  | .non => .none
  | .bl b => .bool b
  | .int i => .int i
  | .str x => .str ⟨x.toArray⟩
  | .tup ds => .tuple (pys ds)
  | .lst ds => .list (pys ds)
  | .rol _ => .none
  | .exc _ _ _ => .none
  | .hd => .none
def pys : List Dat → List PyData
  | [] => []
  | d :: ds => py d :: pys ds
end
mutual
/-- plain, of so much depth at most, its signs are signs -/
def shp : Dat → Nat → Bool
  | .non, _ => true
  | .bl _, _ => true
  | .int _, _ => true
  | .str x, _ => x.all (· < 0x110000)
  | .tup ds, n => decide (0 < n) && shps ds (n - 1)
  | .lst ds, n => decide (0 < n) && shps ds (n - 1)
  | .rol _, _ => false
  | .exc _ _ _, _ => false
  | .hd, _ => false
def shps : List Dat → Nat → Bool
  | [], _ => true
  | d :: ds, n => shp d n && shps ds n
end
mutual
/-- equal as Python has it: True is 1 -/
def eqv : Dat → Dat → Bool
  | .non, .non => true
  | .bl a, .bl b => a == b
  | .bl a, .int j => (if a then 1 else 0) == j
  | .int i, .bl b => i == (if b then 1 else 0)
  | .int i, .int j => i == j
  | .str x, .str y => decide (x = y)
  | .lst xs, .lst ys => eqvs xs ys
  | .tup xs, .tup ys => eqvs xs ys
  | _, _ => false
def eqvs : List Dat → List Dat → Bool
  | [], [] => true
  | x :: xs, y :: ys => eqv x y && eqvs xs ys
  | _, _ => false
end
section
variable {K : PySem.W.Frag} {h : Option Addr} {H : Hp}
mutual
theorem dp_of : ∀ (d : Dat) (n : Nat) (v : V), shp d n = true → Rp K h H d v → Dp K H v (py d)
  | .non, _, v, _, r => by
    simp only [Rp] at r
    subst r
    exact .non
  | .bl b, _, v, _, r => by
    simp only [Rp] at r
    subst r
    exact .bl b
  | .int i, _, v, _, r => by
    simp only [Rp] at r
    subst r
    exact .int i
  | .str x, _, v, _, r => by
    simp only [Rp] at r
    subst r
    exact .str _
  | .tup ds, n, v, s, r => by
    simp only [Rp] at r
    simp only [shp, Bool.and_eq_true] at s
    obtain ⟨a, xs, rfl, e2, e3⟩ := r
    simp only [py]
    exact .tup e2 (dps_of ds _ xs s.2 e3)
  | .lst ds, n, v, s, r => by
    simp only [Rp] at r
    simp only [shp, Bool.and_eq_true] at s
    obtain ⟨a, xs, rfl, e2, e3⟩ := r
    simp only [py]
    exact .lst (.of e2) (dps_of ds _ xs s.2 e3)
  | .rol _, _, _, s, _ => by
    simp only [shp] at s
    cases s
  | .exc _ _ _, _, _, s, _ => by
    simp only [shp] at s
    cases s
  | .hd, _, _, s, _ => by
    simp only [shp] at s
    cases s
theorem dps_of : ∀ (ds : List Dat) (n : Nat) (vs : List V), shps ds n = true → RpL K h H ds vs → DpAll K H vs (pys ds)
  | [], _, vs, _, r => by
    simp only [RpL] at r
    subst r
    exact .nil
  | d :: ds, n, vs, s, r => by
    simp only [shps, Bool.and_eq_true] at s
    obtain ⟨v, u, rfl, e2, e3⟩ := r.uncons
    simp only [pys]
    exact .cons (dp_of d n v s.1 e2) (dps_of ds n u s.2 e3)
end
end
mutual
theorem lay_of : ∀ (d : Dat) (n : Nat), shp d n = true → (py d).canLay0 = true ∧ (py d).depth ≤ n
  | .non, n, _ => by simp [py, PyData.canLay0, PyData.depth]
  | .bl _, n, _ => by simp [py, PyData.canLay0, PyData.depth]
  | .int _, n, _ => by simp [py, PyData.canLay0, PyData.depth]
  | .str x, n, s => by
    simp only [shp] at s
    simp only [py, PyData.canLay0, PyData.depth, PyData.strOk]
    refine ⟨?_, Nat.zero_le _⟩
    rw [List.all_eq_true] at s
    simpa using s
  | .tup ds, n, s => by
    simp only [shp, Bool.and_eq_true, decide_eq_true_eq] at s
    obtain ⟨h1, h2⟩ := lays_of ds _ s.2
    simp only [py, PyData.canLay0, PyData.depth]
    exact ⟨h1, by omega⟩
  | .lst ds, n, s => by
    simp only [shp, Bool.and_eq_true, decide_eq_true_eq] at s
    obtain ⟨h1, h2⟩ := lays_of ds _ s.2
    simp only [py, PyData.canLay0, PyData.depth]
    exact ⟨h1, by omega⟩
  | .rol _, _, s => by
    simp only [shp] at s
    cases s
  | .exc _ _ _, _, s => by
    simp only [shp] at s
    cases s
  | .hd, _, s => by
    simp only [shp] at s
    cases s
theorem lays_of : ∀ (ds : List Dat) (n : Nat), shps ds n = true → PyData.canLayAll0 (pys ds) = true ∧ PyData.depthAll (pys ds) ≤ n
  | [], n, _ => by simp [pys, PyData.canLayAll0, PyData.depthAll]
  | d :: ds, n, s => by
    simp only [shps, Bool.and_eq_true] at s
    obtain ⟨h1, h2⟩ := lay_of d n s.1
    obtain ⟨h3, h4⟩ := lays_of ds n s.2
    simp only [pys, PyData.canLayAll0, PyData.depthAll, h1, h3, Bool.and_self, true_and]
    omega
end
theorem shaped_of {d : Dat} (s : shp d 60 = true) : SeqAt.shaped (py d) = true := by
  obtain ⟨h1, h2⟩ := lay_of d 60 s
  unfold SeqAt.shaped
  rw [h1, decide_eq_true (by omega : (py d).depth ≤ 64)]
  rfl
theorem str_beq (x y : List Nat) : ((⟨x.toArray⟩ : Str) == ⟨y.toArray⟩) = decide (x = y) := by
  by_cases e : x = y
  · subst e
    simp
  · rw [decide_eq_false e, beq_eq_false_iff_ne]
    intro z
    injection z with z
    exact e (by simpa using z)
mutual
theorem eqv_py : ∀ (x y : Dat) (n m : Nat), shp x n = true → shp y m = true → PyData.eqv (py x) (py y) = eqv x y
  | .non, y, n, m, _, s => by cases y <;> simp_all [py, eqv, PyData.eqv, shp]
  | .bl b, y, n, m, _, s => by cases y <;> simp_all [py, eqv, PyData.eqv, shp]
  | .int b, y, n, m, _, s => by cases y <;> simp_all [py, eqv, PyData.eqv, shp]
  | .str b, y, n, m, _, s => by
    cases y with
    | str c =>
      simp only [py, eqv, PyData.eqv]
      exact str_beq b c
    | _ => simp_all [py, eqv, PyData.eqv, shp]
  | .tup xs, y, n, m, r, s => by
    simp only [shp, Bool.and_eq_true] at r
    cases y with
    | tup ys =>
      simp only [shp, Bool.and_eq_true] at s
      simp only [py, eqv, PyData.eqv]
      exact eqvs_py xs ys _ _ r.2 s.2
    | _ => simp_all [py, eqv, PyData.eqv, shp]
  | .lst xs, y, n, m, r, s => by
    simp only [shp, Bool.and_eq_true] at r
    cases y with
    | lst ys =>
      simp only [shp, Bool.and_eq_true] at s
      simp only [py, eqv, PyData.eqv]
      exact eqvs_py xs ys _ _ r.2 s.2
    | _ => simp_all [py, eqv, PyData.eqv, shp]
  | .rol _, _, _, _, s, _ => by
    simp only [shp] at s
    cases s
  | .exc _ _ _, _, _, _, s, _ => by
    simp only [shp] at s
    cases s
  | .hd, _, _, _, s, _ => by
    simp only [shp] at s
    cases s
theorem eqvs_py : ∀ (xs ys : List Dat) (n m : Nat), shps xs n = true → shps ys m = true → PyData.eqvAll (pys xs) (pys ys) = eqvs xs ys
  | [], [], _, _, _, _ => by simp [pys, eqvs, PyData.eqvAll]
  | [], _ :: _, _, _, _, _ => by simp [pys, eqvs, PyData.eqvAll]
  | _ :: _, [], _, _, _, _ => by simp [pys, eqvs, PyData.eqvAll]
  | x :: xs, y :: ys, n, m, r, s => by
    simp only [shps, Bool.and_eq_true] at r s
    simp only [pys, eqvs, PyData.eqvAll, eqv_py x y n m r.1 s.1, eqvs_py xs ys n m r.2 s.2]
end

/-! ### operators on data -/
def line : Nat := 16777216
theorem line_eq : (sizeLine : Nat) = line := sizeLine_eq
def addD : Dat → Dat → Option Dat
  | .int i, .int j => some (.int (i + j))
  | .str a, .str b => if a.length + b.length ≤ line then some (.str (a ++ b)) else none
  | .tup a, .tup b => if a.length + b.length ≤ line then some (.tup (a ++ b)) else none
  | .lst a, .lst b => if a.length + b.length ≤ line then some (.lst (a ++ b)) else none
  | _, _ => none
def subD : Dat → Dat → Option Dat
  | .int i, .int j => some (.int (i - j))
  | _, _ => none
/-- one factor below 2^64 -/
def mulD : Dat → Dat → Option Dat
  | .int i, .int j => if (-(2 ^ 64) < i ∧ i < 2 ^ 64) ∨ (-(2 ^ 64) < j ∧ j < 2 ^ 64) then some (.int (i * j)) else none
  | _, _ => none
def fdivD : Dat → Dat → Option Dat
  | .int i, .int j => if 0 < j ∧ j < 1073741824 then some (.int (i / j)) else none
  | _, _ => none
def modD : Dat → Dat → Option Dat
  | .int i, .int j => if 0 < j then some (.int (i % j)) else none
  | _, _ => none
def powD : Dat → Dat → Option Dat
  | .int i, .int j => if 0 ≤ j ∧ j ≤ 1000000 ∧ i.natAbs < 2 ^ 64 then some (.int (i ^ j.toNat)) else none
  | _, _ => none
def cmpD (p : Int → Int → Bool) : Dat → Dat → Option Dat
  | .int i, .int j => some (.bl (p i j))
  | _, _ => none
def flatD : Dat → Bool
  | .int _ => true
  | .str _ => true
  | .bl _ => true
  | _ => false
def eqD (neg : Bool) (x y : Dat) : Option Dat :=
  match x, y with
  | .str a, .str b => some (.bl (if neg then !decide (a = b) else decide (a = b)))
  | x, y => if shp x 60 && shp y 60 then some (.bl (if neg then !eqv x y else eqv x y)) else none

section
variable {X : Cx}
theorem sstr_append (a b : List Nat) : (⟨a.toArray⟩ : Str) ++ ⟨b.toArray⟩ = ⟨(a ++ b).toArray⟩ := TL.ext_tl (by rw [TL.tl_append])
theorem sstr_len (a : List Nat) : (⟨a.toArray⟩ : Str).length = a.length := by simp [Str.length]
theorem sstr_inj {a b : List Nat} (e : (⟨a.toArray⟩ : Str) = ⟨b.toArray⟩) : a = b := by
  injection e with e
  simpa using e
abbrev rAddS : R2 := fun x y H Q => ∃ i j, x = .str i ∧ y = .str j ∧ i.length + j.length ≤ sizeLine ∧ Q (.str (i ++ j)) H
theorem op_addD : OpR X (binaryOp .Add) (fun x y H Q => rI0 (fun i j => .int (i + j)) x y H Q ∨ rAddS x y H Q ∨ rCatA X.K x y H Q ∨ rCat x y H Q) := op_add.or (op_add_str.or (op_catA.or op_cat))
theorem addD_ok (K : PySem.W.Frag) : OpD K (fun x y H Q => rI0 (fun i j => .int (i + j)) x y H Q ∨ rAddS x y H Q ∨ rCatA K x y H Q ∨ rCat x y H Q) addD := by
  intro h G H x y z v w Q hG e rx ry q
  have hl := line_eq
  cases x with
  | int i =>
    cases y with
    | int j =>
      simp only [addD, Option.some.injEq] at e
      subst e
      simp only [Rp] at rx ry
      subst rx ry
      exact .inl ⟨i, j, rfl, rfl, q _ H (Same.refl H) (by simp only [Rp])⟩
    | _ => cases e
  | str a =>
    cases y with
    | str b =>
      simp only [addD] at e
      split at e
      · rename_i hz
        cases e
        simp only [Rp] at rx ry
        subst rx ry
        refine .inr (.inl ⟨_, _, rfl, rfl, by rw [sstr_len, sstr_len]; omega, q _ H (Same.refl H) (by simp only [Rp, sstr_append])⟩)
      · cases e
    | _ => cases e
  | tup a =>
    cases y with
    | tup b =>
      simp only [addD] at e
      split at e
      · rename_i hz
        cases e
        simp only [Rp] at rx ry
        obtain ⟨p, xs, rfl, s1, l1⟩ := rx
        obtain ⟨p', ys, rfl, s2, l2⟩ := ry
        have n1 := l1.len
        have n2 := l2.len
        refine .inr (.inr (.inl ⟨p, p', xs, ys, rfl, rfl, same_sqT hide_sub s1, same_sqT hide_sub s2, by omega, fun e0 => ?_, fun _ e0 => ?_, fun _ _ c nc => ?_⟩))
        · subst e0
          have : a = [] := List.eq_nil_of_length_eq_zero n1.symm
          subst this
          exact q _ H (Same.refl H) (by simp only [Rp, List.nil_append]; exact ⟨p', ys, rfl, s2, l2⟩)
        · subst e0
          have : b = [] := List.eq_nil_of_length_eq_zero n2.symm
          subst this
          exact q _ H (Same.refl H) (by simp only [Rp, List.append_nil]; exact ⟨p, xs, rfl, s1, l1⟩)
        · have s0 := same_new (o := .tup (xs ++ ys)) nc
          have ng : ¬ G c := fun g => by
            obtain ⟨o, e⟩ := hG c g
            rw [nc] at e
            cases e
          refine q _ _ s0 ?_
          simp only [Rp]
          exact ⟨c, xs ++ ys, rfl, .of (hide_some.mpr ⟨ng, upd_same⟩), RpL.append (RpL.mono (hide_same s0) _ _ l1) (RpL.mono (hide_same s0) _ _ l2)⟩
      · cases e
    | _ => cases e
  | lst a =>
    cases y with
    | lst b =>
      simp only [addD] at e
      split at e
      · rename_i hz
        cases e
        simp only [Rp] at rx ry
        obtain ⟨p, xs, rfl, s1, l1⟩ := rx
        obtain ⟨p', ys, rfl, s2, l2⟩ := ry
        have n1 := l1.len
        have n2 := l2.len
        refine .inr (.inr (.inr ⟨p, p', xs, ys, rfl, rfl, hide_sub _ _ s1, hide_sub _ _ s2, by omega, fun c nc => ?_⟩))
        have s0 := same_new (o := .lst (xs ++ ys)) nc
        have ng : ¬ G c := fun g => by
          obtain ⟨o, e⟩ := hG c g
          rw [nc] at e
          cases e
        refine q _ _ s0 ?_
        simp only [Rp]
        exact ⟨c, xs ++ ys, rfl, hide_some.mpr ⟨ng, upd_same⟩, RpL.append (RpL.mono (hide_same s0) _ _ l1) (RpL.mono (hide_same s0) _ _ l2)⟩
      · cases e
    | _ => cases e
  | _ => cases y <;> cases e
/-- operators on ints alone -/
theorem intD_ok (K : PySem.W.Frag) {C : Int → Int → Prop} {g : Int → Int → V} {f : Dat → Dat → Option Dat} (hf : ∀ x y z, f x y = some z → ∃ i j, x = .int i ∧ y = .int j ∧ C i j ∧ ∀ k H, Rp K k H z (g i j)) : OpD K (rI C g) f := by
  intro h G H x y z v w Q hG e rx ry q
  obtain ⟨i, j, rfl, rfl, c, r⟩ := hf x y z e
  simp only [Rp] at rx ry
  exact ⟨i, j, rx, ry, c, q _ H (Same.refl H) (r _ _)⟩
theorem intD0_ok (K : PySem.W.Frag) {g : Int → Int → V} {f : Dat → Dat → Option Dat} (hf : ∀ x y z, f x y = some z → ∃ i j, x = .int i ∧ y = .int j ∧ ∀ k H, Rp K k H z (g i j)) : OpD K (rI0 g) f := by
  intro h G H x y z v w Q hG e rx ry q
  obtain ⟨i, j, rfl, rfl, r⟩ := hf x y z e
  simp only [Rp] at rx ry
  exact ⟨i, j, rx, ry, q _ H (Same.refl H) (r _ _)⟩
theorem subD_ok (K : PySem.W.Frag) : OpD K (rI0 fun i j => .int (i - j)) subD := intD0_ok K fun x y z e => by
  cases x <;> cases y <;> simp only [subD, Option.some.injEq, reduceCtorEq] at e
  subst e
  exact ⟨_, _, rfl, rfl, fun _ _ => by simp only [Rp]⟩
theorem mulD_ok (K : PySem.W.Frag) : OpD K (rI CMul fun i j => .int (i * j)) mulD := intD_ok K fun x y z e => by
  cases x <;> cases y <;> simp only [mulD, reduceCtorEq] at e
  split at e
  · rename_i c
    cases e
    exact ⟨_, _, rfl, rfl, c, fun _ _ => by simp only [Rp]⟩
  · cases e
theorem fdivD_ok (K : PySem.W.Frag) : OpD K (rI CDiv fun i j => .int (i / j)) fdivD := intD_ok K fun x y z e => by
  cases x <;> cases y <;> simp only [fdivD, reduceCtorEq] at e
  split at e
  · rename_i c
    cases e
    exact ⟨_, _, rfl, rfl, c, fun _ _ => by simp only [Rp]⟩
  · cases e
theorem modD_ok (K : PySem.W.Frag) : OpD K (rI (fun _ j => 0 < j) fun i j => .int (i % j)) modD := intD_ok K fun x y z e => by
  cases x <;> cases y <;> simp only [modD, reduceCtorEq] at e
  split at e
  · rename_i c
    cases e
    exact ⟨_, _, rfl, rfl, c, fun _ _ => by simp only [Rp]⟩
  · cases e
theorem powD_ok (K : PySem.W.Frag) : OpD K (rI CPow fun i j => .int (i ^ j.toNat)) powD := intD_ok K fun x y z e => by
  cases x <;> cases y <;> simp only [powD, reduceCtorEq] at e
  split at e
  · rename_i c
    cases e
    exact ⟨_, _, rfl, rfl, c, fun _ _ => by simp only [Rp]⟩
  · cases e
theorem cmpD_ok (K : PySem.W.Frag) (p : Int → Int → Bool) : OpD K (rI0 fun i j => .bl (p i j)) (cmpD p) := intD0_ok K fun x y z e => by
  cases x <;> cases y <;> simp only [cmpD, Option.some.injEq, reduceCtorEq] at e
  subst e
  exact ⟨_, _, rfl, rfl, fun _ _ => by simp only [Rp]⟩
/-- == and != -/
theorem op_eqQ (hu : X.A.units + 64 < cLine) : OpR X (compareOp .Eq) (fun x y H Q => rEq x y H Q ∨ rEqD X.K x y H Q) := op_eq.or (op_eqD hu)
theorem op_neQ (hu : X.A.units + 64 < cLine) : OpR X (compareOp .NotEq) (fun x y H Q => rNe x y H Q ∨ rNeD X.K x y H Q) := op_ne.or (op_neD hu)
theorem dec_strs (a b : List Nat) : decide (V.str ⟨a.toArray⟩ = V.str ⟨b.toArray⟩) = decide (a = b) := by
  by_cases e : a = b
  · subst e
    simp
  · rw [decide_eq_false e]
    exact decide_eq_false fun z => e (sstr_inj (V.str.inj z))
theorem eqD_ok (K : PySem.W.Frag) : OpD K (fun x y H Q => rEq x y H Q ∨ rEqD K x y H Q) (eqD false) := by
  intro h G H x y z v w Q hG e rx ry q
  have gen : ∀ x y : Dat, (if shp x 60 && shp y 60 then some (Dat.bl (eqv x y)) else none) = some z → Rp K h (hide G H) x v → Rp K h (hide G H) y w → rEq v w H Q ∨ rEqD K v w H Q := fun x y e rx ry => by
    split at e
    · rename_i c
      simp only [Bool.and_eq_true] at c
      cases e
      refine .inr ⟨py x, py y, dp_of x 60 v c.1 (Rp.mono hide_sub _ _ rx), dp_of y 60 w c.2 (Rp.mono hide_sub _ _ ry), shaped_of c.1, shaped_of c.2, ?_⟩
      exact q _ H (Same.refl H) (by simp only [Rp, eqv_py x y 60 60 c.1 c.2])
    · cases e
  cases x with
  | str a =>
    cases y with
    | str b =>
      simp only [eqD, Option.some.injEq, Bool.false_eq_true, if_false] at e
      subst e
      simp only [Rp] at rx ry
      subst rx ry
      exact .inl ⟨rfl, q _ H (Same.refl H) (by simp only [Rp, dec_strs])⟩
    | _ => exact gen _ _ (by simpa only [eqD, Bool.false_eq_true, if_false] using e) rx ry
  | _ => exact gen _ _ (by cases y <;> simpa only [eqD, Bool.false_eq_true, if_false] using e) rx ry
theorem neD_ok (K : PySem.W.Frag) : OpD K (fun x y H Q => rNe x y H Q ∨ rNeD K x y H Q) (eqD true) := by
  intro h G H x y z v w Q hG e rx ry q
  have gen : ∀ x y : Dat, (if shp x 60 && shp y 60 then some (Dat.bl (!eqv x y)) else none) = some z → Rp K h (hide G H) x v → Rp K h (hide G H) y w → rNe v w H Q ∨ rNeD K v w H Q := fun x y e rx ry => by
    split at e
    · rename_i c
      simp only [Bool.and_eq_true] at c
      cases e
      refine .inr ⟨py x, py y, dp_of x 60 v c.1 (Rp.mono hide_sub _ _ rx), dp_of y 60 w c.2 (Rp.mono hide_sub _ _ ry), shaped_of c.1, shaped_of c.2, ?_⟩
      exact q _ H (Same.refl H) (by simp only [Rp, eqv_py x y 60 60 c.1 c.2])
    · cases e
  cases x with
  | str a =>
    cases y with
    | str b =>
      simp only [eqD, Option.some.injEq, if_true] at e
      subst e
      simp only [Rp] at rx ry
      subst rx ry
      exact .inl ⟨rfl, q _ H (Same.refl H) (by simp only [Rp, dec_strs])⟩
    | _ => exact gen _ _ (by simpa only [eqD, if_true] using e) rx ry
  | _ => exact gen _ _ (by cases y <;> simpa only [eqD, if_true] using e) rx ry
/-- is None, is not None -/
def isND (neg : Bool) : Dat → Dat → Option Dat
  | .non, .non => some (.bl (!neg))
  | .hd, _ => none
  | _, .non => some (.bl neg)
  | _, _ => none
theorem isND_ok (K : PySem.W.Frag) (neg : Bool) : OpD K (fun x y H Q => y = .non ∧ Q (.bl (if neg then !decide (x = .non) else decide (x = .non))) H) (isND neg) := by
  intro h G H x y z v w Q hG e rx ry q
  cases y <;> first | (cases x <;> cases e; done) | skip
  simp only [Rp] at ry
  refine ⟨ry, ?_⟩
  have key : ∀ b : Bool, z = .bl (if neg then !b else b) → decide (v = .non) = b → Q (.bl (if neg then !decide (v = .non) else decide (v = .non))) H := fun b e1 e2 => by
    subst e1
    rw [e2]
    exact q _ H (Same.refl H) (by simp only [Rp])
  cases x <;> simp only [isND, Option.some.injEq, reduceCtorEq] at e <;> simp only [Rp] at rx
  case non => exact key true (by rw [← e]; cases neg <;> rfl) (by rw [rx]; rfl)
  case bl => exact key false (by rw [← e]; cases neg <;> rfl) (by rw [rx]; rfl)
  case int => exact key false (by rw [← e]; cases neg <;> rfl) (by rw [rx]; rfl)
  case str => exact key false (by rw [← e]; cases neg <;> rfl) (by rw [rx]; rfl)
  case tup => exact key false (by rw [← e]; cases neg <;> rfl) (by obtain ⟨_, _, rfl, _⟩ := rx; rfl)
  case lst => exact key false (by rw [← e]; cases neg <;> rfl) (by obtain ⟨_, _, rfl, _⟩ := rx; rfl)
  case rol => exact key false (by rw [← e]; cases neg <;> rfl) (by obtain ⟨_, _, rfl, _⟩ := rx; rfl)
  case exc => exact key false (by rw [← e]; cases neg <;> rfl) (by obtain ⟨_, _, rfl, _⟩ := rx; rfl)
/-- in, not in -/
def isInD (neg : Bool) : Dat → Dat → Option Dat
  | .str [c], .str z => some (.bl (if neg then !decide (c ∈ z) else decide (c ∈ z)))
  | .str a, .lst ds => if ds.all flatD then some (.bl (if neg then !(ds.any fun y => eqv y (.str a)) else ds.any fun y => eqv y (.str a))) else none
  | .str a, .tup ds => if ds.all flatD then some (.bl (if neg then !(ds.any fun y => eqv y (.str a)) else ds.any fun y => eqv y (.str a))) else none
  | .int a, .lst ds => if ds.all flatD then some (.bl (if neg then !(ds.any fun y => eqv y (.int a)) else ds.any fun y => eqv y (.int a))) else none
  | .int a, .tup ds => if ds.all flatD then some (.bl (if neg then !(ds.any fun y => eqv y (.int a)) else ds.any fun y => eqv y (.int a))) else none
  | _, _ => none
end
end DL
end
section
set_option Elab.async false
set_option linter.all false
set_option maxRecDepth 100000
set_option maxHeartbeats 4000000
namespace DL
open PySem PySem.Spec PyProof.Rows L2

section
variable {X : Cx}
theorem one_arr (c : Nat) : (⟨[c].toArray⟩ : Str) = ⟨#[c]⟩ := rfl
theorem flat_rp {K : PySem.W.Frag} {h : Option Addr} {H : Hp} : ∀ {ds : List Dat} {vs : List V}, ds.all flatD = true → RpL K h H ds vs → vs.all flatV = true
  | [], vs, _, r => by
    simp only [RpL] at r
    subst r
    rfl
  | d :: ds, vs, f, r => by
    obtain ⟨v, u, rfl, e1, e2⟩ := r.uncons
    simp only [List.all_cons, Bool.and_eq_true] at f
    rw [List.all_cons, flat_rp f.2 e2, Bool.and_true]
    cases d <;> simp only [flatD, Bool.false_eq_true, false_and] at f <;> simp only [Rp] at e1 <;> subst e1 <;> rfl
/-- a flat value's own ==, told by data -/
theorem eqV_str {K : PySem.W.Frag} {h : Option Addr} {H : Hp} {d : Dat} {v : V} {a : List Nat} (f : flatD d = true) (r : Rp K h H d v) : eqV v (.str ⟨a.toArray⟩) = eqv d (.str a) := by
  cases d <;> simp only [flatD, Bool.false_eq_true] at f <;> simp only [Rp] at r <;> subst r
  · rfl
  · rfl
  · rename_i x
    show (⟨x.toArray⟩ == (⟨a.toArray⟩ : Str)) = _
    rw [str_beq]
    simp only [eqv]
theorem eqV_int {K : PySem.W.Frag} {h : Option Addr} {H : Hp} {d : Dat} {v : V} {a : Int} (f : flatD d = true) (r : Rp K h H d v) : eqV v (.int a) = eqv d (.int a) := by
  cases d <;> simp only [flatD, Bool.false_eq_true] at f <;> simp only [Rp] at r <;> subst r <;> simp only [eqv] <;> rfl
theorem inV_any {K : PySem.W.Frag} {h : Option Addr} {H : Hp} {x : V} {y : Dat} (e : ∀ d v, flatD d = true → Rp K h H d v → eqV v x = eqv d y) : ∀ {ds : List Dat} {vs : List V}, ds.all flatD = true → RpL K h H ds vs → inV x vs = ds.any fun z => eqv z y
  | [], vs, _, r => by
    simp only [RpL] at r
    subst r
    rfl
  | d :: ds, vs, f, r => by
    obtain ⟨v, u, rfl, e1, e2⟩ := r.uncons
    simp only [List.all_cons, Bool.and_eq_true] at f
    have ih := inV_any e f.2 e2
    show (eqV v x || inV x u) = (eqv d y || ds.any fun z => eqv z y)
    rw [ih, e d v f.1 e1]
theorem op_inQ : OpR X (compareOp .In) (fun x y H Q => (∃ (c : Nat) (z : Str), x = .str ⟨#[c]⟩ ∧ y = .str z ∧ Q (.bl (decide (c ∈ z.cps.toList))) H) ∨ rIn X.K false x y H Q) := op_in_sign.or op_in_seq
theorem op_ninQ : OpR X (compareOp .NotIn) (fun x y H Q => (∃ (c : Nat) (z : Str), x = .str ⟨#[c]⟩ ∧ y = .str z ∧ Q (.bl (!decide (c ∈ z.cps.toList))) H) ∨ rIn X.K true x y H Q) := op_notIn_sign.or op_notIn_seq
theorem rIn_rp (K : PySem.W.Frag) {neg : Bool} {h : Option Addr} {G : Addr → Prop} {H : Hp} {x s : Dat} {ds : List Dat} {v w : V} {z : Dat} {Q : VK} (hs : s = .lst ds ∨ s = .tup ds) (f : ds.all flatD = true) (fx : flatV v = true)
    (e : ∀ d v', flatD d = true → Rp K h (hide G H) d v' → eqV v' v = eqv d x) (ry : Rp K h (hide G H) s w) (ez : z = .bl (if neg then !(ds.any fun y => eqv y x) else ds.any fun y => eqv y x))
    (q : ∀ u H', Same H H' → Rp K h (hide G H') z u → Q u H') : rIn K neg v w H Q := by
  subst ez
  rcases hs with rfl | rfl
  · simp only [Rp] at ry
    obtain ⟨p, xs, rfl, s1, l1⟩ := ry
    refine ⟨p, xs, rfl, .inl (.of (hide_sub _ _ s1)), fx, flat_rp f l1, ?_⟩
    rw [inV_any e f l1]
    exact q _ H (Same.refl H) (by simp only [Rp])
  · simp only [Rp] at ry
    obtain ⟨p, xs, rfl, s1, l1⟩ := ry
    refine ⟨p, xs, rfl, .inr (same_sqT hide_sub s1), fx, flat_rp f l1, ?_⟩
    rw [inV_any e f l1]
    exact q _ H (Same.refl H) (by simp only [Rp])
theorem isInD_ok (K : PySem.W.Frag) (neg : Bool) : OpD K (fun x y H Q => (∃ (c : Nat) (z : Str), x = .str ⟨#[c]⟩ ∧ y = .str z ∧ Q (.bl (if neg then !decide (c ∈ z.cps.toList) else decide (c ∈ z.cps.toList))) H) ∨ rIn K neg x y H Q) (isInD neg) := by
  intro h G H x y z v w Q hG e rx ry q
  unfold isInD at e
  split at e
  · rename_i c zz
    cases e
    simp only [Rp] at rx ry
    subst rx ry
    exact .inl ⟨c, _, rfl, rfl, q _ H (Same.refl H) (by simp only [Rp])⟩
  · rename_i a ds
    split at e
    · rename_i f
      cases e
      simp only [Rp] at rx
      subst rx
      exact .inr (rIn_rp K (.inl rfl) f rfl (fun d v' f r => eqV_str f r) ry rfl q)
    · cases e
  · rename_i a ds
    split at e
    · rename_i f
      cases e
      simp only [Rp] at rx
      subst rx
      exact .inr (rIn_rp K (.inr rfl) f rfl (fun d v' f r => eqV_str f r) ry rfl q)
    · cases e
  · rename_i a ds
    split at e
    · rename_i f
      cases e
      simp only [Rp] at rx
      subst rx
      exact .inr (rIn_rp K (.inl rfl) f rfl (fun d v' f r => eqV_int f r) ry rfl q)
    · cases e
  · rename_i a ds
    split at e
    · rename_i f
      cases e
      simp only [Rp] at rx
      subst rx
      exact .inr (rIn_rp K (.inr rfl) f rfl (fun d v' f r => eqV_int f r) ry rfl q)
    · cases e
  · cases e
theorem op_isNQ (neg : Bool) : OpR X (compareOp (if neg then .IsNot else .Is)) (fun x y H Q => y = .non ∧ Q (.bl (if neg then !decide (x = .non) else decide (x = .non))) H) := by
  cases neg
  · exact op_isN
  · exact op_notN
theorem op_inN (neg : Bool) : OpR X (compareOp (if neg then .NotIn else .In)) (fun x y H Q => (∃ (c : Nat) (z : Str), x = .str ⟨#[c]⟩ ∧ y = .str z ∧ Q (.bl (if neg then !decide (c ∈ z.cps.toList) else decide (c ∈ z.cps.toList))) H) ∨ rIn X.K neg x y H Q) := by
  cases neg
  · exact op_inQ
  · exact op_ninQ
end

/-! ### the comparisons by name -/
section
variable {T : Type} {X : Cx} {W : WX} {R : Res T} {a b c : Expr} {F G J : Den T} {pos : Pos}
/-- a comparison: what its rule is, on data -/
structure CmpD (X : Cx) (op : CmpOp) (g : Dat → Dat → Option Dat) : Prop where
  ex : ∃ r, OpR X (compareOp op) r ∧ OpD X.K r g
theorem c_eq (hu : X.A.units + 64 < cLine) : CmpD X .Eq (eqD false) := ⟨_, op_eqQ hu, eqD_ok X.K⟩
theorem c_ne (hu : X.A.units + 64 < cLine) : CmpD X .NotEq (eqD true) := ⟨_, op_neQ hu, neD_ok X.K⟩
theorem c_lt : CmpD X .Lt (cmpD fun i j => decide (i < j)) := ⟨_, op_lt, cmpD_ok X.K _⟩
theorem c_le : CmpD X .LtE (cmpD fun i j => decide (i ≤ j)) := ⟨_, op_le, cmpD_ok X.K _⟩
theorem c_gt : CmpD X .Gt (cmpD fun i j => decide (j < i)) := ⟨_, op_gt, cmpD_ok X.K _⟩
theorem c_ge : CmpD X .GtE (cmpD fun i j => decide (j ≤ i)) := ⟨_, op_ge, cmpD_ok X.K _⟩
theorem c_is : CmpD X .Is (isND false) := ⟨_, op_isNQ false, isND_ok X.K false⟩
theorem c_isnot : CmpD X .IsNot (isND true) := ⟨_, op_isNQ true, isND_ok X.K true⟩
theorem c_in : CmpD X .In (isInD false) := ⟨_, op_inN false, isInD_ok X.K false⟩
theorem c_notin : CmpD X .NotIn (isInD true) := ⟨_, op_inN true, isInD_ok X.K true⟩
theorem dcmp {op : CmpOp} {g : Dat → Dat → Option Dat} (hg : CmpD X op g) (ha : PE X a (tD X.K W R F)) (hb : PE X b (tD X.K W R G)) (hm : behindInMarks op b = false := by rfl) : PE X (.Compare a [op] [b] pos) (tD X.K W R (op2 g F G)) := by
  obtain ⟨r, h1, h2⟩ := hg.ex
  exact d_cmp h1 h2 ha hb hm
theorem dtcmp {op : CmpOp} {g : Dat → Dat → Option Dat} (hg : CmpD X op g) (ha : PE X a (tD X.K W R F)) (hb : PE X b (tD X.K W R G)) (hm : behindInMarks op b = false := by rfl) : PT X (.Compare a [op] [b] pos) (tDT X.K W R (asB (op2 g F G))) := by
  obtain ⟨r, h1, h2⟩ := hg.ex
  exact dt_cmp h1 h2 ha hb hm
theorem d_add (ha : PE X a (tD X.K W R F)) (hb : PE X b (tD X.K W R G)) : PE X (.BinOp a .Add b pos) (tD X.K W R (op2 addD F G)) := d_op op_addD (addD_ok X.K) ha hb
theorem d_sub (ha : PE X a (tD X.K W R F)) (hb : PE X b (tD X.K W R G)) : PE X (.BinOp a .Sub b pos) (tD X.K W R (op2 subD F G)) := d_op op_sub (subD_ok X.K) ha hb
theorem d_mul (ha : PE X a (tD X.K W R F)) (hb : PE X b (tD X.K W R G)) : PE X (.BinOp a .Mult b pos) (tD X.K W R (op2 mulD F G)) := d_op op_mul (mulD_ok X.K) ha hb
theorem d_fdiv (ha : PE X a (tD X.K W R F)) (hb : PE X b (tD X.K W R G)) : PE X (.BinOp a .FloorDiv b pos) (tD X.K W R (op2 fdivD F G)) := d_op op_fdiv (fdivD_ok X.K) ha hb
theorem d_mod (ha : PE X a (tD X.K W R F)) (hb : PE X b (tD X.K W R G)) : PE X (.BinOp a .Mod b pos) (tD X.K W R (op2 modD F G)) := d_op op_mod (modD_ok X.K) ha hb
theorem d_pow (ha : PE X a (tD X.K W R F)) (hb : PE X b (tD X.K W R G)) : PE X (.BinOp a .Pow b pos) (tD X.K W R (op2 powD F G)) := d_op op_pow (powD_ok X.K) ha hb
/-- -a -/
def negD {T : Type} (F : Den T) : Den T := fun ρ t => (F ρ t).bind fun x t1 => match x with
  | .int i => .ok (.int (-i)) t1
  | _ => .no
theorem d_neg (ha : PE X a (tD X.K W R F)) : PE X (.UnaryOp .USub a pos) (tD X.K W R (negD F)) := (pe_un un_neg ha).imp fun σ H Q q => by
  obtain ⟨ρ, t, s, at_, p⟩ := q
  refine ⟨ρ, t, s, at_, Post.bind p fun x t1 v H1 _ k1 at1 r1 p1 => ?_⟩
  cases x with
  | int i =>
    simp only [Rp] at r1
    exact ⟨i, r1, p1.ok .refl at1 (by simp only [Rp])⟩
  | _ => exact p1.elim
/-- a < b < c -/
def chn {T : Type} (g g' : Dat → Dat → Option Dat) (F G J : Den T) : Den T := fun ρ t => (F ρ t).bind fun x t1 => (G ρ t1).bind fun y t2 => match g x y with
  | some (.bl true) => (J ρ t2).bind fun z t3 => match g' y z with
    | some (.bl b) => .ok (.bl b) t3
    | _ => .no
  | some (.bl false) => .ok (.bl false) t2
  | _ => .no
theorem t_chain {op op' : CmpOp} {g g' : Dat → Dat → Option Dat} {r r' : R2} (hg : OpD X.K r g) (hg' : OpD X.K r' g') {σ : L2.St} {H : Hp} {Q : VK} (q : tD X.K W R (chn g g' F G J) σ H Q) : tChain r r' (tD X.K W R F) (tD X.K W R G) (tD X.K W R J) σ H Q := by
  obtain ⟨ρ, t, s, at_, p⟩ := q
  refine ⟨ρ, t, s, at_, Post.bind p fun x t1 v H1 _ k1 at1 r1 p1 => ?_⟩
  refine ⟨ρ, t1, s.keep k1, at1, Post.bind p1 fun y t2 w H2 _ k2 at2 r2 p2 => ?_⟩
  have s2 := (s.keep k1).keep k2
  cases e : g x y with
  | none =>
    rw [e] at p2
    exact p2.elim
  | some z =>
    rw [e] at p2
    refine hg R.hd _ H2 x y z v w _ (s2.dom at2) e (Rp.mono (hide_keep (fun a z => .inl z) k2) _ _ r1) r2 fun u H3 e3 r3 => ?_
    have at3 := at_same (R := R) at2 e3
    have s3 := s2.keep (.of e3)
    cases z with
    | bl k =>
      simp only [Rp] at r3
      refine ⟨k, r3, ?_⟩
      cases k with
      | true =>
        refine iteT ?_
        refine ⟨ρ, t2, s3, at3, Post.bind (p2.keep (.of e3)) fun z t3 w' H4 _ k4 at4 r4 p4 => ?_⟩
        have s4 := s3.keep k4
        cases e' : g' y z with
        | none =>
          rw [e'] at p4
          exact p4.elim
        | some z' =>
          rw [e'] at p4
          refine hg' R.hd _ H4 y z z' w w' _ (s4.dom at4) e' (Rp.mono (hide_keep (fun a z => .inl z) ((KeepX.of e3).trans k4)) _ _ r2) r4 fun u' H5 e5 r5 => ?_
          cases z' with
          | bl b =>
            simp only [Rp] at r5
            subst r5
            exact p4.ok (.of e5) (at_same at4 e5) (by simp only [Rp])
          | _ => exact p4.elim
      | false =>
        refine iteF ?_
        exact p2.ok (.of e3) at3 (by simp only [Rp])
    | _ => exact p2.elim
theorem dchain {op op' : CmpOp} {g g' : Dat → Dat → Option Dat} (hg : CmpD X op g) (hg' : CmpD X op' g') (ha : PE X a (tD X.K W R F)) (hb : PE X b (tD X.K W R G)) (hc : PE X c (tD X.K W R J))
    (hm : lastMarks [op, op'] [b, c] = false := by with_unfolding_all rfl) : PE X (.Compare a [op, op'] [b, c] pos) (tD X.K W R (chn g g' F G J)) := by
  obtain ⟨r, h1, h2⟩ := hg.ex
  obtain ⟨r', h3, h4⟩ := hg'.ex
  exact (pe_chain h1 h3 ha hb hc hm).imp fun σ H Q q => t_chain (op := op) (op' := op') h2 h4 q
end
end DL
end
section
set_option Elab.async false
set_option linter.all false
set_option maxRecDepth 100000
set_option maxHeartbeats 4000000
namespace DL
open PySem PySem.Spec PyProof.Rows L2

/-! ### truth, and, or, not, a if t else b -/
abbrev DenB (T : Type) := En → T → Out Bool T
def truthD : Dat → Option Bool
  | .non => some false
  | .bl b => some b
  | .int i => some (i != 0)
  | .str x => if x.length ≤ line then some (!x.isEmpty) else none
  | .tup ds => some (!ds.isEmpty)
  | .lst ds => some (!ds.isEmpty)
  | .rol ds => some (!ds.isEmpty)
  | _ => none
def truD {T : Type} (F : Den T) : DenB T := fun ρ t => (F ρ t).bind fun x t1 => .lift (truthD x) t1
def andV {T : Type} (F G : Den T) : Den T := fun ρ t => (F ρ t).bind fun x t1 => match x with
  | .bl true => G ρ t1
  | .bl false => .ok (.bl false) t1
  | _ => .no
def orV {T : Type} (F G : Den T) : Den T := fun ρ t => (F ρ t).bind fun x t1 => match x with
  | .bl true => .ok (.bl true) t1
  | .bl false => G ρ t1
  | _ => .no
def notV {T : Type} (F : Den T) : Den T := fun ρ t => (F ρ t).bind fun x t1 => match x with
  | .bl b => .ok (.bl (!b)) t1
  | _ => .no
def andT {T : Type} (F G : DenB T) : DenB T := fun ρ t => (F ρ t).bind fun b t1 => match b with
  | true => G ρ t1
  | false => .ok false t1
def orT {T : Type} (F G : DenB T) : DenB T := fun ρ t => (F ρ t).bind fun b t1 => match b with
  | true => .ok true t1
  | false => G ρ t1
def notT {T : Type} (F : DenB T) : DenB T := fun ρ t => (F ρ t).bind fun b t1 => .ok (!b) t1
def ifV {T : Type} (C : DenB T) (F G : Den T) : Den T := fun ρ t => (C ρ t).bind fun b t1 => match b with
  | true => F ρ t1
  | false => G ρ t1

theorem isEmpty_rp {K : PySem.W.Frag} {h : Option Addr} {H : Hp} {ds : List Dat} {vs : List V} (r : RpL K h H ds vs) : vs.isEmpty = ds.isEmpty := by
  have e := r.len
  cases ds <;> cases vs <;> simp_all
theorem len_bne (x : List Nat) : (((x.length : Nat) : Int) != 0) = !x.isEmpty := by
  cases x with
  | nil => rfl
  | cons c r =>
    simp only [List.isEmpty_cons, Bool.not_false, bne_iff_ne, ne_eq, List.length_cons]
    omega
theorem truthD_ok {K : PySem.W.Frag} {h : Option Addr} {H : Hp} {G : Addr → Prop} {d : Dat} {v : V} {b : Bool} (e : truthD d = some b) (r : Rp K h (hide G H) d v) : TruV K v H b := by
  cases d <;> simp only [truthD, Option.some.injEq, reduceCtorEq] at e <;> simp only [Rp] at r
  case non =>
    subst r e
    exact rfl
  case bl =>
    subst r e
    exact rfl
  case int =>
    subst r e
    exact rfl
  case str x =>
    split at e
    · rename_i hz
      cases e
      subst r
      refine ⟨by rw [sstr_len, line_eq]; exact hz, ?_⟩
      rw [sstr_len, len_bne]
    · cases e
  case tup =>
    obtain ⟨a, xs, rfl, s, l⟩ := r
    subst e
    exact .inr (.inl ⟨xs, same_sqT hide_sub s, by rw [isEmpty_rp l]⟩)
  case lst =>
    obtain ⟨a, xs, rfl, s, l⟩ := r
    subst e
    exact .inl ⟨xs, .of (hide_sub _ _ s), by rw [isEmpty_rp l]⟩
  case rol =>
    obtain ⟨a, xs, rfl, s, l⟩ := r
    subst e
    exact .inl ⟨xs, Same.seq hide_sub s, by rw [isEmpty_rp l]⟩
section
variable {T : Type} {X : Cx} {W : WX} {R : Res T} {a b c : Expr} {rest : List Expr} {F G : Den T} {A B C : DenB T} {pos : Pos}
theorem dt_truth (ha : PE X a (tD X.K W R F)) (he : ∀ whole, isTrue a X.env whole = (do let v ← whole; standAt a.pos; holding [v] (truthy v)) := by intro _; rfl) : PT X a (tDT X.K W R (truD F)) := (pt_truth ha he).imp fun σ H Q q => by
  obtain ⟨ρ, t, s, at_, p⟩ := q
  refine ⟨ρ, t, s, at_, Post.bind p fun x t1 v H1 _ k1 at1 r1 p1 => ?_⟩
  cases e : truthD x with
  | none =>
    rw [e] at p1
    exact p1.elim
  | some b =>
    rw [e] at p1
    exact ⟨b, truthD_ok e r1, p1.ok .refl at1 rfl⟩
theorem d_one {op} (h : PE X a (tD X.K W R F)) : PE X (.BoolOp op [a] pos) (tD X.K W R F) := pe_one h
theorem d_and (ha : PE X a (tD X.K W R F)) (hb : PE X (.BoolOp .And (b :: rest) pos) (tD X.K W R G)) : PE X (.BoolOp .And (a :: b :: rest) pos) (tD X.K W R (andV F G)) := (pe_and ha hb).imp fun σ H Q q => by
  obtain ⟨ρ, t, s, at_, p⟩ := q
  refine ⟨ρ, t, s, at_, Post.bind p fun x t1 v H1 _ k1 at1 r1 p1 => ?_⟩
  cases x with
  | bl k =>
    simp only [Rp] at r1
    refine ⟨k, r1, ?_⟩
    cases k with
    | true => exact iteT ⟨ρ, t1, s.keep k1, at1, p1⟩
    | false => exact iteF (p1.ok .refl at1 (by simp only [Rp]))
  | _ => exact p1.elim
theorem d_or (ha : PE X a (tD X.K W R F)) (hb : PE X (.BoolOp .Or (b :: rest) pos) (tD X.K W R G)) : PE X (.BoolOp .Or (a :: b :: rest) pos) (tD X.K W R (orV F G)) := (pe_or ha hb).imp fun σ H Q q => by
  obtain ⟨ρ, t, s, at_, p⟩ := q
  refine ⟨ρ, t, s, at_, Post.bind p fun x t1 v H1 _ k1 at1 r1 p1 => ?_⟩
  cases x with
  | bl k =>
    simp only [Rp] at r1
    refine ⟨k, r1, ?_⟩
    cases k with
    | true => exact iteT (p1.ok .refl at1 (by simp only [Rp]))
    | false => exact iteF ⟨ρ, t1, s.keep k1, at1, p1⟩
  | _ => exact p1.elim
theorem d_not (ha : PE X a (tD X.K W R F)) : PE X (.UnaryOp .Not a pos) (tD X.K W R (notV F)) := (pe_not ha).imp fun σ H Q q => by
  obtain ⟨ρ, t, s, at_, p⟩ := q
  refine ⟨ρ, t, s, at_, Post.bind p fun x t1 v H1 _ k1 at1 r1 p1 => ?_⟩
  cases x with
  | bl k =>
    simp only [Rp] at r1
    exact ⟨k, r1, p1.ok .refl at1 (by simp only [Rp])⟩
  | _ => exact p1.elim
theorem dw_and1 (ha : PT X a (tDT X.K W R A)) : PW X (.BoolOp .And [a] pos) (tDT X.K W R A) := pw_and1 ha
theorem dw_or1 (ha : PT X a (tDT X.K W R A)) : PW X (.BoolOp .Or [a] pos) (tDT X.K W R A) := pw_or1 ha
theorem dw_and (ha : PT X a (tDT X.K W R A)) (hb : PW X (.BoolOp .And (b :: rest) pos) (tDT X.K W R B)) : PW X (.BoolOp .And (a :: b :: rest) pos) (tDT X.K W R (andT A B)) := (pw_and ha hb).imp fun σ H Q q => by
  obtain ⟨ρ, t, s, at_, p⟩ := q
  refine ⟨ρ, t, s, at_, Post.bind p fun x t1 v H1 _ k1 at1 r1 p1 => ?_⟩
  cases r1
  cases x with
  | true => exact iteT ⟨ρ, t1, s.keep k1, at1, p1⟩
  | false => exact iteF (p1.ok .refl at1 rfl)
theorem dw_or (ha : PT X a (tDT X.K W R A)) (hb : PW X (.BoolOp .Or (b :: rest) pos) (tDT X.K W R B)) : PW X (.BoolOp .Or (a :: b :: rest) pos) (tDT X.K W R (orT A B)) := (pw_or ha hb).imp fun σ H Q q => by
  obtain ⟨ρ, t, s, at_, p⟩ := q
  refine ⟨ρ, t, s, at_, Post.bind p fun x t1 v H1 _ k1 at1 r1 p1 => ?_⟩
  cases r1
  cases x with
  | true => exact iteT (p1.ok .refl at1 rfl)
  | false => exact iteF ⟨ρ, t1, s.keep k1, at1, p1⟩
theorem dt_not (ha : PT X a (tDT X.K W R A)) : PT X (.UnaryOp .Not a pos) (tDT X.K W R (notT A)) := (pt_not ha).imp fun σ H Q q => by
  obtain ⟨ρ, t, s, at_, p⟩ := q
  refine ⟨ρ, t, s, at_, Post.bind p fun x t1 v H1 _ k1 at1 r1 p1 => ?_⟩
  cases r1
  exact p1.ok .refl at1 rfl
theorem d_if (hc : PT X c (tDT X.K W R C)) (ha : PE X a (tD X.K W R F)) (hb : PE X b (tD X.K W R G)) : PE X (.IfExp c a b pos) (tD X.K W R (ifV C F G)) := (pe_ifExp hc ha hb).imp fun σ H Q q => by
  obtain ⟨ρ, t, s, at_, p⟩ := q
  refine ⟨ρ, t, s, at_, Post.bind p fun x t1 v H1 _ k1 at1 r1 p1 => ?_⟩
  cases r1
  cases x with
  | true => exact iteT ⟨ρ, t1, s.keep k1, at1, p1⟩
  | false => exact iteF ⟨ρ, t1, s.keep k1, at1, p1⟩
end

/-! ### displays, subscripts, slices -/
def mkTup {T : Type} (A : En → T → Out (List Dat) T) : Den T := fun ρ t => (A ρ t).bind fun ds t1 => if ds.length ≤ line then .ok (.tup ds) t1 else .no
def mkLst {T : Type} (A : En → T → Out (List Dat) T) : Den T := fun ρ t => (A ρ t).bind fun ds t1 => if ds.length ≤ line then .ok (.lst ds) t1 else .no
theorem fresh_not {G : Addr → Prop} {H : Hp} {p : Addr} (hG : ∀ a, G a → ∃ o, H a = some o) (n : H p = none) : ¬ G p := fun g => by
  obtain ⟨o, e⟩ := hG p g
  rw [n] at e
  cases e
theorem rp_newL {K : PySem.W.Frag} {h : Option Addr} {G : Addr → Prop} {H : Hp} {p : Addr} {ds : List Dat} {vs : List V} (hG : ∀ a, G a → ∃ o, H a = some o) (n : H p = none) (r : RpL K h (hide G H) ds vs) : Rp K h (hide G (upd H p (.lst vs))) (.lst ds) (.ref p) := by
  simp only [Rp]
  exact ⟨p, vs, rfl, hide_some.mpr ⟨fresh_not hG n, upd_same⟩, RpL.mono (hide_same (same_new n)) _ _ r⟩
theorem rp_newT {K : PySem.W.Frag} {h : Option Addr} {G : Addr → Prop} {H : Hp} {p : Addr} {ds : List Dat} {vs : List V} (hG : ∀ a, G a → ∃ o, H a = some o) (n : H p = none) (r : RpL K h (hide G H) ds vs) : Rp K h (hide G (upd H p (.tup vs))) (.tup ds) (.ref p) := by
  simp only [Rp]
  exact ⟨p, vs, rfl, .of (hide_some.mpr ⟨fresh_not hG n, upd_same⟩), RpL.mono (hide_same (same_new n)) _ _ r⟩
def ixD : Dat → Dat → Option Dat
  | .lst ds, .int i => atI ds i
  | .tup ds, .int i => atI ds i
  | .rol ds, .int i => atI ds i
  | .str x, .int i => if x.length ≤ line then (atI x i).map fun c => .str [c] else none
  | _, _ => none
theorem atI_rp {K : PySem.W.Frag} {h : Option Addr} {H : Hp} {ds : List Dat} {vs : List V} {i : Int} {d : Dat} (r : RpL K h H ds vs) (e : atI ds i = some d) : ∃ v, atI vs i = some v ∧ Rp K h H d v := by
  unfold atI at e ⊢
  rw [r.len]
  cases e1 : ixN ds.length i with
  | none =>
    rw [e1] at e
    cases e
  | some j =>
    rw [e1] at e
    simp only [Option.bind_some] at e ⊢
    exact r.at_ e
theorem ixD_ok (K : PySem.W.Frag) : OpD K (rIx K) ixD := by
  intro h G H x y z v w Q hG e rx ry q
  cases y with
  | int i =>
    simp only [Rp] at ry
    subst ry
    cases x with
    | lst ds =>
      simp only [Rp] at rx
      obtain ⟨a, xs, rfl, s, l⟩ := rx
      obtain ⟨u, e1, r1⟩ := atI_rp l e
      exact .inl ⟨a, xs, i, u, rfl, rfl, .of (hide_sub _ _ s), e1, q _ H (Same.refl H) r1⟩
    | rol ds =>
      simp only [Rp] at rx
      obtain ⟨a, xs, rfl, s, l⟩ := rx
      obtain ⟨u, e1, r1⟩ := atI_rp l e
      exact .inl ⟨a, xs, i, u, rfl, rfl, Same.seq hide_sub s, e1, q _ H (Same.refl H) r1⟩
    | tup ds =>
      simp only [Rp] at rx
      obtain ⟨a, xs, rfl, s, l⟩ := rx
      obtain ⟨u, e1, r1⟩ := atI_rp l e
      exact .inr (.inl ⟨a, xs, i, u, rfl, rfl, same_sqT hide_sub s, e1, q _ H (Same.refl H) r1⟩)
    | str l =>
      simp only [Rp] at rx
      subst rx
      simp only [ixD] at e
      split at e
      · rename_i hz
        cases e1 : atI l i with
        | none =>
          rw [e1] at e
          cases e
        | some c =>
          rw [e1] at e
          cases e
          exact .inr (.inr ⟨_, i, c, rfl, rfl, by rw [sstr_len, line_eq]; exact hz, e1, q _ H (Same.refl H) (by simp only [Rp])⟩)
      · cases e
    | _ => cases e
  | _ => cases x <;> cases e
/-- x[lo:hi] -/
def cutL {α : Type} (xs : List α) (lo hi : Option Int) : List α := (xs.drop (HT.sIx xs.length 0 lo)).take (HT.sIx xs.length xs.length hi - HT.sIx xs.length 0 lo)
def slD : Dat → Option Int → Option Int → Option Dat
  | .lst ds, lo, hi => some (.lst (cutL ds lo hi))
  | .tup ds, lo, hi => some (.tup (cutL ds lo hi))
  | .str x, lo, hi => if x.length ≤ line then some (.str (cutL x lo hi)) else none
  | _, _, _ => none
def sl3 {T : Type} (F : Den T) (L U : En → T → Out (Option Int) T) : Den T := fun ρ t => (F ρ t).bind fun x t1 => (L ρ t1).bind fun l t2 => (U ρ t2).bind fun u t3 => .lift (slD x l u) t3
def prt {T : Type} (F : Den T) : En → T → Out (Option Int) T := fun ρ t => (F ρ t).bind fun x t1 => match x with
  | .int i => .ok (some i) t1
  | _ => .no
theorem rp_cut {K : PySem.W.Frag} {h : Option Addr} {H : Hp} {ds : List Dat} {vs : List V} (lo hi : Option Int) (r : RpL K h H ds vs) : RpL K h H (cutL ds lo hi) (cutV vs lo hi) := by
  unfold cutL cutV
  rw [r.len]
  exact (r.drop _).take _
theorem slice_opt : ∀ (l : List Nat) (a n : Nat), a + n ≤ l.length → True := fun _ _ _ _ => trivial
section
variable {T : Type} {X : Cx} {W : WX} {R : Res T} {a b c : Expr} {es : List Expr} {F G : Den T} {A : En → T → Out (List Dat) T} {L U : En → T → Out (Option Int) T} {lo hi : Option Expr} {pos p2 : Pos}
theorem d_tup {x1} (h : PA X es (tDA X.K W R A)) : PE X (.Tuple es x1 pos) (tD X.K W R (mkTup A)) := (pe_tup h).imp fun σ H Q q => by
  obtain ⟨ρ, t, s, at_, p⟩ := q
  refine ⟨ρ, t, s, at_, Post.bind p fun x t1 v H1 _ k1 at1 r1 p1 => ?_⟩
  have s1 := s.keep k1
  split at p1
  · rename_i hz
    refine ⟨by rw [RpL.len r1, line_eq]; exact hz, fun c nc => ?_⟩
    exact p1.ok (.of (same_new nc)) (at_same at1 (same_new nc)) (rp_newT (s1.dom at1) nc r1)
  · exact p1.elim
theorem d_lst (h : PA X es (tDA X.K W R A)) : PE X (.List es pos) (tD X.K W R (mkLst A)) := (pe_lst h).imp fun σ H Q q => by
  obtain ⟨ρ, t, s, at_, p⟩ := q
  refine ⟨ρ, t, s, at_, Post.bind p fun x t1 v H1 _ k1 at1 r1 p1 => ?_⟩
  have s1 := s.keep k1
  split at p1
  · rename_i hz
    refine ⟨by rw [RpL.len r1, line_eq]; exact hz, fun c nc => ?_⟩
    exact p1.ok (.of (same_new nc)) (at_same at1 (same_new nc)) (rp_newL (s1.dom at1) nc r1)
  · exact p1.elim
theorem d_ix (ha : PE X a (tD X.K W R F)) (hb : PE X b (tD X.K W R G)) (hs : PlainIx b := by exact fun _ _ => rfl) : PE X (.Subscript a b pos) (tD X.K W R (op2 ixD F G)) := (pe_ix ix_seq ha hb hs).imp fun σ H Q q => t_op (ixD_ok X.K) q
theorem do_none : PO X none (tDO X.K W R (cst none)) := ⟨fun pins s σ H Q I q => po_none.run pins s σ H Q I (by
  obtain ⟨ρ, t, s, at_, p⟩ := q
  exact p.ok .refl at_ rfl)⟩
theorem do_some (h : PE X a (tD X.K W R F)) : PO X (some a) (tDO X.K W R (prt F)) := ⟨fun pins s σ H Q I q => (po_some h).run pins s σ H Q I (by
  obtain ⟨ρ, t, s, at_, p⟩ := q
  refine ⟨ρ, t, s, at_, Post.bind p fun x t1 v H1 _ k1 at1 r1 p1 => ?_⟩
  cases x with
  | int i =>
    simp only [Rp] at r1
    exact ⟨i, r1, p1.ok .refl at1 rfl⟩
  | _ => exact p1.elim)⟩
theorem SlR.or' {r r' : V → Option Int → Option Int → Hp → VK → Prop} (h : SlR X r) (h' : SlR X r') : SlR X (fun x lo hi H Q => r x lo hi H Q ∨ r' x lo hi H Q) := h.or h'
theorem cutS_eq (x : List Nat) (lo hi : Option Int) : cutS ⟨x.toArray⟩ lo hi = ⟨(cutL x lo hi).toArray⟩ := by
  unfold cutS cutL
  simp [Str.length]
theorem d_slice (he : PE X a (tD X.K W R F)) (hl : PO X lo (tDO X.K W R L)) (hu : PO X hi (tDO X.K W R U)) : PE X (.Subscript a (.Slice lo hi none p2) pos) (tD X.K W R (sl3 F L U)) :=
  (pe_slice (sl_list.or (sl_tupA.or sl_str)) he hl hu).imp fun σ H Q q => by
  obtain ⟨ρ, t, s, at_, p⟩ := q
  refine ⟨ρ, t, s, at_, Post.bind p fun x t1 v H1 _ k1 at1 r1 p1 => ?_⟩
  refine ⟨ρ, t1, s.keep k1, at1, Post.bind p1 fun l t2 l' H2 _ k2 at2 r2 p2 => ?_⟩
  refine ⟨ρ, t2, (s.keep k1).keep k2, at2, Post.bind p2 fun u t3 u' H3 _ k3 at3 r3 p3 => ?_⟩
  cases r2
  cases r3
  have s3 := ((s.keep k1).keep k2).keep k3
  have rx := Rp.mono (hide_keep (fun a z => .inl z) (k2.trans k3)) _ _ r1
  have dm := s3.dom at3
  cases x with
  | lst ds =>
    simp only [Rp] at rx
    obtain ⟨a, xs, rfl, e, l1⟩ := rx
    exact .inl ⟨a, xs, rfl, .of (hide_sub _ _ e), fun c nc => p3.ok (.of (same_new nc)) (at_same at3 (same_new nc)) (rp_newL dm nc (rp_cut l u l1))⟩
  | tup ds =>
    simp only [Rp] at rx
    obtain ⟨a, xs, rfl, e, l1⟩ := rx
    refine .inr (.inl ⟨a, xs, rfl, same_sqT hide_sub e, fun hw => ?_, fun _ c nc => p3.ok (.of (same_new nc)) (at_same at3 (same_new nc)) (rp_newT dm nc (rp_cut l u l1))⟩)
    refine p3.ok .refl at3 ?_
    have e1 : cutL ds l u = ds := by
      unfold cutL
      rw [← l1.len, hw.1, hw.2, List.drop_zero, Nat.sub_zero, List.take_of_length_le (Nat.le_of_eq l1.len.symm)]
    rw [e1]
    simp only [Rp]
    exact ⟨a, xs, rfl, e, l1⟩
  | str z =>
    simp only [Rp] at rx
    subst rx
    simp only [slD] at p3
    split at p3
    · rename_i hz
      refine .inr (.inr ⟨_, rfl, by rw [sstr_len, line_eq]; exact hz, ?_⟩)
      rw [cutS_eq]
      exact p3.ok .refl at3 (by simp only [Rp])
    · exact p3.elim
  | _ => exact p3.elim
end
end DL
end
section
set_option Elab.async false
set_option linter.all false
set_option maxRecDepth 100000
set_option maxHeartbeats 4000000
namespace DL
open PySem PySem.Spec PyProof.Rows L2

/-! ### built-ins -/
def CallD (K : PySem.W.Frag) (r : List V → Hp → VK → Prop) (g : List Dat → Option Dat) : Prop := ∀ (h : Option Addr) (G : Addr → Prop) (H : Hp) (ds : List Dat) (z : Dat) (vs : List V) (Q : VK), (∀ a, G a → ∃ o, H a = some o) → g ds = some z →
  RpL K h (hide G H) ds vs → (∀ u H', Same H H' → Rp K h (hide G H') z u → Q u H') → r vs H Q
def callD {T : Type} (g : List Dat → Option Dat) (A : En → T → Out (List Dat) T) : Den T := fun ρ t => (A ρ t).bind fun ds t1 => .lift (g ds) t1
theorem uncons1 {K : PySem.W.Frag} {h : Option Addr} {H : Hp} {d : Dat} {vs : List V} (r : RpL K h H [d] vs) : ∃ v, vs = [v] ∧ Rp K h H d v := by
  obtain ⟨v, u, rfl, e1, e2⟩ := r.uncons
  simp only [RpL] at e2
  subst e2
  exact ⟨v, rfl, e1⟩
theorem uncons2 {K : PySem.W.Frag} {h : Option Addr} {H : Hp} {d e : Dat} {vs : List V} (r : RpL K h H [d, e] vs) : ∃ v w, vs = [v, w] ∧ Rp K h H d v ∧ Rp K h H e w := by
  obtain ⟨v, u, rfl, e1, e2⟩ := r.uncons
  obtain ⟨w, rfl, e3⟩ := uncons1 e2
  exact ⟨v, w, rfl, e1, e3⟩
section
variable {T : Type} {X : Cx} {W : WX} {R : Res T} {e : Expr} {es : List Expr} {F G : Den T} {A : En → T → Out (List Dat) T} {pos p : Pos} {x : Str} {id : String}
theorem t_call {r : List V → Hp → VK → Prop} {g : List Dat → Option Dat} (hg : CallD X.K r g) {σ : L2.St} {H : Hp} {Q : VK} (q : tD X.K W R (callD g A) σ H Q) : tCB r (tDA X.K W R A) σ H Q := by
  obtain ⟨ρ, t, s, at_, p⟩ := q
  refine ⟨ρ, t, s, at_, Post.bind p fun ds t1 vs H1 _ k1 at1 r1 p1 => ?_⟩
  cases e : g ds with
  | none =>
    rw [e] at p1
    exact p1.elim
  | some z =>
    rw [e] at p1
    exact hg R.hd _ H1 ds z vs Q ((s.keep k1).dom at1) e r1 fun u H2 e2 r2 => p1.ok (.of e2) (at_same at1 e2) r2
theorem d_callB {r : List V → Hp → VK → Prop} {g : List Dat → Option Dat} (hc : CallR X (.builtin id) r) (hg : CallD X.K r g) (gl : Gl X x) (hm : X.mg x = none) (hv : bootBuiltins x = some (.builtin id)) (ha : PA X (e :: es) (tDA X.K W R A)) (hn : x ≠ "__name__" := by decide) (hdb : (x == ("__debug__" : Str)) = false := by decide)
    (he : starEach (e :: es) X.env = (false, eval e X.env) :: starEach es X.env := by rfl) (hpl : (backTo pos (starEach es X.env)).any (·.1) = false := by rfl) : PE X (.Call (.Name x p) (e :: es) [] pos) (tD X.K W R (callD g A)) :=
  (pe_callB hc gl hm hv ha hn hdb he hpl).imp fun σ H Q q => t_call hg q
theorem d_callT {r : List V → Hp → VK → Prop} {g : List Dat → Option Dat} (hc : CallR X (.type id) r) (hg : CallD X.K r g) (gl : Gl X x) (hm : X.mg x = none) (hv : bootBuiltins x = some (.type id)) (ha : PA X (e :: es) (tDA X.K W R A)) (hn : x ≠ "__name__" := by decide) (hdb : (x == ("__debug__" : Str)) = false := by decide)
    (he : starEach (e :: es) X.env = (false, eval e X.env) :: starEach es X.env := by rfl) (hpl : (backTo pos (starEach es X.env)).any (·.1) = false := by rfl) : PE X (.Call (.Name x p) (e :: es) [] pos) (tD X.K W R (callD g A)) :=
  (pe_callTy hc gl hm hv ha hn hdb he hpl).imp fun σ H Q q => t_call hg q
end
/-- len -/
def lenD : List Dat → Option Dat
  | [.str x] => if x.length ≤ line then some (.int x.length) else none
  | [.lst ds] => some (.int ds.length)
  | [.rol ds] => some (.int ds.length)
  | [.tup ds] => some (.int ds.length)
  | _ => none
abbrev rLen (K : PySem.W.Frag) : List V → Hp → VK → Prop := fun xs H Q => ∃ x n, xs = [x] ∧ LenV K x H n ∧ Q (.int n) H
theorem lenD_ok (K : PySem.W.Frag) : CallD K (rLen K) lenD := by
  intro h G H ds z vs Q hG e r q
  unfold lenD at e
  split at e
  · rename_i x
    split at e
    · rename_i hz
      cases e
      obtain ⟨v, rfl, r1⟩ := uncons1 r
      simp only [Rp] at r1
      subst r1
      exact ⟨_, x.length, rfl, ⟨by rw [sstr_len, line_eq]; exact hz, (sstr_len x).symm⟩, q _ H (Same.refl H) (by simp only [Rp])⟩
    · cases e
  · cases e
    obtain ⟨v, rfl, r1⟩ := uncons1 r
    simp only [Rp] at r1
    obtain ⟨a, xs, rfl, s, l⟩ := r1
    exact ⟨_, _, rfl, .inl ⟨xs, .of (hide_sub _ _ s), rfl⟩, q _ H (Same.refl H) (by simp only [Rp, l.len])⟩
  · cases e
    obtain ⟨v, rfl, r1⟩ := uncons1 r
    simp only [Rp] at r1
    obtain ⟨a, xs, rfl, s, l⟩ := r1
    exact ⟨_, _, rfl, .inl ⟨xs, Same.seq hide_sub s, rfl⟩, q _ H (Same.refl H) (by simp only [Rp, l.len])⟩
  · cases e
    obtain ⟨v, rfl, r1⟩ := uncons1 r
    simp only [Rp] at r1
    obtain ⟨a, xs, rfl, s, l⟩ := r1
    exact ⟨_, _, rfl, .inr ⟨xs, same_sqT hide_sub s, rfl⟩, q _ H (Same.refl H) (by simp only [Rp, l.len])⟩
  · cases e
/-- abs -/
def absD : List Dat → Option Dat
  | [.int i] => some (.int (if i < 0 then -i else i))
  | _ => none
theorem absD_ok (K : PySem.W.Frag) : CallD K (fun xs H Q => ∃ i, xs = [.int i] ∧ Q (.int (if i < 0 then -i else i)) H) absD := by
  intro h G H ds z vs Q hG e r q
  unfold absD at e
  split at e
  · cases e
    obtain ⟨v, rfl, r1⟩ := uncons1 r
    simp only [Rp] at r1
    subst r1
    exact ⟨_, rfl, q _ H (Same.refl H) (by simp only [Rp])⟩
  · cases e
/-- min, max of two -/
def minD : List Dat → Option Dat
  | [.int i, .int j] => some (.int (if j < i then j else i))
  | _ => none
theorem minD_ok (K : PySem.W.Frag) : CallD K (fun xs H Q => ∃ i j, xs = [.int i, .int j] ∧ Q (.int (if j < i then j else i)) H) minD := by
  intro h G H ds z vs Q hG e r q
  unfold minD at e
  split at e
  · cases e
    obtain ⟨v, w, rfl, r1, r2⟩ := uncons2 r
    simp only [Rp] at r1 r2
    subst r1 r2
    exact ⟨_, _, rfl, q _ H (Same.refl H) (by simp only [Rp])⟩
  · cases e
def maxD : List Dat → Option Dat
  | [.int i, .int j] => some (.int (if j > i then j else i))
  | _ => none
theorem maxD_ok (K : PySem.W.Frag) : CallD K (fun xs H Q => ∃ i j, xs = [.int i, .int j] ∧ Q (.int (if j > i then j else i)) H) maxD := by
  intro h G H ds z vs Q hG e r q
  unfold maxD at e
  split at e
  · cases e
    obtain ⟨v, w, rfl, r1, r2⟩ := uncons2 r
    simp only [Rp] at r1 r2
    subst r1 r2
    exact ⟨_, _, rfl, q _ H (Same.refl H) (by simp only [Rp])⟩
  · cases e
/-- int -/
def isFig (c : Nat) : Bool := decide (48 ≤ c) && decide (c ≤ 57)
def intD : List Dat → Option Dat
  | [.int i] => some (.int i)
  | [.bl b] => some (.int (if b then 1 else 0))
  | [.str x] => if x.all isFig = true ∧ x ≠ [] ∧ x.length ≤ 640 then some (.int ((NumText.digitsVal x : Nat) : Int)) else none
  | _ => none
abbrev rInt : List V → Hp → VK → Prop := fun xs H Q => ((∃ i, xs = [.int i] ∧ Q (.int i) H) ∨ ∃ k, xs = [.bl k] ∧ Q (.int (if k then 1 else 0)) H) ∨ ∃ a n, xs = [.str a] ∧ PySem.intText? a = some n ∧ a.length ≤ 640 ∧ Q (.int n) H
theorem call_intQ {X : Cx} : CallR X (.type "int") rInt := call_int1.or call_int_str
theorem intD_ok' (K : PySem.W.Frag) : CallD K rInt intD := by
  intro h G H ds z vs Q hG e r q
  unfold intD at e
  split at e
  · cases e
    obtain ⟨v, rfl, r1⟩ := uncons1 r
    simp only [Rp] at r1
    subst r1
    exact .inl (.inl ⟨_, rfl, q _ H (Same.refl H) (by simp only [Rp])⟩)
  · cases e
    obtain ⟨v, rfl, r1⟩ := uncons1 r
    simp only [Rp] at r1
    subst r1
    exact .inl (.inr ⟨_, rfl, q _ H (Same.refl H) (by simp only [Rp])⟩)
  · rename_i x
    split at e
    · rename_i c
      cases e
      obtain ⟨v, rfl, r1⟩ := uncons1 r
      simp only [Rp] at r1
      subst r1
      exact .inr ⟨_, _, rfl, SX.int_S c.1 c.2.1 (Nat.le_trans c.2.2 (by decide)), by rw [sstr_len]; exact c.2.2, q _ H (Same.refl H) (by simp only [Rp])⟩
    · cases e
  · cases e
/-- str -/
def strD : List Dat → Option Dat
  | [.int i] => if 0 ≤ i ∧ i.natAbs.log2 < 1920 then some (.str (TL.numL i.toNat)) else none
  | [.str x] => some (.str x)
  | _ => none
abbrev rStr : List V → Hp → VK → Prop := fun xs H Q => (∃ i, xs = [.int i] ∧ i.natAbs.log2 < 1920 ∧ Q (.str (toString i)) H) ∨ ∃ a, xs = [.str a] ∧ Q (.str a) H
theorem call_strQ {X : Cx} : CallR X (.type "str") rStr := call_str_int.or SkE.call_str_str
theorem strD_ok (K : PySem.W.Frag) : CallD K rStr strD := by
  intro h G H ds z vs Q hG e r q
  unfold strD at e
  split at e
  · rename_i i
    split at e
    · rename_i c
      cases e
      obtain ⟨v, rfl, r1⟩ := uncons1 r
      simp only [Rp] at r1
      subst r1
      refine .inl ⟨_, rfl, c.2, q _ H (Same.refl H) ?_⟩
      simp only [Rp]
      have e1 : ((i.toNat : Nat) : Int) = i := by omega
      have e2 := SX.num_S i.toNat
      rw [e1] at e2
      exact congrArg V.str e2
    · cases e
  · cases e
    obtain ⟨v, rfl, r1⟩ := uncons1 r
    simp only [Rp] at r1
    subst r1
    exact .inr ⟨_, rfl, q _ H (Same.refl H) (by simp only [Rp])⟩
  · cases e
/-- tuple, list -/
def tupleD : List Dat → Option Dat
  | [.lst ds] => some (.tup ds)
  | [.tup ds] => some (.tup ds)
  | _ => none
abbrev rTuple (K : PySem.W.Frag) : List V → Hp → VK → Prop := fun xs H Q => ∃ p ys, xs = [.ref p] ∧ ((SqL K H p ys ∧ ∀ l, H l = none → Q (.ref l) (upd H l (.tup ys))) ∨ (SqT K H p ys ∧ Q (.ref p) H))
theorem tupleD_ok (K : PySem.W.Frag) : CallD K (rTuple K) tupleD := by
  intro h G H ds z vs Q hG e r q
  unfold tupleD at e
  split at e
  · cases e
    obtain ⟨v, rfl, r1⟩ := uncons1 r
    simp only [Rp] at r1
    obtain ⟨a, xs, rfl, s, l⟩ := r1
    exact ⟨a, xs, rfl, .inl ⟨.of (hide_sub _ _ s), fun c nc => q _ _ (same_new nc) (rp_newT hG nc l)⟩⟩
  · cases e
    obtain ⟨v, rfl, r1⟩ := uncons1 r
    have r2 := r1
    simp only [Rp] at r1
    obtain ⟨a, xs, rfl, s, l⟩ := r1
    exact ⟨a, xs, rfl, .inr ⟨same_sqT hide_sub s, q _ H (Same.refl H) r2⟩⟩
  · cases e
def listD : List Dat → Option Dat
  | [.lst ds] => some (.lst ds)
  | [.tup ds] => some (.lst ds)
  | _ => none
abbrev rList (K : PySem.W.Frag) : List V → Hp → VK → Prop := fun xs H Q => ∃ p ys, xs = [.ref p] ∧ (SqL K H p ys ∨ SqT K H p ys) ∧ ∀ l, H l = none → Q (.ref l) (upd H l (.lst ys))
theorem listD_ok (K : PySem.W.Frag) : CallD K (rList K) listD := by
  intro h G H ds z vs Q hG e r q
  unfold listD at e
  split at e
  · cases e
    obtain ⟨v, rfl, r1⟩ := uncons1 r
    simp only [Rp] at r1
    obtain ⟨a, xs, rfl, s, l⟩ := r1
    exact ⟨a, xs, rfl, .inl (.of (hide_sub _ _ s)), fun c nc => q _ _ (same_new nc) (rp_newL hG nc l)⟩
  · cases e
    obtain ⟨v, rfl, r1⟩ := uncons1 r
    simp only [Rp] at r1
    obtain ⟨a, xs, rfl, s, l⟩ := r1
    exact ⟨a, xs, rfl, .inr (same_sqT hide_sub s), fun c nc => q _ _ (same_new nc) (rp_newL hG nc l)⟩
  · cases e
/-- all, any of a list of bools -/
def blsOf : List Dat → Option (List Bool)
  | [] => some []
  | .bl b :: r => (blsOf r).map (b :: ·)
  | _ => none
theorem blsOf_rp {K : PySem.W.Frag} {h : Option Addr} {H : Hp} : ∀ {ds : List Dat} {bs : List Bool} {vs : List V}, blsOf ds = some bs → RpL K h H ds vs → vs = bs.map V.bl
  | [], bs, vs, e, r => by
    simp only [RpL] at r
    simp only [blsOf, Option.some.injEq] at e
    subst r e
    rfl
  | d :: ds, bs, vs, e, r => by
    obtain ⟨v, u, rfl, e1, e2⟩ := r.uncons
    cases d <;> simp only [blsOf, reduceCtorEq] at e
    rename_i b
    cases e3 : blsOf ds with
    | none =>
      rw [e3] at e
      cases e
    | some bs' =>
      rw [e3] at e
      cases e
      simp only [Rp] at e1
      rw [e1, blsOf_rp e3 e2]
      rfl
def allD : List Dat → Option Dat
  | [.lst ds] => (blsOf ds).map fun bs => .bl (bs.all id)
  | _ => none
def anyD : List Dat → Option Dat
  | [.lst ds] => (blsOf ds).map fun bs => .bl (bs.any id)
  | _ => none
theorem allD_ok (K : PySem.W.Frag) : CallD K (rAll K) allD := by
  intro h G H ds z vs Q hG e r q
  unfold allD at e
  split at e
  · rename_i ds
    cases e1 : blsOf ds with
    | none =>
      rw [e1] at e
      cases e
    | some bs =>
      rw [e1] at e
      cases e
      obtain ⟨v, rfl, r1⟩ := uncons1 r
      simp only [Rp] at r1
      obtain ⟨a, xs, rfl, s, l⟩ := r1
      exact ⟨a, bs, rfl, by rw [← blsOf_rp e1 l]; exact .of (hide_sub _ _ s), q _ H (Same.refl H) (by simp only [Rp])⟩
  · cases e
theorem anyD_ok (K : PySem.W.Frag) : CallD K (rAny K) anyD := by
  intro h G H ds z vs Q hG e r q
  unfold anyD at e
  split at e
  · rename_i ds
    cases e1 : blsOf ds with
    | none =>
      rw [e1] at e
      cases e
    | some bs =>
      rw [e1] at e
      cases e
      obtain ⟨v, rfl, r1⟩ := uncons1 r
      simp only [Rp] at r1
      obtain ⟨a, xs, rfl, s, l⟩ := r1
      exact ⟨a, bs, rfl, by rw [← blsOf_rp e1 l]; exact .of (hide_sub _ _ s), q _ H (Same.refl H) (by simp only [Rp])⟩
  · cases e
section
variable {T : Type} {X : Cx} {W : WX} {R : Res T} {e e2 : Expr} {es : List Expr} {F G : Den T} {A : En → T → Out (List Dat) T} {pos p apos : Pos}
theorem d_len (gl : Gl X "len") (hm : X.mg "len" = none) (ha : PA X [e] (tDA X.K W R A)) (he : starEach [e] X.env = [(false, eval e X.env)] := by rfl) : PE X (.Call (.Name "len" p) [e] [] pos) (tD X.K W R (callD lenD A)) :=
  d_callB call_len (lenD_ok X.K) gl hm PySem.boot_len ha (by decide) (by decide) he
theorem d_abs (gl : Gl X "abs") (hm : X.mg "abs" = none) (ha : PA X [e] (tDA X.K W R A)) (he : starEach [e] X.env = [(false, eval e X.env)] := by rfl) : PE X (.Call (.Name "abs" p) [e] [] pos) (tD X.K W R (callD absD A)) :=
  d_callB call_abs (absD_ok X.K) gl hm (by decide +kernel) ha (by decide) (by decide) he
theorem d_int_ (gl : Gl X "int") (hm : X.mg "int" = none) (ha : PA X [e] (tDA X.K W R A)) (he : starEach [e] X.env = [(false, eval e X.env)] := by rfl) : PE X (.Call (.Name "int" p) [e] [] pos) (tD X.K W R (callD intD A)) :=
  d_callT call_intQ (intD_ok' X.K) gl hm (by decide +kernel) ha (by decide) (by decide) he
theorem d_str_ (gl : Gl X "str") (hm : X.mg "str" = none) (ha : PA X [e] (tDA X.K W R A)) (he : starEach [e] X.env = [(false, eval e X.env)] := by rfl) : PE X (.Call (.Name "str" p) [e] [] pos) (tD X.K W R (callD strD A)) :=
  d_callT call_strQ (strD_ok X.K) gl hm (by decide +kernel) ha (by decide) (by decide) he
theorem d_tuple_ (gl : Gl X "tuple") (hm : X.mg "tuple" = none) (ha : PA X [e] (tDA X.K W R A)) (he : starEach [e] X.env = [(false, eval e X.env)] := by rfl) : PE X (.Call (.Name "tuple" p) [e] [] pos) (tD X.K W R (callD tupleD A)) :=
  d_callT call_tuple_of (tupleD_ok X.K) gl hm (by decide +kernel) ha (by decide) (by decide) he
theorem d_list_ (gl : Gl X "list") (hm : X.mg "list" = none) (ha : PA X [e] (tDA X.K W R A)) (he : starEach [e] X.env = [(false, eval e X.env)] := by rfl) : PE X (.Call (.Name "list" p) [e] [] pos) (tD X.K W R (callD listD A)) :=
  d_callT call_list_of (listD_ok X.K) gl hm (by decide +kernel) ha (by decide) (by decide) he
theorem d_all (hc : X.calm = true) (gl : Gl X "all") (hm : X.mg "all" = none) (ha : PA X [e] (tDA X.K W R A)) (he : starEach [e] X.env = [(false, eval e X.env)] := by rfl) : PE X (.Call (.Name "all" p) [e] [] pos) (tD X.K W R (callD allD A)) :=
  d_callB (cr_all hc) (allD_ok X.K) gl hm (by decide +kernel) ha (by decide) (by decide) he
theorem d_any (hc : X.calm = true) (gl : Gl X "any") (hm : X.mg "any" = none) (ha : PA X [e] (tDA X.K W R A)) (he : starEach [e] X.env = [(false, eval e X.env)] := by rfl) : PE X (.Call (.Name "any" p) [e] [] pos) (tD X.K W R (callD anyD A)) :=
  d_callB (cr_any hc) (anyD_ok X.K) gl hm (by decide +kernel) ha (by decide) (by decide) he
theorem d_min (hc : X.calm = true) (gl : Gl X "min") (hm : X.mg "min" = none) (ha : PA X [e, e2] (tDA X.K W R A)) (he : starEach [e, e2] X.env = (false, eval e X.env) :: starEach [e2] X.env := by rfl) (hpl : (backTo pos (starEach [e2] X.env)).any (·.1) = false := by rfl) : PE X (.Call (.Name "min" p) [e, e2] [] pos) (tD X.K W R (callD minD A)) :=
  d_callB (call_min2 hc) (minD_ok X.K) gl hm (by decide +kernel) ha (by decide) (by decide) he hpl
theorem d_max (hc : X.calm = true) (gl : Gl X "max") (hm : X.mg "max" = none) (ha : PA X [e, e2] (tDA X.K W R A)) (he : starEach [e, e2] X.env = (false, eval e X.env) :: starEach [e2] X.env := by rfl) (hpl : (backTo pos (starEach [e2] X.env)).any (·.1) = false := by rfl) : PE X (.Call (.Name "max" p) [e, e2] [] pos) (tD X.K W R (callD maxD A)) :=
  d_callB (call_max2 hc) (maxD_ok X.K) gl hm (by decide +kernel) ha (by decide) (by decide) he hpl
end

/-! ### isinstance with a built-in class -/
def tyN : Dat → Option String
  | .non => some "NoneType"
  | .bl _ => some "bool"
  | .int _ => some "int"
  | .str _ => some "str"
  | .tup _ => some "tuple"
  | .lst _ => some "list"
  | _ => none
def isTab (n T : String) : Bool := n == T || (n == "bool" && T == "int")
def isiD (T : String) (d : Dat) : Option Dat := (tyN d).map fun n => .bl (isTab n T)
theorem kit_tab : ∀ T ∈ ["int", "bool", "str", "tuple", "list"], ∀ n ∈ ["NoneType", "bool", "int", "str", "tuple", "list"], kitB n T = some (isTab n T) := by decide +kernel
def un1 {T : Type} (g : Dat → Option Dat) (F : Den T) : Den T := fun ρ t => (F ρ t).bind fun x t1 => .lift (g x) t1
theorem tyN_ok {K : PySem.W.Frag} {h : Option Addr} {G : Addr → Prop} {H : Hp} {d : Dat} {v : V} {n : String} (e : tyN d = some n) (r : Rp K h (hide G H) d v) : TyX K H v (.type n) ∧ n ∈ ["NoneType", "bool", "int", "str", "tuple", "list"] := by
  cases d <;> simp only [tyN, Option.some.injEq, reduceCtorEq] at e <;> subst e <;> refine ⟨?_, by decide⟩ <;> simp only [Rp] at r
  · subst r; exact .base .non
  · subst r; exact .base (.bl _)
  · subst r; exact .base (.int _)
  · subst r; exact .base (.str _)
  · obtain ⟨a, xs, rfl, s, _⟩ := r
    rcases same_sqT hide_sub s with (s | ⟨o, s⟩) | ⟨o, its, m, s, c, _⟩
    · exact .base (.tup s)
    · exact .fTuple s
    · exact .kTuple s c
  · obtain ⟨a, xs, rfl, s, _⟩ := r
    exact .base (.lst (hide_sub _ _ s))
section
variable {T : Type} {X : Cx} {W : WX} {R : Res T} {e : Expr} {F : Den T} {pos p p2 : Pos}
theorem d_isi (Ty : String) (hT : Ty ∈ ["int", "bool", "str", "tuple", "list"]) {x : Str} (gl : Gl X "isinstance") (hm : X.mg "isinstance" = none) (gx : Gl X x) (mx : X.mg x = none) (bx : bootBuiltins x = some (.type Ty)) (he : PE X e (tD X.K W R F)) (nx : x ≠ "__name__" := by decide) (dx : (x == ("__debug__" : Str)) = false := by decide)
    (hs : starEach [e, .Name x p2] X.env = (false, eval e X.env) :: starEach [.Name x p2] X.env := by rfl) (hpl : (backTo pos (starEach [.Name x p2] X.env)).any (·.1) = false := by rfl) (hs2 : starEach [.Name x p2] X.env = [(false, eval (.Name x p2) X.env)] := by rfl) :
    PE X (.Call (.Name "isinstance" p) [e, .Name x p2] [] pos) (tD X.K W R (un1 (isiD Ty) F)) :=
  (pe_callB call_isi gl hm (by decide +kernel) (pa_cons he (pa_cons (pe_bltn (v := .ty Ty) gx mx bx rfl nx dx) pa_nil hs2) hs) (by decide) (by decide) hs hpl).imp fun σ H Q q => by
  obtain ⟨ρ, t, s, at_, p⟩ := q
  refine ⟨ρ, t, s, at_, Post.bind p fun x t1 v H1 _ k1 at1 r1 p1 => ?_⟩
  cases e1 : tyN x with
  | none =>
    rw [show isiD Ty x = none by unfold isiD; rw [e1]; rfl] at p1
    exact p1.elim
  | some n =>
    rw [show isiD Ty x = some (.bl (isTab n Ty)) by unfold isiD; rw [e1]; rfl] at p1
    obtain ⟨h1, h2⟩ := tyN_ok e1 r1
    exact ⟨v, .ty Ty, .type n, .type Ty, isTab n Ty, rfl, .ty Ty, h1, kit_ty (kit_tab Ty hT n h2), p1.ok .refl at1 (by simp only [Rp])⟩
end
end DL
end
section
set_option Elab.async false
set_option linter.all false
set_option maxRecDepth 100000
set_option maxHeartbeats 4000000
namespace DL
open PySem PySem.Spec PyProof.Rows L2

/-! ### texts: split, join -/
/-- l cut at each c -/
def splitL (c : Nat) : List Nat → List (List Nat)
  | [] => [[]]
  | x :: r => if x = c then [] :: splitL c r else
    match splitL c r with
    | [] => [[x]]
    | p :: ps => (x :: p) :: ps
theorem splitL_ne (c : Nat) (l : List Nat) : splitL c l ≠ [] := by
  cases l with
  | nil => simp [splitL]
  | cons x r =>
    unfold splitL
    split
    · simp
    · split <;> simp
theorem pre_one (c x : Nat) (r : List Nat) : TL.pre [c] (x :: r) = decide (x = c) := by
  unfold TL.pre
  by_cases e : x = c
  · subst e
    simp
  · simp [e]
theorem spl_one (c : Nat) : ∀ (l acc : List Nat), TL.spl [c] 0 acc l = match splitL c l with
    | [] => [acc]
    | p :: ps => (acc ++ p) :: ps
  | [], acc => by simp [TL.spl, splitL]
  | x :: r, acc => by
    unfold splitL
    by_cases e : x = c
    · rw [if_pos e, TL.spl_hit (by rw [pre_one, decide_eq_true e])]
      have ih := spl_one c r []
      show acc :: TL.spl [c] 0 [] r = (acc ++ []) :: splitL c r
      rw [ih, List.append_nil]
      cases h : splitL c r with
      | nil => exact absurd h (splitL_ne c r)
      | cons p ps => simp
    · rw [if_neg e, TL.spl_miss (by rw [pre_one, decide_eq_false e]), spl_one c r]
      cases h : splitL c r with
      | nil => exact absurd h (splitL_ne c r)
      | cons p ps => simp
theorem split_one (c : Nat) (hc : c < 256) (l : List Nat) : Txt.split ⟨l.toArray⟩ ⟨#[c]⟩ = (splitL c l).map fun p => ⟨p.toArray⟩ := by
  refine TL.map_tl_inj ?_
  rw [TL.split_spl _ _ (by simp [TL.tl]) (TL.kind_ok (by simp [hc]))]
  show TL.spl [c] 0 [] l = _
  rw [spl_one]
  cases h : splitL c l with
  | nil => exact absurd h (splitL_ne c l)
  | cons p ps => simp [TL.tl, Function.comp_def]
def strsD (ps : List (List Nat)) : List Dat := ps.map Dat.str
def splitD : Dat → Dat → Option Dat
  | .str x, .str [c] => if c < 256 ∧ x.length + 2 ≤ line then some (.lst (strsD (splitL c x))) else none
  | _, _ => none
def strsOf : List Dat → Option (List (List Nat))
  | [] => some []
  | .str x :: r => (strsOf r).map (x :: ·)
  | _ => none
def joinD : Dat → Dat → Option Dat
  | .str s, .lst ds => (strsOf ds).bind fun ps => if (ps.map List.length).sum + ps.length * s.length ≤ 16777216 then some (.str (TL.joinL s ps)) else none
  | .str s, .tup ds => (strsOf ds).bind fun ps => if (ps.map List.length).sum + ps.length * s.length ≤ 16777216 then some (.str (TL.joinL s ps)) else none
  | _, _ => none
theorem rp_strs {K : PySem.W.Frag} {h : Option Addr} {H : Hp} : ∀ ps : List (List Nat), RpL K h H (strsD ps) ((ps.map fun p => (⟨p.toArray⟩ : Str)).map V.str)
  | [] => RpL.nil
  | p :: ps => RpL.cons (by simp only [Rp]) (rp_strs ps)
theorem strsOf_rp {K : PySem.W.Frag} {h : Option Addr} {H : Hp} : ∀ {ds : List Dat} {ps : List (List Nat)} {vs : List V}, strsOf ds = some ps → RpL K h H ds vs → vs = (ps.map fun p => (⟨p.toArray⟩ : Str)).map V.str
  | [], ps, vs, e, r => by
    simp only [RpL] at r
    simp only [strsOf, Option.some.injEq] at e
    subst r e
    rfl
  | d :: ds, ps, vs, e, r => by
    obtain ⟨v, u, rfl, e1, e2⟩ := r.uncons
    cases d <;> simp only [strsOf, reduceCtorEq] at e
    rename_i x
    cases e3 : strsOf ds with
    | none =>
      rw [e3] at e
      cases e
    | some ps' =>
      rw [e3] at e
      cases e
      simp only [Rp] at e1
      rw [e1, strsOf_rp e3 e2]
      rfl
theorem join_s (s : List Nat) (ps : List (List Nat)) : Txt.join ⟨s.toArray⟩ (ps.map fun p => (⟨p.toArray⟩ : Str)) = ⟨(TL.joinL s ps).toArray⟩ := by
  refine TL.ext_tl ?_
  rw [TL.join_eq, TL.tl_join]
  simp [TL.tl, Function.comp_def]
theorem lens_s (ps : List (List Nat)) : (ps.map fun p => (⟨p.toArray⟩ : Str)).map (·.length) = ps.map List.length := by
  rw [List.map_map]
  exact List.map_congr_left fun p _ => sstr_len p
/-- a text's method with one argument -/
def M1D (K : PySem.W.Frag) (r : V → List V → Hp → VK → Prop) (g : Dat → Dat → Option Dat) : Prop := ∀ (h : Option Addr) (G : Addr → Prop) (H : Hp) (x y z : Dat) (v w : V) (Q : VK), (∀ a, G a → ∃ o, H a = some o) → g x y = some z →
  Rp K h (hide G H) x v → Rp K h (hide G H) y w → (∀ u H', Same H H' → Rp K h (hide G H') z u → Q u H') → r v [w] H Q
theorem splitD_ok (K : PySem.W.Frag) : M1D K (fun x xs H Q => ∃ a b, x = .str a ∧ xs = [.str b] ∧ (b.length == 0) = false ∧ a.length + 2 ≤ sizeLine ∧ rNewStrs (Txt.split a b) H Q) splitD := by
  intro h G H x y z v w Q hG e rx ry q
  unfold splitD at e
  split at e
  · rename_i x c
    split at e
    · rename_i hz
      cases e
      simp only [Rp] at rx ry
      subst rx ry
      refine ⟨_, _, rfl, rfl, rfl, by rw [sstr_len, line_eq]; exact hz.2, fun p np => ?_⟩
      have e1 := split_one c hz.1 x
      have e2 : Txt.split ⟨x.toArray⟩ ⟨[c].toArray⟩ = (splitL c x).map fun p => ⟨p.toArray⟩ := e1
      rw [e2]
      exact q _ _ (same_new np) (rp_newL hG np (rp_strs _))
    · cases e
  · cases e
theorem joinD_ok (K : PySem.W.Frag) : M1D K (fun x xs H Q => ∃ a p, ∃ ys : List Str, x = .str a ∧ xs = [.ref p] ∧ (SqL K H p (ys.map V.str) ∨ SqT K H p (ys.map V.str)) ∧ (ys.map (·.length)).sum + ys.length * a.length ≤ 16777216 ∧ Q (.str (Txt.join a ys)) H) joinD := by
  intro h G H x y z v w Q hG e rx ry q
  unfold joinD at e
  split at e
  · rename_i s ds
    cases e1 : strsOf ds with
    | none =>
      rw [e1] at e
      cases e
    | some ps =>
      rw [e1] at e
      simp only [Option.bind_some] at e
      split at e
      · rename_i hz
        cases e
        simp only [Rp] at rx ry
        obtain ⟨a, xs, rfl, sa, l⟩ := ry
        subst rx
        refine ⟨_, a, ps.map fun p => (⟨p.toArray⟩ : Str), rfl, rfl, .inl (by rw [← strsOf_rp e1 l]; exact .of (hide_sub _ _ sa)), by rw [lens_s, List.length_map, sstr_len]; exact hz, ?_⟩
        rw [join_s]
        exact q _ H (Same.refl H) (by simp only [Rp])
      · cases e
  · rename_i s ds
    cases e1 : strsOf ds with
    | none =>
      rw [e1] at e
      cases e
    | some ps =>
      rw [e1] at e
      simp only [Option.bind_some] at e
      split at e
      · rename_i hz
        cases e
        simp only [Rp] at rx ry
        obtain ⟨a, xs, rfl, sa, l⟩ := ry
        subst rx
        refine ⟨_, a, ps.map fun p => (⟨p.toArray⟩ : Str), rfl, rfl, .inr (by rw [← strsOf_rp e1 l]; exact same_sqT hide_sub sa), by rw [lens_s, List.length_map, sstr_len]; exact hz, ?_⟩
        rw [join_s]
        exact q _ H (Same.refl H) (by simp only [Rp])
      · cases e
  · cases e
section
variable {T : Type} {X : Cx} {W : WX} {R : Res T} {o e : Expr} {F G : Den T} {pos apos : Pos}
theorem t_m1 {r : V → List V → Hp → VK → Prop} {g : Dat → Dat → Option Dat} (hg : M1D X.K r g) (hs : ∀ x y z, g x y = some z → ∃ l, x = .str l) {σ : L2.St} {H : Hp} {Q : VK} (q : tD X.K W R (fun ρ t => (F ρ t).bind fun x t1 => match x with | .str l => (G ρ t1).bind fun y t2 => .lift (g (.str l) y) t2 | _ => .no) σ H Q) :
    tM1 r (tD X.K W R F) (tD X.K W R G) σ H Q := by
  obtain ⟨ρ, t, s, at_, p⟩ := q
  refine ⟨ρ, t, s, at_, Post.bind p fun x t1 v H1 _ k1 at1 r1 p1 => ?_⟩
  cases x with
  | str l =>
    have r1' := r1
    simp only [Rp] at r1'
    refine ⟨⟨_, r1'⟩, ρ, t1, s.keep k1, at1, Post.bind p1 fun y t2 w H2 _ k2 at2 r2 p2 => ?_⟩
    have s2 := (s.keep k1).keep k2
    cases e : g (.str l) y with
    | none =>
      rw [e] at p2
      exact p2.elim
    | some z =>
      rw [e] at p2
      exact hg R.hd _ H2 (.str l) y z v w Q (s2.dom at2) e (Rp.mono (hide_keep (fun a z => .inl z) k2) _ _ r1) r2 fun u H3 e3 r3 => p2.ok (.of e3) (at_same at2 e3) r3
  | _ => exact p1.elim
def met1 {T : Type} (g : Dat → Dat → Option Dat) (F G : Den T) : Den T := fun ρ t => (F ρ t).bind fun x t1 => match x with
  | .str l => (G ρ t1).bind fun y t2 => .lift (g (.str l) y) t2
  | _ => .no
theorem splitD_str : ∀ x y z, splitD x y = some z → ∃ l, x = .str l := fun x y z e => by
  unfold splitD at e
  split at e
  · exact ⟨_, rfl⟩
  · cases e
theorem joinD_str : ∀ x y z, joinD x y = some z → ∃ l, x = .str l := fun x y z e => by
  unfold joinD at e
  split at e
  · exact ⟨_, rfl⟩
  · exact ⟨_, rfl⟩
  · cases e
theorem d_split (ho : PE X o (tD X.K W R F)) (he : PE X e (tD X.K W R G)) (hs : starEach [e] X.env = [(false, eval e X.env)] := by rfl) (hbase : attributeBase o "split" X.env (eval o X.env) = eval o X.env := by rfl) (hline : (apos.endLine == pos.line) = true := by rfl) :
    PE X (.Call (.Attribute o "split" apos) [e] [] pos) (tD X.K W R (met1 splitD F G)) := (pe_split ho he hs hbase hline).imp fun σ H Q q => t_m1 (splitD_ok X.K) splitD_str q
theorem d_join (ho : PE X o (tD X.K W R F)) (he : PE X e (tD X.K W R G)) (hs : starEach [e] X.env = [(false, eval e X.env)] := by rfl) (hbase : attributeBase o "join" X.env (eval o X.env) = eval o X.env := by rfl) (hline : (apos.endLine == pos.line) = true := by rfl) :
    PE X (.Call (.Attribute o "join" apos) [e] [] pos) (tD X.K W R (met1 joinD F G)) := (pe_join ho he hs hbase hline).imp fun σ H Q q => t_m1 (joinD_ok X.K) joinD_str q
end
end DL
end
section
set_option Elab.async false
set_option linter.all false
set_option maxRecDepth 100000
set_option maxHeartbeats 4000000
namespace DL
open PySem PySem.Spec PyProof.Rows L2

/-! ### a def's promise, where nothing is being shown -/
structure Rm (g : Bool) (k : Nat) (A : Around) : Prop where
  room : Room k A
  gd : g = true → A.guards = some []
theorem Rm.mono {g : Bool} {j k : Nat} {A : Around} (r : Rm g k A) (h : j ≤ k) : Rm g j A := ⟨r.room.mono h, r.gd⟩
theorem Rm.weak {g : Bool} {k : Nat} {A : Around} (r : Rm g k A) : Rm false k A := ⟨r.room, fun z => by cases z⟩
structure FnD (g : Bool) (P : Program) (w : World) (K : PySem.W.Frag) (mg : Str → Option Value) (base : Heap) (k : Nat) (f : Addr) (fd : FuncData) (ps : List Str) (sp : Sp) : Prop where
  len : ∀ vs H Q E, sp vs H Q E → vs.length = ps.length
  run : ∀ (A : Around) (outer : List Env) (s : Shared) (H : Hp) (args : Args) (us : List Value) (vs : List V) (Q : VK) (E : XK), Rm g k A → Env0 P w K mg base A outer s H → BindsTo s fd args (ps.zip us) → Vals vs us → sp vs H Q E →
    codeAny (model P w) A (.call (.ref f) args) (CR (L2.CX P w) outer P w H s Q E) s
theorem FnD.mono {g : Bool} {P : Program} {w : World} {K : PySem.W.Frag} {mg : Str → Option Value} {base : Heap} {j k : Nat} {f : Addr} {fd : FuncData} {ps : List Str} {sp : Sp} (F : FnD g P w K mg base j f fd ps sp) (h : j ≤ k) : FnD g P w K mg base k f fd ps sp :=
  ⟨F.len, fun A o s H ar us vs Q E r => F.run A o s H ar us vs Q E (r.mono h)⟩

section
variable {P : Program} {w : World} {K : PySem.W.Frag} {mg : Str → Option Value} {base : Heap}
theorem fnD_of {g : Bool} {x qual : Str} {st : Stmt} {f : Addr} {fd : FuncData} {N ps : List Str} {k : Nat} {sp : Sp} (F : Fun K x qual st f fd) (S : FnScope N ps (defScope st)) (len : ∀ vs H Q E, sp vs H Q E → vs.length = ps.length)
    (body : ∀ (cdv : Value), fd.code = cdv → ∀ (A : Around) (outer : List Env) (s : Shared) (H : Hp) (vs : List V) (Q : VK) (E : XK), Rm g k (A.deeper (envOfC qual (defScope st) s.heap.objs.size f cdv)) → sp vs H Q E →
      ∃ t, PSs (cxOf (L2.CX P w) P w K mg base N qual (defScope st) f cdv A outer s H E) (defBody st) t ∧ t { nx := fun _ H' => Q .non H', rt := Q } (L2.start N vs) H) : FnD g P w K mg base (k + 1) f fd ps sp := by
  obtain ⟨oc, od, kV, doc, pm, an, cdv, ct, osl, rfl, look, code⟩ := F.ex
  refine ⟨len, fun A outer s0 H args us vs Q E rm env0 binds rv want => ?_⟩
  have many := len _ _ _ _ want
  have inK : K.In s0.heap := env0.mod.kin.keeps fun b o z => (env0.bs b o z).1
  have noLim : s0.heap.NoLimit := env0.mod.nolimit.keeps fun b o z => (env0.bs b o z).1
  refine codeAny_call_function rm.room.depth (inK _ _ look) rfl S.co S.gen rfl (PySem.W.codeRec_of inK code) (binds _ _ _ _ ?_)
  refine wpAny_newFunctionEnv_cells S.kind (fun y hy => ?_) fun env isEnv sB inCall => ?_
  · obtain ⟨nm, vl⟩ := y
    exact (S.par nm (List.of_mem_zip hy).1).imp id fun c => ⟨c, PySem.W.cellsFrom_some _ _ _ (.inl c)⟩
  subst isEnv
  refine And.intro (noLim.keeps inCall.toInCall.keep) (codeAny_func ?_)
  obtain ⟨t, run, ends⟩ := body cdv rfl A outer s0 H vs Q E ⟨rm.room.deeper _, rm.gd⟩ want
  have inv0 : Inv (cxOf (L2.CX P w) P w K mg base N qual (defScope st) f cdv A outer s0 H E) [] (L2.start N vs) H sB := inv_start S rm.room.hd env0 many rv inCall
  refine wpAny_mono (run.run [] sB (L2.start N vs) H _ inv0 ends) (fun flow sE got => ?_) fun _ _ z => z
  cases flow with
  | ret u =>
    obtain ⟨v, _, HE, J, rl, q⟩ := got
    exact ⟨v, HE, J.os, J.bare, J.base, J.hok, rl, q⟩
  | next =>
    obtain ⟨_, HE, J, q⟩ := got
    exact ⟨V.non, HE, J.os, J.bare, J.base, J.hok, rfl, q⟩
  | brk => exact got.elim fun _ z => z.elim fun _ z => z.2.elim
  | cont => exact got.elim fun _ z => z.elim fun _ z => z.2.elim
end

/-! ### resources -/
/-- no resource -/
def nilR (hd : Option Addr) : Res Unit where
  fp := fun _ => False
  hd := hd
  At := fun _ _ => True
  dom := fun _ _ _ _ z => z.elim
  mono := fun _ _ _ _ _ => trivial
/-- a resource, and the addresses M as they stand in H0 -/
def fr {T : Type} (r : Res T) (M : Addr → Prop) (H0 : Hp) : Res T where
  fp := fun a => M a ∨ r.fp a
  hd := r.hd
  At := fun H t => (∀ a, M a → ∃ o, H0 a = some o ∧ H a = some o) ∧ r.At H t
  dom := fun H t h a m => m.elim (fun m => let ⟨o, _, e⟩ := h.1 a m; ⟨o, e⟩) (fun m => r.dom H t h.2 a m)
  mono := fun H H' t h k => ⟨fun a m => let ⟨o, e0, e⟩ := h.1 a m; ⟨o, e0, k a o (.inl (.inl m)) e⟩, r.mono H H' t h.2 fun a o m => k a o (m.imp .inr id)⟩
def C0 (r : Res Unit) : Prop := ∃ hd, r = nilR hd
/-- a def's promise that is told by a plain function of its arguments' data and of the state of a resource -/
def spG {T : Type} (K : PySem.W.Frag) (C : Res T → Prop) (n : Nat) (den : List Dat → T → Out Dat T) : Sp := fun vs H Q E => vs.length = n ∧ ∃ (r : Res T) (M : Addr → Prop) (ds : List Dat) (t : T), C r ∧ (∀ a, M a → ∃ o, H a = some o) ∧ (∀ a, M a → ¬ r.fp a) ∧ r.At H t ∧
  RpL K r.hd (hide (fun a => M a ∨ r.fp a) H) ds vs ∧
  match den ds t with
  | .ok d t' => ∀ v H', KeepX r.fp H H' → r.At H' t' → Rp K r.hd (hide (fun a => M a ∨ r.fp a) H') d v → Q v H'
  | .ex C fs xs t' => ∀ cls dd H', KeepX r.fp H H' → r.At H' t' → RpX K r.hd (hide (fun a => M a ∨ r.fp a) H') C fs xs cls dd → E cls dd H'
  | .no => False
/-- a call of a def without a resource; of one with the very resource -/
def callP {T : Type} (n : Nat) (den : List Dat → Unit → Out Dat Unit) (A : En → T → Out (List Dat) T) : Den T := fun ρ t => (A ρ t).bind fun ds t1 => if ds.length = n then (match den ds () with
  | .ok d _ => .ok d t1
  | .ex C fs xs _ => .ex C fs xs t1
  | .no => .no) else .no
def callG {T : Type} (n : Nat) (den : List Dat → T → Out Dat T) (A : En → T → Out (List Dat) T) : Den T := fun ρ t => (A ρ t).bind fun ds t1 => if ds.length = n then den ds t1 else .no
section
variable {T : Type} {X : Cx} {W : WX} {R : Res T} {f : Addr} {fd : FuncData} {ps : List Str} {k : Nat} {g : Bool} {sp : Sp} {x : Str} {e : Expr} {es : List Expr} {A : En → T → Out (List Dat) T} {pos p : Pos}
/-- f(e, ..): the promise at the values, what is raised wished for at the caller's slots -/
def tCallW (sp : Sp) (W : WX) (ta : TA) : TE := fun σ H Q => ta σ H fun vs H1 => sp vs H1 Q fun cls d H' => W cls d σ H'
theorem run_fnD {pins : List (Addr × Obj)} {s1 : Shared} {σ : L2.St} {H1 : Hp} {us : List Value} {vs : List V} {Q : VK} (F : FnD g X.prog X.w X.K X.mg X.base k f fd ps sp) (rm : Rm g k X.A) (tk : Takes X W) (bd : Binds X.K fd ps []) (I1 : Inv X pins σ H1 s1) (rv : Vals vs us) (q : sp vs H1 Q fun cls d H' => W cls d σ H') :
    wpAny (model X.prog X.w) X.A (call (.ref f) us) (EP X pins σ Q) X.xe s1 := by
  have many : us.length = ps.length := by
    rw [← rv.length]
    exact F.len _ _ _ _ q
  have bd2 := bd s1 us I1.kIn (by rw [List.append_nil]; exact many)
  rw [List.append_nil] at bd2
  refine wpAny_call (codeAny_mono (F.run X.A X.stack s1 H1 ⟨us, []⟩ us vs Q _ rm I1.env0 bd2 rv q) fun r sE hq => ?_)
  cases r with
  | error z => exact tk z sE (XE.of_call I1 (fun _ _ _ hw => hw) hq)
  | ok fl =>
    cases fl with
    | ret u => exact I1.after hq
    | next => exact hq.elim
    | brk => exact hq.elim
    | cont => exact hq.elim
theorem pe_callD (F : FnD g X.prog X.w X.K X.mg X.base k f fd ps sp) (rm : Rm g k X.A) (tk : Takes X W) (gl : Gl X x) (hm : X.mg x = some (.ref f)) (kp : PySem.W.keepIn X.K (.ref f) = true) (bd : Binds X.K fd ps []) {ta : TA} (ha : PA X (e :: es) ta) (hdb : (x == ("__debug__" : Str)) = false := by decide)
    (he : starEach (e :: es) X.env = (false, eval e X.env) :: starEach es X.env := by rfl) (hpl : (backTo pos (starEach es X.env)).any (·.1) = false := by rfl) : PE X (.Call (.Name x p) (e :: es) [] pos) (tCallW sp W ta) := by
  refine ⟨fun pins s σ H Q I want => wpAny_Call_Name_kw (ld_glob I gl hm ?_ hdb)⟩
  refine PySem.W.callWith_K (h₀ := X.base) I.ok.mod.kin kp (thn (ha.run pos pins s σ H _ I want) fun us s1 got => ?_) he hpl
  obtain ⟨vs, H1, I1, rv, q⟩ := got
  exact ⟨I1.kIn, run_fnD F rm tk bd I1 rv q⟩
theorem t_callP {n : Nat} {den : List Dat → Unit → Out Dat Unit} {σ : L2.St} {H : Hp} {Q : VK} (q : tD X.K W R (callP n den A) σ H Q) : tCallW (spG X.K C0 n den) W (tDA X.K W R A) σ H Q := by
  obtain ⟨ρ, t, s, at_, p⟩ := q
  refine ⟨ρ, t, s, at_, Post.bind p fun ds t1 vs H1 _ k1 at1 r1 p1 => ?_⟩
  split at p1
  · rename_i hn
    have s1 := s.keep k1
    refine ⟨by rw [RpL.len r1, hn], nilR R.hd, Hid R σ ρ, ds, (), ⟨R.hd, rfl⟩, s1.dom at1, fun _ _ z => z, trivial, RpL.mono (hide_less fun a z => z.elim id fun z => z.elim) _ _ r1, ?_⟩
    generalize den ds () = o at p1 ⊢
    have eq1 : ∀ H', Same (hide (fun a => Hid R σ ρ a ∨ (nilR R.hd).fp a) H') (hide (Hid R σ ρ) H') := fun H' => hide_less fun a z => .inl z
    have sm : ∀ H', KeepX (nilR R.hd).fp H1 H' → Same H1 H' := fun H' k a o e => k a o (fun z => z) e
    cases o with
    | ok d t' => exact fun v H' k _ r => p1.ok (.of (sm _ k)) (at_same at1 (sm _ k)) (Rp.mono (eq1 H') _ _ r)
    | ex C fs xs t' => exact fun cls dd H' k _ r => p1 cls dd H' (.of (sm _ k)) (at_same at1 (sm _ k)) (RpX.mono (eq1 H') r)
    | no => exact p1
  · exact p1.elim
/-- r1 is a part of r -/
structure Sub (r1 r : Res T) : Prop where
  hd : r1.hd = r.hd
  fp : ∀ a, r1.fp a → r.fp a
  at_ : ∀ H t, r.At H t → r1.At H t
  back : ∀ H H' t t', r.At H t → KeepX r1.fp H H' → r1.At H' t' → r.At H' t'
theorem Sub.refl {r : Res T} : Sub r r := ⟨rfl, fun _ z => z, fun _ _ z => z, fun _ _ _ _ _ _ z => z⟩
theorem t_callG {r r1 : Res T} {M0 : Addr → Prop} {H0 : Hp} {C : Res T → Prop} (hC : C r1) (sb : Sub r1 r) (ap : ∀ a, M0 a → ¬ r.fp a) {n : Nat} {den : List Dat → T → Out Dat T} {σ : L2.St} {H : Hp} {Q : VK} (q : tD X.K W (fr r M0 H0) (callG n den A) σ H Q) :
    tCallW (spG X.K C n den) W (tDA X.K W (fr r M0 H0) A) σ H Q := by
  obtain ⟨ρ, t, s, at_, p⟩ := q
  refine ⟨ρ, t, s, at_, Post.bind p fun ds t1 vs H1 _ k1 at1 r1' p1 => ?_⟩
  split at p1
  · rename_i hn
    have s1 := s.keep k1
    have dm := s1.dom at1
    have oN : ∀ a, Ow σ ρ a → ¬ (fr r M0 H0).fp a := fun a z => by
      obtain ⟨i, xs, e1, e2⟩ := z
      obtain ⟨p, vs', f1, f2, _⟩ := s1.own i xs e1
      rw [f1] at e2
      cases e2
      exact f2
    have hdE : r1.hd = (fr r M0 H0).hd := sb.hd
    refine ⟨by rw [RpL.len r1', hn], r1, fun a => (M0 a ∨ Ow σ ρ a) ∨ (r.fp a ∧ ¬ r1.fp a), ds, t1, hC, fun a z => dm a (z.elim (fun z => z.elim (fun z => .inl (.inl z)) fun z => .inr z) fun z => .inl (.inr z.1)), fun a z => z.elim (fun z => z.elim (fun m f => ap a m (sb.fp a f)) fun z f => oN a z (.inr (sb.fp a f))) fun z => z.2, sb.at_ _ _ at1.2, ?_, ?_⟩
    · rw [hdE]
      refine RpL.mono (hide_less fun a z => ?_) _ _ r1'
      rcases z with ((z | z) | z) | z
      · exact .inl (.inl z)
      · exact .inr z
      · exact .inl (.inr z.1)
      · exact .inl (.inr (sb.fp a z))
    have eq1 : ∀ H', Same (hide (fun a => ((M0 a ∨ Ow σ ρ a) ∨ (r.fp a ∧ ¬ r1.fp a)) ∨ r1.fp a) H') (hide (Hid (fr r M0 H0) σ ρ) H') := fun H' => hide_less fun a z => by
      rcases z with (z | z) | z
      · exact .inl (.inl (.inl z))
      · by_cases f : r1.fp a
        · exact .inr f
        · exact .inl (.inr ⟨z, f⟩)
      · exact .inl (.inl (.inr z))
    have fin : ∀ H' t', KeepX r1.fp H1 H' → r1.At H' t' → KeepX (fr r M0 H0).fp H1 H' ∧ (fr r M0 H0).At H' t' := fun H' t' k a => by
      refine ⟨fun b o n e => k b o (fun z => n (.inr (sb.fp b z))) e, fun b m => ?_, sb.back _ _ _ _ at1.2 k a⟩
      obtain ⟨o, e0, e⟩ := at1.1 b m
      exact ⟨o, e0, k b o (fun z => ap b m (sb.fp b z)) e⟩
    rw [hdE]
    generalize den ds t1 = o at p1 ⊢
    cases o with
    | ok d t' => exact fun v H' k a r => p1.ok (fin _ _ k a).1 (fin _ _ k a).2 (Rp.mono (eq1 H') _ _ r)
    | ex C fs xs t' => exact fun cls dd H' k a r => p1 cls dd H' (fin _ _ k a).1 (fin _ _ k a).2 (RpX.mono (eq1 H') r)
    | no => exact p1
  · exact p1.elim
theorem d_callP {n : Nat} {den : List Dat → Unit → Out Dat Unit} (F : FnD g X.prog X.w X.K X.mg X.base k f fd ps (spG X.K C0 n den)) (rm : Rm g k X.A) (tk : Takes X W) (gl : Gl X x) (hm : X.mg x = some (.ref f)) (kp : PySem.W.keepIn X.K (.ref f) = true) (bd : Binds X.K fd ps []) (ha : PA X (e :: es) (tDA X.K W R A)) (hdb : (x == ("__debug__" : Str)) = false := by decide)
    (he : starEach (e :: es) X.env = (false, eval e X.env) :: starEach es X.env := by rfl) (hpl : (backTo pos (starEach es X.env)).any (·.1) = false := by rfl) : PE X (.Call (.Name x p) (e :: es) [] pos) (tD X.K W R (callP n den A)) :=
  (pe_callD F rm tk gl hm kp bd ha hdb he hpl).imp fun σ H Q q => t_callP q
theorem d_callG {r r1 : Res T} {M0 : Addr → Prop} {H0 : Hp} {C : Res T → Prop} (hC : C r1) (sb : Sub r1 r) (ap : ∀ a, M0 a → ¬ r.fp a) {n : Nat} {den : List Dat → T → Out Dat T} (F : FnD g X.prog X.w X.K X.mg X.base k f fd ps (spG X.K C n den)) (rm : Rm g k X.A) (tk : Takes X W) (gl : Gl X x) (hm : X.mg x = some (.ref f)) (kp : PySem.W.keepIn X.K (.ref f) = true) (bd : Binds X.K fd ps [])
    (ha : PA X (e :: es) (tDA X.K W (fr r M0 H0) A)) (hdb : (x == ("__debug__" : Str)) = false := by decide) (he : starEach (e :: es) X.env = (false, eval e X.env) :: starEach es X.env := by rfl) (hpl : (backTo pos (starEach es X.env)).any (·.1) = false := by rfl) :
    PE X (.Call (.Name x p) (e :: es) [] pos) (tD X.K W (fr r M0 H0) (callG n den A)) := (pe_callD F rm tk gl hm kp bd ha hdb he hpl).imp fun σ H Q q => t_callG hC sb ap q
end
end DL
end
section
set_option Elab.async false
set_option linter.all false
set_option maxRecDepth 100000
set_option maxHeartbeats 4000000
namespace DL
open PySem PySem.Spec PyProof.Rows L2

/-! ### statements -/
inductive OutS (T : Type) where
  | nx (ρ : En) (t : T)
  | bk (ρ : En) (t : T)
  | ct (ρ : En) (t : T)
  | rt (d : Dat) (t : T)
  | ex (C : Addr) (fs : List Str) (ds : List Dat) (t : T)
  | no
abbrev DenS (T : Type) := En → T → OutS T
def StepX (fp own : Addr → Prop) (H H' : Hp) : Prop := ∀ a o, ¬ fp a → ¬ own a → H a = some o → H' a = some o
def OwnX (own own' : Addr → Prop) (H : Hp) : Prop := ∀ a, own' a → own a ∨ H a = none
section
variable {T : Type}
def PostS (K : PySem.W.Frag) (W : WX) (R : Res T) (σ : L2.St) (ρ : En) (H : Hp) (o : OutS T) (D : Ends) : Prop :=
  match o with
  | .nx ρ' t' => ∀ σ' H', StepX R.fp (Ow σ ρ) H H' → OwnX (Ow σ ρ) (Ow σ' ρ') H → RpS K R σ' ρ' H' → R.At H' t' → D.nx σ' H'
  | .bk ρ' t' => ∀ σ' H', StepX R.fp (Ow σ ρ) H H' → OwnX (Ow σ ρ) (Ow σ' ρ') H → RpS K R σ' ρ' H' → R.At H' t' → D.bk σ' H'
  | .ct ρ' t' => ∀ σ' H', StepX R.fp (Ow σ ρ) H H' → OwnX (Ow σ ρ) (Ow σ' ρ') H → RpS K R σ' ρ' H' → R.At H' t' → D.ct σ' H'
  | .rt d t' => ∀ v H', StepX R.fp (Ow σ ρ) H H' → R.At H' t' → Rp K R.hd (hide R.fp H') d v → D.rt v H'
  | .ex C fs ds t' => ∀ cls dd σ' H', StepX R.fp (Ow σ ρ) H H' → R.At H' t' → RpX K R.hd (hide R.fp H') C fs ds cls dd → W cls dd σ' H'
  | .no => False
theorem StepX.of {R : Res T} {own : Addr → Prop} {H H' : Hp} (k : KeepX R.fp H H') : StepX R.fp own H H' := fun a o n _ e => k a o n e
theorem step_trans {K : PySem.W.Frag} {R : Res T} {σ σ1 : L2.St} {ρ ρ1 : En} {H H1 H2 : Hp} (s1 : StepX R.fp (Ow σ ρ) H H1) (o1 : OwnX (Ow σ ρ) (Ow σ1 ρ1) H) (s2 : StepX R.fp (Ow σ1 ρ1) H1 H2) : StepX R.fp (Ow σ ρ) H H2 := fun a o n m e =>
  s2 a o n (fun z => (o1 a z).elim m fun z => by rw [e] at z; cases z) (s1 a o n m e)
theorem own_trans {R : Res T} {σ σ1 : L2.St} {ρ ρ1 : En} {own2 : Addr → Prop} {H H1 : Hp} {t1 : T} (at1 : R.At H1 t1) (s1 : StepX R.fp (Ow σ ρ) H H1) (o1 : OwnX (Ow σ ρ) (Ow σ1 ρ1) H) (o2 : OwnX (Ow σ1 ρ1) own2 H1) : OwnX (Ow σ ρ) own2 H := fun a z => by
  rcases o2 a z with z | z
  · exact o1 a z
  · by_cases m : Ow σ ρ a
    · exact .inl m
    · cases e : H a with
      | none => exact .inr rfl
      | some o =>
        by_cases f : R.fp a
        · obtain ⟨o', e'⟩ := R.dom H1 t1 at1 a f
          rw [z] at e'
          cases e'
        · rw [s1 a o f m e] at z
          cases z
theorem PostS.shift {K : PySem.W.Frag} {W : WX} {R : Res T} {σ σ1 : L2.St} {ρ ρ1 : En} {H H1 : Hp} {t1 : T} {o : OutS T} {D : Ends} (p : PostS K W R σ ρ H o D) (at1 : R.At H1 t1) (s1 : StepX R.fp (Ow σ ρ) H H1) (o1 : OwnX (Ow σ ρ) (Ow σ1 ρ1) H) : PostS K W R σ1 ρ1 H1 o D := by
  cases o with
  | nx ρ' t' => exact fun σ' H' s2 o2 r a => p σ' H' (step_trans (K := K) s1 o1 s2) (own_trans at1 s1 o1 o2) r a
  | bk ρ' t' => exact fun σ' H' s2 o2 r a => p σ' H' (step_trans (K := K) s1 o1 s2) (own_trans at1 s1 o1 o2) r a
  | ct ρ' t' => exact fun σ' H' s2 o2 r a => p σ' H' (step_trans (K := K) s1 o1 s2) (own_trans at1 s1 o1 o2) r a
  | rt d t' => exact fun v H' s2 a r => p v H' (step_trans (K := K) s1 o1 s2) a r
  | ex C fs ds t' => exact fun cls dd σ' H' s2 a r => p cls dd σ' H' (step_trans (K := K) s1 o1 s2) a r
  | no => exact p
theorem PostS.keep {K : PySem.W.Frag} {W : WX} {R : Res T} {σ : L2.St} {ρ : En} {H H1 : Hp} {t1 : T} {o : OutS T} {D : Ends} (p : PostS K W R σ ρ H o D) (at1 : R.At H1 t1) (k : KeepX R.fp H H1) : PostS K W R σ ρ H1 o D := p.shift at1 (.of k) fun _ z => .inl z
def tDS (K : PySem.W.Frag) (W : WX) (R : Res T) (F : DenS T) : TS := fun D σ H => ∃ (ρ : En) (t : T), RpS K R σ ρ H ∧ R.At H t ∧ PostS K W R σ ρ H (F ρ t) D
end
def skipS {T : Type} : DenS T := fun ρ t => .nx ρ t
def seqS {T : Type} (F G : DenS T) : DenS T := fun ρ t => match F ρ t with
  | .nx ρ' t' => G ρ' t'
  | o => o
section
variable {T : Type} {X : Cx} {W : WX} {R : Res T} {st : Stmt} {rest body : List Stmt} {F G : DenS T} {E : Den T} {B : DenB T} {e : Expr} {pos : Pos}
theorem s_nil : PSs X [] (tDS X.K W R skipS) := pss_nil.imp fun D σ H q => by
  obtain ⟨ρ, t, s, at_, p⟩ := q
  exact p σ H (.of .refl) (fun _ z => .inl z) s at_
theorem s_cons (h1 : PS X st (tDS X.K W R F)) (h2 : PSs X rest (tDS X.K W R G)) : PSs X (st :: rest) (tDS X.K W R (seqS F G)) := (pss_cons h1 h2).imp fun D σ H q => by
  obtain ⟨ρ, t, s, at_, p⟩ := q
  refine ⟨ρ, t, s, at_, ?_⟩
  unfold seqS at p
  generalize F ρ t = o at p ⊢
  cases o with
  | nx ρ' t' => exact fun σ' H' s1 o1 r a => ⟨ρ', t', r, a, p.shift a s1 o1⟩
  | _ => exact p
theorem s_one (h : PS X st (tDS X.K W R F)) : PSs X [st] (tDS X.K W R F) := pss_one h
theorem s_pass : PS X (.Pass pos) (tDS X.K W R skipS) := ps_pass.imp fun D σ H q => by
  obtain ⟨ρ, t, s, at_, p⟩ := q
  exact p σ H (.of .refl) (fun _ z => .inl z) s at_
theorem s_doc {x j pos'} : PS X (.Expr (.Constant (.str x) j pos) pos') (tDS X.K W R skipS) := ps_doc.imp fun D σ H q => by
  obtain ⟨ρ, t, s, at_, p⟩ := q
  exact p σ H (.of .refl) (fun _ z => .inl z) s at_
theorem s_break : PS X (.Break pos) (tDS X.K W R fun ρ t => .bk ρ t) := ps_break.imp fun D σ H q => by
  obtain ⟨ρ, t, s, at_, p⟩ := q
  exact p σ H (.of .refl) (fun _ z => .inl z) s at_
theorem s_continue : PS X (.Continue pos) (tDS X.K W R fun ρ t => .ct ρ t) := ps_continue.imp fun D σ H q => by
  obtain ⟨ρ, t, s, at_, p⟩ := q
  exact p σ H (.of .refl) (fun _ z => .inl z) s at_
/-- from an expression on -/
def bindS {α T : Type} (o : Out α T) (k : α → T → OutS T) : OutS T :=
  match o with
  | .ok a t => k a t
  | .ex C fs ds t => .ex C fs ds t
  | .no => .no
theorem PostS.bind {α β : Type} {rel : Hp → α → β → Prop} {K : PySem.W.Frag} {σ : L2.St} {ρ : En} {H : Hp} {o : Out α T} {k : α → T → OutS T} {D : Ends} {Q : β → Hp → Prop} (p : PostS K W R σ ρ H (bindS o k) D)
    (h : ∀ a t b H', KeepX R.fp H H' → R.At H' t → rel (hide (Hid R σ ρ) H') a b → PostS K W R σ ρ H' (k a t) D → Q b H') : Post rel K W R σ ρ H o Q := by
  cases o with
  | ok a t => exact fun b H' k1 a1 r1 => h a t b H' k1 a1 r1 (PostS.keep (o := k a t) p a1 k1)
  | ex C fs ds t => exact fun cls dd H' k1 a1 r1 => p cls dd σ H' (.of k1) a1 (RpX.mono (hide_less fun a z => .inl z) r1)
  | no => exact p
def dropS {T : Type} (E : Den T) : DenS T := fun ρ t => bindS (E ρ t) fun _ t1 => .nx ρ t1
theorem s_expr (he : PE X e (tD X.K W R E)) (hs : swapsWith e none pos.line X.env = pure false := by rfl) : PS X (.Expr e pos) (tDS X.K W R (dropS E)) := (ps_expr he hs).imp fun D σ H q => by
  obtain ⟨ρ, t, s, at_, p⟩ := q
  exact ⟨ρ, t, s, at_, PostS.bind p fun a t1 b H1 k1 a1 r1 p1 => p1 σ H1 (.of .refl) (fun _ z => .inl z) (s.keep k1) a1⟩
def retS {T : Type} (E : Den T) : DenS T := fun ρ t => bindS (E ρ t) fun d t1 => .rt d t1
theorem s_ret (he : PE X e (tD X.K W R E)) : PS X (.Return (some e) pos) (tDS X.K W R (retS E)) := (ps_ret he).imp fun D σ H q => by
  obtain ⟨ρ, t, s, at_, p⟩ := q
  exact ⟨ρ, t, s, at_, PostS.bind p fun a t1 b H1 k1 a1 r1 p1 => p1 b H1 (.of .refl) a1 (Rp.mono (hide_less fun a z => .inl z) _ _ r1)⟩
theorem s_retN : PS X (.Return none pos) (tDS X.K W R fun ρ t => .rt .non t) := ps_retN.imp fun D σ H q => by
  obtain ⟨ρ, t, s, at_, p⟩ := q
  exact p .non H (.of .refl) at_ (by simp only [Rp])
def ifS {T : Type} (B : DenB T) (F G : DenS T) : DenS T := fun ρ t => bindS (B ρ t) fun b t1 => match b with
  | true => F ρ t1
  | false => G ρ t1
theorem s_if {a b : List Stmt} (hc : PT X e (tDT X.K W R B)) (ha : PSs X a (tDS X.K W R F)) (hb : PSs X b (tDS X.K W R G)) : PS X (.If e a b pos) (tDS X.K W R (ifS B F G)) := (ps_if hc ha hb).imp fun D σ H q => by
  obtain ⟨ρ, t, s, at_, p⟩ := q
  refine ⟨ρ, t, s, at_, PostS.bind p fun a t1 b H1 k1 a1 r1 p1 => ?_⟩
  cases r1
  cases a with
  | true => exact iteT ⟨ρ, t1, s.keep k1, a1, p1⟩
  | false => exact iteF ⟨ρ, t1, s.keep k1, a1, p1⟩
end

/-! ### stores -/
section
variable {T : Type} {K : PySem.W.Frag} {R : Res T} {σ : L2.St} {ρ : En} {H : Hp} {i : Nat}
theorem getset {α : Type} {l : List α} {i j : Nat} {x y : α} (h : (l.set i x)[j]? = some y) : (j = i ∧ i < l.length ∧ y = x) ∨ (j ≠ i ∧ l[j]? = some y) := by
  by_cases e : j = i
  · subst e
    by_cases z : j < l.length
    · rw [List.getElem?_set_self z] at h
      exact .inl ⟨rfl, z, (Option.some.inj h).symm⟩
    · rw [List.getElem?_eq_none (by simpa using z)] at h
      cases h
  · rw [List.getElem?_set_ne (Ne.symm e)] at h
    exact .inr ⟨e, h⟩
theorem ow_set {v : Option V} {d : Dat} {a : Addr} (l : ρ.length = σ.length) (h : Ow (σ.set i v) (ρ.set i (some (.d d))) a) : Ow σ ρ a := by
  obtain ⟨j, xs, e1, e2⟩ := h
  rcases getset e1 with ⟨rfl, z, e⟩ | ⟨n, e⟩
  · cases e
  · rcases getset e2 with ⟨z, _⟩ | ⟨_, e'⟩
    · exact absurd z n
    · exact ⟨j, xs, e, e'⟩
/-- a slot gets plain data -/
theorem RpS.setD {v : V} {d : Dat} (s : RpS K R σ ρ H) (r : Rp K R.hd (hide (Hid R σ ρ) H) d v) : RpS K R (σ.set i (some v)) (ρ.set i (some (.d d))) H := by
  have sub : ∀ a, Hid R (σ.set i (some v)) (ρ.set i (some (.d d))) a → Hid R σ ρ a := fun a z => z.imp id (ow_set s.len)
  refine ⟨by simp [s.len], fun j d' e => ?_, fun j xs e => ?_, fun j k p xs ys e1 e2 e3 e4 => ?_⟩
  · rcases getset e with ⟨rfl, z, e⟩ | ⟨n, e⟩
    · cases e
      exact ⟨v, List.getElem?_set_self (by rw [← s.len]; exact z), Rp.mono (hide_less sub) _ _ r⟩
    · obtain ⟨u, f1, f2⟩ := s.dat j d' e
      exact ⟨u, by rw [List.getElem?_set_ne (Ne.symm n)]; exact f1, Rp.mono (hide_less sub) _ _ f2⟩
  · rcases getset e with ⟨rfl, z, e⟩ | ⟨n, e⟩
    · cases e
    · obtain ⟨p, vs, f1, f2, f3, f4⟩ := s.own j xs e
      exact ⟨p, vs, by rw [List.getElem?_set_ne (Ne.symm n)]; exact f1, f2, f3, RpL.mono (hide_less sub) _ _ f4⟩
  · rcases getset e1 with ⟨_, _, z⟩ | ⟨n1, e1⟩
    · cases z
    rcases getset e2 with ⟨_, _, z⟩ | ⟨n2, e2⟩
    · cases z
    rw [List.getElem?_set_ne (Ne.symm n1)] at e3
    rw [List.getElem?_set_ne (Ne.symm n2)] at e4
    exact s.inj j k p xs ys e1 e2 e3 e4
/-- a slot gets a new list of its own -/
theorem RpS.setO {p : Addr} {xs : List Dat} {vs : List V} (s : RpS K R σ ρ H) (dm : ∀ a, Hid R σ ρ a → ∃ o, H a = some o) (np : H p = none) (r : RpL K R.hd (hide (Hid R σ ρ) H) xs vs) :
    RpS K R (σ.set i (some (.ref p))) (ρ.set i (some (.o xs))) (upd H p (.lst vs)) ∧ OwnX (Ow σ ρ) (Ow (σ.set i (some (.ref p))) (ρ.set i (some (.o xs)))) H := by
  have ow : ∀ a, Ow (σ.set i (some (.ref p))) (ρ.set i (some (.o xs))) a → Ow σ ρ a ∨ a = p := fun a h => by
    obtain ⟨j, ys, e1, e2⟩ := h
    rcases getset e1 with ⟨rfl, z, e⟩ | ⟨n, e⟩
    · rw [List.getElem?_set_self (by rw [← s.len]; exact z)] at e2
      cases e2
      exact .inr rfl
    · rw [List.getElem?_set_ne (Ne.symm n)] at e2
      exact .inl ⟨j, ys, e, e2⟩
  have sm : Same (hide (Hid R σ ρ) H) (hide (Hid R (σ.set i (some (.ref p))) (ρ.set i (some (.o xs)))) (upd H p (.lst vs))) := fun a o e => by
    obtain ⟨n, e⟩ := hide_some.mp e
    have np' : a ≠ p := ne_of_none e np
    refine hide_some.mpr ⟨fun z => ?_, by rw [upd_ne np']; exact e⟩
    rcases z with z | z
    · exact n (.inl z)
    · rcases ow a z with z | z
      · exact n (.inr z)
      · exact np' z
  refine ⟨⟨by simp [s.len], fun j d' e => ?_, fun j ys e => ?_, fun j k q xs' ys e1 e2 e3 e4 => ?_⟩, fun a z => (ow a z).imp id fun e => by rw [e]; exact np⟩
  · rcases getset e with ⟨rfl, z, e⟩ | ⟨n, e⟩
    · cases e
    · obtain ⟨u, f1, f2⟩ := s.dat j d' e
      exact ⟨u, by rw [List.getElem?_set_ne (Ne.symm n)]; exact f1, Rp.mono sm _ _ f2⟩
  · rcases getset e with ⟨rfl, z, e⟩ | ⟨n, e⟩
    · cases e
      refine ⟨p, vs, List.getElem?_set_self (by rw [← s.len]; exact z), fun f => ?_, upd_same, RpL.mono sm _ _ r⟩
      obtain ⟨o, e⟩ := dm p (.inl f)
      rw [np] at e
      cases e
    · obtain ⟨q, ws, f1, f2, f3, f4⟩ := s.own j ys e
      exact ⟨q, ws, by rw [List.getElem?_set_ne (Ne.symm n)]; exact f1, f2, by rw [upd_ne (ne_of_none f3 np)]; exact f3, RpL.mono sm _ _ f4⟩
  · have nq : ∀ j ys, ρ[j]? = some (some (SV.o ys)) → σ[j]? = some (some (V.ref p)) → False := fun j ys f1 f2 => by
      obtain ⟨q, ws, g1, g2, g3, _⟩ := s.own j ys f1
      rw [f2] at g1
      cases g1
      rw [np] at g3
      cases g3
    rcases getset e1 with ⟨j1, z1, _⟩ | ⟨n1, f1⟩ <;> rcases getset e2 with ⟨j2, z2, _⟩ | ⟨n2, f2⟩
    · rw [j1, j2]
    · rw [j1, List.getElem?_set_self (by rw [← s.len]; exact z1)] at e3
      cases e3
      rw [List.getElem?_set_ne (Ne.symm n2)] at e4
      exact (nq _ _ f2 e4).elim
    · rw [j2, List.getElem?_set_self (by rw [← s.len]; exact z2)] at e4
      cases e4
      rw [List.getElem?_set_ne (Ne.symm n1)] at e3
      exact (nq _ _ f1 e3).elim
    · rw [List.getElem?_set_ne (Ne.symm n1)] at e3
      rw [List.getElem?_set_ne (Ne.symm n2)] at e4
      exact s.inj j k q xs' ys f1 f2 e3 e4
/-- a slot's own list is changed -/
theorem RpS.chg {xs ys : List Dat} {p : Addr} {vs : List V} (s : RpS K R σ ρ H) (e : ρ[i]? = some (some (.o xs))) (ep : σ[i]? = some (some (.ref p))) (r : RpL K R.hd (hide (Hid R σ ρ) H) ys vs) :
    RpS K R σ (ρ.set i (some (.o ys))) (upd H p (.lst vs)) ∧ OwnX (Ow σ ρ) (Ow σ (ρ.set i (some (.o ys)))) H ∧ StepX R.fp (Ow σ ρ) H (upd H p (.lst vs)) ∧ ∀ t, R.At H t → R.At (upd H p (.lst vs)) t := by
  have hi : i < ρ.length := (List.getElem?_eq_some_iff.mp e).1
  have owp : Ow σ ρ p := ⟨i, xs, e, ep⟩
  obtain ⟨p', vs', g1, g2, g3, g4⟩ := s.own i xs e
  rw [ep] at g1
  cases g1
  have ow : ∀ a, Ow σ (ρ.set i (some (.o ys))) a → Ow σ ρ a := fun a h => by
    obtain ⟨j, zs, e1, e2⟩ := h
    rcases getset e1 with ⟨rfl, z, _⟩ | ⟨n, e1⟩
    · exact ⟨_, xs, e, e2⟩
    · exact ⟨j, zs, e1, e2⟩
  have ow' : ∀ a, Ow σ ρ a → Ow σ (ρ.set i (some (.o ys))) a := fun a h => by
    obtain ⟨j, zs, e1, e2⟩ := h
    by_cases n : j = i
    · subst n
      exact ⟨j, ys, List.getElem?_set_self hi, e2⟩
    · exact ⟨j, zs, by rw [List.getElem?_set_ne (Ne.symm n)]; exact e1, e2⟩
  have sm : Same (hide (Hid R σ ρ) H) (hide (Hid R σ (ρ.set i (some (.o ys)))) (upd H p (.lst vs))) := fun a o ea => by
    obtain ⟨n, ea⟩ := hide_some.mp ea
    have np : a ≠ p := fun z => n (.inr (z ▸ owp))
    exact hide_some.mpr ⟨fun z => n (z.imp id (ow a)), by rw [upd_ne np]; exact ea⟩
  refine ⟨⟨by simp [s.len], fun j d' e' => ?_, fun j zs e' => ?_, fun j k q zs ws e1 e2 e3 e4 => ?_⟩, fun a z => .inl (ow a z), fun a o _ m ea => ?_, fun t at_ => R.mono H _ t at_ fun a o f ea => ?_⟩
  · rcases getset e' with ⟨_, _, z⟩ | ⟨n, e'⟩
    · cases z
    · obtain ⟨u, f1, f2⟩ := s.dat j d' e'
      exact ⟨u, f1, Rp.mono sm _ _ f2⟩
  · rcases getset e' with ⟨rfl, z, e'⟩ | ⟨n, e'⟩
    · cases e'
      exact ⟨p, vs, ep, g2, upd_same, RpL.mono sm _ _ r⟩
    · obtain ⟨q, ws, f1, f2, f3, f4⟩ := s.own j zs e'
      have nq : q ≠ p := fun z => n (s.inj j i p zs xs e' e (z ▸ f1) ep)
      exact ⟨q, ws, f1, f2, by rw [upd_ne nq]; exact f3, RpL.mono sm _ _ f4⟩
  · have back : ∀ j zs, (ρ.set i (some (.o ys)))[j]? = some (some (SV.o zs)) → ∃ us, ρ[j]? = some (some (SV.o us)) := fun j zs h => by
      rcases getset h with ⟨h0, _, _⟩ | ⟨_, h⟩
      · exact ⟨xs, by rw [h0]; exact e⟩
      · exact ⟨zs, h⟩
    obtain ⟨us1, b1⟩ := back j zs e1
    obtain ⟨us2, b2⟩ := back k ws e2
    exact s.inj j k q us1 us2 b1 b2 e3 e4
  · rw [upd_ne (show a ≠ p from fun z => m (by rw [z]; exact owp))]
    exact ea
  · rw [upd_ne (show a ≠ p from fun z => f.elim (fun f => g2 (by rw [← z]; exact f)) fun f => f _ (by rw [z, g3] at ea; exact (Option.some.inj ea).symm))]
    exact ea
/-- a slot's own list becomes plain data -/
theorem RpS.freeze {xs : List Dat} (s : RpS K R σ ρ H) (e : ρ[i]? = some (some (.o xs))) : RpS K R σ (ρ.set i (some (.d (.lst xs)))) H ∧ OwnX (Ow σ ρ) (Ow σ (ρ.set i (some (.d (.lst xs))))) H := by
  have hi : i < ρ.length := (List.getElem?_eq_some_iff.mp e).1
  obtain ⟨p, vs, g1, g2, g3, g4⟩ := s.own i xs e
  have ow : ∀ a, Ow σ (ρ.set i (some (.d (.lst xs)))) a → Ow σ ρ a ∧ a ≠ p := fun a h => by
    obtain ⟨j, zs, e1, e2⟩ := h
    rcases getset e1 with ⟨_, _, z⟩ | ⟨n, e1⟩
    · cases z
    · exact ⟨⟨j, zs, e1, e2⟩, fun z => n (s.inj j i p zs xs e1 e (z ▸ e2) g1)⟩
  have sub : ∀ a, Hid R σ (ρ.set i (some (.d (.lst xs)))) a → Hid R σ ρ a := fun a z => z.imp id fun z => (ow a z).1
  refine ⟨⟨by simp [s.len], fun j d' e' => ?_, fun j zs e' => ?_, fun j k q zs ws e1 e2 e3 e4 => ?_⟩, fun a z => .inl (ow a z).1⟩
  · rcases getset e' with ⟨rfl, z, e'⟩ | ⟨n, e'⟩
    · cases e'
      refine ⟨_, g1, ?_⟩
      simp only [Rp]
      exact ⟨p, vs, rfl, hide_some.mpr ⟨fun z => z.elim g2 fun z => (ow p z).2 rfl, g3⟩, RpL.mono (hide_less sub) _ _ g4⟩
    · obtain ⟨u, f1, f2⟩ := s.dat j d' e'
      exact ⟨u, f1, Rp.mono (hide_less sub) _ _ f2⟩
  · rcases getset e' with ⟨_, _, z⟩ | ⟨n, e'⟩
    · cases z
    · obtain ⟨q, ws, f1, f2, f3, f4⟩ := s.own j zs e'
      exact ⟨q, ws, f1, f2, f3, RpL.mono (hide_less sub) _ _ f4⟩
  · rcases getset e1 with ⟨_, _, z⟩ | ⟨_, e1⟩
    · cases z
    rcases getset e2 with ⟨_, _, z⟩ | ⟨_, e2⟩
    · cases z
    exact s.inj j k q zs ws e1 e2 e3 e4
end
end DL
end
section
set_option Elab.async false
set_option linter.all false
set_option maxRecDepth 100000
set_option maxHeartbeats 4000000
namespace DL
open PySem PySem.Spec PyProof.Rows L2

/-! ### assignments -/
def asgS {T : Type} (i : Nat) (E : Den T) : DenS T := fun ρ t => bindS (E ρ t) fun d t1 => .nx (ρ.set i (some (.d d))) t1
/-- x = [..], a list of its own -/
def newS {T : Type} (i : Nat) (A : En → T → Out (List Dat) T) : DenS T := fun ρ t => bindS (A ρ t) fun ds t1 => if ds.length ≤ line then .nx (ρ.set i (some (.o ds))) t1 else .no
/-- x.append(e) of a list of its own -/
def appS {T : Type} (i : Nat) (E : Den T) : DenS T := fun ρ t => match ρ[i]? with
  | some (some (.o xs)) => bindS (E ρ t) fun d t1 => if xs.length < line then .nx (ρ.set i (some (.o (xs ++ [d])))) t1 else .no
  | _ => .no
/-- x[j] = e of a list of its own -/
def setS {T : Type} (i : Nat) (j : Nat) (E : Den T) : DenS T := fun ρ t => match ρ[i]? with
  | some (some (.o xs)) => bindS (E ρ t) fun d t1 => if j < xs.length then .nx (ρ.set i (some (.o (xs.set j d)))) t1 else .no
  | _ => .no
/-- the list of its own at i becomes plain data -/
def frzS {T : Type} (i : Nat) (F : DenS T) : DenS T := fun ρ t => match ρ[i]? with
  | some (some (.o xs)) => F (ρ.set i (some (.d (.lst xs)))) t
  | _ => .no
section
variable {T : Type} {X : Cx} {W : WX} {R : Res T} {st : Stmt} {rest body : List Stmt} {F G : DenS T} {E : Den T} {A : En → T → Out (List Dat) T} {e : Expr} {es : List Expr} {pos pos' : Pos} {i j : Nat} {x : Str}
theorem s_set (hN : X.N.Nodup) (hi : X.N[i]? = some x) (hx : Loc X.env.scope x) (he : PE X e (tD X.K W R E)) (hs : swapsWith e (some (.Name x pos')) pos.line X.env = pure false := by rfl) (hf : X.fn x = true ∨ X.env.scope.names.lookup x = some .local := by first | exact .inl rfl | exact .inr rfl | assumption) :
    PS X (.Assign [.Name x pos'] e pos) (tDS X.K W R (asgS i E)) := (ps_set hN hi hx he hs hf).imp fun D σ H q => by
  obtain ⟨ρ, t, s, at_, p⟩ := q
  exact ⟨ρ, t, s, at_, PostS.bind p fun a t1 b H1 k1 a1 r1 p1 => p1 _ H1 (.of .refl) (fun _ z => .inl (ow_set s.len z)) ((s.keep k1).setD r1) a1⟩
theorem s_new {k : Pos} (hN : X.N.Nodup) (hi : X.N[i]? = some x) (hx : Loc X.env.scope x) (ha : PA X es (tDA X.K W R A)) (hs : swapsWith (.List es k) (some (.Name x pos')) pos.line X.env = pure false := by rfl) (hf : X.fn x = true ∨ X.env.scope.names.lookup x = some .local := by first | exact .inl rfl | exact .inr rfl | assumption) :
    PS X (.Assign [.Name x pos'] (.List es k) pos) (tDS X.K W R (newS i A)) := (ps_set hN hi hx (pe_lst ha) hs hf).imp fun D σ H q => by
  obtain ⟨ρ, t, s, at_, p⟩ := q
  refine ⟨ρ, t, s, at_, PostS.bind p fun a t1 b H1 k1 a1 r1 p1 => ?_⟩
  split at p1
  · rename_i hz
    refine ⟨by rw [RpL.len r1, line_eq]; exact hz, fun c nc => ?_⟩
    obtain ⟨s2, o2⟩ := (s.keep k1).setO (i := i) ((s.keep k1).dom a1) nc r1
    exact p1 _ _ (fun a o _ _ e => same_new nc a o e) o2 s2 (at_same a1 (same_new nc))
  · exact p1.elim
/-- x = list(e), a list of its own -/
def newL {T : Type} (i : Nat) (A : En → T → Out (List Dat) T) : DenS T := fun ρ t => bindS (A ρ t) fun ds t1 => match ds with
  | [.lst xs] => .nx (ρ.set i (some (.o xs))) t1
  | [.tup xs] => .nx (ρ.set i (some (.o xs))) t1
  | _ => .no
theorem s_newL {k k2 : Pos} (hN : X.N.Nodup) (hi : X.N[i]? = some x) (hx : Loc X.env.scope x) (gl : Gl X "list") (hm : X.mg "list" = none) (ha : PA X [e] (tDA X.K W R A)) (hse : starEach [e] X.env = [(false, eval e X.env)] := by rfl) (hs : swapsWith (.Call (.Name "list" k2) [e] [] k) (some (.Name x pos')) pos.line X.env = pure false := by rfl) (hf : X.fn x = true ∨ X.env.scope.names.lookup x = some .local := by first | exact .inl rfl | exact .inr rfl | assumption) :
    PS X (.Assign [.Name x pos'] (.Call (.Name "list" k2) [e] [] k) pos) (tDS X.K W R (newL i A)) := (ps_set hN hi hx (pe_callTy call_list_of gl hm (by decide +kernel) ha (by decide) (by decide) hse rfl) hs hf).imp fun D σ H q => by
  obtain ⟨ρ, t, s, at_, p⟩ := q
  refine ⟨ρ, t, s, at_, PostS.bind p fun a t1 vs H1 k1 a1 r1 p1 => ?_⟩
  have s1 := s.keep k1
  have fin : ∀ (xs : List Dat) (ys : List V), RpL X.K R.hd (hide (Hid R σ ρ) H1) xs ys → PostS X.K W R σ ρ H1 (.nx (ρ.set i (some (.o xs))) t1) D → ∀ l, H1 l = none → D.nx (σ.set i (some (.ref l))) (upd H1 l (.lst ys)) := fun xs ys r2 p2 l nl => by
    obtain ⟨s2, o2⟩ := s1.setO (i := i) (s1.dom a1) nl r2
    exact p2 _ _ (fun a o _ _ e => same_new nl a o e) o2 s2 (at_same a1 (same_new nl))
  split at p1
  · obtain ⟨v, rfl, r2⟩ := uncons1 r1
    simp only [Rp] at r2
    obtain ⟨a, ys, rfl, e1, e2⟩ := r2
    exact ⟨a, ys, rfl, .inl (.of (hide_sub _ _ e1)), fin _ _ e2 p1⟩
  · obtain ⟨v, rfl, r2⟩ := uncons1 r1
    simp only [Rp] at r2
    obtain ⟨a, ys, rfl, e1, e2⟩ := r2
    exact ⟨a, ys, rfl, .inr (same_sqT hide_sub e1), fin _ _ e2 p1⟩
  · exact p1.elim
theorem s_app {k k2 k3 : Pos} (h : PE X (.Name x k) (tVar i)) (he : PE X e (tD X.K W R E)) (hb : attributeBase (.Name x k) "append" X.env (eval (.Name x k) X.env) = eval (.Name x k) X.env := by rfl) (hse : starEach [e] X.env = [(false, eval e X.env)] := by rfl)
    (hpe : ∀ {to te : TE}, PE X (.Name x k) to → PA X [e] (tCons te tNil) → PE X (.Call (.Attribute (.Name x k) "append" k2) [e] [] k3) (tBM X.K "list" rAppend to (tCons te tNil)) := by exact fun a b => pe_bm PySem.F.plainAttrs_list PySem.F.slot_list_append PySem.F.type_list_append mt_append a b)
    (hs : swapsWith (.Call (.Attribute (.Name x k) "append" k2) [e] [] k3) none pos.line X.env = pure false := by rfl) :
    PS X (.Expr (.Call (.Attribute (.Name x k) "append" k2) [e] [] k3) pos) (tDS X.K W R (appS i E)) := (ps_expr (hpe h (pa_cons he pa_nil hse)) hs).imp fun D σ H q => by
  obtain ⟨ρ, t, s, at_, p⟩ := q
  unfold appS at p
  split at p
  · rename_i xs e1
    obtain ⟨l, vs, f1, f2, f3, f4⟩ := s.own i xs e1
    refine ⟨.ref l, f1, .inl ⟨rfl, _, .inl (.inl f3)⟩, ρ, t, s, at_, PostS.bind p fun a t1 v H1 k1 a1 r1 p1 => ?_⟩
    split at p1
    · rename_i hz
      have s1 := s.keep k1
      obtain ⟨l', vs', g1, g2, g3, g4⟩ := s1.own i xs e1
      rw [f1] at g1
      cases g1
      obtain ⟨s2, o2, st, at2⟩ := s1.chg e1 f1 (g4.append (RpL.cons r1 RpL.nil))
      refine ⟨l, vs', v, rfl, rfl, g3, by rw [g4.len, line_eq]; exact hz, ?_⟩
      exact p1 _ _ st o2 s2 (at2 _ a1)
    · exact p1.elim
  · exact p.elim
theorem s_setL {k k2 : Pos} {jc : Nat} (h : PE X (.Name x k) (tVar i)) (he : PE X e (tD X.K W R E)) (hs : swapsWithSole [.Subscript (.Name x k) (.Constant (.int (j : Int)) jc k2) pos'] e pos.line X.env = pure false := by rfl)
    (hw : swappedStores [.Subscript (.Name x k) (.Constant (.int (j : Int)) jc k2) pos'] e X.env = pure none := by rfl) :
    PS X (.Assign [.Subscript (.Name x k) (.Constant (.int (j : Int)) jc k2) pos'] e pos) (tDS X.K W R (setS i j E)) := (ps_asg he (pg_sub h pe_int set_list) hs hw).imp fun D σ H q => by
  obtain ⟨ρ, t, s, at_, p⟩ := q
  unfold setS at p
  split at p
  · rename_i xs e1
    obtain ⟨l, vs, f1, f2, f3, f4⟩ := s.own i xs e1
    refine ⟨ρ, t, s, at_, PostS.bind p fun a t1 v H1 k1 a1 r1 p1 => ?_⟩
    split at p1
    · rename_i hz
      have s1 := s.keep k1
      obtain ⟨l', vs', g1, g2, g3, g4⟩ := s1.own i xs e1
      rw [f1] at g1
      cases g1
      obtain ⟨s2, o2, st, at2⟩ := s1.chg e1 f1 (g4.set j r1)
      refine ⟨.ref l, f1, l, vs', (j : Int), j, rfl, rfl, g3, ?_, ?_⟩
      · unfold ixN
        have := g4.len
        rw [if_pos (Int.natCast_nonneg j), if_pos (by omega), Int.toNat_natCast]
      · exact p1 _ _ st o2 s2 (at2 _ a1)
    · exact p1.elim
  · exact p.elim
theorem ss_frz (h : PSs X rest (tDS X.K W R F)) : PSs X rest (tDS X.K W R (frzS i F)) := h.imp fun D σ H q => by
  obtain ⟨ρ, t, s, at_, p⟩ := q
  unfold frzS at p
  split at p
  · rename_i xs e1
    obtain ⟨s2, o2⟩ := s.freeze e1
    exact ⟨_, t, s2, at_, p.shift at_ (.of .refl) o2⟩
  · exact p.elim
end

/-! ### targets -/
theorem wipe_set (σ : L2.St) (j : Nat) (x : Option V) : ∀ {vs : List Nat}, j ∈ vs → wipe (σ.set j x) vs = wipe σ vs
  | v :: vs, h => by
    show (wipe (σ.set j x) vs).set v none = (wipe σ vs).set v none
    by_cases e : j ∈ vs
    · rw [wipe_set σ j x e]
    · have : j = v := (List.mem_cons.mp h).resolve_right e
      subst this
      have out : ∀ vs : List Nat, j ∉ vs → wipe (σ.set j x) vs = (wipe σ vs).set j x := fun vs => by
        induction vs with
        | nil => exact fun _ => rfl
        | cons w ws ih =>
          intro n
          have n1 : j ≠ w := fun z => n (z ▸ List.mem_cons_self ..)
          show (wipe (σ.set j x) ws).set w none = ((wipe σ ws).set w none).set j x
          rw [ih fun z => n (List.mem_cons_of_mem _ z), List.set_comm _ _ n1]
      rw [out vs e, List.set_set]
theorem wipe_wipe (σ : L2.St) (vs : List Nat) : wipe (wipe σ vs) vs = wipe σ vs := by
  have gen : ∀ ws : List Nat, (∀ w ∈ ws, w ∈ vs) → wipe (wipe σ ws) vs = wipe σ vs := fun ws => by
    induction ws with
    | nil => exact fun _ => rfl
    | cons w ws ih =>
      intro h
      show wipe ((wipe σ ws).set w none) vs = wipe σ vs
      rw [wipe_set _ _ _ (h w (List.mem_cons_self ..))]
      exact ih fun z hz => h z (List.mem_cons_of_mem _ hz)
  exact gen vs fun _ h => h
structure TgD (K : PySem.W.Frag) (vs : List Nat) (g : TG) (put : Dat → En → Option En) : Prop where
  ok : ∀ {T : Type} (R : Res T) (d : Dat) (v : V) (σ : L2.St) (ρ ρ1 : En) (H : Hp) (Q : L2.St → Hp → Prop), put d ρ = some ρ1 → RpS K R σ ρ H → Rp K R.hd (hide (Hid R σ ρ) H) d v →
    (∀ σ1, RpS K R σ1 ρ1 H → (∀ a, Ow σ1 ρ1 a ↔ Ow σ ρ a) → wipe σ1 vs = wipe σ vs → Q σ1 H) → g v σ H Q
structure TgsD (K : PySem.W.Frag) (vs : List Nat) (g : TGs) (n : Nat) (put : List Dat → En → Option En) : Prop where
  len : ∀ ds ρ ρ1, put ds ρ = some ρ1 → ds.length = n
  ok : ∀ {T : Type} (R : Res T) (ds : List Dat) (us : List V) (σ : L2.St) (ρ ρ1 : En) (H : Hp) (Q : L2.St → Hp → Prop), put ds ρ = some ρ1 → RpS K R σ ρ H → RpL K R.hd (hide (Hid R σ ρ) H) ds us →
    (∀ σ1, RpS K R σ1 ρ1 H → (∀ a, Ow σ1 ρ1 a ↔ Ow σ ρ a) → wipe σ1 vs = wipe σ vs → Q σ1 H) → g us σ H Q
def notOwn (ρ : En) (i : Nat) : Bool := match ρ[i]? with
  | some (some (.o _)) => false
  | _ => true
def putN (i : Nat) : Dat → En → Option En := fun d ρ => if notOwn ρ i then some (ρ.set i (some (.d d))) else none
def putNil : List Dat → En → Option En
  | [], ρ => some ρ
  | _, _ => none
def putC (p : Dat → En → Option En) (q : List Dat → En → Option En) : List Dat → En → Option En
  | d :: ds, ρ => (p d ρ).bind (q ds)
  | _, _ => none
def putT (q : List Dat → En → Option En) : Dat → En → Option En
  | .tup ds, ρ => q ds ρ
  | _, _ => none
theorem ow_keep {σ : L2.St} {ρ : En} {i : Nat} {v : Option V} {d : Dat} (l : ρ.length = σ.length) (n : notOwn ρ i = true) (a : Addr) : Ow (σ.set i v) (ρ.set i (some (.d d))) a ↔ Ow σ ρ a := by
  refine ⟨ow_set l, fun ⟨j, xs, e1, e2⟩ => ?_⟩
  have ne : j ≠ i := fun z => by
    subst z
    unfold notOwn at n
    rw [e1] at n
    cases n
  exact ⟨j, xs, by rw [List.getElem?_set_ne (Ne.symm ne)]; exact e1, by rw [List.getElem?_set_ne (Ne.symm ne)]; exact e2⟩
theorem g_name (K : PySem.W.Frag) {vs : List Nat} (i : Nat) (hi : i ∈ vs := by decide) : TgD K vs (gName i) (putN i) := ⟨fun R d v σ ρ ρ1 H Q e s r q => by
  unfold putN at e
  split at e
  · rename_i n
    cases e
    exact q _ (s.setD r) (fun a => ow_keep s.len n a) (wipe_set σ i _ hi)
  · cases e⟩
theorem g_nil (K : PySem.W.Frag) {vs : List Nat} : TgsD K vs gNil 0 putNil := ⟨fun ds ρ ρ1 e => (by cases ds <;> first | rfl | cases e), fun R ds us σ ρ ρ1 H Q e s r q => by
  cases ds with
  | nil =>
    cases e
    simp only [RpL] at r
    exact ⟨r, q σ s (fun _ => .rfl) rfl⟩
  | cons _ _ => cases e⟩
theorem g_cons {K : PySem.W.Frag} {vs : List Nat} {g : TG} {gs : TGs} {p : Dat → En → Option En} {q : List Dat → En → Option En} {n : Nat} (h1 : TgD K vs g p) (h2 : TgsD K vs gs n q) : TgsD K vs (gCons g gs) (n + 1) (putC p q) := ⟨fun ds ρ ρ1 e => by
  cases ds with
  | nil => cases e
  | cons d ds =>
    simp only [putC] at e
    cases e1 : p d ρ with
    | none =>
      rw [e1] at e
      cases e
    | some ρ' =>
      rw [e1] at e
      rw [List.length_cons, h2.len ds ρ' ρ1 e], fun R ds us σ ρ ρ1 H Q e s r k => by
  cases ds with
  | nil => cases e
  | cons d ds =>
    simp only [putC] at e
    cases e1 : p d ρ with
    | none =>
      rw [e1] at e
      cases e
    | some ρ' =>
      rw [e1] at e
      obtain ⟨v, u, rfl, r1, r2⟩ := r.uncons
      refine ⟨v, u, rfl, h1.ok R d v σ ρ ρ' H _ e1 s r1 fun σ1 s1 o1 w1 => ?_⟩
      have hs : Same (hide (Hid R σ ρ) H) (hide (Hid R σ1 ρ') H) := hide_less fun a z => z.imp id (o1 a).mp
      exact h2.ok R ds u σ1 ρ' ρ1 H _ e s1 (RpL.mono hs _ _ r2) fun σ2 s2 o2 w2 => k σ2 s2 (fun a => (o2 a).trans (o1 a)) (w2.trans w1)⟩
theorem g_tup {K : PySem.W.Frag} {vs : List Nat} {gs : TGs} {q : List Dat → En → Option En} {n : Nat} (h : TgsD K vs gs n q) : TgD K vs (gTup K n gs) (putT q) := ⟨fun R d v σ ρ ρ1 H Q e s r k => by
  cases d with
  | tup ds =>
    simp only [Rp] at r
    obtain ⟨a, xs, rfl, r1, r2⟩ := r
    exact ⟨a, xs, rfl, same_sqT hide_sub r1, by rw [r2.len]; exact h.len ds ρ ρ1 e, h.ok R ds xs σ ρ ρ1 H Q e s r2 k⟩
  | _ => cases e⟩
/-- target = e -/
def asgT {T : Type} (put : Dat → En → Option En) (E : Den T) : DenS T := fun ρ t => bindS (E ρ t) fun d t1 => match put d ρ with
  | some ρ1 => .nx ρ1 t1
  | none => .no
theorem s_asg {T : Type} {X : Cx} {W : WX} {R : Res T} {E : Den T} {tg e : Expr} {pos : Pos} {g : TG} {vs : List Nat} {put : Dat → En → Option En} (he : PE X e (tD X.K W R E)) (hg : PG X tg g) (ht : TgD X.K vs g put) (hs : swapsWithSole [tg] e pos.line X.env = pure false := by rfl) (hw : swappedStores [tg] e X.env = pure none := by rfl) (h1 : (assignEach [tg] X.env).map (·.2) = [assign tg X.env] := by rfl) :
    PS X (.Assign [tg] e pos) (tDS X.K W R (asgT put E)) := (ps_asg he hg hs hw h1).imp fun D σ H q => by
  obtain ⟨ρ, t, s, at_, p⟩ := q
  refine ⟨ρ, t, s, at_, PostS.bind p fun a t1 v H1 k1 a1 r1 p1 => ?_⟩
  cases e1 : put a ρ with
  | none =>
    rw [e1] at p1
    exact p1.elim
  | some ρ1 =>
    rw [e1] at p1
    exact ht.ok R a v σ ρ ρ1 H1 _ e1 (s.keep k1) r1 fun σ1 s1 o1 _ => p1 σ1 H1 (.of .refl) (fun b z => .inl ((o1 b).mp z)) s1 a1
/-- x, y = a, b -/
def parS {T : Type} (i j : Nat) (A : En → T → Out (List Dat) T) : DenS T := fun ρ t => bindS (A ρ t) fun ds t1 => match ds with
  | [a, b] => .nx ((ρ.set i (some (.d a))).set j (some (.d b))) t1
  | _ => .no
theorem t_par {T : Type} {X : Cx} {W : WX} {R : Res T} {A : En → T → Out (List Dat) T} {i j : Nat} {D : Ends} {σ : L2.St} {H : Hp} (q : tDS X.K W R (parS i j A) D σ H) : tPar i j (tDA X.K W R A) D σ H := by
  obtain ⟨ρ, t, s, at_, p⟩ := q
  refine ⟨ρ, t, s, at_, PostS.bind p fun ds t1 vs H1 k1 a1 r1 p1 => ?_⟩
  split at p1
  · rename_i da db
    obtain ⟨v, w, rfl, r2, r3⟩ := uncons2 r1
    have s1 := s.keep k1
    have s2 := s1.setD (i := i) r2
    have sub : ∀ a, Hid R (σ.set i (some v)) (ρ.set i (some (.d da))) a → Hid R σ ρ a := fun a z => z.imp id (ow_set s1.len)
    have sup : ∀ a, Hid R σ ρ a → Hid R σ ρ a := fun a z => z
    have s3 := s2.setD (i := j) (Rp.mono (hide_less sub) _ _ r3)
    exact ⟨v, w, rfl, p1 _ _ (.of .refl) (fun _ z => .inl (ow_set s1.len (ow_set s2.len z))) s3 a1⟩
  · exact p1.elim
end DL
end
section
set_option Elab.async false
set_option linter.all false
set_option maxRecDepth 100000
set_option maxHeartbeats 4000000
namespace DL
open PySem PySem.Spec PyProof.Rows L2

/-! ### what is walked -/
/-- an iterator that gives ds, whatever grows -/
def YldD (K : PySem.W.Frag) (hd : Option Addr) (S0 : Hp) (ds : List Dat) (J : It) : Prop := ∀ (G : Addr → Prop) (H : Hp), (∀ a, G a → ∃ o, H a = some o) → Same S0 (hide G H) →
  (∀ i d, ds[i]? = some d → J.go i H ∧ ∀ x H2, J.yld i H x H2 → Same H H2 ∧ Rp K hd (hide G H2) d x) ∧ J.stop ds.length H
def tDI {T : Type} (K : PySem.W.Frag) (W : WX) (R : Res T) (F : En → T → Out (List Dat) T) : TI := tDX (fun h H ds J => YldD K h H ds J) K W R F
theorem _root_.L2.PI.imp {X : Cx} {tg e : Expr} {t t' : TI} (h : PI X tg e t) (i : ∀ σ H Q, t' σ H Q → t σ H Q) : PI X tg e t' := ⟨fun pins s σ H Q I q => h.run pins s σ H Q I (i _ _ _ q)⟩
theorem yld_list {K : PySem.W.Frag} {hd : Option Addr} {S0 : Hp} {ds : List Dat} {a : Addr} {xs : List V} (e : S0 a = some (.lst xs)) (r : RpL K hd S0 ds xs) : YldD K hd S0 ds (Itl K a) := fun G H hG sm => by
  have ea : SqL K H a xs := .of (hide_sub _ _ (sm _ _ e))
  have r' := RpL.mono sm _ _ r
  refine ⟨fun i d h => ?_, ⟨xs, ea, Nat.le_of_eq r.len⟩⟩
  obtain ⟨v, f1, f2⟩ := r'.at_ h
  refine ⟨⟨xs, v, ea, f1⟩, fun x H2 y => ?_⟩
  obtain ⟨rfl, y⟩ := y
  have z := y xs ea
  rw [f1] at z
  cases z
  exact ⟨Same.refl _, f2⟩
theorem yld_rol {K : PySem.W.Frag} {hd : Option Addr} {S0 : Hp} {ds : List Dat} {a : Addr} {xs : List V} (e : SqL K S0 a xs) (r : RpL K hd S0 ds xs) : YldD K hd S0 ds (Itl K a) := fun G H hG sm => by
  have ea : SqL K H a xs := Same.seq hide_sub (Same.seq sm e)
  have r' := RpL.mono sm _ _ r
  refine ⟨fun i d h => ?_, ⟨xs, ea, Nat.le_of_eq r.len⟩⟩
  obtain ⟨v, f1, f2⟩ := r'.at_ h
  refine ⟨⟨xs, v, ea, f1⟩, fun x H2 y => ?_⟩
  obtain ⟨rfl, y⟩ := y
  have z := y xs ea
  rw [f1] at z
  cases z
  exact ⟨Same.refl _, f2⟩
theorem yld_tup {K : PySem.W.Frag} {hd : Option Addr} {S0 : Hp} {ds : List Dat} {a : Addr} {xs : List V} (e : SqT K S0 a xs) (r : RpL K hd S0 ds xs) : YldD K hd S0 ds (Itt K a) := fun G H hG sm => by
  have ea : SqT K H a xs := same_sqT hide_sub (same_sqT sm e)
  have r' := RpL.mono sm _ _ r
  refine ⟨fun i d h => ?_, ⟨xs, ea, Nat.le_of_eq r.len⟩⟩
  obtain ⟨v, f1, f2⟩ := r'.at_ h
  refine ⟨⟨xs, v, ea, f1⟩, fun x H2 y => ?_⟩
  obtain ⟨rfl, y⟩ := y
  have z := y xs ea
  rw [f1] at z
  cases z
  exact ⟨Same.refl _, f2⟩
def rngD (lo : Int) (n : Nat) : List Dat := (List.range n).map fun (i : Nat) => .int (lo + (i : Int))
theorem yld_rng {K : PySem.W.Frag} {hd : Option Addr} {S0 : Hp} (lo : Int) (n : Nat) : YldD K hd S0 (rngD lo n) (Itr lo n) := fun G H hG sm => by
  refine ⟨fun i d h => ?_, by show n ≤ _; simp [rngD]⟩
  have hi : i < n := by
    have := (List.getElem?_eq_some_iff.mp h).1
    simpa [rngD] using this
  have e : d = .int (lo + i) := by
    unfold rngD at h
    rw [List.getElem?_map, List.getElem?_range hi] at h
    exact (Option.some.inj h).symm
  subst e
  refine ⟨hi, fun x H2 y => ?_⟩
  obtain ⟨rfl, rfl⟩ := y
  exact ⟨Same.refl _, by simp only [Rp]⟩
def sgnD (x : List Nat) : List Dat := x.map fun c => .str [c]
theorem yld_str {K : PySem.W.Frag} {hd : Option Addr} {S0 : Hp} (x : List Nat) : YldD K hd S0 (sgnD x) (Its ⟨x.toArray⟩) := fun G H hG sm => by
  refine ⟨fun i d h => ?_, by show _ ≤ _; simp [sgnD]⟩
  have hi : i < x.length := by
    have := (List.getElem?_eq_some_iff.mp h).1
    simpa [sgnD] using this
  have e : d = .str [x[i]] := by
    unfold sgnD at h
    rw [List.getElem?_map, List.getElem?_eq_getElem hi] at h
    exact (Option.some.inj h).symm
  subst e
  refine ⟨by show i < _; simpa using hi, fun v H2 y => ?_⟩
  obtain ⟨rfl, c, ec, rfl⟩ := y
  have : c = x[i] := by
    simp [List.getElem?_eq_getElem hi] at ec
    exact ec.symm
  subst this
  exact ⟨Same.refl _, by simp only [Rp]⟩
/-- the pairs (place, item) -/
def numD (ds : List Dat) : List Dat := ds.mapIdx fun i d => .tup [.int (i : Int), d]
theorem yld_enum {K : PySem.W.Frag} {hd : Option Addr} {S0 : Hp} {ds : List Dat} {a : Addr} {xs : List V} (e : SqL K S0 a xs) (r : RpL K hd S0 ds xs) : YldD K hd S0 (numD ds) (Ite K a) := fun G H hG sm => by
  have ea : SqL K H a xs := Same.seq hide_sub (Same.seq sm e)
  have r' := RpL.mono sm _ _ r
  refine ⟨fun i d h => ?_, ⟨xs, ea, by rw [r.len]; simp [numD]⟩⟩
  have hi : i < ds.length := by
    have := (List.getElem?_eq_some_iff.mp h).1
    simpa [numD] using this
  have ed : d = .tup [.int (i : Int), ds[i]] := by
    unfold numD at h
    rw [List.getElem?_mapIdx, List.getElem?_eq_getElem hi] at h
    exact (Option.some.inj h).symm
  subst ed
  obtain ⟨v, f1, f2⟩ := r'.at_ (List.getElem?_eq_getElem hi)
  refine ⟨⟨xs, v, ea, f1⟩, fun x H2 y => ?_⟩
  obtain ⟨p, w, rfl, np, rfl, y⟩ := y
  have z := y xs ea
  rw [f1] at z
  cases z
  exact ⟨same_new np, rp_newT hG np (RpL.cons (by simp only [Rp]) (RpL.cons f2 RpL.nil))⟩

/-- the items of data that is walked -/
def itmS {T : Type} (g : Dat → Option (List Dat)) (F : Den T) : En → T → Out (List Dat) T := fun ρ t => (F ρ t).bind fun x t1 => .lift (g x) t1
def itmL : Dat → Option (List Dat)
  | .lst ds => some ds
  | .rol ds => some ds
  | _ => none
def itmT : Dat → Option (List Dat)
  | .tup ds => some ds
  | _ => none
def itmC : Dat → Option (List Dat)
  | .str x => some (sgnD x)
  | _ => none
def itmR1 {T : Type} (A : En → T → Out (List Dat) T) : En → T → Out (List Dat) T := fun ρ t => (A ρ t).bind fun ds t1 => match ds with
  | [.int n] => if -(2 ^ 62) ≤ n ∧ n < 2 ^ 62 then .ok (rngD 0 n.toNat) t1 else .no
  | _ => .no
def itmR2 {T : Type} (A : En → T → Out (List Dat) T) : En → T → Out (List Dat) T := fun ρ t => (A ρ t).bind fun ds t1 => match ds with
  | [.int m, .int n] => if -(2 ^ 62) ≤ m ∧ m < 2 ^ 62 ∧ -(2 ^ 62) ≤ n ∧ n < 2 ^ 62 then .ok (rngD m (n - m).toNat) t1 else .no
  | _ => .no
def itmE {T : Type} (A : En → T → Out (List Dat) T) : En → T → Out (List Dat) T := fun ρ t => (A ρ t).bind fun ds t1 => match ds with
  | [.lst ds] => .ok (numD ds) t1
  | _ => .no
section
variable {T : Type} {X : Cx} {W : WX} {R : Res T} {tg e : Expr} {F : Den T} {A : En → T → Out (List Dat) T} {pos p : Pos}
theorem i_list (he : PE X e (tD X.K W R F)) : PI X tg e (tDI X.K W R (itmS itmL F)) := (pi_list he).imp fun σ H Q q => by
  obtain ⟨ρ, t, s, at_, p⟩ := q
  refine ⟨ρ, t, s, at_, Post.bind p fun x t1 v H1 _ k1 at1 r1 p1 => ?_⟩
  cases x <;> first | exact p1.elim | skip
  · simp only [Rp] at r1
    obtain ⟨a, xs, rfl, e1, e2⟩ := r1
    exact ⟨a, rfl, ⟨xs, .of (hide_sub _ _ e1)⟩, p1.ok .refl at1 (yld_list e1 e2)⟩
  · simp only [Rp] at r1
    obtain ⟨a, xs, rfl, e1, e2⟩ := r1
    exact ⟨a, rfl, ⟨xs, Same.seq hide_sub e1⟩, p1.ok .refl at1 (yld_rol e1 e2)⟩
theorem i_tup (he : PE X e (tD X.K W R F)) : PI X tg e (tDI X.K W R (itmS itmT F)) := (pi_tup he).imp fun σ H Q q => by
  obtain ⟨ρ, t, s, at_, p⟩ := q
  refine ⟨ρ, t, s, at_, Post.bind p fun x t1 v H1 _ k1 at1 r1 p1 => ?_⟩
  cases x <;> first | exact p1.elim | skip
  simp only [Rp] at r1
  obtain ⟨a, xs, rfl, e1, e2⟩ := r1
  exact ⟨a, rfl, ⟨xs, same_sqT hide_sub e1⟩, p1.ok .refl at1 (yld_tup e1 e2)⟩
theorem i_str (he : PE X e (tD X.K W R F)) : PI X tg e (tDI X.K W R (itmS itmC F)) := (pi_str he).imp fun σ H Q q => by
  obtain ⟨ρ, t, s, at_, p⟩ := q
  refine ⟨ρ, t, s, at_, Post.bind p fun x t1 v H1 _ k1 at1 r1 p1 => ?_⟩
  cases x <;> first | exact p1.elim | skip
  simp only [Rp] at r1
  subst r1
  exact ⟨_, rfl, p1.ok .refl at1 (yld_str _)⟩
theorem i_range {a : Expr} (gl : Gl X "range") (hm : X.mg "range" = none) (ha : PA X [a] (tDA X.K W R A)) (hs : starEach [a] X.env = [(false, eval a X.env)] := by rfl) : PI X tg (.Call (.Name "range" p) [a] [] pos) (tDI X.K W R (itmR1 A)) := (pi_range1 gl hm ha hs).imp fun σ H Q q => by
  obtain ⟨ρ, t, s, at_, p⟩ := q
  refine ⟨ρ, t, s, at_, Post.bind p fun ds t1 vs H1 _ k1 at1 r1 p1 => ?_⟩
  split at p1
  · split at p1
    · rename_i c
      obtain ⟨v, rfl, r2⟩ := uncons1 r1
      simp only [Rp] at r2
      subst r2
      exact ⟨_, rfl, c.1, c.2, p1.ok .refl at1 (yld_rng 0 _)⟩
    · exact p1.elim
  · exact p1.elim
theorem i_range2 {a b : Expr} (gl : Gl X "range") (hm : X.mg "range" = none) (ha : PA X [a, b] (tDA X.K W R A)) (hs : starEach [a, b] X.env = [(false, eval a X.env), (false, eval b X.env)] := by rfl) (hs2 : starEach [b] X.env = [(false, eval b X.env)] := by rfl) :
    PI X tg (.Call (.Name "range" p) [a, b] [] pos) (tDI X.K W R (itmR2 A)) := (pi_range2 gl hm ha hs hs2).imp fun σ H Q q => by
  obtain ⟨ρ, t, s, at_, p⟩ := q
  refine ⟨ρ, t, s, at_, Post.bind p fun ds t1 vs H1 _ k1 at1 r1 p1 => ?_⟩
  split at p1
  · split at p1
    · rename_i c
      obtain ⟨v, w, rfl, r2, r3⟩ := uncons2 r1
      simp only [Rp] at r2 r3
      subst r2 r3
      exact ⟨_, _, rfl, c, p1.ok .refl at1 (yld_rng _ _)⟩
    · exact p1.elim
  · exact p1.elim
theorem i_enum {elts : List Expr} {kk : Nat} {tpos : Pos} (gl : Gl X "enumerate") (hm : X.mg "enumerate" = none) (ha : PA X [e] (tDA X.K W R A)) (hs : starEach [e] X.env = [(false, eval e X.env)] := by rfl) :
    PI X (.Tuple elts kk tpos) (.Call (.Name "enumerate" p) [e] [] pos) (tDI X.K W R (itmE A)) := (pi_enum gl hm ha hs).imp fun σ H Q q => by
  obtain ⟨ρ, t, s, at_, p⟩ := q
  refine ⟨ρ, t, s, at_, Post.bind p fun ds t1 vs H1 _ k1 at1 r1 p1 => ?_⟩
  split at p1
  · obtain ⟨v, rfl, r2⟩ := uncons1 r1
    simp only [Rp] at r2
    obtain ⟨a, xs, rfl, e1, e2⟩ := r2
    exact ⟨a, xs, rfl, .of (hide_sub _ _ e1), p1.ok .refl at1 (yld_enum (.of e1) e2)⟩
  · exact p1.elim
end

/-! ### for -/
def forS {T : Type} (put : Dat → En → Option En) (body : DenS T) : List Dat → DenS T
  | [], ρ, t => .nx ρ t
  | d :: ds, ρ, t => match put d ρ with
    | none => .no
    | some ρ1 => match body ρ1 t with
      | .nx ρ2 t2 => forS put body ds ρ2 t2
      | .ct ρ2 t2 => forS put body ds ρ2 t2
      | .bk ρ2 t2 => .nx ρ2 t2
      | .rt d t2 => .rt d t2
      | .ex C fs xs t2 => .ex C fs xs t2
      | .no => .no
def loopS {T : Type} (put : Dat → En → Option En) (I : En → T → Out (List Dat) T) (body : DenS T) : DenS T := fun ρ t => bindS (I ρ t) fun ds t1 => forS put body ds ρ t1
section
variable {T : Type} {X : Cx} {W : WX} {R : Res T} {tg e : Expr} {I : En → T → Out (List Dat) T} {F : DenS T} {pos : Pos} {g : TG} {vs : List Nat} {put : Dat → En → Option En} {body : List Stmt}
theorem drop_at {α : Type} {l : List α} {i : Nat} {x : α} {r : List α} (h : l.drop i = x :: r) : l[i]? = some x ∧ l.drop (i + 1) = r ∧ i < l.length := by
  have e : (l.drop i)[0]? = some x := by rw [h]; rfl
  rw [List.getElem?_drop, Nat.add_zero] at e
  refine ⟨e, ?_, (List.getElem?_eq_some_iff.mp e).1⟩
  have e2 : (l.drop i).drop 1 = r := by rw [h]; rfl
  rw [List.drop_drop] at e2
  exact e2
theorem s_for (hp : PassesOwn (model X.prog X.w) X.A X.env X.xe) (hc : X.calm = true) (hi : PI X tg e (tDI X.K W R I)) (hg : PG X tg g) (ht : TgD X.K vs g put) (hb : PSs X body (tDS X.K W R F)) (hs : ∀ x, foldedSetIterable e X.env x = pure x := by intro _; rfl) :
    PS X (.For tg e body [] pos) (tDS X.K W R (loopS put I F)) := (ps_for hp hc hi hg hb hs).imp fun D σ H q => by
  obtain ⟨ρ, t, s, at_, p⟩ := q
  refine ⟨ρ, t, s, at_, PostS.bind p fun ds t1 J H1 k1 a1 yl p1 => ?_⟩
  have s1 := s.keep k1
  have dm1 := s1.dom a1
  refine ⟨fun i m σ' H' => m = ds.length - i ∧ i ≤ ds.length ∧ ∃ (ρ' : En) (t' : T), RpS X.K R σ' ρ' H' ∧ R.At H' t' ∧ StepX R.fp (Ow σ ρ) H1 H' ∧ OwnX (Ow σ ρ) (Ow σ' ρ') H1 ∧ PostS X.K W R σ' ρ' H' (forS put F (ds.drop i) ρ' t') D,
    ⟨ds.length, by simp, Nat.zero_le _, ρ, t1, s1, a1, .of .refl, fun _ z => .inl z, p1⟩, ?_⟩
  rintro i m σ' H' ⟨rfl, hi, ρ', t', s2, a2, st, ow, p2⟩
  -- what was there at the start is there, and not hidden
  have sm : Same (hide (Hid R σ ρ) H1) (hide (Hid R σ' ρ') H') := fun a o e => by
    obtain ⟨n, e⟩ := hide_some.mp e
    have n1 : ¬ R.fp a := fun z => n (.inl z)
    have n2 : ¬ Ow σ ρ a := fun z => n (.inr z)
    refine hide_some.mpr ⟨fun z => ?_, st a o n1 n2 e⟩
    rcases z with z | z
    · exact n1 z
    · rcases ow a z with z | z
      · exact n2 z
      · rw [e] at z
        cases z
  obtain ⟨go, stop⟩ := yl (Hid R σ' ρ') H' (s2.dom a2) sm
  cases hd : ds.drop i with
  | nil =>
    have hl : i = ds.length := by
      have := List.drop_eq_nil_iff.mp hd
      omega
    subst hl
    rw [hd] at p2
    exact .inl ⟨stop, p2 σ' H' (.of .refl) (fun _ z => .inl z) s2 a2⟩
  | cons d r =>
    obtain ⟨e1, e2, e3⟩ := drop_at hd
    obtain ⟨g1, g2⟩ := go i d e1
    rw [hd] at p2
    simp only [forS] at p2
    refine .inr ⟨g1, fun σ'' H'' => ∃ (ρ' : En) (t' : T), RpS X.K R σ'' ρ' H'' ∧ R.At H'' t' ∧ StepX R.fp (Ow σ ρ) H1 H'' ∧ OwnX (Ow σ ρ) (Ow σ'' ρ') H1 ∧ PostS X.K W R σ'' ρ' H'' (forS put F (ds.drop (i + 1)) ρ' t') D,
      fun σ'' H'' h => ⟨ds.length - (i + 1), by omega, rfl, by omega, h⟩, fun x H2 y => ?_⟩
    obtain ⟨sm2, rx⟩ := g2 x H2 y
    have a3 := at_same (R := R) a2 sm2
    have s3 := s2.keep (.of sm2)
    cases e4 : put d ρ' with
    | none =>
      rw [e4] at p2
      exact p2.elim
    | some ρ1 =>
      rw [e4] at p2
      refine ht.ok R d x σ' ρ' ρ1 H2 _ e4 s3 rx fun σ1 s4 o4 _ => ⟨ρ1, t', s4, a3, ?_⟩
      have st2 : StepX R.fp (Ow σ ρ) H1 H2 := fun a o n m e => sm2 a o (st a o n m e)
      have ow2 : OwnX (Ow σ ρ) (Ow σ1 ρ1) H1 := fun a z => ow a ((o4 a).mp z)
      have p3 := p2.shift (σ1 := σ1) (ρ1 := ρ1) a3 (.of (.of sm2)) fun a z => .inl ((o4 a).mp z)
      simp only [] at p3
      generalize F ρ1 t' = o at p3 ⊢
      have fin : ∀ (ρ2 : En) (t2 : T), PostS X.K W R σ1 ρ1 H2 (forS put F r ρ2 t2) D → ∀ σ5 H5, StepX R.fp (Ow σ1 ρ1) H2 H5 → OwnX (Ow σ1 ρ1) (Ow σ5 ρ2) H2 → RpS X.K R σ5 ρ2 H5 → R.At H5 t2 →
          ∃ (ρ' : En) (t' : T), RpS X.K R σ5 ρ' H5 ∧ R.At H5 t' ∧ StepX R.fp (Ow σ ρ) H1 H5 ∧ OwnX (Ow σ ρ) (Ow σ5 ρ') H1 ∧ PostS X.K W R σ5 ρ' H5 (forS put F (ds.drop (i + 1)) ρ' t') D := fun ρ2 t2 p5 σ5 H5 st5 ow5 s5 a5 =>
        ⟨ρ2, t2, s5, a5, step_trans (K := X.K) st2 ow2 st5, own_trans a3 st2 ow2 ow5, by rw [e2]; exact p5.shift a5 st5 ow5⟩
      cases o with
      | nx ρ2 t2 => exact fun σ5 H5 st5 ow5 s5 a5 => fin ρ2 t2 p3 σ5 H5 st5 ow5 s5 a5
      | ct ρ2 t2 => exact fun σ5 H5 st5 ow5 s5 a5 => fin ρ2 t2 p3 σ5 H5 st5 ow5 s5 a5
      | bk ρ2 t2 => exact p3
      | rt d t2 => exact p3
      | ex C fs xs t2 => exact p3
      | no => exact p3
end
end DL
end
section
set_option Elab.async false
set_option linter.all false
set_option maxRecDepth 100000
set_option maxHeartbeats 4000000
namespace DL
open PySem PySem.Spec PyProof.Rows L2

/-! ### [e for x in xs if ..] -/
abbrev W0 : WX := fun _ _ _ _ => False
def wipeE (ρ : En) : List Nat → En
  | [] => ρ
  | v :: vs => (wipeE ρ vs).set v none
def lcF {T : Type} (put : Dat → En → Option En) (B : DenB T) (F : Den T) (ρw : En) : List Dat → List Dat → T → Out (List Dat) T
  | [], acc, t => .ok acc t
  | d :: ds, acc, t => match put d ρw with
    | none => .no
    | some ρ1 => match B ρ1 t with
      | .ok true t1 => match F ρ1 t1 with
        | .ok x t2 => if acc.length < line then lcF put B F ρw ds (acc ++ [x]) t2 else .no
        | _ => .no
      | .ok false t1 => lcF put B F ρw ds acc t1
      | _ => .no
def lcD {T : Type} (put : Dat → En → Option En) (vs : List Nat) (I : En → T → Out (List Dat) T) (B : DenB T) (F : Den T) : Den T := fun ρ t =>
  if vs.all (notOwn ρ) then (I ρ t).bind fun ds t1 => (lcF put B F (wipeE ρ vs) ds [] t1).bind fun acc t2 => .ok (.lst acc) t2 else .no
section
variable {T : Type} {K : PySem.W.Frag} {R : Res T} {σ : L2.St} {ρ : En} {H : Hp}
theorem wipeE_len : ∀ vs : List Nat, (wipeE ρ vs).length = ρ.length
  | [] => rfl
  | v :: vs => by
    show ((wipeE ρ vs).set v none).length = ρ.length
    rw [List.length_set, wipeE_len vs]
theorem wipeE_get {j : Nat} {x : SV} : ∀ {vs : List Nat}, (wipeE ρ vs)[j]? = some (some x) → ρ[j]? = some (some x) ∧ j ∉ vs
  | [], h => ⟨h, by simp⟩
  | v :: vs, h => by
    rcases getset h with ⟨_, _, e⟩ | ⟨n, e⟩
    · cases e
    · obtain ⟨h1, h2⟩ := wipeE_get e
      exact ⟨h1, by simp [n, h2]⟩
theorem wipeE_out {j : Nat} : ∀ {vs : List Nat}, j ∉ vs → (wipeE ρ vs)[j]? = ρ[j]?
  | [], _ => rfl
  | v :: vs, h => by
    have h1 : j ≠ v := fun z => h (z ▸ List.mem_cons_self ..)
    show ((wipeE ρ vs).set v none)[j]? = ρ[j]?
    rw [List.getElem?_set_ne (Ne.symm h1), wipeE_out fun z => h (List.mem_cons_of_mem _ z)]
theorem wipe_at {j : Nat} : ∀ {vs : List Nat}, j ∉ vs → (wipe σ vs)[j]? = σ[j]?
  | [], _ => rfl
  | v :: vs, h => by
    have h1 : j ≠ v := fun z => h (z ▸ List.mem_cons_self ..)
    show ((wipe σ vs).set v none)[j]? = σ[j]?
    rw [List.getElem?_set_ne (Ne.symm h1), wipe_at fun z => h (List.mem_cons_of_mem _ z)]
theorem ow_wipe {vs : List Nat} (n : vs.all (notOwn ρ) = true) (a : Addr) : Ow (wipe σ vs) (wipeE ρ vs) a ↔ Ow σ ρ a := by
  constructor
  · rintro ⟨j, xs, e1, e2⟩
    obtain ⟨h1, h2⟩ := wipeE_get e1
    rw [wipe_at h2] at e2
    exact ⟨j, xs, h1, e2⟩
  · rintro ⟨j, xs, e1, e2⟩
    have h2 : j ∉ vs := fun z => by
      have q := List.all_eq_true.mp n j z
      unfold notOwn at q
      rw [e1] at q
      cases q
    exact ⟨j, xs, by rw [wipeE_out h2]; exact e1, by rw [wipe_at h2]; exact e2⟩
theorem RpS.wiped {vs : List Nat} (s : RpS K R σ ρ H) (n : vs.all (notOwn ρ) = true) : RpS K R (wipe σ vs) (wipeE ρ vs) H := by
  have hs : Same (hide (Hid R σ ρ) H) (hide (Hid R (wipe σ vs) (wipeE ρ vs)) H) := hide_less fun a z => z.imp id (ow_wipe n a).mp
  refine ⟨by rw [wipeE_len, wipe_length, s.len], fun j d e => ?_, fun j xs e => ?_, fun j k p xs ys e1 e2 e3 e4 => ?_⟩
  · obtain ⟨h1, h2⟩ := wipeE_get e
    obtain ⟨v, f1, f2⟩ := s.dat j d h1
    exact ⟨v, by rw [wipe_at h2]; exact f1, Rp.mono hs _ _ f2⟩
  · obtain ⟨h1, h2⟩ := wipeE_get e
    obtain ⟨p, ws, f1, f2, f3, f4⟩ := s.own j xs h1
    exact ⟨p, ws, by rw [wipe_at h2]; exact f1, f2, f3, RpL.mono hs _ _ f4⟩
  · obtain ⟨h1, h2⟩ := wipeE_get e1
    obtain ⟨h3, h4⟩ := wipeE_get e2
    rw [wipe_at h2] at e3
    rw [wipe_at h4] at e4
    exact s.inj j k p xs ys h1 h3 e3 e4
/-- the same slots, some more addresses hidden: D is a new one -/
theorem RpS.under {r : Res T} {M0 : Addr → Prop} {H0 H1 H' : Hp} {D : Addr} {t : T} (s : RpS K (fr r M0 H0) σ ρ H1) (at1 : (fr r M0 H0).At H1 t) (nD : H1 D = none) (k : KeepX (fr r M0 H0).fp H1 H') (H0' : Hp) :
    RpS K (fr r (fun a => M0 a ∨ a = D) H0') σ ρ H' := by
  have sm : Same (hide (Hid (fr r M0 H0) σ ρ) H1) (hide (Hid (fr r (fun a => M0 a ∨ a = D) H0') σ ρ) H') := fun a o e => by
    obtain ⟨n, e⟩ := hide_some.mp e
    refine hide_some.mpr ⟨fun z => ?_, k a o (fun z => n (.inl z)) e⟩
    rcases z with ((z | z) | z) | z
    · exact n (.inl (.inl z))
    · exact ne_of_none e nD z
    · exact n (.inl (.inr z))
    · exact n (.inr z)
  refine ⟨s.len, fun j d e => ?_, fun j xs e => ?_, s.inj⟩
  · obtain ⟨v, f1, f2⟩ := s.dat j d e
    exact ⟨v, f1, Rp.mono sm _ _ f2⟩
  · obtain ⟨p, ws, f1, f2, f3, f4⟩ := s.own j xs e
    refine ⟨p, ws, f1, fun z => ?_, k _ _ f2 f3, RpL.mono sm _ _ f4⟩
    rcases z with (z | z) | z
    · exact f2 (.inl z)
    · exact ne_of_none f3 nD z
    · exact f2 (.inr z)
end
section
variable {T : Type} {X : Cx} {W : WX} {r : Res T} {M0 : Addr → Prop} {H0 : Hp} {tg iter elt : Expr} {ifs : List Expr} {scope : Scope} {own : List (Str × Nat)} {pos spos : Pos} {I : En → T → Out (List Dat) T} {B : DenB T} {F : Den T} {g : TG} {put : Dat → En → Option En}
/-- the element's reading, over any frame of the resource -/
def tEl (K : PySem.W.Frag) (r : Res T) (F : Den T) : TE := fun σ H Q => ∃ (M : Addr → Prop) (H0 : Hp), (∀ a, M a → ¬ r.fp a) ∧ tD K W0 (fr r M H0) F σ H Q
def tTl (K : PySem.W.Frag) (r : Res T) (B : DenB T) : TT := fun σ H Q => ∃ (M : Addr → Prop) (H0 : Hp), (∀ a, M a → ¬ r.fp a) ∧ tDT K W0 (fr r M H0) B σ H Q
theorem el_of {Y : Cx} {e : Expr} (h : ∀ (M : Addr → Prop) (H0 : Hp), (∀ a, M a → ¬ r.fp a) → PE Y e (tD Y.K W0 (fr r M H0) F)) : PE Y e (tEl Y.K r F) := ⟨fun pins s σ H Q I ⟨M, H0, ap, q⟩ => (h M H0 ap).run pins s σ H Q I q⟩
theorem tl_of {Y : Cx} {es : List Expr} (h : ∀ (M : Addr → Prop) (H0 : Hp), (∀ a, M a → ¬ r.fp a) → PTs Y es (tDT Y.K W0 (fr r M H0) B)) : PTs Y es (tTl Y.K r B) := ⟨fun pins s σ H Q I ⟨M, H0, ap, q⟩ => (h M H0 ap).run pins s σ H Q I q⟩
theorem t_lc {vs : List Nat} {K : PySem.W.Frag} (ap : ∀ a, M0 a → ¬ r.fp a) (ht : TgD K vs g put) {σ : L2.St} {H : Hp} {Q : VK} (q : tD K W (fr r M0 H0) (lcD put vs I B F) σ H Q) : tLc (tDI K W (fr r M0 H0) I) g (tTl K r B) (tEl K r F) vs σ H Q := by
  obtain ⟨ρ, t, s, at_, p⟩ := q
  unfold lcD at p
  split at p
  · rename_i no
    refine ⟨ρ, t, s, at_, Post.bind p fun ds t1 J H1 _ k1 a1 yl p1 => fun D nD => ?_⟩
    have s1 := s.keep k1
    have dm1 := s1.dom a1
    -- apart from D
    let M' : Addr → Prop := fun a => M0 a ∨ a = D
    have nrD : ¬ r.fp D := fun z => by
      obtain ⟨o, e⟩ := dm1 D (.inl (.inr z))
      rw [nD] at e
      cases e
    have nD0 : ¬ Hid (fr r M0 H0) σ ρ D := fun z => by
      obtain ⟨o, e⟩ := dm1 D z
      rw [nD] at e
      cases e
    have ap' : ∀ a, M' a → ¬ r.fp a := fun a z => z.elim (ap a) fun e f => nrD (e ▸ f)
    let Z : Addr → Prop := fun a => Hid (fr r M0 H0) σ ρ a ∨ a = D
    refine ⟨fun i m H' => m = ds.length - i ∧ i ≤ ds.length ∧ ∃ (acc : List Dat) (us : List V) (t' : T), KeepX (fr r M0 H0).fp H1 H' ∧ (fr r M0 H0).At H' t' ∧ H' D = some (.lst us) ∧ RpL K r.hd (hide Z H') acc us ∧
        Post (fun h d v => Rp K (fr r M0 H0).hd h d v) K W (fr r M0 H0) σ ρ H1 ((lcF put B F (wipeE ρ vs) (ds.drop i) acc t').bind fun acc t2 => .ok (.lst acc) t2) Q,
      ⟨ds.length, by simp, Nat.zero_le _, [], [], t1, .of (same_new nD), at_same a1 (same_new nD), upd_same, RpL.nil, p1⟩, ?_⟩
    rintro i m H' ⟨rfl, hi, acc, us, t', k2, a2, hD, ra, p2⟩
    have sm1 : Same (hide (Hid (fr r M0 H0) σ ρ) H1) (hide Z H') := fun a o e => by
      obtain ⟨n, e⟩ := hide_some.mp e
      exact hide_some.mpr ⟨fun z => z.elim n (ne_of_none e nD), k2 a o (fun z => n (.inl z)) e⟩
    have dZ : ∀ a, Z a → ∃ o, H' a = some o := fun a z => by
      rcases z with z | z
      · exact (s1.keep k2).dom a2 a z
      · rw [z]
        exact ⟨_, hD⟩
    obtain ⟨go, stop⟩ := yl Z H' dZ sm1
    cases hd : ds.drop i with
    | nil =>
      have hl : i = ds.length := by
        have := List.drop_eq_nil_iff.mp hd
        omega
      subst hl
      rw [hd] at p2
      refine .inl ⟨stop, p2 _ _ k2 a2 ?_⟩
      simp only [Rp]
      exact ⟨D, us, rfl, hide_some.mpr ⟨nD0, hD⟩, RpL.mono (hide_less fun a z => .inl z) _ _ ra⟩
    | cons d rest =>
      obtain ⟨e1, e2, e3⟩ := drop_at hd
      obtain ⟨g1, g2⟩ := go i d e1
      rw [hd] at p2
      simp only [lcF] at p2
      refine .inr ⟨g1, fun H' => ∃ (acc : List Dat) (us : List V) (t' : T), KeepX (fr r M0 H0).fp H1 H' ∧ (fr r M0 H0).At H' t' ∧ H' D = some (.lst us) ∧ RpL K r.hd (hide Z H') acc us ∧
          Post (fun h d v => Rp K (fr r M0 H0).hd h d v) K W (fr r M0 H0) σ ρ H1 ((lcF put B F (wipeE ρ vs) (ds.drop (i + 1)) acc t').bind fun acc t2 => .ok (.lst acc) t2) Q,
        fun H'' h => ⟨ds.length - (i + 1), by omega, rfl, by omega, h⟩, fun x H2 y => ?_⟩
      obtain ⟨sm2, rx⟩ := g2 x H2 y
      have k3 : KeepX (fr r M0 H0).fp H1 H2 := fun a o n e => sm2 a o (k2 a o n e)
      have a3 := at_same (R := fr r M0 H0) a2 sm2
      have hD2 := sm2 _ _ hD
      -- the block's state
      have sU := (s1.under a1 nD k3 H2).wiped no
      have aU : (fr r M' H2).At H2 t' := ⟨fun a z => by
        rcases z with z | z
        · obtain ⟨o, _, e⟩ := a3.1 a z
          exact ⟨o, e, e⟩
        · rw [z]
          exact ⟨_, hD2, hD2⟩, a3.2⟩
      have hz : ∀ a, Hid (fr r M' H2) (wipe σ vs) (wipeE ρ vs) a ↔ Z a := fun a => by
        constructor
        · intro z
          rcases z with ((z | z) | z) | z
          · exact .inl (.inl (.inl z))
          · exact .inr z
          · exact .inl (.inl (.inr z))
          · exact .inl (.inr ((ow_wipe no a).mp z))
        · intro z
          rcases z with ((z | z) | z) | z
          · exact .inl (.inl (.inl z))
          · exact .inl (.inr z)
          · exact .inr ((ow_wipe no a).mpr z)
          · exact .inl (.inl (.inr z))
      cases e4 : put d (wipeE ρ vs) with
      | none =>
        rw [e4] at p2
        exact p2.elim
      | some ρ1 =>
        rw [e4] at p2
        refine ht.ok (fr r M' H2) d x (wipe σ vs) (wipeE ρ vs) ρ1 H2 _ e4 sU (Rp.mono (hide_less fun a z => (hz a).mp z) _ _ rx) fun σ1 s4 o4 w4 => ⟨w4.trans (wipe_wipe σ vs), ?_⟩
        have hz1 : ∀ a, Hid (fr r M' H2) σ1 ρ1 a ↔ Z a := fun a => by
          rw [← hz a]
          exact ⟨fun z => z.imp id (o4 a).mp, fun z => z.imp id (o4 a).mpr⟩
        -- from the block's frame back to ours
        have back : ∀ {Ha Hb : Hp} {t : T}, KeepX (fr r M0 H0).fp H1 Ha → (fr r M0 H0).At Ha t → KeepX (fr r M' H2).fp Ha Hb → (fr r M' H2).At Hb t' → True := fun _ _ _ _ => trivial
        have back2 : ∀ {Hb : Hp} {tb : T}, KeepX (fr r M' H2).fp H2 Hb → (fr r M' H2).At Hb tb → KeepX (fr r M0 H0).fp H1 Hb ∧ (fr r M0 H0).At Hb tb ∧ Hb D = some (.lst us) := fun {Hb tb} kb ab => by
          refine ⟨fun a o n e => ?_, ⟨fun a z => ?_, ab.2⟩, ?_⟩
          · refine kb a o (fun z => ?_) (k3 a o n e)
            rcases z with (z | z) | z
            · exact n (.inl z)
            · exact ne_of_none e nD z
            · exact n (.inr z)
          · obtain ⟨o, f1, f2⟩ := a3.1 a z
            obtain ⟨o', g1, g2⟩ := ab.1 a (.inl z)
            rw [f2] at g1
            cases g1
            exact ⟨o, f1, g2⟩
          · obtain ⟨o', g1, g2⟩ := ab.1 D (.inr rfl)
            rw [hD2] at g1
            cases g1
            exact g2
        refine ⟨M', H2, ap', ρ1, t', s4, aU, ?_⟩
        simp only [] at p2
        cases eB : B ρ1 t' with
        | ex C fs xs t5 =>
          rw [eB] at p2
          exact p2.elim
        | no =>
          rw [eB] at p2
          exact p2.elim
        | ok b t5 =>
          rw [eB] at p2
          intro b' H5 k5 a5 rb
          cases rb
          obtain ⟨q1, q2, q3⟩ := back2 k5 a5
          have ra5 : RpL K r.hd (hide Z H5) acc us := RpL.mono (fun a o e => by
            obtain ⟨n, e⟩ := hide_some.mp e
            refine hide_some.mpr ⟨n, k5 a o (fun z => ?_) (sm2 _ _ e)⟩
            rcases z with (z | z) | z
            · exact n (.inl (.inl (.inl z)))
            · exact n (.inr z)
            · exact n (.inl (.inl (.inr z)))) _ _ ra
          cases b with
          | false =>
            refine iteF ⟨acc, us, t5, q1, q2, q3, ra5, ?_⟩
            rw [e2]
            exact p2
          | true =>
            refine iteT ⟨M', H2, ap', ρ1, t5, s4.keep k5, a5, ?_⟩
            simp only [] at p2
            cases eF : F ρ1 t5 with
            | ex C fs xs t6 =>
              rw [eF] at p2
              exact p2.elim
            | no =>
              rw [eF] at p2
              exact p2.elim
            | ok dd t6 =>
              rw [eF] at p2
              simp only [] at p2
              split at p2
              · rename_i hlen
                intro u H6 k6 a6 ru
                obtain ⟨q4, q5, q6⟩ := back2 (k5.trans k6) a6
                refine ⟨us, q6, by rw [ra.len, line_eq]; exact hlen, ?_⟩
                have same6 : Same (hide Z H5) (hide Z (upd H6 D (.lst (us ++ [u])))) := fun a o e => by
                  obtain ⟨n, e⟩ := hide_some.mp e
                  have nd : a ≠ D := fun z => n (.inr z)
                  refine hide_some.mpr ⟨n, ?_⟩
                  rw [upd_ne nd]
                  refine k6 a o (fun z => ?_) e
                  rcases z with (z | z) | z
                  · exact n (.inl (.inl (.inl z)))
                  · exact nd z
                  · exact n (.inl (.inl (.inr z)))
                have same7 : Same (hide (Hid (fr r M' H2) σ1 ρ1) H6) (hide Z (upd H6 D (.lst (us ++ [u])))) := fun a o e => by
                  obtain ⟨n, e⟩ := hide_some.mp e
                  have n' : ¬ Z a := fun z => n ((hz1 a).mpr z)
                  have nd : a ≠ D := fun z => n' (.inr z)
                  exact hide_some.mpr ⟨n', by rw [upd_ne nd]; exact e⟩
                refine ⟨acc ++ [dd], us ++ [u], t6, fun a o n e => ?_, (fr r M0 H0).mono H6 _ t6 q5 fun a o f e => ?_, upd_same, (RpL.mono same6 _ _ ra5).append (RpL.cons (Rp.mono same7 _ _ ru) RpL.nil), ?_⟩
                · rw [upd_ne (ne_of_none e nD)]
                  exact q4 a o n e
                · have nd : a ≠ D := fun z => f.elim (fun f => nD0 (.inl (z ▸ f))) fun f => f us (by
                    rw [z, q6] at e
                    exact (Option.some.inj e).symm)
                  rw [upd_ne nd]
                  exact e
                · rw [e2]
                  exact p2
              · exact p2.elim
  · exact p.elim
theorem d_lc {vs : List Nat} (hc : X.calm = true) (hN : X.N.Nodup) (ap : ∀ a, M0 a → ¬ r.fp a) (hi : PI X tg iter (tDI X.K W (fr r M0 H0) I)) (ok : BlkOk X.N X.env.scope scope own) (ht : TgD X.K vs g put)
    (hg : ∀ (s : Shared) (H : Hp) (C : Addr) (cl : List (Str × Addr)) (fp : List Addr), PG (X.blk s H scope (compEnvC scope cl C X.env) fp) tg g)
    (hts : ∀ (M : Addr → Prop) (H0 : Hp), (∀ a, M a → ¬ r.fp a) → ∀ (s : Shared) (H : Hp) (C : Addr) (cl : List (Str × Addr)) (fp : List Addr), PTs (X.blk s H scope (compEnvC scope cl C X.env) fp) ifs (tDT X.K W0 (fr r M H0) B))
    (he : ∀ (M : Addr → Prop) (H0 : Hp), (∀ a, M a → ¬ r.fp a) → ∀ (s : Shared) (H : Hp) (C : Addr) (cl : List (Str × Addr)) (fp : List Addr), PE (X.blk s H scope (compEnvC scope cl C X.env) fp) elt (tD X.K W0 (fr r M H0) F))
    (hs : ∀ x, foldedSetIterable iter X.env x = pure x := by intro _; rfl) (hvs : own.map (·.2) = vs := by rfl) :
    PE X (.ListComp elt [⟨tg, iter, ifs, 0⟩] scope pos) (tD X.K W (fr r M0 H0) (lcD put vs I B F)) := by
  subst hvs
  exact (pe_lc hc hN hi ok hg (fun s H C cl fp => tl_of (Y := X.blk s H scope (compEnvC scope cl C X.env) fp) fun M H0 ap => hts M H0 ap s H C cl fp) (fun s H C cl fp => el_of (Y := X.blk s H scope (compEnvC scope cl C X.env) fp) fun M H0 ap => he M H0 ap s H C cl fp) hs).imp fun σ H Q q => t_lc ap ht q
/-- x = [..] on one line -/
theorem s_setLc {vs : List Nat} {i : Nat} {y : Str} {py : Pos} (hc : X.calm = true) (hN : X.N.Nodup) (ap : ∀ a, M0 a → ¬ r.fp a) (hy : X.N[i]? = some y) (hyl : X.env.scope.names.lookup y = some .local)
    (hsw : swapsWith (.ListComp elt [⟨tg, iter, ifs, 0⟩] scope pos) (some (.Name y py)) spos.line X.env = pure true) (hi : PI X tg iter (tDI X.K W (fr r M0 H0) I)) (ok : BlkOk X.N X.env.scope scope own) (ht : TgD X.K vs g put)
    (hg : ∀ (s : Shared) (H : Hp) (C : Addr) (cl : List (Str × Addr)) (fp : List Addr), PG (X.blk s H scope (compEnvC scope cl C X.env) fp) tg g)
    (hts : ∀ (M : Addr → Prop) (H0 : Hp), (∀ a, M a → ¬ r.fp a) → ∀ (s : Shared) (H : Hp) (C : Addr) (cl : List (Str × Addr)) (fp : List Addr), PTs (X.blk s H scope (compEnvC scope cl C X.env) fp) ifs (tDT X.K W0 (fr r M H0) B))
    (he : ∀ (M : Addr → Prop) (H0 : Hp), (∀ a, M a → ¬ r.fp a) → ∀ (s : Shared) (H : Hp) (C : Addr) (cl : List (Str × Addr)) (fp : List Addr), PE (X.blk s H scope (compEnvC scope cl C X.env) fp) elt (tD X.K W0 (fr r M H0) F))
    (hs : ∀ x, foldedSetIterable iter X.env x = pure x := by intro _; rfl) (hvs : own.map (·.2) = vs := by rfl) :
    PS X (.Assign [.Name y py] (.ListComp elt [⟨tg, iter, ifs, 0⟩] scope pos) spos) (tDS X.K W (fr r M0 H0) (asgS i (lcD put vs I B F))) := by
  subst hvs
  exact (ps_setLc (tt := tTl X.K r B) (te := tEl X.K r F) hc hN hy hyl hsw hi ok hg (fun s H C cl fp => tl_of (Y := X.blk s H scope (compEnvC scope cl C X.env) fp) fun M H0 ap => hts M H0 ap s H C cl fp) (fun s H C cl fp => el_of (Y := X.blk s H scope (compEnvC scope cl C X.env) fp) fun M H0 ap => he M H0 ap s H C cl fp) hs).imp fun D σ H q => by
    show tLc _ _ _ _ _ σ H fun x H1 => D.nx (σ.set i (some x)) H1
    refine t_lc (B := B) (F := F) ap ht ?_
    obtain ⟨ρ, t, s, at_, p⟩ := q
    exact ⟨ρ, t, s, at_, PostS.bind p fun a t1 b H1 k1 a1 r1 p1 => p1 _ H1 (.of .refl) (fun _ z => .inl (ow_set s.len z)) ((s.keep k1).setD r1) a1⟩
/-- no if | one -/
theorem dts_nil {R : Res T} : PTs X [] (tDT X.K W R (cst true)) := ⟨fun pins s σ H Q I q => pts_nil.run pins s σ H Q I (by
  obtain ⟨ρ, t, s, at_, p⟩ := q
  exact p.ok .refl at_ rfl)⟩
theorem dts_one {R : Res T} {c : Expr} (h : PT X c (tDT X.K W R B)) : PTs X [c] (tDT X.K W R B) := pts_one h
end
end DL
end
section
set_option Elab.async false
set_option linter.all false
set_option maxRecDepth 100000
set_option maxHeartbeats 4000000
namespace DL
open PySem PySem.Spec PyProof.Rows L2

/-! ### a def by its body -/
def startE (N : List Str) (ds : List Dat) : En := ds.map (fun d => some (SV.d d)) ++ List.replicate (N.length - ds.length) none
def retOf {T : Type} : OutS T → Out Dat T
  | .rt d t => .ok d t
  | .nx _ t => .ok .non t
  | .ex C fs ds t => .ex C fs ds t
  | _ => .no
/-- what a def with the names N and the body FS gives -/
def denOf {T : Type} (N : List Str) (FS : DenS T) : List Dat → T → Out Dat T := fun ds t => retOf (FS (startE N ds) t)
theorem startE_get {N : List Str} {ds : List Dat} {i : Nat} {x : SV} (h : (startE N ds)[i]? = some (some x)) : ∃ d, x = .d d ∧ ds[i]? = some d := by
  unfold startE at h
  by_cases hi : i < ds.length
  · rw [List.getElem?_append_left (by simpa using hi), List.getElem?_map] at h
    cases e : ds[i]? with
    | none =>
      rw [e] at h
      cases h
    | some d =>
      rw [e] at h
      cases h
      exact ⟨d, rfl, rfl⟩
  · rw [List.getElem?_append_right (by simpa using hi), List.getElem?_replicate] at h
    split at h <;> cases h
theorem start_get {N : List Str} {vs : List V} {i : Nat} {v : V} (h : vs[i]? = some v) : (L2.start N vs)[i]? = some (some v) := by
  have hi := (List.getElem?_eq_some_iff.mp h).1
  unfold L2.start
  rw [List.getElem?_append_left (by simpa using hi), List.getElem?_map, h]
  rfl
theorem rps_start {T : Type} {K : PySem.W.Frag} {R : Res T} {N : List Str} {ds : List Dat} {vs : List V} {H : Hp} (r : RpL K R.hd (hide R.fp H) ds vs) : RpS K R (L2.start N vs) (startE N ds) H ∧ ∀ a, ¬ Ow (L2.start N vs) (startE N ds) a := by
  have no : ∀ a, ¬ Ow (L2.start N vs) (startE N ds) a := fun a z => by
    obtain ⟨i, xs, e, _⟩ := z
    obtain ⟨d, e1, _⟩ := startE_get e
    cases e1
  refine ⟨⟨?_, fun i d e => ?_, fun i xs e => ?_, fun i j p xs ys e _ _ _ => ?_⟩, no⟩
  · unfold startE L2.start
    simp [r.len]
  · obtain ⟨d', e1, e2⟩ := startE_get e
    cases e1
    obtain ⟨v, f1, f2⟩ := r.at_ e2
    exact ⟨v, start_get f1, Rp.mono (hide_less fun a z => z.elim id fun z => (no a z).elim) _ _ f2⟩
  · obtain ⟨d, e1, _⟩ := startE_get e
    cases e1
  · obtain ⟨d, e1, _⟩ := startE_get e
    cases e1
section
variable {P : Program} {w : World} {K : PySem.W.Frag} {mg : Str → Option Value} {base : Heap}
theorem fnG {g : Bool} {T : Type} {C : Res T → Prop} {x qual : Str} {st : Stmt} {f : Addr} {fd : FuncData} {N ps : List Str} {k n : Nat} {FS : DenS T} (F : Fun K x qual st f fd) (S : FnScope N ps (defScope st)) (hn : n = ps.length)
    (body : ∀ (cdv : Value), fd.code = cdv → ∀ (A : Around) (outer : List Env) (s : Shared) (H : Hp) (E : XK) (r : Res T) (M : Addr → Prop), C r → (∀ a, M a → ¬ r.fp a) → Rm g k (A.deeper (envOfC qual (defScope st) s.heap.objs.size f cdv)) →
      PSs (cxOf (L2.CX P w) P w K mg base N qual (defScope st) f cdv A outer s H E) (defBody st) (tDS K (fun cls d _ H' => E cls d H') (fr r M H) FS)) : FnD g P w K mg base (k + 1) f fd ps (spG K C n (denOf N FS)) := by
  subst hn
  refine fnD_of F S (fun vs H Q E h => h.1) fun cdv hcd A outer s H vs Q E rm h => ?_
  obtain ⟨hl, r, M, ds, t, hC, dm, ap, at_, rp, out⟩ := h
  refine ⟨_, body cdv hcd A outer s H E r M hC ap rm, startE N ds, t, (rps_start (R := fr r M H) rp).1, ⟨fun a m => ?_, at_⟩, ?_⟩
  · obtain ⟨o, e⟩ := dm a m
    exact ⟨o, e, e⟩
  have no := (rps_start (N := N) (R := fr r M H) rp).2
  unfold denOf at out
  have kp : ∀ {H' : Hp} {t' : T}, StepX (fr r M H).fp (Ow (L2.start N vs) (startE N ds)) H H' → (fr r M H).At H' t' → KeepX r.fp H H' := fun {H' t'} st a b o n e => by
    by_cases m : M b
    · obtain ⟨o', e1, e2⟩ := a.1 b m
      rw [e] at e1
      cases e1
      exact e2
    · exact st b o (fun z => z.elim m n) (no b) e
  generalize FS (startE N ds) t = o at out ⊢
  cases o with
  | nx ρ' t' => exact fun σ' H' st _ _ a => out .non H' (kp st a) a.2 (by simp only [Rp])
  | rt d t' => exact fun v H' st a rv => out v H' (kp st a) a.2 rv
  | ex C fs xs t' => exact fun cls dd σ' H' st a rx => out cls dd H' (kp st a) a.2 rx
  | bk ρ' t' => exact out.elim
  | ct ρ' t' => exact out.elim
  | no => exact out.elim
end
theorem takesD {P : Program} {w : World} {K : PySem.W.Frag} {mg : Str → Option Value} {base : Heap} {N : List Str} {qual : Str} {scope : Scope} {f : Addr} {cd : Value} {A : Around} {outer : List Env} {s : Shared} {H : Hp} {E : XK} :
    Takes (cxOf (L2.CX P w) P w K mg base N qual scope f cd A outer s H E) (fun cls d _ H' => E cls d H') := takes_of rfl rfl rfl rfl
theorem passesD {P : Program} {w : World} {K : PySem.W.Frag} {mg : Str → Option Value} {base : Heap} {N : List Str} {qual : Str} {scope : Scope} {f : Addr} {cd : Value} {A : Around} {outer : List Env} {s : Shared} {H : Hp} {E : XK} :
    PassesOwn (model (cxOf (L2.CX P w) P w K mg base N qual scope f cd A outer s H E).prog (cxOf (L2.CX P w) P w K mg base N qual scope f cd A outer s H E).w) (cxOf (L2.CX P w) P w K mg base N qual scope f cd A outer s H E).A (cxOf (L2.CX P w) P w K mg base N qual scope f cd A outer s H E).env (cxOf (L2.CX P w) P w K mg base N qual scope f cd A outer s H E).xe := passes_of rfl

/-! ### raise -/
section
variable {T : Type} {X : Cx} {W : WX} {R : Res T} {C : Addr} {x m : Str} {j : Nat} {p p2 pos pos' : Pos} {e : Expr} {F : Den T}
/-- raise X('m'), X an own class without a field -/
def rsM {T : Type} (C : Addr) : DenS T := fun _ t => .ex C [] [] t
theorem s_raiseM (hc : X.calm = true) (tk : Takes X W) (q : PySem.W.excIn X.K C [.type "ValueError", .type "Exception", .type "BaseException", .type "object"] "ValueError.__new__" = true) (gC : X.mg x = some (.ref C)) (kC : PySem.W.keepIn X.K (.ref C) = true) (rs : Raises X (.ref C)) (hg : Gl X x)
    (hdb : (x == ("__debug__" : Str)) = false := by decide) : PS X (.Raise (some (.Call (.Name x p) [.Constant (.str m) j p2] [] pos)) none pos') (tDS X.K W R (rsM C)) :=
  (ps_raise hc tk (pmk_own PySem.F.excBase_ValueError q gC kC rs hg hdb)).imp fun D σ H q => by
  obtain ⟨ρ, t, s, at_, p⟩ := q
  exact p _ _ σ H (.of .refl) at_ ⟨rfl, .inl ⟨rfl, rfl⟩⟩
/-- an exception's __init__ that keeps its one argument in the field f -/
def spI (C : Addr) (f : Str) : Sp := fun vs H Q _ => ∃ (a : Addr) (v : V), vs = [.ref a, v] ∧ H a = some (exo a C none) ∧ ∀ dx, H dx = none → dx ≠ a → Q .non (upd (upd H dx (exd dx [(f, v)])) a (exo a C (some dx)))
/-- raise X(e), X an own class with such an __init__ -/
def rsF {T : Type} (C : Addr) (f : Str) (F : Den T) : DenS T := fun ρ t => bindS (F ρ t) fun d t1 => .ex C [f] [d] t1
theorem s_raiseF {f : Str} {fI : Addr} {fd : FuncData} {ps : List Str} {k : Nat} (hc : X.calm = true) (tk : Takes X W) (O : OexC X.K C) (iC : PySem.W.findIn X.K (.ref C) "__init__" = some (some (.ref fI))) (tI : PySem.W.typeIn X.K (.ref fI) = some (.type "function"))
    (F1 : FnOk X.prog X.w X.K X.mg X.base CX0 k fI fd ps (spI C f)) (rm : Room (k + 1) X.A) (hb : Binds X.K fd ps []) (hg : Gl X x) (hm : X.mg x = some (.ref C)) (he : PE X e (tD X.K W R F)) (hdb : (x == ("__debug__" : Str)) = false := by decide)
    (hse : starEach [e] X.env = [(false, eval e X.env)] := by rfl) :
    PS X (.Raise (some (.Call (.Name x p) [e] [] pos)) none pos') (tDS X.K W R (rsF C f F)) :=
  (ps_raise hc tk (pmk_oex (CX := CX0) (dvs := []) O iC tI F1 rm hb .nil (fun _ _ _ _ _ _ _ z => z.elim) hg hm (pa_cons he pa_nil hse) hdb hse rfl)).imp fun D σ H q => by
  obtain ⟨ρ, t, s, at_, p⟩ := q
  refine ⟨ρ, t, s, at_, PostS.bind p fun d t1 v H1 k1 a1 r1 p1 => ?_⟩
  refine ⟨by show 1 ≤ 1000; decide, fun a na => ?_⟩
  have s1 := s.keep k1
  have dm := s1.dom a1
  refine ⟨a, v, rfl, upd_same, fun dx ndx ne => ⟨rfl, dx, [(f, v)], upd_same, ?_, ?_, ?_⟩⟩
  · rw [upd_ne ne, upd_same]
  · rw [upd_ne ne] at ndx
    exact ndx
  · rw [upd_ne ne] at ndx
    -- the heap behind: H1 and the dict
    have eH : upd (del (upd (upd (upd H1 a (exo a C none)) dx (exd dx [(f, v)])) a (exo a C (some dx))) a) dx (.xd [(f, v)]) = upd H1 dx (.xd [(f, v)]) := by
      funext b
      by_cases h1 : b = dx
      · rw [h1, upd_same, upd_same]
      · rw [upd_ne h1, upd_ne h1]
        by_cases h2 : b = a
        · rw [h2, del_same, na]
        · rw [del_ne h2, upd_ne h2, upd_ne h1, upd_ne h2]
    rw [eH]
    have sm := same_new (o := .xd [(f, v)]) ndx
    refine p1 _ _ σ _ (.of (.of sm)) (at_same a1 sm) ⟨rfl, .inr ⟨dx, [v], rfl, ?_, rfl, RpL.cons (Rp.mono (Same.trans (hide_same sm) (hide_less fun a z => .inl z)) _ _ r1) RpL.nil⟩⟩
    exact hide_some.mpr ⟨fun z => fresh_not dm ndx (.inl z), upd_same⟩
end
end DL
end
section
set_option Elab.async false
set_option linter.all false
set_option maxRecDepth 100000
set_option maxHeartbeats 4000000
namespace DL
open PySem PySem.Spec PyProof.Rows L2

/-! ### repr -/
mutual
/-- no shorter than what is shown -/
def cost : Dat → Nat
  | .non => 4
  | .bl _ => 5
  | .int i => if i.natAbs < 10 ^ 30 then 31 else 100000000
  | .str x => 10 * x.length + 2
  | .tup ds => costs ds + 3
  | .lst ds => costs ds + 3
  | _ => 100000000
def costs : List Dat → Nat
  | [] => 0
  | d :: ds => cost d + 2 + costs ds
end
def costLine : Nat := 10000000
theorem digits_le {n : Nat} (h : n < 10 ^ 30) : (Str.ofString (toString ((n : Nat) : Int))).length ≤ 30 := by
  rw [TL.len_tl, TL.tl_num]
  exact TL.numL_len (by decide) h
theorem int_shown {i : Int} (h : i.natAbs < 10 ^ 30) : (Str.ofString (toString i)).length ≤ 31 ∧ i.natAbs.log2 < 1920 := by
  constructor
  · cases i with
    | ofNat n => exact Nat.le_trans (digits_le (n := n) h) (by decide)
    | negSucc n =>
      have e : toString (Int.negSucc n) = "-" ++ toString (n + 1) := rfl
      have h1 : (TL.numL (n + 1)).length ≤ 30 := TL.numL_len (by decide) h
      rw [TL.len_tl, TL.tl_ofString, e, String.toList_append]
      unfold TL.numL at h1
      rw [List.length_map] at h1 ⊢
      rw [List.length_append]
      have e2 : (toString (n + 1)).toList = Nat.toDigits 10 (n + 1) := by
        show (Nat.repr (n + 1)).toList = _
        simp [Nat.repr]
      rw [e2]
      have e3 : ("-" : String).toList.length = 1 := by decide
      omega
  · by_cases z : i.natAbs = 0
    · rw [z]
      decide
    · have h2 : i.natAbs < 2 ^ 1920 := Nat.lt_of_lt_of_le h (by decide +kernel)
      exact (Nat.log2_lt z).mpr h2
mutual
theorem show_ok : ∀ (d : Dat) (n : Nat), shp d n = true → cost d ≤ costLine → (py d).showable = true ∧ (py d).hasDict = false ∧ (py d).shown.length ≤ cost d
  | .non, _, _, _ => ⟨by simp [py, PyData.showable], by simp [py, PyData.hasDict], by simp only [py, PyData.shown, cost]; decide +kernel⟩
  | .bl b, _, _, _ => ⟨by simp [py, PyData.showable], by simp [py, PyData.hasDict], by simp only [py, PyData.shown, cost]; cases b <;> decide +kernel⟩
  | .int i, _, _, c => by
    simp only [cost] at c ⊢
    split at c
    · rename_i h
      rw [if_pos h]
      have q := int_shown h
      exact ⟨by simp only [py, PyData.showable, decide_eq_true_eq]; exact q.2, by simp [py, PyData.hasDict], by simp only [py, PyData.shown]; exact q.1⟩
    · exact absurd c (by decide)
  | .str x, _, s, _ => by
    refine ⟨by simp [py, PyData.showable], by simp [py, PyData.hasDict], ?_⟩
    simp only [py, PyData.shown, cost]
    simp only [shp, List.all_eq_true, decide_eq_true_eq] at s
    have q := StrLaws.reprText_len ⟨x.toArray⟩ (fun c hc => Nat.lt_of_lt_of_le (s c (by simpa using hc)) (by decide))
    rw [sstr_len] at q
    exact q
  | .tup ds, n, s, c => by
    simp only [shp, Bool.and_eq_true] at s
    simp only [cost] at c ⊢
    obtain ⟨h1, h2, h3⟩ := shows_ok ds _ s.2 (by omega)
    refine ⟨by simp only [py, PyData.showable]; exact h1, by simp only [py, PyData.hasDict]; exact h2, ?_⟩
    simp only [py, PyData.shown]
    have q := tupleText_len_le (PyData.shownAll (pys ds))
    omega
  | .lst ds, n, s, c => by
    simp only [shp, Bool.and_eq_true] at s
    simp only [cost] at c ⊢
    obtain ⟨h1, h2, h3⟩ := shows_ok ds _ s.2 (by omega)
    refine ⟨by simp only [py, PyData.showable]; exact h1, by simp only [py, PyData.hasDict]; exact h2, ?_⟩
    simp only [py, PyData.shown]
    have q := listText_len_le (PyData.shownAll (pys ds))
    omega
  | .rol _, _, s, _ => by
    simp only [shp] at s
    cases s
  | .exc _ _ _, _, s, _ => by
    simp only [shp] at s
    cases s
  | .hd, _, s, _ => by
    simp only [shp] at s
    cases s
theorem shows_ok : ∀ (ds : List Dat) (n : Nat), shps ds n = true → costs ds ≤ costLine → PyData.showableAll (pys ds) = true ∧ PyData.hasDictAll (pys ds) = false ∧ ((PyData.shownAll (pys ds)).map (·.length)).sum + 2 * (PyData.shownAll (pys ds)).length ≤ costs ds
  | [], _, _, _ => by simp [pys, PyData.showableAll, PyData.hasDictAll, PyData.shownAll, costs]
  | d :: ds, n, s, c => by
    simp only [shps, Bool.and_eq_true] at s
    simp only [costs] at c ⊢
    obtain ⟨h1, h2, h3⟩ := show_ok d n s.1 (by omega)
    obtain ⟨h4, h5, h6⟩ := shows_ok ds n s.2 (by omega)
    refine ⟨by simp only [pys, PyData.showableAll, h1, h4, Bool.and_self], by simp only [pys, PyData.hasDictAll, h2, h5, Bool.or_self], ?_⟩
    simp only [pys, PyData.shownAll, List.map_cons, List.sum_cons, List.length_cons]
    omega
end
/-- the text of plain data -/
def shw (d : Dat) : List Nat := TL.tl (py d).shown
def reprD : List Dat → Option Dat
  | [.int i] => if shp (.int i) 60 = true ∧ cost (.int i) ≤ costLine then some (.str (shw (.int i))) else none
  | [.lst ds] => if shp (.lst ds) 60 = true ∧ cost (.lst ds) ≤ costLine then some (.str (shw (.lst ds))) else none
  | [.tup ds] => if shp (.tup ds) 60 = true ∧ cost (.tup ds) ≤ costLine then some (.str (shw (.tup ds))) else none
  | [.non] => some (.str (shw .non))
  | _ => none
def rRepr (K : PySem.W.Frag) : List V → Hp → VK → Prop := fun xs H Q => ∃ (x : V) (d : PyData), xs = [x] ∧ Dp K H x d ∧ ((∃ i, x = .int i ∧ d = .int i) ∨ (∃ a, x = .ref a) ∨ (x = .non ∧ d = .none)) ∧ d.showable = true ∧ d.hasDict = false ∧ d.shown.length ≤ sizeLine ∧ d.depth ≤ 60 ∧ Q (.str d.shown) H
theorem call_reprD {X : Cx} {k : Nat} (rm : Rm true k X.A) : CallR X (.builtin "repr") (rRepr X.K) := by
  intro pins s σ H xs us Q I r h
  obtain ⟨x, d, rfl, dp, kd, h1, h2, h3, h4, q⟩ := h
  obtain ⟨u, rfl, ru⟩ := vals1 r
  rcases kd with ⟨i, rfl, rfl⟩ | ⟨a, rfl⟩ | ⟨rfl, rfl⟩
  · obtain ⟨t, rfl⟩ := ru
    exact PySem.P.repr_of_int (by simpa [PyData.showable] using h1) ⟨.str _, H, I.tok _, ⟨_, rfl⟩, q⟩
  · obtain ⟨as, rd⟩ := Dp.reads I d _ _ dp ru
    cases ru
    have hu := rm.room.units
    exact repr_of_reads' rd h1 (fun z => by rw [h2] at z; cases z) (rm.gd rfl) (by omega) (fun _ _ e => e) (fun h' u tk kp => ⟨.str _, H, I.kept kp, ⟨u, rfl⟩, q⟩) h3
  · cases ru
    exact PySem.P.repr_of_none ⟨.str _, H, I.tok _, ⟨_, rfl⟩, q⟩
theorem reprD_ok (K : PySem.W.Frag) : CallD K (rRepr K) reprD := by
  intro h G H ds z vs Q hG e r q
  have gen : ∀ d : Dat, ds = [d] → shp d 60 = true → cost d ≤ costLine → z = .str (shw d) → (∀ v, Rp K h (hide G H) d v → (∃ i, v = .int i ∧ py d = .int i) ∨ (∃ a, v = .ref a) ∨ (v = .non ∧ py d = .none)) → rRepr K vs H Q := fun d e1 s c e2 kd => by
    subst e1 e2
    obtain ⟨v, rfl, r1⟩ := uncons1 r
    obtain ⟨h1, h2, h3⟩ := show_ok d 60 s c
    have hl : costLine ≤ sizeLine := by rw [line_eq]; decide
    refine ⟨v, py d, rfl, dp_of d 60 v s (Rp.mono hide_sub _ _ r1), kd v r1, h1, h2, by omega, (lay_of d 60 s).2, q _ H (Same.refl H) ?_⟩
    simp only [Rp, shw]
  unfold reprD at e
  split at e
  · split at e
    · rename_i c
      cases e
      exact gen _ rfl c.1 c.2 rfl fun v r => .inl (by simp only [Rp] at r; exact ⟨_, r, rfl⟩)
    · cases e
  · split at e
    · rename_i c
      cases e
      exact gen _ rfl c.1 c.2 rfl fun v r => .inr (.inl (by simp only [Rp] at r; obtain ⟨a, xs, e, _⟩ := r; exact ⟨a, e⟩))
    · cases e
  · split at e
    · rename_i c
      cases e
      exact gen _ rfl c.1 c.2 rfl fun v r => .inr (.inl (by simp only [Rp] at r; obtain ⟨a, xs, e, _⟩ := r; exact ⟨a, e⟩))
    · cases e
  · cases e
    exact gen _ rfl (by decide) (by decide) rfl fun v r => .inr (.inr (by simp only [Rp] at r; exact ⟨r, rfl⟩))
  · cases e
theorem d_repr {T : Type} {X : Cx} {W : WX} {R : Res T} {e : Expr} {A : En → T → Out (List Dat) T} {pos p : Pos} {k : Nat} (rm : Rm true k X.A) (gl : Gl X "repr") (hm : X.mg "repr" = none) (ha : PA X [e] (tDA X.K W R A)) (he : starEach [e] X.env = [(false, eval e X.env)] := by rfl) :
    PE X (.Call (.Name "repr" p) [e] [] pos) (tD X.K W R (callD reprD A)) := d_callB (call_reprD rm) (reprD_ok X.K) gl hm (by decide +kernel) ha (by decide) (by decide) he
end DL
end
section
set_option Elab.async false
set_option linter.all false
set_option maxRecDepth 100000
set_option maxHeartbeats 4000000
namespace DL
open PySem PySem.Spec PyProof.Rows L2

/-! ### the draws of a law: {"large": .., "rest": .., "cells": .., "turn": ..} -/
structure DrawSt where
  large : List Int
  rest : Int
  cells : List Int
  turn : Int
def kLarge : Str := Str.ofString "large"
def kRest : Str := Str.ofString "rest"
def kCells : Str := Str.ofString "cells"
def kTurn : Str := Str.ofString "turn"
def drawKV (lA cA : Addr) (t : DrawSt) : List (Key × V) := [(.inr kLarge, .ref lA), (.inr kRest, .int t.rest), (.inr kCells, .ref cA), (.inr kTurn, .int t.turn)]
theorem kne1 : ¬ (Sum.inr kLarge : Key) = Sum.inr kRest := by decide +kernel
theorem kne2 : ¬ (Sum.inr kLarge : Key) = Sum.inr kCells := by decide +kernel
theorem kne3 : ¬ (Sum.inr kLarge : Key) = Sum.inr kTurn := by decide +kernel
theorem kne4 : ¬ (Sum.inr kRest : Key) = Sum.inr kCells := by decide +kernel
theorem kne5 : ¬ (Sum.inr kRest : Key) = Sum.inr kTurn := by decide +kernel
theorem kne6 : ¬ (Sum.inr kCells : Key) = Sum.inr kTurn := by decide +kernel
theorem dv_large (lA cA : Addr) (t : DrawSt) : valV (drawKV lA cA t) (Sum.inr kLarge) = some (.ref lA) := valV_pos rfl
theorem dv_rest (lA cA : Addr) (t : DrawSt) : valV (drawKV lA cA t) (Sum.inr kRest) = some (.int t.rest) := (valV_neg kne1).trans (valV_pos rfl)
theorem dv_cells (lA cA : Addr) (t : DrawSt) : valV (drawKV lA cA t) (Sum.inr kCells) = some (.ref cA) := (valV_neg kne2).trans ((valV_neg kne4).trans (valV_pos rfl))
theorem dv_turn (lA cA : Addr) (t : DrawSt) : valV (drawKV lA cA t) (Sum.inr kTurn) = some (.int t.turn) := (valV_neg kne3).trans ((valV_neg kne5).trans ((valV_neg kne6).trans (valV_pos rfl)))
theorem dp_rest (lA cA : Addr) (t : DrawSt) (i : Int) : putK (drawKV lA cA t) (Sum.inr kRest) (.int i) = drawKV lA cA { t with rest := i } := by
  have e : ((drawKV lA cA t).any fun kv => decide (kv.1 = (Sum.inr kRest : Key))) = true := by
    simp [drawKV]
  unfold putK
  rw [if_pos e]
  simp only [drawKV, List.map_cons, List.map_nil, if_neg kne1, if_pos, if_neg (Ne.symm kne4), if_neg (Ne.symm kne5)]
theorem dp_turn (lA cA : Addr) (t : DrawSt) (i : Int) : putK (drawKV lA cA t) (Sum.inr kTurn) (.int i) = drawKV lA cA { t with turn := i } := by
  have e : ((drawKV lA cA t).any fun kv => decide (kv.1 = (Sum.inr kTurn : Key))) = true := by
    simp [drawKV]
  unfold putK
  rw [if_pos e]
  simp only [drawKV, List.map_cons, List.map_nil, if_neg kne3, if_neg kne5, if_neg kne6, if_pos]
/-- the draws at dA, their great numbers at lA, their cells at cA -/
def drawR (dA lA cA : Addr) : Res DrawSt where
  fp := fun a => a = dA ∨ a = lA ∨ a = cA
  hd := some dA
  At := fun H t => lA ≠ cA ∧ H dA = some (.dK (drawKV lA cA t)) ∧ H lA = some (.lst (t.large.map V.int)) ∧ H cA = some (.lst (t.cells.map V.int))
  dom := fun H t h a m => by
    obtain ⟨_, h1, h2, h3⟩ := h
    rcases m with rfl | rfl | rfl
    · exact ⟨_, h1⟩
    · exact ⟨_, h2⟩
    · exact ⟨_, h3⟩
  mono := fun H H' t h k => ⟨h.1, k _ _ (.inl (.inl rfl)) h.2.1, k _ _ (.inl (.inr (.inl rfl))) h.2.2.1, k _ _ (.inl (.inr (.inr rfl))) h.2.2.2⟩
def CD (r : Res DrawSt) : Prop := ∃ dA lA cA, r = drawR dA lA cA
def isHd (i : Nat) (ρ : En) : Bool := match ρ[i]? with
  | some (some (.d .hd)) => true
  | _ => false
section
variable {X : Cx} {W : WX} {dA lA cA : Addr} {M0 : Addr → Prop} {H0 : Hp} {x key : Str} {i j : Nat} {p p2 p3 p4 p5 p6 pos : Pos} {e : Expr}
theorem hd_at {σ : L2.St} {ρ : En} {H : Hp} (s : RpS X.K (fr (drawR dA lA cA) M0 H0) σ ρ H) (h : isHd i ρ = true) : σ[i]? = some (some (.ref dA)) := by
  unfold isHd at h
  split at h
  · rename_i e
    obtain ⟨v, e1, e2⟩ := s.dat i _ e
    simp only [Rp] at e2
    obtain ⟨a, f1, f2⟩ := e2
    cases f1
    rw [e1, f2]
  · cases h
/-- draw["rest"], draw["turn"] -/
def drI (i : Nat) (g : DrawSt → Int) : Den DrawSt := fun ρ t => if isHd i ρ then .ok (.int (g t)) t else .no
theorem d_drI (hu : X.A.units + 1 < cLine) (h : PE X (.Name x p) (tVar i)) {g : DrawSt → Int} (hg : ∀ t, valV (drawKV lA cA t) (Sum.inr key) = some (.int (g t))) :
    PE X (.Subscript (.Name x p) (.Constant (.str key) j p2) p3) (tD X.K W (fr (drawR dA lA cA) M0 H0) (drI i g)) := (pe_dget hu h pe_str (fun _ _ => rfl)).imp fun σ H Q q => by
  obtain ⟨ρ, t, s, at_, q⟩ := q
  unfold drI at q
  split at q
  · rename_i c
    refine ⟨_, hd_at s c, dA, .int (g t), rfl, ?_, q.ok .refl at_ (by simp only [Rp])⟩
    have z := DGet.k (k := Sum.inr key) at_.2.2.1
    rw [hg t] at z
    exact z
  · exact q.elim
/-- draw["large"] != [] -/
def drNe (i : Nat) : Den DrawSt := fun ρ t => if isHd i ρ then .ok (.bl (!t.large.isEmpty)) t else .no
theorem eqvAll_ints (ns : List Int) : PyData.eqvAll (ns.map PyData.int) [] = ns.isEmpty := by cases ns <;> simp [PyData.eqvAll]
theorem dpAll_ints {K : PySem.W.Frag} {H : Hp} : ∀ ns : List Int, DpAll K H (ns.map V.int) (ns.map PyData.int)
  | [] => .nil
  | n :: ns => .cons (.int n) (dpAll_ints ns)
theorem shaped_ints (ns : List Int) : SeqAt.shaped (.list (ns.map PyData.int)) = true := by
  have h1 : PyData.canLayAll0 (ns.map PyData.int) = true := by
    induction ns with
    | nil => simp [PyData.canLayAll0]
    | cons n ns ih => simp [PyData.canLayAll0, PyData.canLay0, ih]
  have h2 : PyData.depthAll (ns.map PyData.int) = 0 := by
    induction ns with
    | nil => simp [PyData.depthAll]
    | cons n ns ih =>
      simp only [List.map_cons, PyData.depthAll, PyData.depth]
      rw [ih (by simpa [PyData.canLayAll0, PyData.canLay0] using h1)]
      rfl
  unfold SeqAt.shaped
  simp [PyData.canLay0, PyData.depth, h1, h2]
theorem dt_drNe (hu : X.A.units + 64 < cLine) (h : PE X (.Name x p) (tVar i)) {kl : Str} (hk : kl = kLarge) :
    PT X (.Compare (.Subscript (.Name x p) (.Constant (.str kl) j p2) p3) [.NotEq] [.List [] p4] p5) (tDT X.K W (fr (drawR dA lA cA) M0 H0) (asB (drNe i))) :=
  (pt_cmpR (op_neD hu) (pe_dget (by omega) h pe_str (fun _ _ => rfl)) (pe_lst pa_nil) (nomark _)).imp fun σ H Q q => by
  obtain ⟨ρ, t, s, at_, q⟩ := q
  unfold asB drNe at q
  split at q
  · rename_i c
    subst hk
    refine ⟨_, hd_at s c, dA, .ref lA, rfl, ?_, Nat.zero_le _, fun l nl => ⟨.list (t.large.map PyData.int), .list [], ?_, .lst (.of upd_same) .nil, shaped_ints _, by decide +kernel, _, rfl, ?_⟩⟩
    · have z := DGet.k (k := Sum.inr kLarge) at_.2.2.1
      rw [dv_large] at z
      exact z
    · exact .lst (.of (by rw [upd_ne (ne_of_none at_.2.2.2.1 nl)]; exact at_.2.2.2.1)) (dpAll_ints _)
    · have e1 : PyData.eqv (.list (t.large.map PyData.int)) (.list []) = t.large.isEmpty := by
        simp only [PyData.eqv]
        exact eqvAll_ints _
      rw [e1]
      exact Post.ok q (.of (same_new nl)) (at_same at_ (same_new nl)) rfl
  · exact q.elim
/-- draw["large"].pop(0) -/
def drPop (i : Nat) : Den DrawSt := fun ρ t => if isHd i ρ then (match t.large with
  | n :: r => .ok (.int n) { t with large := r }
  | [] => .no) else .no
theorem d_drPop (hu : X.A.units + 1 < cLine) (ap : ∀ a, M0 a → ¬ (drawR dA lA cA).fp a) (h : PE X (.Name x p) (tVar i)) {kl : Str} (hk : kl = kLarge)
    (hpe : ∀ {to : TE} {te : TA}, PE X (.Subscript (.Name x p) (.Constant (.str kl) j p2) p3) to → PA X [.Constant (.int 0) 0 p4] te → PE X (.Call (.Attribute (.Subscript (.Name x p) (.Constant (.str kl) j p2) p3) "pop" p5) [.Constant (.int 0) 0 p4] [] p6) (tBM X.K "list" rPopAt to te) := by exact fun a b => pe_bm PySem.F.plainAttrs_list PySem.F.slot_list_pop PySem.F.type_list_pop mt_popAt a b) :
    PE X (.Call (.Attribute (.Subscript (.Name x p) (.Constant (.str kl) j p2) p3) "pop" p5) [.Constant (.int 0) 0 p4] [] p6) (tD X.K W (fr (drawR dA lA cA) M0 H0) (drPop i)) :=
  (hpe (pe_dget hu h pe_str (fun _ _ => rfl)) (pa_cons pe_int pa_nil)).imp fun σ H Q q => by
  obtain ⟨ρ, t, s, at_, q⟩ := q
  unfold drPop at q
  split at q
  · rename_i c
    subst hk
    cases hl : t.large with
    | nil =>
      rw [hl] at q
      exact q.elim
    | cons n r =>
      rw [hl] at q
      obtain ⟨hM, hlc, h1, h2, h3⟩ := at_
      rw [hl] at h2
      refine ⟨_, hd_at s c, dA, .ref lA, rfl, ?_, .inl ⟨rfl, _, .inl (.inl h2)⟩, lA, _, 0, 0, .int n, rfl, rfl, h2, by decide, by decide, by simp [seqIndex?], rfl, ?_⟩
      · have z := DGet.k (k := Sum.inr kLarge) h1
        rw [dv_large] at z
        exact z
      · have nd : dA ≠ lA := ne_of h1 h2 (by intro z; cases z)
        refine q.ok (fun a o nf e => ?_) ⟨fun a m => ?_, hlc, ?_, ?_, ?_⟩ (by simp only [Rp])
        · rw [upd_ne (show a ≠ lA from fun z => nf (.inr (.inr (.inl z))))]
          exact e
        · obtain ⟨o, e0, e⟩ := hM a m
          exact ⟨o, e0, by rw [upd_ne (show a ≠ lA from fun z => ap a m (.inr (.inl z)))]; exact e⟩
        · rw [upd_ne nd]
          exact h1
        · rw [upd_same]
          rfl
        · rw [upd_ne (Ne.symm hlc)]
          exact h3
  · exact q.elim
/-- draw["cells"], walked -/
def drCells (i : Nat) : En → DrawSt → Out (List Dat) DrawSt := fun ρ t => if isHd i ρ then .ok (t.cells.map Dat.int) t else .no
theorem rpl_ints {K : PySem.W.Frag} {h : Option Addr} {H : Hp} : ∀ ns : List Int, RpL K h H (ns.map Dat.int) (ns.map V.int)
  | [] => RpL.nil
  | n :: ns => RpL.cons (by simp only [Rp]) (rpl_ints ns)
end
end DL
end
section
set_option Elab.async false
set_option linter.all false
set_option maxRecDepth 100000
set_option maxHeartbeats 4000000
namespace DL
open PySem PySem.Spec PyProof.Rows L2

/-! ### a caught exception is known from the clause's end on -/
theorem inv_track {X : Cx} {pins : List (Addr × Obj)} {σ : L2.St} {H : Hp} {s : Shared} {a C : Addr} {d : Option Addr} {oe : Obj} {vs : Array Value} (I : Inv X pins σ H s) (he : s.heap.get? a = some oe) (hz : Zc (.ref C) d oe) (hd : oe.data = .fields vs) (na : H a = none)
    (n0 : X.s_0.heap.get? a = none) (nL : a ≠ X.env.locals) (np : ∀ p ∈ X.pn ++ pins, p.1 ≠ a) : Inv X pins σ (upd H a (exO C d a)) s := by
  have ne : ∀ {b : Addr} {o : HO}, H b = some o → upd H a (exO C d a) b = some o := fun {b o} e => by
    rw [upd_ne (ne_of_none e na)]
    exact e
  refine ⟨I.ok, I.os, I.bare, ⟨I.base.keep, I.base.slot, fun b o e n hx => ?_, I.base.there, fun b xs e => ne (I.base.tups b xs e), fun b o u e => ne (I.base.frzs b o u e), fun b ps e => ?_⟩, I.loc, I.cell, ?_, fun x c e => ?_, fun p hp => ?_, fun b o e => ?_, I.len⟩
  · have nb : b ≠ a := fun z => by
      rw [z, n0] at e
      cases e
    rw [upd_ne nb]
    exact I.base.free b o e n hx
  · obtain ⟨more, e'⟩ := I.base.tbls b ps e
    exact ⟨more, ne e'⟩
  · rw [upd_ne (Ne.symm nL)]
    exact I.free
  · obtain ⟨v, ob, ho, hc⟩ := I.cell x c e
    have nc : c ≠ a := fun z => by
      rw [z, he] at ho
      cases ho
      rw [hd] at hc
      cases hc
    rw [upd_ne nc]
    exact I.freeC x c e
  · obtain ⟨p1, p2, p3⟩ := I.pin p hp
    refine ⟨p1, ?_, p3⟩
    rw [upd_ne (np p hp)]
    exact p2
  · by_cases hb : b = a
    · rw [hb, upd_same] at e
      cases e
      rw [hb]
      exact ⟨⟨oe, vs, he, hz, hd⟩, ⟨oe, he⟩, fun h1 h2 ⟨o1, v1, q1, q2, q3⟩ st => ⟨o1, v1, st _ q1, q2, q3⟩⟩
    · rw [upd_ne hb] at e
      exact (I.hok b o e).stay (fun _ _ _ q => q) (fun _ q => ne q) fun _ _ q => ne q
/-- what 'except x as n: ..' wishes, the exception kept behind it -/
def wKeep (K : PySem.W.Frag) (c : Value) (n i : Nat) (ts : Addr → TS) (D : Ends) : WX := fun cls d σ H =>
  PySem.W.exmOne K cls c = some true ∧ ∃ C : Addr, cls = .ref C ∧ ∀ a, H a = none → σ.length = n →
    ts a { nx := fun σ1 H1 => H1 = H ∧ D.nx (σ1.set i none) (upd H1 a (exO C d a)), rt := fun _ _ => False, bk := fun _ _ => False, ct := fun _ _ => False } (σ.set i (some (.ref a))) H
theorem ps_tryK {X : Cx} {x n : Str} {c : Value} {i : Nat} {body more : List Stmt} {st : Stmt} {np pos pos' : Pos} {tb : WX → TS} {ts : Addr → TS} (stk : X.stack = X.env :: X.outer) (frm : X.env.frame = some X.env.locals) (hex : X.ex = []) (nod : X.N.Nodup) (hi : X.N[i]? = some n)
    (kd : X.env.kindOf n = some .local) (nm : Names X x c)
    (hb : ∀ (W : WX) (pn : List (Addr × Obj)) (xe : Value → Shared → Prop), Takes (X.tr pn xe) W → PSs (X.tr pn xe) body (tb W))
    (hsu : ∀ (a : Addr) (oe : Obj) (pn : List (Addr × Obj)), PSs (X.suite a ((a, oe) :: pn)) (st :: more) (ts a)) :
    PS X (.Try body [.ExceptHandler (some (.Name x np)) (some n) (st :: more) pos'] [] [] pos) (fun D σ H => tb (wKeep X.K c X.N.length i ts D) D σ H) := by
  refine ⟨fun pins s0 σ0 H0 D I0 want => wpAny_Try_except ?_⟩
  have okX := I0.ok
  have frames : X.A.frames = some (X.env :: X.outer) := okX.frames.trans (by rw [stk])
  have clean : ∀ {xe : Value → Shared → Prop} {f : Flow} {sB : Shared}, SP (X.tr (X.pn ++ pins) xe) [] D f sB → SP X pins D f sB := by
    intro xe f sB q
    cases f with
    | ret u =>
      obtain ⟨v, σB, HB, JB, r⟩ := q
      exact ⟨v, σB, HB, JB.ofTry okX, r⟩
    | _ =>
      obtain ⟨σB, HB, JB, r⟩ := q
      exact ⟨σB, HB, JB.ofTry okX, r⟩
  refine wpAny_mono ((hb (wKeep X.K c X.N.length i ts D) (X.pn ++ pins) (fun e sA => wpAny (model X.prog X.w) X.A (noteFrame e X.env)
      (fun _ sB => wpAny (model X.prog X.w) X.A (setFlight e none) (fun _ sC => wpAny (model X.prog X.w) X.A (handleBy e X.env [.ExceptHandler (some (.Name x np)) (some n) (st :: more) pos']) (SP X pins D) X.xe sC) X.xe sB) X.xe sA) ?_).run [] s0 σ0 H0 D (I0.toTry _) want) ?_ fun _ _ z => z
  · rintro u sZ ⟨a, B, sI, pinsZ, σ, H, cls, d, rfl, JT, ground, upS, sky, na, os, ag, yes, C, rfl, go⟩
    have J : Inv X pins σ H sI := JT.ofTry okX
    have sky : Sky B (X.env :: X.outer) a (Zc (.ref C) d) X.env.locals sZ.heap := stk ▸ sky
    have nB : B.get? a = none := by
      rcases sky with z | z | z
      · exact z.2.1
      · exact z.2.1
      · exact z.2.1
    refine Sky.land Zc.steady frames frm sky fun hp1 fly1 up1 => ?_
    have J1 : Inv X pins σ H { sZ with heap := hp1 } := J.landed ground fly1.1 (upS.trans up1) os ag
    obtain ⟨o1, vs1, get1, z1, data1⟩ := fly1.there
    have notF : a ∉ frs (X.env :: X.outer) := fun m => by
      obtain ⟨_, o', e', nf⟩ := fly1.2.2.1.mem m
      rw [get1] at e'
      cases e'
      exact nf _ data1
    have nL : a ≠ X.env.locals := fun z => notF (List.mem_filterMap.mpr ⟨X.env, List.mem_cons_self, z ▸ frm⟩)
    have nF : a ∉ X.fs := fun m => by
      obtain ⟨en, m1, m2⟩ := List.mem_filterMap.mp m
      exact notF (List.mem_filterMap.mpr ⟨en, List.mem_cons_of_mem _ m1, m2⟩)
    have notI : ∀ o, sI.heap.get? a ≠ some o := fun o e => by
      have z := ground a o e (by rw [stk]; exact notF)
      rw [nB] at z
      cases z
    have n0 : X.s_0.heap.get? a = none := by
      cases e : X.s_0.heap.get? a with
      | none => rfl
      | some o =>
        obtain ⟨o', e'⟩ := J.base.there a o e (by rw [hex]; exact fun z => nomatch z)
        exact (notI o' e').elim
    have npin : ∀ p ∈ X.pn ++ pins, p.1 ≠ a := fun p m z => notI p.2 (z ▸ (J.pin p m).1)
    have S1 := J1.suite get1 data1 na nL nF
    refine wpAny_handleBy_cons (codeAny_handlers_test ?_) (by intro q; cases q)
    have LT : PySem.W.Looks (model X.prog X.w) hp1 (typeOf (.ref a)) (.ref C) := fun A Q E s k q => wpAny_typeOf_ref (k _ _ get1) (by rw [z1.1]; exact q)
    have LM := PySem.W.exm_one (M := model X.prog X.w) J1.kIn LT yes
    have named : ∀ {Q : Value → Shared → Prop} {E : Value → Shared → Prop}, Q c { sZ with heap := hp1 } → wpAny (model X.prog X.w) (X.A.mark (some (.ref a))) (eval (.Name x np) X.env) Q E { sZ with heap := hp1 } := by
      intro Q E q
      obtain ⟨g1, g2, g3 | ⟨g3, g4, g5⟩⟩ := nm
      · exact ld_glob (X := X.suite a ((a, o1) :: (X.pn ++ pins))) S1 g1 g3 q g2
      · exact ld_blt (X := X.suite a ((a, o1) :: (X.pn ++ pins))) S1 g1 g3 g4 q g5 g2
    refine named (LM.here ?_)
    refine codeAny_handlers_suite_as ?_
    refine HandSPX.lands_againZ fly1 fun hp2 fly2 up2 => ?_
    have J2 : Inv X pins σ H { sZ with heap := hp2 } := J.landed ground fly2.1 ((upS.trans up1).trans up2) os ag
    obtain ⟨o2, vs2, get2, z2, data2⟩ := fly2.there
    refine store_ok (X := X.suite a ((a, o2) :: (X.pn ++ pins))) (v := .ref a) (J2.suite get2 data2 na nL nF) nod hi (.inl kd) rfl (fun s3 S3 => ?_) (.inr kd)
    refine wpAny_mono ((hsu a o2 (X.pn ++ pins)).run [] s3 _ H _ S3 (go a na J.len)) (fun fl s4 got => ?_) fun _ _ z => z.elim
    cases fl with
    | next =>
      obtain ⟨σ4, H4, S4, eqH, fin⟩ := got
      obtain ⟨g4, g5, _⟩ := S4.pin (a, o2) (List.mem_append_left _ List.mem_cons_self)
      have J4 : Inv X pins σ4 (upd H4 a (exO C d a)) s4 := inv_track (S4.unsuite okX) g4 z2 data2 g5 n0 nL npin
      exact gone_ok J4 nod hi kd fun s5 J5 => ⟨_, _, J5, fin⟩
    | ret u =>
      obtain ⟨_, _, _, _, _, z⟩ := got
      exact z.elim
    | brk =>
      obtain ⟨_, _, _, z⟩ := got
      exact z.elim
    | cont =>
      obtain ⟨_, _, _, z⟩ := got
      exact z.elim
  · intro fl sB got
    have got := clean got
    cases fl with
    | next => exact wpAny_execs_nil got
    | ret u => exact got
    | brk => exact got
    | cont => exact got
end DL
end
section
set_option Elab.async false
set_option linter.all false
set_option maxRecDepth 100000
set_option maxHeartbeats 4000000
namespace DL
open PySem PySem.Spec PyProof.Rows L2 LamX

/-! ### a lambda handed to a def: nothing but its own table is written -/
section
variable {X : Cx} {pins : List (Addr × Obj)} {σ : L2.St} {H : Hp} {s : Shared}
abbrev lamQ (X : Cx) : Str := X.env.qual ++ "<lambda>"
abbrev lamO (X : Cx) (pr : Arguments) (body : Expr) (sc : Scope) (pm ctv : Value) (c' : Addr) : Obj := PySem.W.kla_obj "<lambda>" (lamQ X) pr body sc (cloFrom X.env.cells sc.names []) pm c' ctv
theorem lamMk {T : List (Addr × Str)} {c P : Addr} {pr : Arguments} {body : Expr} {sc : Scope} {pos : Pos} {E : Value → Shared → Prop} {Q : Value → Shared → Prop} (I : Inv X pins σ H s) (tb : TabB X.base X.mg c P) (cd : X.env.code = .ref c) (inT : (P, lamQ X) ∈ T)
    (one : ∀ p ∈ T, p.1 = P → p.2 = lamQ X) (tabs : Tabs T H) (nodef : defaultsOf pr X.env = ([], [])) (frees : ∀ y ∈ sc.names, y.2 = .free → ∃ c, X.env.cells.lookup y.1 = some c)
    (k : ∀ (f c' : Addr) (pm ctv : Value) (H1 : Hp) (s1 : Shared), Inv X pins σ H1 s1 → KeepX (fun b => b = P) H H1 → Tabs T H1 → s1.heap.get? f = some (lamO X pr body sc pm ctv c') → H1 f = none → f ∉ frs X.stack → H1 c' = some (CodeO c' (lamQ X)) → Q (.ref f) s1) :
    wpAny (model X.prog X.w) X.A (eval (.Lambda pr body sc pos) X.env) Q E s := by
  obtain ⟨ps, atP, trip, each⟩ := tabs _ inT
  have getP : s.heap.get? P = some { cls := .none, data := .fields ps } := I.hok P _ atP
  have bmP : s.heap.BuiltinsAt X.mg P := tb.bm.keeps I.bk
  have out : ∀ f, s.heap.objs.size ≤ f → f ∉ frs X.stack := fun f big m => (List.mem_cons.mp (I.stkSub _ m)).elim
    (fun e => by
      have q := I.lt
      rw [← e] at q
      exact absurd (Nat.lt_of_lt_of_le q big) (Nat.lt_irrefl _)) fun m => I.nofs big m
  refine PySem.W.kla_eval nodef ?_
  cases am : codeAmong pos ps.toList with
  | some v0 =>
    obtain ⟨c', rfl, co⟩ := each pos v0 am
    refine PySem.W.kla_makeFunctionHit (mg := X.mg) (c := c) (P := P) (ps := ps) (closure_ok frees) I.ok.glob (I.mod.glob.keeps I.bk) cd (tb.code.keeps I.bk) getP trip am bmP fun ctv h1 tk ext big => ?_
    exact k h1.objs.size c' _ ctv H _ (I.kept (h' := h1.push (lamO X pr body sc ((X.mg "__name__").getD .none) ctv c')) (t' := tk) fun b o e => Heap.get?_push_of_some _ (ext b o e)) .refl tabs (Heap.get?_push_size _ rfl) (I.hok.fresh big) (out _ big) co
  | none =>
    refine PySem.W.kla_makeFunction (mg := X.mg) (c := c) (P := P) (ps := ps) (closure_ok frees) I.ok.glob (I.mod.glob.keeps I.bk) cd (tb.code.keeps I.bk) getP trip am tb.gP bmP fun c' ctv h1 tk ext ge lt rec_ atT => ?_
    obtain ⟨c1, oc, vs, t, q0, q1, q2, q3⟩ := rec_
    cases q0
    have big : s.heap.objs.size ≤ h1.objs.size := by omega
    have fresh : H c' = none := I.hok.fresh ge
    have kp : KeepX (fun b => b = P) H (upd (upd H P (.tbl (ps ++ #[rawInt pos.line, rawInt pos.col, .ref c']))) c' (CodeO c' (lamQ X))) := fun b o n e => by
      rw [upd_ne (ne_of_none e fresh), upd_ne n]
      exact e
    have I1 := inv_table (t' := tk) (more := #[rawInt pos.line, rawInt pos.col, .ref c']) (h' := h1.push (lamO X pr body sc ((X.mg "__name__").getD .none) ctv c')) I atP (fun b o n e => Heap.get?_push_of_some _ (ext b o n e)) (Heap.get?_push_of_some _ atT) ge ⟨oc, vs, t, Heap.get?_push_of_some _ q1, q2, q3⟩
    have coN : ∀ c0, H c0 = some (CodeO c0 (lamQ X)) → c0 ≠ P := fun c0 e z => by
      rw [z, atP] at e
      exact codeO_ne ps (Option.some.inj e).symm
    refine k h1.objs.size c' _ ctv _ _ I1 kp (fun p hp => ?_) (Heap.get?_push_size _ rfl) ?_ (out _ big) upd_same
    · by_cases eP : p.1 = P
      · rw [one p hp eP, eP]
        refine ⟨ps ++ #[rawInt pos.line, rawInt pos.col, .ref c'], ?_, ?_, fun p' cv hc => ?_⟩
        · rw [upd_ne (ne_of_none atP fresh), upd_same]
        · rw [Array.toList_append]
          exact PySem.TriplesOk_snoc _ _ _ _ trip
        · rw [Array.toList_append] at hc
          rcases among_app _ trip hc with z | z
          · obtain ⟨c0, e1, e2⟩ := each p' cv z
            exact ⟨c0, e1, kp _ _ (coN c0 e2) e2⟩
          · exact ⟨c', z, upd_same⟩
      · obtain ⟨ps2, a1, a2, a3⟩ := tabs p hp
        refine ⟨ps2, kp _ _ eP a1, a2, fun p' cv hc => ?_⟩
        obtain ⟨c0, e1, e2⟩ := a3 p' cv hc
        have n0 : c0 ≠ P := fun z => by
          rw [z, atP] at e2
          have := codeO_ne (c := P) (q := p.2) ps
          exact this (Option.some.inj e2).symm
        exact ⟨c0, e1, kp _ _ n0 e2⟩
    · have h1P : h1.objs.size ≠ P := fun z => Nat.lt_irrefl _ (Nat.lt_of_lt_of_le (z ▸ Heap.lt_size getP) big)
      have h1c : h1.objs.size ≠ c' := fun z => Nat.lt_irrefl _ (show c' < c' from Nat.lt_of_lt_of_eq lt z)
      rw [upd_ne h1c, upd_ne h1P]
      exact I.hok.fresh big
/-- the reading of x(lambda: ..) -/
def tLamK (T : List (Addr × Str)) (P : Addr) (TT : (XK → Hp → VK → Prop) → Hp → VK → Prop) (t : XK → TE) : TE := fun σ H Q => Tabs T H ∧ ∀ H1, KeepX (fun b => b = P) H H1 → Tabs T H1 → TT (fun E H' Q' => t E σ H' Q') H1 Q
theorem pe_lamK {T : List (Addr × Str)} {TT : (XK → Hp → VK → Prop) → Hp → VK → Prop} {x a : Str} {g c P : Addr} {k : Nat} {pg : Arguments} {bg : List Stmt} {sg : Scope} {dV kV doc pm cdv ct oc : Value} {an od : Option Addr} {osl : Array (Option Value)} {Ng : List Str} {pr : Arguments} {body : Expr}
    {sc : Scope} {t : XK → TE} {p lpos pos : Pos} (gl : Gl X x) (mx : X.mg x = some (.ref g)) (kp : PySem.W.keepIn X.K (.ref g) = true) (lk : X.K.lookup g = some ⟨oc, od, .func (PySem.W.fnOf x x pg bg sg dV kV doc pm an cdv ct), osl⟩) (cg : PySem.W.codeIn X.K cdv x = true)
    (bd : L2.Binds X.K (PySem.W.fnOf x x pg bg sg dV kV doc pm an cdv ct) [a] []) (Sg : FnScope Ng [a] sg) (first : Ng[0]? = some a) (vis : Vis sg a) (gives : GivesTo X Ng x sg g cdv bg a (lamQ X) TT) (tb : TabB X.base X.mg c P) (cd : X.env.code = .ref c) (inT : (P, lamQ X) ∈ T)
    (one : ∀ p ∈ T, p.1 = P → p.2 = lamQ X) (room : Room (k + 2) X.A) (L : LamS X.env.scope sc) (nodef : defaultsOf pr X.env = ([], [])) (noarg : ∀ (q : Str) (cl : List (Str × Addr)) (pm cv ctv : Value), bindArgs (PySem.W.kla_fn "<lambda>" q pr body sc cl pm cv ctv) ⟨[], []⟩ = pure [])
    (hbody : ∀ (A : Around) (outer : List Env) (s : Shared) (H : Hp) (E : XK) (f c' : Addr), Room k (A.deeper (lamEnv X sc s.heap.objs.size f c')) → PE (lamCx X A outer s H E sc f c') body (t E)) (d1 : (x == ("__debug__" : Str)) = false := by decide) (d2 : (a == ("__debug__" : Str)) = false := by decide)
    (d3 : (a == ("__classdict__" : Str)) = false := by decide) : PE X (.Call (.Name x p) [.Lambda pr body sc lpos] [] pos) (tLamK T P TT t) := by
  refine ⟨fun pins s σ H Q I ⟨tabs, want⟩ => wpAny_Call_Name_kw (ld_glob I gl mx (PySem.W.callWith_K (h₀ := X.base) I.ok.mod.kin kp ?_ (by rfl) (by rfl)) d1)⟩
  show wpAny _ _ (spliced ((false, eval (.Lambda pr body sc lpos) X.env) :: backTo pos (starEach [] X.env))) _ _ s
  refine Calls.spliced_cons (lamMk I tb cd inT one tabs nodef (L.has I.ok) fun f c' pm' ctv H1 s1 I1 kx tabs1 getf nof offs co => Calls.spliced_nil ⟨I1.kIn, ?_⟩)
  have run : codeAny (model X.prog X.w) X.A (.call (.ref g) ⟨[.ref f], []⟩) (CR C8.CX0 X.stack X.prog X.w H1 s1 Q C8.E0) s1 :=
    run_ofS (N := Ng) (ps := [a]) (us := [.ref f]) (vs := [.ref f]) lk cg Sg room I1.env0 (bd s1 [.ref f] I1.kIn rfl) (.cons rfl .nil) rfl fun room' => by
      obtain ⟨t', h1, h2⟩ := gives f c' s1 H1 Q (fun E H' Q' => t E σ H' Q') (fun W pn xe E p1 p2 tk hW => pe_act (i := 0) I1 L getf nof offs (noarg _ _ _ _ _) tk hW room' (fun A outer s H r => hbody A outer s H E f c' r) first vis d2 d3) co (want H1 kx tabs1)
      exact ⟨t', h1.nox, h2⟩
  refine wpAny_call (codeAny_mono run fun r s2 got => ?_)
  cases r with
  | error e => exact (show False from got).elim
  | ok fl =>
    cases fl with
    | ret u => exact I1.after got
    | next => exact got.elim
    | brk => exact got.elim
    | cont => exact got.elim
end
end DL
end
section
set_option Elab.async false
set_option linter.all false
set_option maxRecDepth 100000
set_option maxHeartbeats 4000000
namespace DL
open PySem PySem.Spec PyProof.Rows L2 LamX

/-! ### caught = None; try: work() except X as error: caught = error; return caught -/
def TTc (K : PySem.W.Frag) (CS : Addr) : (XK → Hp → VK → Prop) → Hp → VK → Prop := fun tl H Q =>
  tl (fun cls d H1 => PySem.W.exmOne K cls (.ref CS) = some true ∧ ∃ C : Addr, cls = .ref C ∧ ∀ a, H1 a = none → Q (.ref a) (upd H1 a (exO C d a))) H fun _ H1 => Q .non H1
theorem caught_gives {X : Cx} {x a b e n q : Str} {sg : Scope} {g CS : Addr} {cdg : Value} {j : Nat} {p1 p2 p3 p4 p5 p6 p7 p8 p9 p10 p11 p12 p13 p14 : Pos} (nod : [a, b, e].Nodup) (kb : sg.names.lookup b = some .local) (ke : sg.names.lookup e = some .local) (kn : sg.names.lookup n = some .globalImplicit)
    (mn : X.mg n = some (.ref CS)) (dn : (n == ("__debug__" : Str)) = false) (db : (b == ("__debug__" : Str)) = false) (cb : (b == ("__classdict__" : Str)) = false) (de : (e == ("__debug__" : Str)) = false) (ce : (e == ("__classdict__" : Str)) = false)
    (sw : ∀ env : Env, swapsWith (.Constant .none j p1) (some (.Name b p2)) p3.line env = pure false) (sw2 : ∀ env : Env, swapsWith (.Call (.Name a p4) [] [] p5) none p6.line env = pure false) (sw3 : ∀ env : Env, swapsWith (.Name e p7) (some (.Name b p8)) p9.line env = pure false) :
    GivesTo X [a, b, e] x sg g cdg [.Assign [.Name b p2] (.Constant .none j p1) p3, .Try [.Expr (.Call (.Name a p4) [] [] p5) p6] [.ExceptHandler (some (.Name n p10)) (some e) [.Assign [.Name b p8] (.Name e p7) p9] p11] [] [] p12, .Return (some (.Name b p13)) p14] a q (TTc X.K CS) := by
  intro f c' s H Q tl act co want
  let Z : Cx := (cxOf C8.CX0 X.prog X.w X.K X.mg X.base [a, b, e] x sg g cdg X.A X.stack s H C8.E0).nox
  have s1 : PS Z (.Assign [.Name b p2] (.Constant .none j p1) p3) _ := ps_set (X := Z) (i := 1) nod rfl (.inl kb) pe_non (sw _) (.inr kb)
  have s2 : PS Z (.Try [.Expr (.Call (.Name a p4) [] [] p5) p6] [.ExceptHandler (some (.Name n p10)) (some e) [.Assign [.Name b p8] (.Name e p7) p9] p11] [] [] p12) _ := ps_tryK (X := Z) (c := .ref CS) (i := 2)
    (tb := fun W D σ H => ∃ Ech : XK, (∀ cls d σ' H', Ech cls d H' → W cls d σ' H') ∧ σ[0]? = some (some (.ref f)) ∧ H c' = some (CodeO c' q) ∧ tl Ech H fun _ H1 => D.nx σ H1)
    (ts := fun a D σ H => ∃ v, σ[2]? = some (some v) ∧ D.nx (σ.set 1 (some v)) H)
    rfl rfl rfl nod rfl ke ⟨kn, dn, .inl mn⟩
    (fun W pn xe tk => ⟨fun pins s' σ H' D I ⟨Ech, h1, h2, h3, h4⟩ => (pss_one (ps_expr (act W pn xe Ech p4 p5 tk h1) (sw2 _))).run pins s' σ H' D I ⟨h2, h3, h4⟩⟩)
    (fun a1 oe pn => pss_one (ps_set (X := Z.suite a1 ((a1, oe) :: pn)) (i := 1) nod rfl (.inl kb) (pe_var (i := 2) rfl (.inl ke) de ce) (sw3 _) (.inr kb)))
  have s3 : PS Z (.Return (some (.Name b p13)) p14) _ := ps_ret (X := Z) (pe_var (i := 1) rfl (.inl kb) db cb)
  refine ⟨_, pss_cons s1 (pss_cons s2 (pss_one s3)), ?_⟩
  have eQ : (fun (_ : V) (H1 : Hp) => tRet (tVar 1) { nx := fun _ H' => Q .non H', rt := Q } (List.set (L2.start [a, b, e] [V.ref f]) 1 (some V.non)) H1) = fun _ H1 => Q .non H1 := by
    funext _ H1
    refine propext ⟨fun z => ?_, fun z => ⟨.non, rfl, z⟩⟩
    obtain ⟨v, e1, e2⟩ := z
    cases e1
    exact e2
  unfold TTc at want
  rw [← eQ] at want
  refine ⟨_, fun cls d σ' H' h => ?_, rfl, co, want⟩
  obtain ⟨h1, C, rfl, h2⟩ := h
  refine ⟨h1, C, rfl, fun a1 na len => ?_⟩
  have len : σ'.length = 3 := len
  refine ⟨.ref a1, List.getElem?_set_self (by omega), rfl, .ref a1, ?_, h2 a1 na⟩
  rw [List.getElem?_set_ne (by decide), List.getElem?_set_self (by simp; omega)]
/-- _law_caught(lambda: e) -/
def catchD {T : Type} (L : List Addr) (F : Den T) : Den T := fun ρ t => match F ρ t with
  | .ok _ t1 => .ok .non t1
  | .ex C fs ds t1 => if C ∈ L then .ok (.exc C fs ds) t1 else .no
  | .no => .no
/-- x = _law_caught(lambda: l.append(e)) -/
def catchA {T : Type} (i il : Nat) (L : List Addr) (F : Den T) : DenS T := fun ρ t => match ρ[il]? with
  | some (some (.o xs)) => (match F ρ t with
    | .ok d t1 => if xs.length < line then .nx ((ρ.set il (some (.o (xs ++ [d])))).set i (some (.d .non))) t1 else .no
    | .ex C fs ds t1 => if C ∈ L then .nx (ρ.set i (some (.d (.exc C fs ds)))) t1 else .no
    | .no => .no)
  | _ => .no
/-- what a resource must tell of the tables -/
structure TabR (T : List (Addr × Str)) (P : Addr) {S : Type} (r : Res S) : Prop where
  fp : r.fp P
  tabs : ∀ H t, r.At H t → Tabs T H
  back : ∀ H H1 t, r.At H t → KeepX (fun b => b = P) H H1 → Tabs T H1 → r.At H1 t
section
variable {S : Type} {K : PySem.W.Frag} {W : WX} {r : Res S} {M0 : Addr → Prop} {H0 : Hp} {T : List (Addr × Str)} {P CS : Addr} {L : List Addr} {F : Den S}
theorem tab_step (tr : TabR T P r) (ap : ∀ a, M0 a → ¬ r.fp a) {H H1 : Hp} {t : S} (at_ : (fr r M0 H0).At H t) (kx : KeepX (fun b => b = P) H H1) (tb : Tabs T H1) : KeepX (fr r M0 H0).fp H H1 ∧ (fr r M0 H0).At H1 t :=
  ⟨fun a o n e => kx a o (fun z => n (.inr (z ▸ tr.fp))) e, fun a m => by
    obtain ⟨o, e0, e⟩ := at_.1 a m
    exact ⟨o, e0, kx a o (fun z => ap a m (z ▸ tr.fp)) e⟩, tr.back _ _ _ at_.2 kx tb⟩
/-- the caught exception, in the heap that knows it -/
theorem rp_caught {h : Option Addr} {G : Addr → Prop} {H : Hp} {C : Addr} {fs : List Str} {ds : List Dat} {d : Option Addr} {a : Addr} (dm : ∀ a, G a → ∃ o, H a = some o) (na : H a = none) (x : RpX K h (hide G H) C fs ds (.ref C) d) : Rp K h (hide G (upd H a (exO C d a))) (.exc C fs ds) (.ref a) := by
  have sm : Same (hide G H) (hide G (upd H a (exO C d a))) := hide_same (same_new na)
  have ng : ¬ G a := fun z => by
    obtain ⟨o, e⟩ := dm a z
    rw [na] at e
    cases e
  simp only [Rp]
  refine ⟨a, d, rfl, hide_some.mpr ⟨ng, upd_same⟩, ?_⟩
  rcases (x.mono sm).2 with z | ⟨dd, xs, z1, z2, z3, z4⟩
  · exact .inl z
  · exact .inr ⟨dd, xs, z1, z2, z3, z4⟩
theorem t_caught (tr : TabR T P r) (ap : ∀ a, M0 a → ¬ r.fp a) (hL : ∀ C ∈ L, PySem.W.exmOne K (.ref C) (.ref CS) = some true) {σ : L2.St} {H : Hp} {Q : VK} (q : tD K W (fr r M0 H0) (catchD L F) σ H Q) :
    tLamK T P (TTc K CS) (fun E => tD K (fun cls d _ H' => E cls d H') (fr r M0 H0) F) σ H Q := by
  obtain ⟨ρ, t, s, at_, p⟩ := q
  refine ⟨tr.tabs _ _ at_.2, fun H1 kx tb => ?_⟩
  obtain ⟨k1, at1⟩ := tab_step tr ap at_ kx tb
  refine ⟨ρ, t, s.keep k1, at1, ?_⟩
  unfold catchD at p
  cases hF : F ρ t with
  | no =>
    rw [hF] at p
    exact p.elim
  | ok d t1 =>
    rw [hF] at p
    intro b H2 k2 at2 _
    exact p.ok (k1.trans k2) at2 (by simp only [Rp])
  | ex C fs ds t1 =>
    rw [hF] at p
    dsimp only at p
    split at p
    · rename_i hC
      intro cls dd H2 k2 at2 rx
      obtain ⟨rfl, _⟩ := id rx
      have s2 := (s.keep k1).keep k2
      refine ⟨hL C hC, C, rfl, fun a na => p.ok ((k1.trans k2).trans (.of (same_new na))) (at_same at2 (same_new na)) ?_⟩
      exact rp_caught (s2.dom at2) na rx
    · exact p.elim
theorem t_caughtA {i il : Nat} (tr : TabR T P r) (ap : ∀ a, M0 a → ¬ r.fp a) (hL : ∀ C ∈ L, PySem.W.exmOne K (.ref C) (.ref CS) = some true) {σ : L2.St} {H : Hp} {D : Ends} (q : tDS K W (fr r M0 H0) (catchA i il L F) D σ H) :
    tLamK T P (TTc K CS) (fun E => tBM K "list" rAppend (tVar il) (tCons (tD K (fun cls d _ H' => E cls d H') (fr r M0 H0) F) tNil)) σ H fun v H1 => D.nx (σ.set i (some v)) H1 := by
  obtain ⟨ρ, t, s, at_, p⟩ := q
  refine ⟨tr.tabs _ _ at_.2, fun H1 kx tb => ?_⟩
  obtain ⟨k1, at1⟩ := tab_step tr ap at_ kx tb
  unfold catchA at p
  split at p
  · rename_i xs e1
    have s1 := s.keep k1
    obtain ⟨l, vs, f1, f2, f3, f4⟩ := s1.own il xs e1
    refine ⟨.ref l, f1, .inl ⟨rfl, _, .inl (.inl f3)⟩, ρ, t, s1, at1, ?_⟩
    cases hF : F ρ t with
    | no =>
      rw [hF] at p
      exact p.elim
    | ex C fs ds t1 =>
      rw [hF] at p
      dsimp only at p
      split at p
      · rename_i hC
        intro cls dd H2 k2 at2 rx
        obtain ⟨rfl, _⟩ := id rx
        have s2 := s1.keep k2
        refine ⟨hL C hC, C, rfl, fun a na => ?_⟩
        have k3 := (k1.trans k2).trans (KeepX.of (same_new (o := exO C dd a) na))
        exact p _ _ (.of k3) (fun _ z => .inl (ow_set s.len z)) ((s2.keep (.of (same_new na))).setD (rp_caught (s2.dom at2) na rx)) (at_same at2 (same_new na))
      · exact p.elim
    | ok d t1 =>
      rw [hF] at p
      dsimp only at p
      split at p
      · rename_i hz
        intro v H2 k2 at2 rv
        have s2 := s1.keep k2
        obtain ⟨l', vs', g1, g2, g3, g4⟩ := s2.own il xs e1
        rw [f1] at g1
        cases g1
        obtain ⟨s3, o3, st3, at3⟩ := s2.chg e1 f1 (g4.append (RpL.cons rv RpL.nil))
        refine ⟨l, vs', v, rfl, rfl, g3, by rw [g4.len, line_eq]; exact hz, ?_⟩
        exact p _ _ (fun a o n m e => st3 a o n m ((k1.trans k2) a o n e)) (own_trans (σ := σ) (ρ := ρ) at2 (.of (k1.trans k2)) (fun _ z => .inl z) fun a z => o3 a (ow_set s3.len z)) (s3.setD (by simp only [Rp])) (at3 _ at2)
      · exact p.elim
  · exact p.elim
end
end DL
end
section
set_option Elab.async false
set_option linter.all false
set_option maxRecDepth 100000
set_option maxHeartbeats 4000000
namespace DL
open PySem PySem.Spec PyProof.Rows L2 LamX

/-! ### t[::-1] of a tuple -/
section
variable {prog : Program} {w : World} {A : Around} {E : Value → Shared → Prop} {s : Shared}
theorem applied_rev {sl : Addr} {vl vu vs : Value} {n : Nat} {Q : Int × Int × Nat → Shared → Prop} (hs : s.heap.IsSliceOf sl vl vu vs) (pl : IsPart vl none) (pu : IsPart vu none) (ps : IsPart vs (some (-1))) (h : Q ((n : Int) - 1, -1, n) s) :
    wpAny (model prog w) A (Builtin.Slice.sliceApplied (.ref sl) (pure (n : Int))) Q E s := by
  obtain ⟨ob, at_, _, dat⟩ := id hs
  unfold Builtin.Slice.sliceApplied Builtin.Slice.sliceFields
  refine wpAny_bind (wpAny_bind (wpAny_field at_ dat (x := vl) rfl (wpAny_bind (wpAny_field at_ dat (x := vu) rfl (wpAny_bind (wpAny_field at_ dat (x := vs) rfl (wpAny_pure ?_)))))))
  refine wpAny_bind (HT.slicePart_ ps ?_)
  show wpAny _ _ (if ((-1 : Int) == 0) = true then _ else _) _ _ s
  rw [if_neg (by decide)]
  refine wpAny_bind (HT.slicePart_ pl (wpAny_bind (HT.slicePart_ pu (wpAny_bind (wpAny_pure ?_)))))
  have e1 : Builtin.Slice.sliceAdjust none none (-1) (n : Int) = ((n : Int) - 1, -1) := rfl
  have e2 : Builtin.Slice.slicePlaces ((n : Int) - 1) (-1) (-1) = n := by
    unfold Builtin.Slice.slicePlaces
    rw [if_neg (by decide)]
    split
    · rw [show (- -1 : Int) = 1 by decide, Int.ediv_one]
      omega
    · have : n = 0 := by omega
      subst this
      rfl
  show wpAny _ _ (match Builtin.Slice.sliceAdjust none none (-1) (n : Int) with | (lo, hi) => pure (lo, (-1 : Int), Builtin.Slice.slicePlaces lo hi (-1))) _ _ s
  rw [e1]
  show wpAny _ _ (pure ((n : Int) - 1, (-1 : Int), Builtin.Slice.slicePlaces ((n : Int) - 1) (-1) (-1))) _ _ s
  rw [e2]
  exact wpAny_pure h
theorem fm_congr {α β : Type} {f g : α → Option β} : ∀ (l : List α), (∀ k ∈ l, f k = g k) → l.filterMap f = l.filterMap g
  | [], _ => rfl
  | a :: l, h => by
    rw [List.filterMap_cons, List.filterMap_cons, h a List.mem_cons_self, fm_congr l fun k m => h k (List.mem_cons_of_mem _ m)]
theorem pick_rev (xs : Array Value) : ((List.range xs.size).filterMap fun (k : Nat) => xs[(((xs.size : Int) - 1) + (k : Int) * -1).toNat]?).toArray = xs.toList.reverse.toArray := by
  have e : (List.range xs.size).filterMap (fun (k : Nat) => xs[(((xs.size : Int) - 1) + (k : Int) * -1).toNat]?) = ((List.range xs.size).map fun k => xs.size - 1 - k).filterMap (xs[·]?) := by
    rw [List.filterMap_map]
    refine fm_congr _ fun k hk => ?_
    have hk := List.mem_range.mp hk
    have z : (((xs.size : Int) - 1) + (k : Int) * -1).toNat = xs.size - 1 - k := by omega
    rw [z]
    rfl
  rw [e, PySem.W.krv_range, List.filterMap_reverse, PySem.W.krv_all]
theorem item_tupRev {t sl : Addr} {items : Array Value} {vl vu vs : Value} {Q : Value → Shared → Prop} (ht : IsTup s.heap t items) (hs : s.heap.IsSliceOf sl vl vu vs) (pl : IsPart vl none) (pu : IsPart vu none) (ps : IsPart vs (some (-1)))
    (h : Q (.ref s.heap.objs.size) { s with heap := s.heap.push { cls := .type "tuple", data := .seq items.toList.reverse.toArray } }) (fits : items.size ≤ sizeLine) : wpAny (model prog w) A (getItem (.ref t) (.ref sl)) Q E s := by
  have small : sizeOk (.seq items.toList.reverse.toArray) := by
    show items.toList.reverse.toArray.size ≤ sizeLine
    simpa using fits
  obtain ⟨ob, at_, c1, _⟩ := id hs
  have isS : s.TypeIs (.ref sl) "slice" := ⟨ob, at_, c1⟩
  unfold getItem
  try with_reducible refine wpAny_holding ?_
  first | refine wpAny_bind (wpAny_pure ?_) | skip
  refine wpAny_bind (wpAny_sequenceKey ht.typeIs (by decide) ?_)
  refine wpAny_bind (wpAny_callSpecial?_slot (name := Str.ofString "__getitem__") ht.typeIs PyProof.Rows.slot_tuple_getitem (wpAny_call_entry PyProof.Rows.slot_tuple_getitem ht.typeIs entry_tuple_getitem ?_ (args_tuple_getitem _ _)))
  show wpAny _ _ (Builtin.Tuple.tupleItemsOf (.ref t) >>= _) _ _ s
  refine wpAny_bind (tupleItemsOf_ ht (wpAny_bind (wpAny_typeOf isS ?_)))
  rw [if_pos (by decide)]
  refine wpAny_bind (applied_rev hs pl pu ps ?_)
  show wpAny _ _ (if (((items.size : Int) - 1 == 0 && (-1 : Int) == 1 && items.size == items.size) = true) then _ else _) _ _ s
  rw [if_neg (by simp), pick_rev]
  first
    | exact wpAny_bind (m := Builtin.Tuple.tupleExact _) (wpAny_newObj_type (wpAny_pure ⟨_, rfl, wpAny_pure h⟩) small)
    | exact wpAny_bind (m := Builtin.Tuple.tupleExact _) (wpAny_newObj_type (wpAny_bind (wpAny_pure (wpAny_pure ⟨_, rfl, wpAny_pure h⟩))) small)
    | exact wpAny_bind (wpAny_bind (m := Builtin.Tuple.tupleExact _) (wpAny_newObj_type (wpAny_pure ⟨_, rfl, wpAny_pure h⟩) small))
end
def revD : Dat → Option Dat
  | .lst ds => some (.lst ds.reverse)
  | .tup ds => some (.tup ds.reverse)
  | _ => none
def tRevT (K : PySem.W.Frag) (te : TE) : TE := fun σ H Q => te σ H fun x H1 => ∃ a xs, x = .ref a ∧ SqT K H1 a xs ∧ ∀ p, H1 p = none → Q (.ref p) (upd H1 p (.tup xs.reverse))
theorem pe_revT {X : Cx} {e : Expr} {te : TE} {k : Nat} {p1 p2 p3 pos : Pos} (he : PE X e te) : PE X (.Subscript e (.Slice none none (some (.UnaryOp .USub (.Constant (.int 1) k p1) p2)) p3) pos) (tRevT X.K te) := by
  refine ⟨fun pins s0 σ H0 Q I0 want => Subscript_ (thn (he.run pins s0 σ H0 _ I0 want) fun v s1 ⟨x, H1, I1, r1, a, xs, ex, at1, q⟩ => ?_)⟩
  subst ex
  cases r1
  have neg : PO X (some (.UnaryOp .USub (.Constant (.int 1) k p1) p2)) (tPart (tUn (rU fun i => .int (-i)) (tC (.int 1)))) := po_some (pe_un un_neg pe_int)
  refine wpAny_Slice (thn (po_none.run pins s1 σ H1 (fun o Ha => o = none ∧ Ha = H1) I1 ⟨rfl, rfl⟩) fun w1 s2 ⟨o1, H2, I2, pa1, g1, g2⟩ => ?_)
  subst g1 g2
  refine thn (po_none.run pins s2 σ H2 (fun o Ha => o = none ∧ Ha = H2) I2 ⟨rfl, rfl⟩) fun w2 s3 ⟨o2, H3, I3, pa2, g3, g4⟩ => ?_
  subst g3 g4
  refine thn (neg.run pins s3 σ H3 (fun o Ha => o = some (-1) ∧ Ha = H3) I3 ⟨1, rfl, -1, rfl, rfl, rfl⟩) fun w3 s4 ⟨o3, H4, I4, pa3, g5, g6⟩ => ?_
  subst g5 g6
  have I5 : Inv X pins σ H4 { s4 with heap := s4.heap.push { cls := .type "slice", data := .fields #[w1, w2, w3] } } := I4.kept (t' := s4.toks) fun b o z => Heap.get?_push_of_some _ z
  obtain ⟨its, r, isT, fits⟩ := I5.tuple at1
  have len := r.length
  show wpAny (model X.prog X.w) X.A (subscriptTail e (.Slice none none (some (.UnaryOp .USub (.Constant (.int 1) k p1) p2)) p3) (.ref a) (.ref s4.heap.objs.size)) (EP X pins σ Q) X.xe { s4 with heap := s4.heap.push { cls := .type "slice", data := .fields #[w1, w2, w3] } }
  refine tail_any (ops := [.ref a, .ref s4.heap.objs.size]) isT.typeIs (PyProof.Rows.slot_tuple_getitem.lookup) ?_ (by with_unfolding_all rfl)
  refine item_tupRev isT (Heap.IsSliceOf.new _ w1 w2 w3) pa1 pa2 pa3 ?_ (by rw [List.size_toArray]; omega)
  refine ⟨.ref _, _, I5.laid (t' := s4.toks) (o := .tup xs.reverse) (fun b o z => Heap.get?_push_of_some _ z) (Nat.le_refl _) ?_, rfl, q _ (I5.hok.fresh (Nat.le_refl _))⟩
  exact ⟨by rw [List.length_reverse]; exact fits, _, r.reverse, IsTup.new _ _⟩
section
variable {T : Type} {X : Cx} {W : WX} {R : Res T} {e : Expr} {F : Den T} {p1 p2 p3 pos : Pos} {k : Nat}
def revTD : Dat → Option Dat
  | .tup ds => some (.tup ds.reverse)
  | _ => none
theorem d_revT (he : PE X e (tD X.K W R F)) : PE X (.Subscript e (.Slice none none (some (.UnaryOp .USub (.Constant (.int 1) k p1) p2)) p3) pos) (tD X.K W R (un1 revTD F)) := (pe_revT he).imp fun σ H Q q => by
  obtain ⟨ρ, t, s, at_, p⟩ := q
  refine ⟨ρ, t, s, at_, Post.bind p fun x t1 v H1 _ k1 at1 r1 p1 => ?_⟩
  cases x with
  | tup ds =>
    simp only [Rp] at r1
    obtain ⟨a, xs, rfl, h1, h2⟩ := r1
    refine ⟨a, xs, rfl, same_sqT hide_sub h1, fun c nc => p1.ok (.of (same_new nc)) (at_same at1 (same_new nc)) (rp_newT ((s.keep k1).dom at1) nc h2.rev)⟩
  | _ => exact p1.elim
end
end DL
end
section
set_option Elab.async false
set_option linter.all false
set_option maxRecDepth 100000
set_option maxHeartbeats 4000000
namespace DL
open PySem PySem.Spec PyProof.Rows L2 LamX

section
variable {T : Type} {X : Cx} {W : WX} {R : Res T} {e : Expr} {es : List Expr} {F : Den T} {E : Den T} {A : En → T → Out (List Dat) T} {p p2 pos : Pos} {i j : Nat} {x y : Str}
/-! ### x, y = e, [] (y's list is its own) -/
def parN {T : Type} (i j : Nat) (E : Den T) : DenS T := fun ρ t => bindS (E ρ t) fun d t1 => .nx ((ρ.set i (some (.d d))).set j (some (.o []))) t1
theorem s_parN {px py pt lp : Pos} {pt2 : Pos} {h1 h2} (hc : X.calm = true) (he : PE X e (tD X.K W R E)) (g1 : PG X (.Name x px) (gName i)) (g2 : PG X (.Name y py) (gName j)) (hij : i ≠ j)
    (hst : starEach [e, .List [] lp] X.env = (false, eval e X.env) :: starEach [.List [] lp] X.env := by rfl) (hst2 : starEach [.List [] lp] X.env = (false, eval (.List [] lp) X.env) :: starEach [] X.env := by rfl)
    (hpg : ∀ {a b : TG}, PG X (.Name x px) a → PG X (.Name y py) b → PG X (.Tuple [.Name x px, .Name y py] h1 pt) (gTup X.K 2 (gCons a (gCons b gNil))) := by exact fun a b => pg_tup rfl (pgs_cons a (pgs_cons b pgs_nil)))
    (hs : swapsWithSole [.Tuple [.Name x px, .Name y py] h1 pt] (.Tuple [e, .List [] lp] h2 pt2) pos.line X.env = pure false := by rfl) (hw : swappedStores [.Tuple [.Name x px, .Name y py] h1 pt] (.Tuple [e, .List [] lp] h2 pt2) X.env = pure none := by rfl)
    (hass : (assignEach [.Tuple [.Name x px, .Name y py] h1 pt] X.env).map (·.2) = [assign (.Tuple [.Name x px, .Name y py] h1 pt) X.env] := by rfl) :
    PS X (.Assign [.Tuple [.Name x px, .Name y py] h1 pt] (.Tuple [e, .List [] lp] h2 pt2) pos) (tDS X.K W R (parN i j E)) := (ps_asg (pe_tup (pa_cons he (pa_cons (pe_lst pa_nil) pa_nil hst2) hst)) (hpg g1 g2) hs hw hass).imp fun D σ H q => by
  obtain ⟨ρ, t, s, at_, p⟩ := q
  refine ⟨ρ, t, s, at_, PostS.bind p fun d t1 v H1 k1 a1 r1 p1 => ?_⟩
  have sA := (s.keep k1).setD (i := i) r1
  refine ⟨by decide, fun q nq => ⟨by show 2 ≤ sizeLine; decide, fun c nc => ?_⟩⟩
  obtain ⟨sB, oB⟩ := sA.setO (i := j) (xs := []) (vs := []) (sA.dom a1) nq RpL.nil
  have sC := sB.keep (.of (same_new (o := .tup [v, .ref q]) nc))
  refine ⟨c, [v, .ref q], rfl, .inl (.inl upd_same), rfl, v, [.ref q], rfl, .ref q, [], rfl, rfl, ?_⟩
  refine p1 _ _ (fun a o n m z => same_new nc a o (same_new nq a o z)) (fun a z => ?_) sC (at_same (at_same a1 (same_new nq)) (same_new nc))
  exact (oB a z).imp (fun z => ow_set s.len z) id
/-! ### x, y = a, b and x, y, z = a, b, c -/
theorem s_par {a b : Expr} {px py pt : Pos} {h1 h2} {pt2 : Pos} (hc : X.calm = true) (hN : X.N.Nodup) (hi : X.N[i]? = some x) (hj : X.N[j]? = some y) (hij : i ≠ j) (hx : X.env.scope.names.lookup x = some .local) (hy : X.env.scope.names.lookup y = some .local) (ha : PA X [a, b] (tDA X.K W R A))
    (hw : swappedStores [.Tuple [.Name x px, .Name y py] h1 pt] (.Tuple [a, b] h2 pt2) X.env = pure (some [x, y])) (hs : swapsWithSole [.Tuple [.Name x px, .Name y py] h1 pt] (.Tuple [a, b] h2 pt2) pos.line X.env = pure false := by rfl) :
    PS X (.Assign [.Tuple [.Name x px, .Name y py] h1 pt] (.Tuple [a, b] h2 pt2) pos) (tDS X.K W R (parS i j A)) := (ps_par hc hN hi hj hij hx hy ha hw hs).imp fun D σ H q => t_par q
def par3S {T : Type} (i j l : Nat) (A : En → T → Out (List Dat) T) : DenS T := fun ρ t => bindS (A ρ t) fun ds t1 => match ds with
  | [a, b, c] => .nx (((ρ.set i (some (.d a))).set j (some (.d b))).set l (some (.d c))) t1
  | _ => .no
theorem s_par3 {l : Nat} {z : Str} {a b c : Expr} {px py pz pt : Pos} {h1 h2} {pt2 : Pos} (hc : X.calm = true) (hN : X.N.Nodup) (hi : X.N[i]? = some x) (hj : X.N[j]? = some y) (hl : X.N[l]? = some z) (hij : i ≠ j) (hil : i ≠ l) (hjl : j ≠ l)
    (hx : X.env.scope.names.lookup x = some .local) (hy : X.env.scope.names.lookup y = some .local) (hz : X.env.scope.names.lookup z = some .local) (ha : PA X [a, b, c] (tDA X.K W R A))
    (hw : swappedStores [.Tuple [.Name x px, .Name y py, .Name z pz] h1 pt] (.Tuple [a, b, c] h2 pt2) X.env = pure (some [x, y, z])) (hs : swapsWithSole [.Tuple [.Name x px, .Name y py, .Name z pz] h1 pt] (.Tuple [a, b, c] h2 pt2) pos.line X.env = pure false := by rfl) :
    PS X (.Assign [.Tuple [.Name x px, .Name y py, .Name z pz] h1 pt] (.Tuple [a, b, c] h2 pt2) pos) (tDS X.K W R (par3S i j l A)) := (ps_par3 hc hN hi hj hl hij hil hjl hx hy hz ha hw hs).imp fun D σ H q => by
  obtain ⟨ρ, t, s, at_, p⟩ := q
  refine ⟨ρ, t, s, at_, PostS.bind p fun ds t1 vs H1 k1 a1 r1 p1 => ?_⟩
  split at p1
  · rename_i da db dc
    obtain ⟨u, us, rfl, r2, r3⟩ := r1.uncons
    obtain ⟨v, w, rfl, r4, r5⟩ := uncons2 r3
    have s1 := s.keep k1
    have s2 := s1.setD (i := i) r2
    have u1 : ∀ a, Hid R (σ.set i (some u)) (ρ.set i (some (.d da))) a → Hid R σ ρ a := fun a z => z.imp id (ow_set s1.len)
    have s3 := s2.setD (i := j) (Rp.mono (hide_less u1) _ _ r4)
    have u2 : ∀ a, Hid R ((σ.set i (some u)).set j (some v)) ((ρ.set i (some (.d da))).set j (some (.d db))) a → Hid R σ ρ a := fun a z => u1 a (z.imp id (ow_set s2.len))
    have s4 := s3.setD (i := l) (Rp.mono (hide_less u2) _ _ r5)
    exact ⟨u, v, w, rfl, p1 _ _ (.of .refl) (fun _ z => .inl (ow_set s1.len (ow_set s2.len (ow_set s3.len z)))) s4 a1⟩
  · exact p1.elim
/-! ### f(k = e), a plain def -/
theorem dk_one {nm : Option Str} {kpos : Pos} (he : PE X e (tD X.K W R F)) : PK X [⟨nm, e, kpos⟩] (tDA X.K W R (aCons F aNil)) := ⟨fun pos pins s σ H Q I q => (pk_cons (nm := nm) (kpos := kpos) he pk_nil).run pos pins s σ H Q I (by
  obtain ⟨ρ, t, s, at_, p⟩ := q
  refine ⟨ρ, t, s, at_, Post.bind p fun d t1 v H1 _ k1 at1 r1 p1 => ?_⟩
  exact p1.ok .refl at1 (RpL.cons r1 RpL.nil))⟩
structure KBind (K : PySem.W.Frag) (fd : FuncData) (ps ks : List Str) : Prop where
  to : ∀ (s : Shared) (ws : List Value), K.In s.heap → ws.length = ps.length → BindsTo s fd ⟨[], ks.zip ws⟩ (ps.zip ws)
theorem d_callPK {n : Nat} {g : Bool} {den : List Dat → Unit → Out Dat Unit} {f : Addr} {fd : FuncData} {ps ks : List Str} {k : Nat} {kws : List Keyword} (FF : FnD g X.prog X.w X.K X.mg X.base k f fd ps (spG X.K C0 n den)) (rm : Rm g k X.A) (tk : Takes X W) (gl : Gl X x) (hm : X.mg x = some (.ref f)) (kp : PySem.W.keepIn X.K (.ref f) = true)
    (bd : KBind X.K fd ps ks) (hk : PK X kws (tDA X.K W R A)) (hdb : (x == ("__debug__" : Str)) = false := by decide) (hall : (backToKw pos (keywordEach kws X.env)).all (·.1.isSome) = true := by rfl) (hks : (backToKw pos (keywordEach kws X.env)).filterMap (·.1) = ks := by rfl)
    (hpl : ((backTo pos (starEach [] X.env)).any (·.1) || (backToKw pos (keywordEach kws X.env)).any (·.1.isNone)) = false := by rfl) : PE X (.Call (.Name x p) [] kws pos) (tD X.K W R (callP n den A)) := by
  refine ⟨fun pins s σ H Q I want => wpAny_Call_Name_kw (ld_glob I gl hm ?_ hdb)⟩
  have want := t_callP want
  refine PySem.W.callWith_KW0 (h₀ := X.base) I.ok.mod.kin kp hall (thn (hk.run pos pins s σ H _ I want) fun ws s1 ⟨vs, H1, I1, rv, q⟩ => ⟨I1.kIn, ?_⟩) hpl
  rw [hks]
  have many : ws.length = ps.length := by
    rw [← rv.length]
    exact FF.len _ _ _ _ q
  show wpAny _ _ (call (.ref f) [] (ks.zip ws)) _ _ _
  refine wpAny_call (codeAny_mono (FF.run X.A X.stack s1 H1 ⟨[], ks.zip ws⟩ ws vs Q _ rm I1.env0 (bd.to s1 ws I1.kIn many) rv q) fun r sE hq => ?_)
  cases r with
  | error z => exact tk z sE (XE.of_call I1 (fun _ _ _ hw => hw) hq)
  | ok fl =>
    cases fl with
    | ret u => exact I1.after hq
    | next => exact hq.elim
    | brk => exact hq.elim
    | cont => exact hq.elim
end
end DL
end
section
set_option Elab.async false
set_option linter.all false
set_option maxRecDepth 100000
set_option maxHeartbeats 4000000
namespace DL
open PySem PySem.Spec PyProof.Rows L2 LamX

/-! ### stored exceptions -/
theorem exc_inst {P : Program} {w : World} {h : Heap} {H : Hp} {a C : Addr} {d : Option Addr} (ok : HOk P w H h) (e : H a = some (exO C d a)) (dd : d = none ∨ ∃ x fs, d = some x ∧ H x = some (.xd fs)) : ∃ (ox : Obj) (od : Option Obj), PySem.W.InstAt h a ox C od ∧
    ∀ (x : Addr) (fs : List (Str × V)), d = some x → H x = some (.xd fs) → ∃ o, od = some o ∧ ∀ n : Str, ∃ u, PySem.W.lookIn n o = some u ∧ RelO (fs.lookup n) u := by
  obtain ⟨⟨oe, vs, q1, q2, q3⟩, _, _⟩ := ok a _ e
  have nc : PySem.W.notCls oe = true := by
    unfold PySem.W.notCls
    rw [q3] <;> rfl
  rcases dd with rfl | ⟨x, fs, rfl, ex⟩
  · refine ⟨oe, none, ⟨q1, q2.1, nc, ?_⟩, fun x fs z => by cases z⟩
    rw [q2.2]
    trivial
  · obtain ⟨mA, ns, rel⟩ := ok x _ ex
    obtain ⟨od, ho, hl⟩ := lookIn_ns ns
    refine ⟨oe, some od, ⟨q1, q2.1, nc, ?_⟩, fun x' fs' z z' => ?_⟩
    · rw [q2.2]
      exact ho
    · cases z
      rw [ex] at z'
      cases z'
      exact ⟨od, rfl, fun n => ⟨mA n, hl n, rel n⟩⟩
def rIsX (K : PySem.W.Frag) (C : Addr) : List V → Hp → VK → Prop := fun xs H Q => ∃ (a : Addr) (d : Option Addr), xs = [.ref a, .ref C] ∧ H a = some (exO C d a) ∧ (d = none ∨ ∃ x fs, d = some x ∧ H x = some (.xd fs)) ∧ Q (.bl true) H
theorem call_isX {X : Cx} {C : Addr} (ec : ExcC X.K C) (kt : PySem.W.kitOne X.K (.ref C) (.ref C) = some true) : CallR X (.builtin "isinstance") (rIsX X.K C) := by
  intro pins s σ H xs us Q I r h
  obtain ⟨a, d, rfl, e, dd, q⟩ := h
  cases r with
  | cons r1 r2 =>
    cases r2 with
    | cons r2 r3 =>
      cases r3
      cases r1
      cases r2
      obtain ⟨ox, od, J, _⟩ := exc_inst I.hok e dd
      have hcl : (PySem.W.clsIn X.K C).isSome = true := by
        obtain ⟨cd, hc, _⟩ := PySem.W.any_some ec.hd
        rw [hc]
        rfl
      exact PySem.W.kia_one (PySem.W.kitx_exc (od := od) (ox := ox) hcl ec.hg ec.hk ec.hs ec.ha ec.hn ec.ht ec.hm) I.kIn J kt (fun z => nomatch z) fun tk => ⟨.bl true, H, I.kept (t' := tk) fun _ _ z => z, rfl, q⟩
def isXD (C : Addr) : Dat → Option Dat
  | .exc C' _ _ => if C' = C then some (.bl true) else none
  | _ => none
def fldD (C : Addr) (f : Str) : Dat → Option Dat
  | .exc C' fs ds => if C' = C then (fs.zip ds).lookup f else none
  | _ => none
section
variable {T : Type} {X : Cx} {W : WX} {R : Res T} {e : Expr} {F : Den T} {p p2 pos : Pos} {x : Str} {C : Addr}
theorem d_isX (ec : ExcC X.K C) (kt : PySem.W.kitOne X.K (.ref C) (.ref C) = some true) (gl : Gl X "isinstance") (hm : X.mg "isinstance" = none) (gx : Gl X x) (mx : X.mg x = some (.ref C)) (he : PE X e (tD X.K W R F)) (dx : (x == ("__debug__" : Str)) = false := by decide)
    (hs : starEach [e, .Name x p2] X.env = (false, eval e X.env) :: starEach [.Name x p2] X.env := by rfl) (hpl : (backTo pos (starEach [.Name x p2] X.env)).any (·.1) = false := by rfl) (hs2 : starEach [.Name x p2] X.env = [(false, eval (.Name x p2) X.env)] := by rfl) :
    PE X (.Call (.Name "isinstance" p) [e, .Name x p2] [] pos) (tD X.K W R (un1 (isXD C) F)) :=
  (pe_callB (call_isX ec kt) gl hm (by decide +kernel) (pa_cons he (pa_cons (pe_glob (v := .ref C) gx mx rfl dx) pa_nil hs2) hs) (by decide) (by decide) hs hpl).imp fun σ H Q q => by
  obtain ⟨ρ, t, s, at_, p⟩ := q
  refine ⟨ρ, t, s, at_, Post.bind p fun d t1 v H1 _ k1 at1 r1 p1 => ?_⟩
  unfold isXD at p1
  split at p1
  · rename_i C' fs ds heq
    split at p1
    · rename_i hC
      subst hC
      simp only [Rp] at r1
      obtain ⟨a, d, rfl, e1, e2⟩ := r1
      refine ⟨a, d, rfl, hide_sub _ _ e1, ?_, p1.ok .refl at1 (by simp only [Rp])⟩
      rcases e2 with ⟨_, z⟩ | ⟨dd, xs, z1, z2, _⟩
      · exact .inl z
      · exact .inr ⟨dd, _, z1, hide_sub _ _ z2⟩
    · exact p1.elim
  · exact p1.elim
theorem zip_look {K : PySem.W.Frag} {h : Option Addr} {H : Hp} {f : Str} : ∀ {fs : List Str} {ds : List Dat} {vs : List V} {d : Dat}, RpL K h H ds vs → (fs.zip ds).lookup f = some d → ∃ v, (fs.zip vs).lookup f = some v ∧ Rp K h H d v
  | [], _, _, _, _, e => by cases e
  | g :: fs, [], _, _, _, e => by cases e
  | g :: fs, d0 :: ds, vs, d, r, e => by
    obtain ⟨v, us, rfl, r1, r2⟩ := r.uncons
    simp only [List.zip_cons_cons, List.lookup_cons] at e ⊢
    cases hb : f == g with
    | true =>
      rw [hb] at e
      cases e
      exact ⟨v, rfl, r1⟩
    | false =>
      rw [hb] at e
      exact zip_look r2 e
theorem pe_fldX {f : Str} {te : TE} (tc : XfC X.K C) (no : PySem.W.findIn X.K (.ref C) f = some none) (he : PE X e te) (hb : attributeBase e f X.env (eval e X.env) = eval e X.env := by rfl) :
    PE X (.Attribute e f pos) (fun σ H Q => te σ H fun x H1 => ∃ (a dd : Addr) (fs : List (Str × V)) (v : V), x = .ref a ∧ H1 a = some (exO C (some dd) a) ∧ H1 dd = some (.xd fs) ∧ fs.lookup f = some v ∧ Q v H1) := by
  refine ⟨fun pins s σ H Q I want => attr_of hb (thn (he.run pins s σ H _ I want) fun u s1 ⟨x, H1, I1, rx, a, dd, fs, v, ex, e1, e2, lk, q⟩ => ?_)⟩
  subst ex
  obtain rfl : u = Value.ref a := rx
  obtain ⟨ox, od, J, more⟩ := exc_inst I1.hok e1 (.inr ⟨dd, fs, rfl, e2⟩)
  obtain ⟨o, rfl, look⟩ := more dd fs rfl e2
  obtain ⟨u, l1, l2⟩ := look f
  rw [lk] at l2
  obtain ⟨u', hu, ru⟩ := RelO.some_of l2
  subst hu
  exact HandSPX.exc_get I1.kIn J tc.ga tc.gg tc.exC (PySem.W.findObj_own tc.hdC no rfl l1) (handed_of ru) ⟨v, H1, I1.tok _, ru, q⟩
theorem d_fldX {f : Str} (tc : XfC X.K C) (no : PySem.W.findIn X.K (.ref C) f = some none) (he : PE X e (tD X.K W R F)) (hb : attributeBase e f X.env (eval e X.env) = eval e X.env := by rfl) : PE X (.Attribute e f pos) (tD X.K W R (un1 (fldD C f) F)) := (pe_fldX tc no he hb).imp fun σ H Q q => by
  obtain ⟨ρ, t, s, at_, p⟩ := q
  refine ⟨ρ, t, s, at_, Post.bind p fun d t1 v H1 _ k1 at1 r1 p1 => ?_⟩
  unfold fldD at p1
  split at p1
  · rename_i C' fs ds heq
    split at p1
    · rename_i hC
      subst hC
      simp only [Rp] at r1
      obtain ⟨a, d, rfl, e1, e2⟩ := r1
      cases hl : (fs.zip ds).lookup f with
      | none =>
        rw [hl] at p1
        exact p1.elim
      | some dv =>
        rw [hl] at p1
        rcases e2 with ⟨rfl, _⟩ | ⟨dd, xs, rfl, z2, z3, z4⟩
        · cases hl
        · obtain ⟨v, lv, rv⟩ := zip_look z4 hl
          exact ⟨a, dd, _, v, rfl, hide_sub _ _ e1, hide_sub _ _ z2, lv, p1.ok .refl at1 rv⟩
    · exact p1.elim
  · exact p1.elim
end

/-! ### _law_caught -/
/-- the def x, as caught_gives needs it -/
structure CatchF (X : Cx) (x : Str) (CS : Addr) : Prop where
  ex : ∃ (a : Str) (g : Addr) (pg : Arguments) (bg : List Stmt) (sg : Scope) (dV kV doc pm cdv ct oc : Value) (an od : Option Addr) (osl : Array (Option Value)) (Ng : List Str), X.mg x = some (.ref g) ∧ PySem.W.keepIn X.K (.ref g) = true ∧
    X.K.lookup g = some ⟨oc, od, .func (PySem.W.fnOf x x pg bg sg dV kV doc pm an cdv ct), osl⟩ ∧ PySem.W.codeIn X.K cdv x = true ∧ L2.Binds X.K (PySem.W.fnOf x x pg bg sg dV kV doc pm an cdv ct) [a] [] ∧ FnScope Ng [a] sg ∧ Ng[0]? = some a ∧ Vis sg a ∧
    (a == ("__debug__" : Str)) = false ∧ (a == ("__classdict__" : Str)) = false ∧ ∀ q, GivesTo X Ng x sg g cdv bg a q (TTc X.K CS)
theorem catchF_of {X : Cx} {x a b e n : Str} {st : Stmt} {f CS : Addr} {fd : FuncData} {j : Nat} {p1 p2 p3 p4 p5 p6 p7 p8 p9 p10 p11 p12 p13 p14 : Pos} (F : Fun X.K x x st f fd) (S : FnScope [a, b, e] [a] (defScope st)) (mx : X.mg x = some (.ref f)) (bd : L2.Binds X.K fd [a] [])
    (hb : defBody st = [.Assign [.Name b p2] (.Constant .none j p1) p3, .Try [.Expr (.Call (.Name a p4) [] [] p5) p6] [.ExceptHandler (some (.Name n p10)) (some e) [.Assign [.Name b p8] (.Name e p7) p9] p11] [] [] p12, .Return (some (.Name b p13)) p14])
    (nod : [a, b, e].Nodup) (ka : (defScope st).names.lookup a = some .local) (kb : (defScope st).names.lookup b = some .local) (ke : (defScope st).names.lookup e = some .local) (kn : (defScope st).names.lookup n = some .globalImplicit) (mn : X.mg n = some (.ref CS)) (da : (a == ("__debug__" : Str)) = false) (ca : (a == ("__classdict__" : Str)) = false) (dn : (n == ("__debug__" : Str)) = false)
    (db : (b == ("__debug__" : Str)) = false) (cb : (b == ("__classdict__" : Str)) = false) (de : (e == ("__debug__" : Str)) = false) (ce : (e == ("__classdict__" : Str)) = false) (sw : ∀ env : Env, swapsWith (.Constant .none j p1) (some (.Name b p2)) p3.line env = pure false)
    (sw2 : ∀ env : Env, swapsWith (.Call (.Name a p4) [] [] p5) none p6.line env = pure false) (sw3 : ∀ env : Env, swapsWith (.Name e p7) (some (.Name b p8)) p9.line env = pure false) : CatchF X x CS := by
  obtain ⟨oc, od, kV, doc, pm, an, cdv, ct, osl, rfl, look, code⟩ := F.ex
  refine ⟨a, f, _, _, _, _, _, _, _, _, _, _, _, _, _, [a, b, e], mx, F.kp, look, code, bd, S, rfl, .inl ka, da, ca, fun q => ?_⟩
  rw [hb]
  exact caught_gives nod kb ke kn mn dn db cb de ce sw sw2 sw3
section
variable {S : Type} {X : Cx} {W : WX} {r : Res S} {M0 : Addr → Prop} {H0 : Hp} {T : List (Addr × Str)} {P CS c : Addr} {L : List Addr} {F : Den S} {x : Str} {k : Nat} {pr : Arguments} {body : Expr} {sc : Scope} {p lpos pos : Pos}
theorem d_caught (cf : CatchF X x CS) (gl : Gl X x) (tr : TabR T P r) (ap : ∀ a, M0 a → ¬ r.fp a) (hL : ∀ C ∈ L, PySem.W.exmOne X.K (.ref C) (.ref CS) = some true) (tb : TabB X.base X.mg c P) (cd : X.env.code = .ref c) (inT : (P, lamQ X) ∈ T) (one : ∀ p ∈ T, p.1 = P → p.2 = lamQ X) (room : Room (k + 2) X.A) (ls : LamS X.env.scope sc)
    (nodef : defaultsOf pr X.env = ([], [])) (noarg : ∀ (q : Str) (cl : List (Str × Addr)) (pm cv ctv : Value), bindArgs (PySem.W.kla_fn "<lambda>" q pr body sc cl pm cv ctv) ⟨[], []⟩ = pure [])
    (hbody : ∀ (A : Around) (outer : List Env) (s : Shared) (H : Hp) (E : XK) (f c' : Addr), Rm false k (A.deeper (lamEnv X sc s.heap.objs.size f c')) → PE (lamCx X A outer s H E sc f c') body (tD X.K (fun cls d _ H' => E cls d H') (fr r M0 H0) F)) (dx : (x == ("__debug__" : Str)) = false := by decide) :
    PE X (.Call (.Name x p) [.Lambda pr body sc lpos] [] pos) (tD X.K W (fr r M0 H0) (catchD L F)) := by
  obtain ⟨a, g, pg, bg, sg, dV, kV, doc, pm, cdv, ct, oc, an, od, osl, Ng, mx, kp, lk, cg, bd, Sg, first, vis, d2, d3, gives⟩ := cf.ex
  exact (pe_lamK (t := fun E => tD X.K (fun cls d _ H' => E cls d H') (fr r M0 H0) F) gl mx kp lk cg bd Sg first vis (gives _) tb cd inT one room ls nodef noarg (fun A o s H E f c' rm => hbody A o s H E f c' ⟨rm, fun z => by cases z⟩) dx d2 d3).imp fun σ H Q q => t_caught tr ap hL q
theorem s_caughtA {i il : Nat} {y l : Str} {py k1 k2 k3 spos : Pos} {e : Expr} (cf : CatchF X x CS) (gl : Gl X x) (tr : TabR T P r) (ap : ∀ a, M0 a → ¬ r.fp a) (hL : ∀ C ∈ L, PySem.W.exmOne X.K (.ref C) (.ref CS) = some true) (tb : TabB X.base X.mg c P) (cd : X.env.code = .ref c) (inT : (P, lamQ X) ∈ T) (one : ∀ p ∈ T, p.1 = P → p.2 = lamQ X)
    (room : Room (k + 2) X.A) (ls : LamS X.env.scope sc) (nodef : defaultsOf pr X.env = ([], [])) (noarg : ∀ (q : Str) (cl : List (Str × Addr)) (pm cv ctv : Value), bindArgs (PySem.W.kla_fn "<lambda>" q pr (.Call (.Attribute (.Name l k1) "append" k2) [e] [] k3) sc cl pm cv ctv) ⟨[], []⟩ = pure [])
    (hN : X.N.Nodup) (hi : X.N[i]? = some y) (hy : X.env.scope.names.lookup y = some .local) (hl : X.N[il]? = some l) (vl : Vis sc l) (hbody : ∀ (A : Around) (outer : List Env) (s : Shared) (H : Hp) (E : XK) (f c' : Addr), Rm false k (A.deeper (lamEnv X sc s.heap.objs.size f c')) → PE (lamCx X A outer s H E sc f c') e (tD X.K (fun cls d _ H' => E cls d H') (fr r M0 H0) F))
    (dx : (x == ("__debug__" : Str)) = false := by decide) (dl : (l == ("__debug__" : Str)) = false := by decide) (cl : (l == ("__classdict__" : Str)) = false := by decide)
    (hse : ∀ A outer s H E f c', starEach [e] (lamCx X A outer s H E sc f c').env = [(false, eval e (lamCx X A outer s H E sc f c').env)] := by exact fun _ _ _ _ _ _ _ => rfl)
    (hpe : ∀ A outer s H E f c' {to : TE} {ta : TA}, PE (lamCx X A outer s H E sc f c') (.Name l k1) to → PA (lamCx X A outer s H E sc f c') [e] ta → PE (lamCx X A outer s H E sc f c') (.Call (.Attribute (.Name l k1) "append" k2) [e] [] k3) (tBM X.K "list" rAppend to ta) := by
      exact fun _ _ _ _ _ _ _ _ _ a b => pe_bm PySem.F.plainAttrs_list PySem.F.slot_list_append PySem.F.type_list_append mt_append a b)
    (hs : swapsWith (.Call (.Name x p) [.Lambda pr (.Call (.Attribute (.Name l k1) "append" k2) [e] [] k3) sc lpos] [] pos) (some (.Name y py)) spos.line X.env = pure false := by rfl) :
    PS X (.Assign [.Name y py] (.Call (.Name x p) [.Lambda pr (.Call (.Attribute (.Name l k1) "append" k2) [e] [] k3) sc lpos] [] pos) spos) (tDS X.K W (fr r M0 H0) (catchA i il L F)) := by
  obtain ⟨a, g, pg, bg, sg, dV, kV, doc, pm, cdv, ct, oc, an, od, osl, Ng, mx, kp, lk, cg, bd, Sg, first, vis, d2, d3, gives⟩ := cf.ex
  have one' := pe_lamK (t := fun E => tBM X.K "list" rAppend (tVar il) (tCons (tD X.K (fun cls d _ H' => E cls d H') (fr r M0 H0) F) tNil)) (p := p) (lpos := lpos) (pos := pos) gl mx kp lk cg bd Sg first vis (gives _) tb cd inT one room ls nodef noarg (fun A o s H E f c' rm =>
    hpe A o s H E f c' (pe_var (X := lamCx X A o s H E sc f c') hl vl dl cl) (pa_cons (hbody A o s H E f c' ⟨rm, fun z => by cases z⟩) pa_nil (hse A o s H E f c'))) dx d2 d3
  exact (ps_set hN hi (.inl hy) one' hs (.inr hy)).imp fun D σ H q => t_caughtA tr ap hL q
end
end DL
end
section
set_option Elab.async false
set_option linter.all false
set_option maxRecDepth 100000
set_option maxHeartbeats 4000000
namespace DL
open PySem PySem.Spec PyProof.Rows L2 LamX

/-! ### Base.__init__(self, ..), Base an own class over ValueError without an __init__ -/
structure BaseI (K : PySem.W.Frag) (B : Addr) : Prop where
  ga : PySem.W.specialIn K (.ref B) "__getattribute__" = some (some (.builtin "type.__getattribute__"))
  rd : PySem.W.readsIn K B (.type "type") = true
  fc : PySem.W.findCls K (.ref B) (.type "type") "__init__" = some (.val (.builtin "ValueError.__init__"))
theorem pe_binit {X : Cx} {x : Str} {B : Addr} {e : Expr} {es : List Expr} {ta : TA} {p1 p2 pos : Pos} {pl : Sem Bool} (gl : Gl X x) (mx : X.mg x = some (.ref B)) (bi : BaseI X.K B) (ha : PA X (e :: es) ta) (dx : (x == ("__debug__" : Str)) = false := by decide)
    (hc : eval (.Call (.Attribute (.Name x p1) "__init__" p2) (e :: es) [] pos) X.env = (do
      let o ← eval (.Name x p1) X.env
      standAt p2.atName
      let (f, first) ← holding [o] (getMethod o "__init__" pl)
      callWith pos f first (backTo pos (starEach (e :: es) X.env)) (backToKw pos (keywordEach [] X.env))) := by rfl)
    (he : starEach (e :: es) X.env = (false, eval e X.env) :: starEach es X.env := by rfl) (hpl : (backTo pos (starEach es X.env)).any (·.1) = false := by rfl) : PE X (.Call (.Attribute (.Name x p1) "__init__" p2) (e :: es) [] pos) (tVeI X.K ta) := by
  refine ⟨fun pins s σ H Q I want => PySem.W.methodCall_KW (ld_glob I gl mx ?_ dx) hc⟩
  refine PySem.W.method_cls I.kIn bi.ga (PySem.W.cls_value I.kIn bi.rd bi.fc (by decide +kernel) ?_)
  show wpAny _ _ (callWith pos (Value.builtin "ValueError.__init__") [] (backTo pos (starEach (e :: es) X.env)) []) _ _ _
  refine PyProof.Rows.callWith_method1 (thn (ha.run pos pins _ σ H _ (I.tok _) want) fun us s1 ⟨vs, H1, I1, r1, a, C, ws, ev, few, oc, ea, q⟩ => ?_) he hpl
  subst ev
  cases r1 with
  | @cons _ u0 _ ur ra rr =>
    obtain rfl : u0 = Value.ref a := ra
    have fits : ur.length ≤ sizeLine := by
      have l := Paired.length rr
      rw [sizeLine_eq]
      omega
    exact oinit_ok oc I1 ea fits fun s' J => ⟨.non, H1, J, rfl, q⟩
end DL
end
section
set_option Elab.async false
set_option linter.all false
set_option maxRecDepth 100000
set_option maxHeartbeats 4000000
namespace DL
open PySem PySem.Spec PyProof.Rows L2 LamX

/-! ### the draws: stores and the walk over the cells -/
def drPut (i : Nat) (g : Int → DrawSt → DrawSt) (E : Den DrawSt) : DenS DrawSt := fun ρ t => bindS (E ρ t) fun d t1 => match d with
  | .int n => if isHd i ρ then .nx ρ (g n t1) else .no
  | _ => .no
def setRest (n : Int) (t : DrawSt) : DrawSt := { t with rest := n }
def setTurn (n : Int) (t : DrawSt) : DrawSt := { t with turn := n }
def forC (put : Dat → En → Option En) (body : DenS DrawSt) (cs : List Int) : List Dat → DenS DrawSt
  | [], ρ, t => .nx ρ t
  | d :: ds, ρ, t => match put d ρ with
    | none => .no
    | some ρ1 => match body ρ1 t with
      | .nx ρ2 t2 => if t2.cells = cs then forC put body cs ds ρ2 t2 else .no
      | _ => .no
def loopC (i : Nat) (put : Dat → En → Option En) (body : DenS DrawSt) : DenS DrawSt := fun ρ t => if isHd i ρ then forC put body t.cells (t.cells.map Dat.int) ρ t else .no
section
variable {X : Cx} {W : WX} {dA lA cA : Addr} {M0 : Addr → Prop} {H0 : Hp} {x key : Str} {i j : Nat} {p p2 p3 pos pos' : Pos} {e : Expr} {E : Den DrawSt}
theorem s_drPut {g : Int → DrawSt → DrawSt} (hu : X.A.units + 1 < cLine) (ap : ∀ a, M0 a → ¬ (drawR dA lA cA).fp a) (h : PE X (.Name x p) (tVar i)) (he : PE X e (tD X.K W (fr (drawR dA lA cA) M0 H0) E)) (hg : ∀ t n, putK (drawKV lA cA t) (Sum.inr key) (.int n) = drawKV lA cA (g n t))
    (hg2 : ∀ t n, (g n t).large = t.large ∧ (g n t).cells = t.cells) (hs : swapsWith e (some (.Subscript (.Name x p) (.Constant (.str key) j p2) pos')) pos.line X.env = pure false := by rfl) :
    PS X (.Assign [.Subscript (.Name x p) (.Constant (.str key) j p2) pos'] e pos) (tDS X.K W (fr (drawR dA lA cA) M0 H0) (drPut i g E)) := (ps_dput hu h pe_str he hs).imp fun D σ H q => by
  obtain ⟨ρ, t, s, at_, p⟩ := q
  refine ⟨ρ, t, s, at_, PostS.bind p fun d t1 v H1 k1 a1 r1 p1 => ?_⟩
  cases d with
  | int n =>
    simp only [Rp] at r1
    subst r1
    dsimp only at p1
    split at p1
    · rename_i c
      have s1 := s.keep k1
      obtain ⟨hM, hlc, h1, h2, h3⟩ := a1
      have few : (drawKV lA cA t1).length < sizeLine := by
        show 4 < sizeLine
        decide
      refine ⟨.ref dA, hd_at s c, dA, _, rfl, DPut.k (k := Sum.inr key) h1 few, ?_⟩
      have nl : lA ≠ dA := ne_of h2 h1 (by intro z; cases z)
      have nc : cA ≠ dA := ne_of h3 h1 (by intro z; cases z)
      have kp : KeepX (fr (drawR dA lA cA) M0 H0).fp H1 (upd H1 dA (.dK (putK (drawKV lA cA t1) (Sum.inr key) (.int n)))) := fun a o nf z => by
        rw [upd_ne (show a ≠ dA from fun w => nf (.inr (.inl w)))]
        exact z
      refine p1 σ _ (.of kp) (fun _ z => .inl z) (s1.keep kp) ⟨fun a m => ?_, hlc, ?_, ?_, ?_⟩
      · obtain ⟨o, e0, e⟩ := hM a m
        exact ⟨o, e0, by rw [upd_ne (show a ≠ dA from fun z => ap a m (.inl z))]; exact e⟩
      · rw [upd_same, hg t1 n]
      · rw [upd_ne nl, (hg2 t1 n).1]
        exact h2
      · rw [upd_ne nc, (hg2 t1 n).2]
        exact h3
    · exact p1.elim
  | _ => exact p1.elim
theorem cells_at {K : PySem.W.Frag} {H : Hp} {t : DrawSt} (a : (drawR dA lA cA).At H t) : ∃ xs, xs = t.cells.map V.int ∧ H cA = some (.lst xs) := ⟨_, rfl, a.2.2.2⟩
theorem s_forCells {tg : Expr} {F : DenS DrawSt} {g : TG} {vs : List Nat} {put : Dat → En → Option En} {body : List Stmt} (hu : X.A.units + 1 < cLine) (hp : PassesOwn (model X.prog X.w) X.A X.env X.xe) (hc : X.calm = true) (h : PE X (.Name x p) (tVar i)) (hk : key = kCells) (hg : PG X tg g) (ht : TgD X.K vs g put)
    (hb : PSs X body (tDS X.K W (fr (drawR dA lA cA) M0 H0) F)) (hs : ∀ y, foldedSetIterable (.Subscript (.Name x p) (.Constant (.str key) j p2) p3) X.env y = pure y := by intro _; rfl) :
    PS X (.For tg (.Subscript (.Name x p) (.Constant (.str key) j p2) p3) body [] pos) (tDS X.K W (fr (drawR dA lA cA) M0 H0) (loopC i put F)) := (ps_for hp hc (pi_list (pe_dget hu h pe_str (fun _ _ => rfl))) hg hb hs).imp fun D σ H q => by
  obtain ⟨ρ, t, s, at_, q⟩ := q
  unfold loopC at q
  split at q
  · rename_i c
    subst hk
    have atc := at_.2.2.2.2
    have dg := DGet.k (k := Sum.inr kCells) at_.2.2.1
    rw [dv_cells] at dg
    refine ⟨_, hd_at s c, dA, .ref cA, rfl, dg, cA, rfl, ⟨_, .of atc⟩, ?_⟩
    let R := fr (drawR dA lA cA) M0 H0
    refine ⟨fun n m σ' H' => m = t.cells.length - n ∧ n ≤ t.cells.length ∧ ∃ (ρ' : En) (t' : DrawSt), t'.cells = t.cells ∧ RpS X.K R σ' ρ' H' ∧ R.At H' t' ∧ StepX R.fp (Ow σ ρ) H H' ∧ OwnX (Ow σ ρ) (Ow σ' ρ') H ∧ PostS X.K W R σ' ρ' H' (forC put F t.cells ((t.cells.map Dat.int).drop n) ρ' t') D,
      ⟨t.cells.length, by simp, Nat.zero_le _, ρ, t, rfl, s, at_, .of .refl, fun _ z => .inl z, q⟩, ?_⟩
    rintro n m σ' H' ⟨rfl, hn, ρ', t', tc, s2, a2, st, ow, p2⟩
    have lc := a2.2.2.2.2
    rw [tc] at lc
    cases hd : (t.cells.map Dat.int).drop n with
    | nil =>
      have hl : n = t.cells.length := by
        have := List.drop_eq_nil_iff.mp hd
        rw [List.length_map] at this
        omega
      rw [hd] at p2
      refine .inl ⟨⟨_, .of lc, by rw [List.length_map]; omega⟩, p2 σ' H' (.of .refl) (fun _ z => .inl z) s2 a2⟩
    | cons d r =>
      obtain ⟨e1, e2, e3⟩ := drop_at hd
      rw [List.length_map] at e3
      rw [hd] at p2
      simp only [forC] at p2
      have e4 : t.cells[n]? = some t.cells[n] := List.getElem?_eq_getElem e3
      have ed : d = .int t.cells[n] := by
        rw [List.getElem?_map, e4] at e1
        exact (Option.some.inj e1).symm
      have ev : (t.cells.map V.int)[n]? = some (.int t.cells[n]) := by rw [List.getElem?_map, e4]; rfl
      refine .inr ⟨⟨_, _, .of lc, ev⟩, fun σ'' H'' => ∃ (ρ' : En) (t' : DrawSt), t'.cells = t.cells ∧ RpS X.K R σ'' ρ' H'' ∧ R.At H'' t' ∧ StepX R.fp (Ow σ ρ) H H'' ∧ OwnX (Ow σ ρ) (Ow σ'' ρ') H ∧ PostS X.K W R σ'' ρ' H'' (forC put F t.cells ((t.cells.map Dat.int).drop (n + 1)) ρ' t') D,
        fun σ'' H'' h => ⟨t.cells.length - (n + 1), by omega, rfl, by omega, h⟩, fun y H2 hy => ?_⟩
      obtain ⟨rfl, hy⟩ := hy
      have hy := hy _ (.of lc)
      rw [ev] at hy
      cases hy
      cases e5 : put d ρ' with
      | none =>
        rw [e5] at p2
        exact p2.elim
      | some ρ1 =>
        rw [e5] at p2
        refine ht.ok R d _ σ' ρ' ρ1 _ _ e5 s2 (by rw [ed]; simp only [Rp]) fun σ1 s4 o4 _ => ⟨ρ1, t', s4, a2, ?_⟩
        have ow2 : OwnX (Ow σ ρ) (Ow σ1 ρ1) H := fun a z => ow a ((o4 a).mp z)
        have p3 := p2.shift (σ1 := σ1) (ρ1 := ρ1) a2 (.of .refl) fun a z => .inl ((o4 a).mp z)
        simp only [] at p3
        cases eF : F ρ1 t' with
        | nx ρ2 t2 =>
          rw [eF] at p3
          dsimp only at p3
          split at p3
          · rename_i hc2
            exact fun σ5 H5 st5 ow5 s5 a5 => ⟨ρ2, t2, hc2, s5, a5, step_trans (K := X.K) (R := R) st ow2 st5, own_trans a2 st ow2 ow5, by rw [e2]; exact p3.shift a5 st5 ow5⟩
          · exact p3.elim
        | _ =>
          rw [eF] at p3
          exact p3.elim
  · exact q.elim
end
end DL
end
section
set_option Elab.async false
set_option linter.all false
set_option maxRecDepth 100000
set_option maxHeartbeats 4000000
namespace DL
open PySem PySem.Spec PyProof.Rows L2 LamX

/-! ### tables as a resource -/
def inT (T : List (Addr × Str)) (a : Addr) : Prop := ∃ p ∈ T, p.1 = a
theorem tabs_kept {T : List (Addr × Str)} {H H' : Hp} (tb : Tabs T H) (k : ∀ a o, (inT T a ∨ ∀ xs, o ≠ .lst xs) → H a = some o → H' a = some o) : Tabs T H' := fun p hp => by
  obtain ⟨ps, h1, h2, h3⟩ := tb p hp
  refine ⟨ps, k _ _ (.inl ⟨p, hp, rfl⟩) h1, h2, fun pos cv hc => ?_⟩
  obtain ⟨c, e1, e2⟩ := h3 pos cv hc
  exact ⟨c, e1, k _ _ (.inr fun xs z => by unfold CodeO at z; cases z) e2⟩
theorem tabs_dom {T : List (Addr × Str)} {H : Hp} (tb : Tabs T H) (a : Addr) (h : inT T a) : ∃ o, H a = some o := by
  obtain ⟨p, hp, rfl⟩ := h
  obtain ⟨ps, h1, _⟩ := tb p hp
  exact ⟨_, h1⟩
/-- what is no table and no code object is not met by the tables -/
theorem tabs_apart {T : List (Addr × Str)} {H H' : Hp} {G : Addr → Prop} (tb : Tabs T H) (g : ∀ a, G a → ∃ o, H a = some o ∧ (∀ ps, o ≠ .tbl ps) ∧ ∀ q, o ≠ CodeO a q) (k : KeepX G H H') : Tabs T H' := fun p hp => by
  obtain ⟨ps, h1, h2, h3⟩ := tb p hp
  refine ⟨ps, k _ _ (fun z => ?_) h1, h2, fun pos cv hc => ?_⟩
  · obtain ⟨o, e, n, _⟩ := g _ z
    rw [h1] at e
    exact n ps (Option.some.inj e).symm
  · obtain ⟨c, e1, e2⟩ := h3 pos cv hc
    refine ⟨c, e1, k _ _ (fun z => ?_) e2⟩
    obtain ⟨o, e, _, n⟩ := g _ z
    rw [e2] at e
    exact n _ (Option.some.inj e).symm
def tabR (T : List (Addr × Str)) : Res Unit where
  fp := inT T
  hd := none
  At := fun H _ => Tabs T H
  dom := fun H _ h a m => tabs_dom h a m
  mono := fun H H' _ h k => tabs_kept h k
def drawT (T : List (Addr × Str)) (dA lA cA : Addr) : Res DrawSt where
  fp := fun a => (drawR dA lA cA).fp a ∨ inT T a
  hd := some dA
  At := fun H t => (drawR dA lA cA).At H t ∧ Tabs T H
  dom := fun H t h a m => m.elim ((drawR dA lA cA).dom H t h.1 a) (tabs_dom h.2 a)
  mono := fun H H' t h k => ⟨(drawR dA lA cA).mono H H' t h.1 fun a o m => k a o (m.imp .inl id), tabs_kept h.2 fun a o m => k a o (m.imp .inr id)⟩
def CDT (T : List (Addr × Str)) (r : Res DrawSt) : Prop := ∃ dA lA cA, r = drawT T dA lA cA
def CTB (T : List (Addr × Str)) (r : Res Unit) : Prop := r = tabR T
theorem draw_plain {dA lA cA : Addr} {H : Hp} {t : DrawSt} (h : (drawR dA lA cA).At H t) (a : Addr) (m : (drawR dA lA cA).fp a) : ∃ o, H a = some o ∧ (∀ ps, o ≠ .tbl ps) ∧ ∀ q, o ≠ CodeO a q := by
  obtain ⟨_, h1, h2, h3⟩ := h
  rcases m with rfl | rfl | rfl
  · exact ⟨_, h1, ⟨fun ps z => (by cases z), fun q z => (by unfold CodeO at z; cases z)⟩⟩
  · exact ⟨_, h2, ⟨fun ps z => (by cases z), fun q z => (by unfold CodeO at z; cases z)⟩⟩
  · exact ⟨_, h3, ⟨fun ps z => (by cases z), fun q z => (by unfold CodeO at z; cases z)⟩⟩
theorem sub_draw {T : List (Addr × Str)} {dA lA cA : Addr} : Sub (drawR dA lA cA) (drawT T dA lA cA) := ⟨rfl, fun _ z => .inl z, fun _ _ z => z.1, fun H H' t t' h k h' => ⟨h', tabs_apart h.2 (draw_plain h.1) k⟩⟩
theorem tabR_tab {T : List (Addr × Str)} {P : Addr} {q : Str} (m : (P, q) ∈ T) : TabR T P (tabR T) := ⟨⟨_, m, rfl⟩, fun _ _ h => h, fun _ _ _ _ _ z => z⟩
theorem tabR_draw {T : List (Addr × Str)} {P dA lA cA : Addr} {q : Str} (m : (P, q) ∈ T) : TabR T P (drawT T dA lA cA) := ⟨.inr ⟨_, m, rfl⟩, fun _ _ h => h.2, fun H H1 t h k tb => by
  obtain ⟨⟨hlc, h1, h2, h3⟩, tb0⟩ := h
  obtain ⟨ps, hP, _⟩ := tb0 _ m
  refine ⟨⟨hlc, k _ _ (fun z => ?_) h1, k _ _ (fun z => ?_) h2, k _ _ (fun z => ?_) h3⟩, tb⟩
  · rw [z, hP] at h1
    cases h1
  · rw [z, hP] at h2
    cases h2
  · rw [z, hP] at h3
    cases h3⟩

/-! ### draw = _law_begun(script) -/
def spB (K : PySem.W.Frag) (L C : List Int → Option (List Int)) : Sp := fun vs H Q _ => ∃ (a : Addr) (ns ls cs : List Int), vs = [.ref a] ∧ SqL K H a (ns.map V.int) ∧ (∀ xs, H a ≠ some (.lst xs)) ∧ L ns = some ls ∧ C ns = some cs ∧
  ∀ dA lA cA H', H dA = none → H lA = none → H cA = none → Same H H' → (drawR dA lA cA).At H' ⟨ls, 0, cs, 0⟩ → Q (.ref dA) H'
theorem mk_kvs (l c : Addr) (t : DrawSt) : mergeK [] [(Sum.inr kLarge, V.ref l), (.inr kRest, .int t.rest), (.inr kCells, .ref c), (.inr kTurn, .int t.turn)] = drawKV l c t := by
  simp only [mergeK, List.foldl_cons, List.foldl_nil, putK, List.any_nil, List.any_cons, Bool.false_eq_true, if_false, decide_eq_true_eq, List.nil_append, kne1, kne2, kne3, kne4, kne5, kne6, decide_false, Bool.or_false, Bool.or_self, List.cons_append]
  rfl
/-- an ints' list, as data -/
def intsOf : List Dat → Option (List Int)
  | [] => some []
  | .int n :: ds => (intsOf ds).map (n :: ·)
  | _ :: _ => none
theorem intsOf_eq : ∀ {ds : List Dat} {ns : List Int}, intsOf ds = some ns → ds = ns.map Dat.int
  | [], ns, h => by
    cases h
    rfl
  | .int n :: ds, ns, h => by
    simp only [intsOf, Option.map_eq_some_iff] at h
    obtain ⟨ms, h1, rfl⟩ := h
    rw [intsOf_eq h1]
    rfl
  | .non :: _, _, h => by cases h
  | .bl _ :: _, _, h => by cases h
  | .str _ :: _, _, h => by cases h
  | .tup _ :: _, _, h => by cases h
  | .lst _ :: _, _, h => by cases h
  | .rol _ :: _, _, h => by cases h
  | .exc _ _ _ :: _, _, h => by cases h
  | .hd :: _, _, h => by cases h
theorem rpl_intsV {K : PySem.W.Frag} {h : Option Addr} {H : Hp} : ∀ {ns : List Int} {vs : List V}, RpL K h H (ns.map Dat.int) vs → vs = ns.map V.int
  | [], vs, r => by
    simp only [List.map_nil, RpL] at r
    rw [r]
    rfl
  | n :: ns, vs, r => by
    obtain ⟨v, us, rfl, r1, r2⟩ := r.uncons
    simp only [Rp] at r1
    rw [r1, rpl_intsV r2]
    rfl
def listOf {T : Type} : Out Dat T → Option (List Int)
  | .ok (.lst ds) _ => intsOf ds
  | _ => none
/-- what the model knows is never tracked -/
def KFree (K : PySem.W.Frag) (H : Hp) : Prop := ∀ a o, K.lookup a = some o → H a = none
theorem ps_free {X : Cx} {st : Stmt} {t : TS} (h : PS X st t) : PS X st (fun D σ H => t { D with nx := fun σ' H' => KFree X.K H' → D.nx σ' H' } σ H) := ⟨fun pins s σ H D I q => wpAny_mono (h.run pins s σ H _ I q) (fun f s' hsp => by
  cases f with
  | next =>
    obtain ⟨σ', H', J, q⟩ := hsp
    exact ⟨σ', H', J, q fun a o e => (J.bs a o (J.ok.mod.kin a o e)).2⟩
  | ret u => exact hsp
  | brk => exact hsp
  | cont => exact hsp) fun _ _ z => z⟩
theorem _root_.L2.PE.any {X : Cx} {e : Expr} {α β : Type} {t : α → β → TE} (h : ∀ a b, PE X e (t a b)) : PE X e (fun σ H Q => ∃ a b, t a b σ H Q) := ⟨fun pins s σ H Q I ⟨a, b, q⟩ => (h a b).run pins s σ H Q I q⟩
/-- x = e, as it stands -/
def tRaw {T : Type} (K : PySem.W.Frag) (W : WX) (R : Res T) (i : Nat) (E : Den T) : TS := fun D σ H => tD K W R E σ H fun v H1 => D.nx (σ.set i (some v)) H1
section
variable {P : Program} {w : World} {K : PySem.W.Frag} {mg : Str → Option Value} {base : Heap}
theorem begun_ok {g : Bool} {x qual : Str} {st st1 : Stmt} {e2 : Expr} {f : Addr} {fd : FuncData} {N ps : List Str} {k j1 j2 j3 j4 j5 j6 : Nat} {p1 p2 p3 p4 p5 p6 p7 p8 p9 : Pos} {y : Str} {E1 E2 : Den Unit} (F : Fun K x qual st f fd) (S : FnScope N ps (defScope st)) (n1 : ps.length = 1) (l2 : 2 ≤ N.length)
    (hb : defBody st = [st1, .Return (some (.Dict [some (.Constant (.str kLarge) j1 p1), some (.Constant (.str kRest) j2 p2), some (.Constant (.str kCells) j3 p3), some (.Constant (.str kTurn) j4 p4)] [.Name y p5, .Constant (.int 0) j5 p6, e2, .Constant (.int 0) j6 p7] p8)) p9])
    (body : ∀ (cdv : Value) (A : Around) (outer : List Env) (s : Shared) (H : Hp) (E : XK), Rm g k (A.deeper (envOfC qual (defScope st) s.heap.objs.size f cdv)) →
      (∀ M H0, PS (cxOf (L2.CX P w) P w K mg base N qual (defScope st) f cdv A outer s H E) st1 (tRaw K (fun cls d _ H' => E cls d H') (fr (nilR none) M H0) 1 E1)) ∧ PE (cxOf (L2.CX P w) P w K mg base N qual (defScope st) f cdv A outer s H E) (.Name y p5) (tVar 1) ∧
      ∀ M H0, PE (cxOf (L2.CX P w) P w K mg base N qual (defScope st) f cdv A outer s H E) e2 (tD K (fun cls d _ H' => E cls d H') (fr (nilR none) M H0) E2)) :
    FnD g P w K mg base (k + 1) f fd ps (spB K (fun ns => listOf (E1 (startE N [.rol (ns.map Dat.int)]) ())) (fun ns => listOf (E2 (startE N [.rol (ns.map Dat.int)]) ()))) := by
  refine fnD_of F S (fun vs H Q E h => ?_) fun cdv hcd A outer s H vs Q E rm h => ?_
  · obtain ⟨a, ns, ls, cs, rfl, _⟩ := h
    exact n1.symm
  obtain ⟨a, ns, ls, cs, rfl, sq, nl, hL, hC, out⟩ := h
  dsimp only at hL hC
  let M : Addr → Prop := fun b => b ≠ a ∧ ∃ o, H b = some o
  obtain ⟨b1, b2, b3⟩ := body cdv A outer s H E rm
  rw [hb]
  let ρ0 : En := startE N [.rol (ns.map Dat.int)]
  have nfa : ∀ H0, ¬ (fr (nilR none) M H0).fp a := fun H0 z => z.elim (fun z => z.1 rfl) fun z => z
  have rA : RpL K none (hide (fr (nilR none) M H).fp H) [.rol (ns.map Dat.int)] [.ref a] := by
    refine RpL.cons ?_ RpL.nil
    simp only [Rp]
    refine ⟨a, ns.map V.int, rfl, ?_, rpl_ints ns⟩
    rcases sq with (e | ⟨o, e⟩) | q
    · exact (nl _ e).elim
    · exact .inl (.inr ⟨o, hide_some.mpr ⟨nfa H, e⟩⟩)
    · exact .inr q
  obtain ⟨s0, no0⟩ := rps_start (N := N) (R := fr (nilR none) M H) rA
  have hidM : ∀ {b : Addr}, ¬ M b → ¬ Hid (fr (nilR none) M H) (L2.start N [.ref a]) ρ0 b := fun n z => z.elim (fun z => z.elim n fun z => z) (no0 _)
  have at0 : (fr (nilR none) M H).At H () := ⟨fun b m => by
    obtain ⟨_, o, e⟩ := m
    exact ⟨o, e, e⟩, trivial⟩
  cases e1 : E1 ρ0 () with
  | ex C fs ds t =>
    rw [show E1 (startE N [.rol (ns.map Dat.int)]) () = _ from e1] at hL
    cases hL
  | no =>
    rw [show E1 (startE N [.rol (ns.map Dat.int)]) () = _ from e1] at hL
    cases hL
  | ok d t =>
    rw [show E1 (startE N [.rol (ns.map Dat.int)]) () = _ from e1] at hL
    cases d with
    | lst ds =>
      have ed := intsOf_eq hL
      subst ed
      cases e3 : E2 ρ0 () with
      | ex C fs ds t =>
        rw [show E2 (startE N [.rol (ns.map Dat.int)]) () = _ from e3] at hC
        cases hC
      | no =>
        rw [show E2 (startE N [.rol (ns.map Dat.int)]) () = _ from e3] at hC
        cases hC
      | ok d2 t2 =>
        rw [show E2 (startE N [.rol (ns.map Dat.int)]) () = _ from e3] at hC
        cases d2 with
        | lst ds2 =>
          have ed := intsOf_eq hC
          subst ed
          refine ⟨_, pss_cons (ps_free (b1 M H)) (pss_one (ps_ret (pe_disp (pps_cons pe_str b2 (pps_cons pe_str pe_int (pps_cons pe_str (PE.any b3) (pps_cons pe_str pe_int pps_nil)))) rfl rfl (by simp) (by simp)))), ?_⟩
          refine ⟨ρ0, (), s0, at0, ?_⟩
          rw [e1]
          intro v1 H1 k1 a1 r1 kf
          simp only [Rp] at r1
          obtain ⟨lA, xs, rfl, hl1, hl2⟩ := r1
          have ex := rpl_intsV hl2
          subst ex
          obtain ⟨nhl, hl1⟩ := hide_some.mp hl1
          have nlM : ¬ M lA := fun z => nhl (.inl (.inl z))
          have in1 : Same H H1 := fun b o e => by
            by_cases hba : b = a
            · subst hba
              exact k1 b o (nfa H) e
            · obtain ⟨o', f1, f2⟩ := a1.1 b ⟨hba, o, e⟩
              rw [e] at f1
              cases f1
              exact f2
          have nla : lA ≠ a := fun z => by
            rw [z] at hl1
            rcases sq with (e | ⟨o, e⟩) | ⟨o, its, m, e, _⟩
            · exact nl _ e
            · rw [in1 _ _ e] at hl1
              cases hl1
            · rw [kf a _ e] at hl1
              cases hl1
          intro p np
          show ∃ v, ((L2.start N [V.ref a]).set 1 (some (.ref lA)))[1]? = some (some v) ∧ _
          have lenS : (L2.start N [V.ref a]).length = N.length := by
            unfold L2.start
            simp
            omega
          refine ⟨.ref lA, List.getElem?_set_self (by omega), ?_⟩
          let M2 : Addr → Prop := fun b => M b ∨ b = lA
          let H1p := upd H1 p (.dK [])
          have in1p : Same H1 H1p := same_new np
          refine ⟨M2, H1p, ρ0, (), ?_, ⟨fun b m => ?_, trivial⟩, ?_⟩
          · have owN : ∀ σ b, ¬ Ow σ ρ0 b := fun σ b z => by
              obtain ⟨i, xs, e, _⟩ := z
              obtain ⟨d, e1, _⟩ := startE_get e
              cases e1
            have na2 : ¬ Hid (fr (nilR none) M2 H1p) ((L2.start N [V.ref a]).set 1 (some (.ref lA))) ρ0 a := fun z => by
              rcases z with ((z | z) | z) | z
              · exact z.1 rfl
              · exact nla z.symm
              · exact z
              · exact owN _ _ z
            refine ⟨?_, fun i d e => ?_, fun i xs e => ?_, fun i j q xs ys e _ _ _ => ?_⟩
            · rw [List.length_set]
              exact s0.len
            · obtain ⟨d', z1, z2⟩ := startE_get e
              cases z1
              cases i with
              | succ i => cases z2
              | zero =>
                cases z2
                refine ⟨.ref a, ?_, ?_⟩
                · rw [List.getElem?_set_ne (by decide)]
                  exact start_get rfl
                · simp only [Rp]
                  refine ⟨a, ns.map V.int, rfl, ?_, rpl_ints ns⟩
                  rcases sq with (e | ⟨o, e⟩) | q
                  · exact (nl _ e).elim
                  · exact .inl (.inr ⟨o, hide_some.mpr ⟨na2, in1p _ _ (in1 _ _ e)⟩⟩)
                  · exact .inr q
            · obtain ⟨d', z1, _⟩ := startE_get e
              cases z1
            · obtain ⟨d', z1, _⟩ := startE_get e
              cases z1
          · rcases m with m | m
            · obtain ⟨_, o, e⟩ := m
              exact ⟨o, in1p _ _ (in1 _ _ e), in1p _ _ (in1 _ _ e)⟩
            · rw [m]
              exact ⟨_, in1p _ _ hl1, in1p _ _ hl1⟩
          · rw [e3]
            intro v2 H2 k2 a3 r2
            simp only [Rp] at r2
            obtain ⟨cA, ys, rfl, hc1, hc2⟩ := r2
            have ey := rpl_intsV hc2
            subst ey
            obtain ⟨nhc, hc1⟩ := hide_some.mp hc1
            have in2 : Same H1p H2 := fun b o e => by
              by_cases m : M2 b
              · obtain ⟨o', f1, f2⟩ := a3.1 b m
                rw [e] at f1
                cases f1
                exact f2
              · exact k2 b o (fun z => z.elim m fun z => z) e
            have np2 : H2 p = some (.dK []) := in2 _ _ upd_same
            have np0 : H p = none := by
              cases z : H p with
              | none => rfl
              | some o =>
                have e := in1 p o z
                rw [np] at e
                cases e
            have hl2' : H2 lA = some (.lst (ls.map V.int)) := in2 _ _ (in1p _ _ hl1)
            have ncl : lA ≠ cA := fun z => nhc (.inl (.inl (.inr z.symm)))
            have nH : ∀ {b : Addr}, b ≠ a → ¬ M b → H b = none := fun {b} n m => by
              cases z : H b with
              | none => rfl
              | some o => exact (m ⟨n, o, z⟩).elim
            have hcN : H cA = none := by
              by_cases hca : cA = a
              · rw [hca] at hc1 ⊢
                rcases sq with (e | ⟨o, e⟩) | ⟨o, its, m, e, _⟩
                · exact (nl _ e).elim
                · have z := in2 _ _ (in1p _ _ (in1 _ _ e))
                  rw [hc1] at z
                  cases z
                · cases z : H a with
                  | none => rfl
                  | some o' =>
                    have z1 := in1 _ _ z
                    rw [kf a _ e] at z1
                    cases z1
              · exact nH hca fun z => nhc (.inl (.inl (.inl z)))
            have plA : lA ≠ p := ne_of hl2' np2 (by intro z; cases z)
            have pcA : cA ≠ p := ne_of hc1 np2 (by intro z; cases z)
            refine ⟨np2, [(.inr kLarge, .ref lA), (.inr kRest, .int 0), (.inr kCells, .ref cA), (.inr kTurn, .int 0)], rfl, by simp, ?_⟩
            have mk := mk_kvs lA cA ⟨ls, 0, cs, 0⟩
            refine out p lA cA _ np0 (nH nla nlM) hcN (fun b o e => ?_) ⟨ncl, ?_, ?_, ?_⟩
            · rw [upd_ne (ne_of_none e np0)]
              exact in2 _ _ (in1p _ _ (in1 _ _ e))
            · rw [upd_same]
              exact congrArg (fun z => some (HO.dK z)) mk
            · rw [upd_ne plA]
              exact hl2'
            · rw [upd_ne pcA]
              exact hc1
        | _ => cases hC
    | _ => cases hL
end
end DL
end
section
set_option Elab.async false
set_option linter.all false
set_option maxRecDepth 100000
set_option maxHeartbeats 4000000
namespace DL
open PySem PySem.Spec PyProof.Rows L2 LamX

/-! ### the law's own def: draw = _law_begun(script), then the rest -/
def spL (K : PySem.W.Frag) (T : List (Addr × Str)) (L C : List Int → Option (List Int)) (N : List Str) (i : Nat) (FS : DenS DrawSt) : Sp := fun vs H Q _ => ∃ (a : Addr) (ns ls cs : List Int) (t : DrawSt), vs = [.ref a] ∧ SqL K H a (ns.map V.int) ∧ (∀ xs, H a ≠ some (.lst xs)) ∧ Tabs T H ∧ L ns = some ls ∧ C ns = some cs ∧
  FS ((startE N [.rol (ns.map Dat.int)]).set i (some (.d .hd))) ⟨ls, 0, cs, 0⟩ = .rt (.bl true) t ∧ ∀ H', Q (.bl true) H'
section
variable {P : Program} {w : World} {K : PySem.W.Frag} {mg : Str → Option Value} {base : Heap}
theorem law_ok {g : Bool} {x y z b qual : Str} {st : Stmt} {rest : List Stmt} {f fb : Addr} {fd fdb : FuncData} {N ps psb : List Str} {k kb i : Nat} {p1 p2 p3 p4 p5 : Pos} {T : List (Addr × Str)} {L C : List Int → Option (List Int)} {FS : DenS DrawSt} (F : Fun K x qual st f fd) (S : FnScope N ps (defScope st)) (n1 : ps.length = 1) (l2 : 2 ≤ N.length) (hi : N[i]? = some y) (i0 : i ≠ 0) (hT : T ≠ [])
    (kb' : kb ≤ k) (hb : defBody st = .Assign [.Name y p1] (.Call (.Name b p2) [.Name z p3] [] p4) p5 :: rest) (FB : FnD g P w K mg base kb fb fdb psb (spB K L C)) (mb : mg b = some (.ref fb)) (kpb : PySem.W.keepIn K (.ref fb) = true) (bdb : Binds K fdb psb [])
    (body : ∀ (cdv : Value), fd.code = cdv → ∀ (A : Around) (outer : List Env) (s : Shared) (H : Hp) (E : XK), Rm g k (A.deeper (envOfC qual (defScope st) s.heap.objs.size f cdv)) →
      (PE (cxOf (L2.CX P w) P w K mg base N qual (defScope st) f cdv A outer s H E) (.Name z p3) (tVar 0) ∧ Gl (cxOf (L2.CX P w) P w K mg base N qual (defScope st) f cdv A outer s H E) b ∧
        ∀ (t : TE), PE (cxOf (L2.CX P w) P w K mg base N qual (defScope st) f cdv A outer s H E) (.Call (.Name b p2) [.Name z p3] [] p4) t → PS (cxOf (L2.CX P w) P w K mg base N qual (defScope st) f cdv A outer s H E) (.Assign [.Name y p1] (.Call (.Name b p2) [.Name z p3] [] p4) p5) (tAsg t (gName i))) ∧
      ∀ dA lA cA M H0, (∀ a, M a → ¬ (drawT T dA lA cA).fp a) → PSs (cxOf (L2.CX P w) P w K mg base N qual (defScope st) f cdv A outer s H E) rest (tDS K (fun cls d _ H' => E cls d H') (fr (drawT T dA lA cA) M H0) FS))
    (hst : ∀ env : Env, starEach [.Name z p3] env = (false, eval (.Name z p3) env) :: starEach [] env := by exact fun _ => rfl) (hdb : (b == ("__debug__" : Str)) = false := by decide) (hpl : ∀ env : Env, (backTo p4 (starEach [] env)).any (·.1) = false := by exact fun _ => rfl) : FnD g P w K mg base (k + 1) f fd ps (spL K T L C N i FS) := by
  refine fnD_of F S (fun vs H Q E h => ?_) fun cdv hcd A outer s H vs Q E rm h => ?_
  · obtain ⟨a, ns, ls, cs, t, rfl, _⟩ := h
    exact n1.symm
  obtain ⟨a, ns, ls, cs, t, rfl, sq, nl, tb, hL, hC, hF, out⟩ := h
  obtain ⟨⟨b1, b2, b3⟩, b4⟩ := body cdv hcd A outer s H E rm
  rw [hb]
  let X : Cx := cxOf (L2.CX P w) P w K mg base N qual (defScope st) f cdv A outer s H E
  have call : PE X (.Call (.Name b p2) [.Name z p3] [] p4) _ := pe_callD (X := X) (W := fun cls d _ H' => E cls d H') FB (rm.mono kb') takesD b2 mb kpb bdb (pa_cons b1 pa_nil (hst _)) hdb (hst _) (hpl _)
  refine ⟨_, pss_cons (ps_free (b3 _ call)) (PSs.imp (t' := fun D σ H => ∃ (dA lA cA : Addr) (M : Addr → Prop) (H0 : Hp), (∀ a, M a → ¬ (drawT T dA lA cA).fp a) ∧ tDS K (fun cls d _ H' => E cls d H') (fr (drawT T dA lA cA) M H0) FS D σ H) (t := fun D σ H => ∃ (dA lA cA : Addr) (M : Addr → Prop) (H0 : Hp), (∀ a, M a → ¬ (drawT T dA lA cA).fp a) ∧ tDS K (fun cls d _ H' => E cls d H') (fr (drawT T dA lA cA) M H0) FS D σ H)
    ⟨fun pins s' σ H1 D I ⟨dA, lA, cA, M, H0, ap, q⟩ => (b4 dA lA cA M H0 ap).run pins s' σ H1 D I q⟩ fun _ _ _ q => q), ?_⟩
  have s0 : (L2.start N [V.ref a])[0]? = some (some (.ref a)) := start_get rfl
  show ∃ v, (L2.start N [V.ref a])[0]? = some (some v) ∧ _
  refine ⟨.ref a, s0, ?_⟩
  refine ⟨a, ns, ls, cs, rfl, sq, nl, hL, hC, fun dA lA cA H1 nd nlA nc sm at1 kf => ?_⟩
  refine ⟨dA, lA, cA, fun _ => False, H1, fun _ z => z.elim, ?_⟩
  have tb1 : Tabs T H1 := tabs_kept tb fun a o _ e => sm a o e
  let ρ1 : En := (startE N [.rol (ns.map Dat.int)]).set i (some (.d .hd))
  have na : ¬ (drawT T dA lA cA).fp a := fun m => by
    rcases sq with (e | ⟨o, e⟩) | ⟨o, its, j, e, _⟩
    · exact nl _ e
    · rcases m with (m | m | m) | m
      · rw [m, nd] at e
        cases e
      · rw [m, nlA] at e
        cases e
      · rw [m, nc] at e
        cases e
      · obtain ⟨p, hp, ep⟩ := m
        obtain ⟨ps', h1, _⟩ := tb p hp
        rw [ep, e] at h1
        cases h1
    · obtain ⟨o', e'⟩ := (drawT T dA lA cA).dom H1 ⟨ls, 0, cs, 0⟩ ⟨at1, tb1⟩ a m
      rw [kf a _ e] at e'
      cases e'
  have g0 : ∀ (j : Nat) (v : SV), ρ1[j]? = some (some v) → (j = i ∧ i < N.length ∧ v = .d .hd) ∨ (j = 0 ∧ v = .d (.rol (ns.map Dat.int))) := fun j v e => by
    rcases getset e with ⟨h1, h2, h3⟩ | ⟨_, e⟩
    · refine .inl ⟨h1, ?_, by cases h3; rfl⟩
      unfold startE at h2
      simp at h2
      omega
    · obtain ⟨d', z1, z2⟩ := startE_get e
      cases j with
      | zero =>
        cases z2
        exact .inr ⟨rfl, z1⟩
      | succ j => cases z2
  have own : ∀ σ c, ¬ Ow σ ρ1 c := fun σ c ⟨j, xs, e, _⟩ => by
    rcases g0 j _ e with ⟨_, _, z⟩ | ⟨_, z⟩ <;> cases z
  have lenS : (L2.start N [V.ref a]).length = N.length := by
    unfold L2.start
    simp
    omega
  refine ⟨ρ1, ⟨ls, 0, cs, 0⟩, ⟨?_, fun j d e => ?_, fun j xs e => ?_, fun j q c xs ys e _ _ _ => ?_⟩, ⟨fun _ z => z.elim, at1, tb1⟩, ?_⟩
  · show ((startE N [.rol (ns.map Dat.int)]).set i _).length = ((L2.start N [V.ref a]).set i _).length
    rw [List.length_set, List.length_set, lenS]
    unfold startE
    simp
    omega
  · rcases g0 j _ e with ⟨h1, h2, h3⟩ | ⟨h1, h2⟩
    · cases h3
      subst h1
      exact ⟨.ref dA, List.getElem?_set_self (by omega), by simp only [Rp]; exact ⟨dA, rfl, rfl⟩⟩
    · cases h2
      subst h1
      refine ⟨.ref a, by rw [List.getElem?_set_ne i0]; exact s0, ?_⟩
      simp only [Rp]
      refine ⟨a, ns.map V.int, rfl, ?_, rpl_ints ns⟩
      rcases sq with (e | ⟨o, e⟩) | q
      · exact (nl _ e).elim
      · refine .inl (.inr ⟨o, hide_some.mpr ⟨fun z => ?_, sm _ _ e⟩⟩)
        rcases z with (z | z) | z
        · exact z
        · exact na z
        · exact own _ _ z
      · exact .inr q
  · rcases g0 j _ e with ⟨_, _, z⟩ | ⟨_, z⟩ <;> cases z
  · rcases g0 j _ e with ⟨_, _, z⟩ | ⟨_, z⟩ <;> cases z
  · show PostS _ _ _ _ _ _ (FS ρ1 ⟨ls, 0, cs, 0⟩) _
    rw [hF]
    intro v H' _ _ rv
    simp only [Rp] at rv
    rw [rv]
    exact out H'
end
end DL
end
section
set_option Elab.async false
set_option linter.all false
set_option maxRecDepth 100000
set_option maxHeartbeats 4000000
namespace DL
open PySem PySem.Spec PyProof.Rows L2 LamX

/-! ### the law's call, at the caller of the claim -/
theorem cx_none {P : Program} {w : World} {H : Hp} {s : Shared} {e : Value} {s' : Shared} (h : L2.CX P w [] H s (fun _ _ _ => False) e s') : False := by
  obtain ⟨_, _, _, _, _, _, _, _, _, _, _, _, _, z⟩ := h
theorem call_end {P : Program} {w : World} {K : PySem.W.Frag} {mg mb : Str → Option Value} {k : Nat} {fa a : Addr} {cs : List (Addr × Addr)} {fd : FuncData} {x : Str} {sp : Sp} {s1 : Shared} {vs : List Value} {ns : List Int} (kin : K.In s1.heap) (nsG : s1.heap.Ns mainGlobals mg) (nsB : s1.heap.Ns builtinsNs mb)
    (boot : ∀ x : Str, x ≠ "__name__" → mb x = bootBuiltins x) (noLim : s1.heap.NoLimit) (noGen : s1.gens = #[]) (empty : ∀ p ∈ cs, s1.heap.get? p.2 = some { cls := .none, data := .fields #[] }) (out : ∀ p ∈ cs, K.lookup p.2 = none) (head : ∀ p ∈ cs, PySem.W.CodeHd s1.heap p.1 p.2)
    (main : ∃ (bm : Addr) (ob : Obj), mg "__builtins__" = some (.ref bm) ∧ bm ≠ builtinsNs ∧ s1.heap.get? bm = some ob ∧ ob.cls = .type "module" ∧ ob.dict = some builtinsNs ∧ ob.data = .plain) (script : s1.heap.get? a = some { cls := .type "list", data := .seq vs.toArray }) (ivs : IntsAre vs ns) (few : ns.length ≤ sizeLine)
    (room : Room k callerA) (F : ∀ base : Heap, K.In base → base.Ns mainGlobals mg → (∀ p ∈ cs, TabB base mg p.1 p.2) → FnD true P w K mg base k fa fd [x] sp) (binds : ∀ (s : Shared) (u : Value), BindsTo s fd ⟨[u], []⟩ [(x, u)])
    (law : ∀ H : Hp, (∀ p ∈ cs, H p.2 = some (.tbl #[])) → SqL K H a (ns.map V.int) → (∀ xs, H a ≠ some (.lst xs)) → sp [.ref a] H (fun v _ => v = .bl true) fun _ _ _ => False) :
    codeAny (model P w) callerA (.call (.ref fa) ⟨[.ref a], []⟩) (fun r s' => r = .ok (.ret (.bool true)) ∧ OldK s1.heap s'.heap ∧ s'.os = s1.os ∧ AllBare s'.gens) s1 := by
  have vals := vals_ints ivs
  have many := ivs.length
  let tabs : List Addr := cs.map (·.2)
  have tabOf : ∀ {b : Addr}, b ∈ tabs → ∃ p ∈ cs, p.2 = b := fun m => by
    obtain ⟨p, hp, e⟩ := List.mem_map.mp m
    exact ⟨p, hp, e⟩
  have inTabs : ∀ p ∈ cs, p.2 ∈ tabs := fun p hp => List.mem_map.mpr ⟨p, hp, rfl⟩
  have tabAt : ∀ {b : Addr}, b ∈ tabs → s1.heap.get? b = some { cls := .none, data := .fields #[] } := fun m => by
    obtain ⟨p, hp, rfl⟩ := tabOf m
    exact empty p hp
  have aNo : a ∉ tabs := fun m => by
    have q := (tabAt m).symm.trans script
    cases q
  let oa : Obj := { cls := .type "list", data := .seq vs.toArray }
  let H : Hp := fun b => if b ∈ tabs then some (.tbl #[]) else if b = a ∧ K.lookup a = none then some (.frz oa (.lst (ns.map V.int))) else none
  have H1 : ∀ {b : Addr}, b ∈ tabs → H b = some (.tbl #[]) := fun m => if_pos m
  have H2 : ∀ {b : Addr} {o : HO}, H b = some o → (b ∈ tabs ∧ o = .tbl #[]) ∨ (b = a ∧ K.lookup a = none ∧ o = .frz oa (.lst (ns.map V.int))) := fun {b o} e => by
    by_cases m : b ∈ tabs
    · exact .inl ⟨m, (Option.some.inj ((H1 m).symm.trans e)).symm⟩
    · have e' : (if b = a ∧ K.lookup a = none then some (HO.frz oa (.lst (ns.map V.int))) else none) = some o := (if_neg m).symm.trans e
      split at e'
      · rename_i c
        exact .inr ⟨c.1, c.2, (Option.some.inj e').symm⟩
      · cases e'
  have Hget : ∀ {b : Addr} {o : HO}, H b = some o → K.lookup b = none ∧ ((s1.heap.get? b = some { cls := .none, data := .fields #[] }) ∨ s1.heap.get? b = some oa) := fun e => by
    rcases H2 e with ⟨m, _⟩ | ⟨rfl, n, _⟩
    · refine ⟨?_, .inl (tabAt m)⟩
      obtain ⟨p, hp, rfl⟩ := tabOf m
      exact out p hp
    · exact ⟨n, .inr script⟩
  have Hno : ∀ {b : Addr} {o : Obj}, s1.heap.get? b = some o → (∀ its n, o.data ≠ .seq its n) → o.data ≠ .fields #[] → H b = none := fun {b o} e n1 n2 => by
    cases z : H b with
    | none => rfl
    | some u =>
      rcases (Hget z).2 with q | q
      · rw [e] at q
        cases q
        exact (n2 rfl).elim
      · rw [e] at q
        cases q
        exact (n1 _ _ rfl).elim
  have sq : SqL K H a (ns.map V.int) := by
    cases z : K.lookup a with
    | none => exact .inl (.inr ⟨oa, (if_neg aNo).trans (if_pos ⟨rfl, z⟩)⟩)
    | some o =>
      have e := kin a o z
      rw [script] at e
      cases e
      exact .inr ⟨_, vs.toArray, _, z, rfl, rfl, rfl, by rw [List.size_toArray, many]; exact few, by simpa using vals⟩
  have notLst : ∀ xs, H a ≠ some (.lst xs) := fun xs e => by
    rcases H2 e with ⟨_, z⟩ | ⟨_, _, z⟩ <;> cases z
  have hok : HOk P w H s1.heap := fun b o e => by
    rcases H2 e with ⟨m, rfl⟩ | ⟨rfl, _, rfl⟩
    · exact tabAt m
    · exact ⟨script, by rw [List.length_map]; exact few, vs, _, vals, script⟩
  have keep : ∀ {b : Addr} {o : Obj}, s1.heap.get? b = some o → H b = none → (hidT s1.heap H).get? b = some o := fun e n => hidT_get e n
  have nsK : ∀ {b : Addr} {m : Str → Option Value}, s1.heap.Ns b m → (hidT s1.heap H).Ns b m := fun {b m} ⟨o, es, ep, e, d, r⟩ => ⟨o, es, ep, keep e (Hno e (fun its n z => by rw [d] at z; cases z) (fun z => by rw [d] at z; cases z)), d, r⟩
  have kinB : K.In (hidT s1.heap H) := fun b o e => keep (kin b o e) (by
    cases z : H b with
    | none => rfl
    | some u =>
      have q := (Hget z).1
      rw [e] at q
      cases q)
  have mod : L2.Mod K mg (hidT s1.heap H) := ⟨kinB, nsK nsG, ⟨mb, nsK nsB, boot⟩, let ⟨mc, q1, q2⟩ := noLim; ⟨mc, nsK q1, q2⟩⟩
  have tb : ∀ p ∈ cs, TabB (hidT s1.heap H) mg p.1 p.2 := fun p hp => by
    have atp := empty p hp
    obtain ⟨oG, esG, epG, eG, dG, _⟩ := id nsG
    refine ⟨?_, ?_, fun z => ?_⟩
    · obtain ⟨o, us, file, tf, flags, tg, inF, text, tt, e1, r1, r2, r3, more⟩ := head p hp
      refine ⟨o, us, file, tf, flags, tg, inF, text, tt, keep e1 (Hno e1 (fun its n z => ?_) fun z => ?_), r1, r2, r3, more⟩
      · rw [r2] at z
        cases z
      · rw [r2] at z
        cases z
        simp at r3
    · obtain ⟨bm, ob, b1, b2, b3, b4, b5, b6⟩ := main
      have n1 : bm ≠ mainGlobals := fun z => by
        rw [z, eG] at b3
        cases b3
        rw [dG] at b6
        cases b6
      have n2 : bm ≠ p.2 := fun z => by
        rw [z, atp] at b3
        cases b3
        cases b6
      refine ⟨bm, ob, b1, b2, n1, n2, keep b3 (Hno b3 (fun its n z => ?_) fun z => ?_), b4, b5, b6⟩
      · rw [b6] at z
        cases z
      · rw [b6] at z
        cases z
    · rw [z, atp] at eG
      cases eG
      cases dG
  have env0 : Env0 P w K mg (hidT s1.heap H) callerA [] s1 H := ⟨rfl, mod, fun b o e => of_hidT e, Nat.le_of_eq (hidT_size _ _), trivial, fun b hb => absurd (show b ∈ ([] : List Addr) from hb) (by simp), hok, .of_eq noGen⟩
  refine codeAny_mono ((F _ kinB (nsK nsG) tb).run callerA [] s1 H ⟨[.ref a], []⟩ [.ref a] [.ref a] _ _ ⟨room, fun _ => rfl⟩ env0 (binds s1 (.ref a)) (.cons rfl .nil) (law H (fun p hp => H1 (inTabs p hp)) sq notLst)) fun r s' got => ?_
  cases r with
  | error e => exact (cx_none got).elim
  | ok fl =>
    cases fl with
    | next => exact got.elim
    | brk => exact got.elim
    | cont => exact got.elim
    | ret u =>
      obtain ⟨v, HE, os, bare, un, hokE, rv, yes⟩ := got
      have yes : v = .bl true := yes
      subst yes
      obtain rfl : u = Value.bool true := rv
      have same : ∀ b o, b ∉ tabs → s1.heap.get? b = some o → s'.heap.get? b = some o := fun b o n e => by
        cases z : H b with
        | none => exact un.keep b o e z (by intro q; exact absurd (show b ∈ ([] : List Addr) from q) (by simp)) (by simp)
        | some u =>
          rcases H2 z with ⟨m, _⟩ | ⟨rfl, _, rfl⟩
          · exact (n m).elim
          · obtain ⟨q, _⟩ := hokE b _ (un.frzs b oa _ z)
            rw [script] at e
            cases e
            exact q
      refine ⟨rfl, ⟨fun b o e => ?_, fun b o e => ?_⟩, os, bare⟩
      · by_cases m : b ∈ tabs
        · obtain ⟨p, hp, rfl⟩ := tabOf m
          obtain ⟨more, q⟩ := un.tbls p.2 #[] (H1 m)
          have q := hokE p.2 _ q
          rw [empty p hp] at e
          cases e
          exact .inr (.inl ⟨((head p hp).tab (empty p hp)).isCodeTable, rfl, #[], more, rfl, by rw [Array.empty_append]; rw [Array.empty_append] at q; exact q⟩)
        · exact .inl (same b o m e)
      · by_cases m : b ∈ tabs
        · obtain ⟨p, hp, rfl⟩ := tabOf m
          obtain ⟨more, q⟩ := un.tbls p.2 #[] (H1 m)
          exact ⟨_, hokE p.2 _ q⟩
        · exact ⟨o, same b o m e⟩
/-- what is known of the law at the head's heap h -/
def LawD (l : PySem.W.OpenLaw) (w : World) (K : PySem.W.Frag) (k n : Nat) (x : Str) (mg : Str → Option Value) (fa : Addr) (h : Heap) : Prop :=
  ∃ (fd : FuncData) (cs : List (Addr × Addr)) (sp : Sp), (∀ p ∈ cs, h.get? p.2 = some { cls := .none, data := .fields #[] }) ∧ (∀ p ∈ cs, K.lookup p.2 = none) ∧ (∀ p ∈ cs, PySem.W.CodeHd h p.1 p.2) ∧ (∀ (s : Shared) (u : Value), BindsTo s fd ⟨[u], []⟩ [(x, u)]) ∧
    (∀ (H : Hp) (a : Addr) (ns : List Int), ns.length ≤ n → (∀ z ∈ ns, Builtin.Int.intBits z ≤ 1048576) → (∀ p ∈ cs, H p.2 = some (.tbl #[])) → SqL K H a (ns.map V.int) → (∀ xs, H a ≠ some (.lst xs)) → sp [.ref a] H (fun v _ => v = .bl true) fun _ _ _ => False) ∧
    ∀ base : Heap, K.In base → base.Ns mainGlobals mg → (∀ p ∈ cs, TabB base mg p.1 p.2) → FnD true l.prog w K mg base k fa fd [x] sp
theorem walk_ofD {l : PySem.W.OpenLaw} {n k : Nat} {q : Program} {loose : List Str} {XP : (Str → Option Value) → Heap → Prop} {YP : World → Heap → Prop} {d : DefRec} {K : Params → PySem.W.Frag} {x : Str} (hn : l.most = some n) (hn2 : n ≤ sizeLine) (nodef : d.params.defaults = []) (room : Room k callerA)
    (hY : ∀ (w : World) (h : Heap), YP w h → (K w.params).In h) (F : ∀ (w : World) (mg : Str → Option Value) (fa : Addr) (h : Heap), YP w h → (K w.params).In h → h.Ns mainGlobals mg → mg d.name = some (.ref fa) → LawD l w (K w.params) k n x mg fa h) :
    PySem.W.WalkO q loose XP YP l.row.toRowW d [] (fun f vs => PySem.call f vs) := by
  refine Att.attach_callB hn nodef fun w s0 s1 mg mb fa o pm cd doc a vs ns G Y _ _ _ named script ivs few bits noGen => ?_
  have kin := hY w _ Y
  obtain ⟨fd, cs, sp, h1, h2, h3, h4, h5, h6⟩ := F w mg fa _ Y kin G.T.g named
  exact call_end kin G.T.g G.T.b G.T.builtins G.T.nolimit noGen h1 h2 h3 G.T.bmain script ivs (Nat.le_trans few hn2) room h6 h4 fun H hH hS hN => h5 H a ns few bits hH hS hN
end DL
end
section
set_option Elab.async false
set_option linter.all false
set_option maxRecDepth 100000
set_option maxHeartbeats 4000000
namespace DL
open PySem PySem.Spec PyProof.Rows L2 LamX

/-! ### names of the top -/
theorem hu64 {g : Bool} {k : Nat} {A : Around} (rm : Rm g k A) : A.units + 64 < cLine := by
  have := rm.room.un
  omega
theorem hu1 {g : Bool} {k : Nat} {A : Around} (rm : Rm g k A) : A.units + 1 < cLine := by
  have := rm.room.un
  omega
/-- the top's def x keeps sp -/
structure Ok (g : Bool) (P : Program) (w : World) (K : PySem.W.Frag) (mg : Str → Option Value) (base : Heap) (x : Str) (k : Nat) (ps : List Str) (sp : Sp) : Prop where
  ex : ∃ (f : Addr) (fd : FuncData), mg x = some (.ref f) ∧ PySem.W.keepIn K (.ref f) = true ∧ L2.Binds K fd ps [] ∧ FnD g P w K mg base k f fd ps sp
structure OkK (g : Bool) (P : Program) (w : World) (K : PySem.W.Frag) (mg : Str → Option Value) (base : Heap) (x : Str) (k : Nat) (ps ks : List Str) (sp : Sp) : Prop where
  ex : ∃ (f : Addr) (fd : FuncData), mg x = some (.ref f) ∧ PySem.W.keepIn K (.ref f) = true ∧ KBind K fd ps ks ∧ FnD g P w K mg base k f fd ps sp
theorem FnD.up {P : Program} {w : World} {K : PySem.W.Frag} {mg : Str → Option Value} {base : Heap} {k : Nat} {f : Addr} {fd : FuncData} {ps : List Str} {sp : Sp} (F : FnD false P w K mg base k f fd ps sp) : FnD true P w K mg base k f fd ps sp :=
  ⟨F.len, fun A o s H ar us vs Q E r => F.run A o s H ar us vs Q E r.weak⟩
/-- what the top has at a def's name -/
structure TopF (K : PySem.W.Frag) (mg : Str → Option Value) (x : Str) (st : Stmt) (ps : List Str) (f : Addr) (fd : FuncData) : Prop where
  F : Fun K x x st f fd
  m : mg x = some (.ref f)
  b : L2.Binds K fd ps []
theorem TopF.ok {g : Bool} {P : Program} {w : World} {K : PySem.W.Frag} {mg : Str → Option Value} {base : Heap} {x : Str} {st : Stmt} {ps : List Str} {f : Addr} {fd : FuncData} {k : Nat} {sp : Sp} (t : TopF K mg x st ps f fd) (h : FnD g P w K mg base k f fd ps sp) : Ok g P w K mg base x k ps sp := ⟨f, fd, t.m, t.F.kp, t.b, h⟩
section
variable {T : Type} {X : Cx} {W : WX} {R : Res T} {g : Bool} {ps ks : List Str} {k : Nat} {x : Str} {e : Expr} {es : List Expr} {A : En → T → Out (List Dat) T} {pos p : Pos} {kws : List Keyword}
theorem c_P {n : Nat} {den : List Dat → Unit → Out Dat Unit} (o : Ok g X.prog X.w X.K X.mg X.base x k ps (spG X.K C0 n den)) (rm : Rm g k X.A) (tk : Takes X W) (gl : Gl X x) (ha : PA X (e :: es) (tDA X.K W R A)) (hdb : (x == ("__debug__" : Str)) = false := by decide)
    (he : starEach (e :: es) X.env = (false, eval e X.env) :: starEach es X.env := by rfl) (hpl : (backTo pos (starEach es X.env)).any (·.1) = false := by rfl) : PE X (.Call (.Name x p) (e :: es) [] pos) (tD X.K W R (callP n den A)) := by
  obtain ⟨f, fd, m, kp, bd, F⟩ := o.ex
  exact d_callP F rm tk gl m kp bd ha hdb he hpl
theorem c_K {n : Nat} {den : List Dat → Unit → Out Dat Unit} (o : OkK g X.prog X.w X.K X.mg X.base x k ps ks (spG X.K C0 n den)) (rm : Rm g k X.A) (tk : Takes X W) (gl : Gl X x) (hk : PK X kws (tDA X.K W R A)) (hdb : (x == ("__debug__" : Str)) = false := by decide)
    (hall : (backToKw pos (keywordEach kws X.env)).all (·.1.isSome) = true := by rfl) (hks : (backToKw pos (keywordEach kws X.env)).filterMap (·.1) = ks := by rfl) (hpl : ((backTo pos (starEach [] X.env)).any (·.1) || (backToKw pos (keywordEach kws X.env)).any (·.1.isNone)) = false := by rfl) :
    PE X (.Call (.Name x p) [] kws pos) (tD X.K W R (callP n den A)) := by
  obtain ⟨f, fd, m, kp, bd, F⟩ := o.ex
  exact d_callPK F rm tk gl m kp bd hk hdb hall hks hpl
theorem c_G {r r1 : Res T} {M0 : Addr → Prop} {H0 : Hp} {C : Res T → Prop} {n : Nat} {den : List Dat → T → Out Dat T} (hC : C r1) (sb : Sub r1 r) (ap : ∀ a, M0 a → ¬ r.fp a) (o : Ok g X.prog X.w X.K X.mg X.base x k ps (spG X.K C n den)) (rm : Rm g k X.A) (tk : Takes X W) (gl : Gl X x)
    (ha : PA X (e :: es) (tDA X.K W (fr r M0 H0) A)) (hdb : (x == ("__debug__" : Str)) = false := by decide) (he : starEach (e :: es) X.env = (false, eval e X.env) :: starEach es X.env := by rfl) (hpl : (backTo pos (starEach es X.env)).any (·.1) = false := by rfl) :
    PE X (.Call (.Name x p) (e :: es) [] pos) (tD X.K W (fr r M0 H0) (callG n den A)) := by
  obtain ⟨f, fd, m, kp, bd, F⟩ := o.ex
  exact d_callG hC sb ap F rm tk gl m kp bd ha hdb he hpl
/-- a text, an int at the top -/
def IsStr (mg : Str → Option Value) (x : Str) (l : List Nat) : Prop := ∃ t, mg x = some (.str ⟨l.toArray⟩ t)
def IsInt (mg : Str → Option Value) (x : Str) (i : Int) : Prop := ∃ t, mg x = some (.int i t)
theorem d_gstr {l : List Nat} (gl : Gl X x) (h : IsStr X.mg x l) (hdb : (x == ("__debug__" : Str)) = false := by decide) : PE X (.Name x p) (tD X.K W R (cst (.str l))) := by
  obtain ⟨t, e⟩ := h
  exact d_const (pe_glob (v := .str ⟨l.toArray⟩) gl e ⟨t, rfl⟩ hdb) fun _ _ => by simp only [Rp]
theorem d_gint {i : Int} (gl : Gl X x) (h : IsInt X.mg x i) (hdb : (x == ("__debug__" : Str)) = false := by decide) : PE X (.Name x p) (tD X.K W R (cst (.int i))) := by
  obtain ⟨t, e⟩ := h
  exact d_const (pe_glob (v := .int i) gl e ⟨t, rfl⟩ hdb) fun _ _ => by simp only [Rp]
/-- plain values as data -/
def absD' : Value → Option Dat
  | .none => some .non
  | .bool b => some (.bl b)
  | .int i _ => some (.int i)
  | .str x _ => some (.str x.cps.toList)
  | _ => none
def absDs : List Value → Option (List Dat)
  | [] => some []
  | v :: vs => (absD' v).bind fun d => (absDs vs).map (d :: ·)
/-- a tuple of plain values at the top -/
def tupIn (K : PySem.W.Frag) (a : Addr) : Option (List Dat) := match K.lookup a with
  | some ⟨.type "tuple", _, .seq its _, _⟩ => if its.size ≤ 1000 then absDs its.toList else none
  | _ => none
def valOf : Dat → V
  | .bl b => .bl b
  | .int i => .int i
  | .str x => .str ⟨x.toArray⟩
  | _ => .non
theorem absD_rel {v : Value} {d : Dat} (h : absD' v = some d) : RelV (valOf d) v ∧ ∀ K k H, Rp K k H d (valOf d) := by
  unfold absD' at h
  split at h <;> first | cases h | skip
  · exact ⟨rfl, fun K k H => by simp only [Rp, valOf]⟩
  · exact ⟨rfl, fun K k H => by simp only [Rp, valOf]⟩
  · exact ⟨⟨_, rfl⟩, fun K k H => by simp only [Rp, valOf]⟩
  · exact ⟨⟨_, rfl⟩, fun K k H => by simp only [Rp, valOf]⟩
theorem absDs_rel : ∀ {vs : List Value} {ds : List Dat}, absDs vs = some ds → Vals (ds.map valOf) vs ∧ ∀ K k H, RpL K k H ds (ds.map valOf)
  | [], ds, h => by
    cases h
    exact ⟨.nil, fun K k H => RpL.nil⟩
  | v :: vs, ds, h => by
    unfold absDs at h
    obtain ⟨d, h1, h2⟩ := Option.bind_eq_some_iff.mp h
    obtain ⟨rest, h3, rfl⟩ := Option.map_eq_some_iff.mp h2
    obtain ⟨r1, r2⟩ := absD_rel h1
    obtain ⟨r3, r4⟩ := absDs_rel h3
    exact ⟨.cons r1 r3, fun K k H => RpL.cons (r2 K k H) (r4 K k H)⟩
def IsTup (K : PySem.W.Frag) (mg : Str → Option Value) (x : Str) (ds : List Dat) : Prop := ∃ a : Addr, mg x = some (.ref a) ∧ tupIn K a = some ds
theorem d_gtup {ds : List Dat} (gl : Gl X x) (h : IsTup X.K X.mg x ds) (hdb : (x == ("__debug__" : Str)) = false := by decide) : PE X (.Name x p) (tD X.K W R (cst (.tup ds))) := by
  obtain ⟨a, e, h⟩ := h
  refine d_const (pe_glob (v := .ref a) gl e rfl hdb) fun k H => ?_
  simp only [Rp]
  unfold tupIn at h
  split at h
  · rename_i dd its n sl lk
    split at h
    · rename_i few
      obtain ⟨r1, r2⟩ := absDs_rel h
      exact ⟨a, ds.map valOf, rfl, .inr ⟨_, its, n, lk, rfl, rfl, by rw [sizeLine_eq]; omega, r1⟩, r2 _ _ _⟩
    · cases h
  · cases h
/-- x = [..] on one line, as it stands -/
theorem s_setLcRaw {r : Res T} {M0 : Addr → Prop} {H0 : Hp} {tg iter elt : Expr} {ifs : List Expr} {scope : Scope} {own : List (Str × Nat)} {spos : Pos} {I : En → T → Out (List Dat) T} {B : DenB T} {F : Den T} {gt : TG} {put : Dat → En → Option En} {vs : List Nat} {i : Nat} {y : Str} {py : Pos} (hc : X.calm = true) (hN : X.N.Nodup)
    (ap : ∀ a, M0 a → ¬ r.fp a) (hy : X.N[i]? = some y) (hyl : X.env.scope.names.lookup y = some .local) (hsw : swapsWith (.ListComp elt [⟨tg, iter, ifs, 0⟩] scope pos) (some (.Name y py)) spos.line X.env = pure true) (hi : PI X tg iter (tDI X.K W (fr r M0 H0) I)) (ok : BlkOk X.N X.env.scope scope own) (ht : TgD X.K vs gt put)
    (hg : ∀ (s : Shared) (H : Hp) (C : Addr) (cl : List (Str × Addr)) (fp : List Addr), PG (X.blk s H scope (compEnvC scope cl C X.env) fp) tg gt)
    (hts : ∀ (M : Addr → Prop) (H0 : Hp), (∀ a, M a → ¬ r.fp a) → ∀ (s : Shared) (H : Hp) (C : Addr) (cl : List (Str × Addr)) (fp : List Addr), PTs (X.blk s H scope (compEnvC scope cl C X.env) fp) ifs (tDT X.K W0 (fr r M H0) B))
    (he : ∀ (M : Addr → Prop) (H0 : Hp), (∀ a, M a → ¬ r.fp a) → ∀ (s : Shared) (H : Hp) (C : Addr) (cl : List (Str × Addr)) (fp : List Addr), PE (X.blk s H scope (compEnvC scope cl C X.env) fp) elt (tD X.K W0 (fr r M H0) F))
    (hs : ∀ x, foldedSetIterable iter X.env x = pure x := by intro _; rfl) (hvs : own.map (·.2) = vs := by rfl) : PS X (.Assign [.Name y py] (.ListComp elt [⟨tg, iter, ifs, 0⟩] scope pos) spos) (tRaw X.K W (fr r M0 H0) i (lcD put vs I B F)) := by
  subst hvs
  exact (ps_setLc (tt := tTl X.K r B) (te := tEl X.K r F) hc hN hy hyl hsw hi ok hg (fun s H C cl fp => tl_of (Y := X.blk s H scope (compEnvC scope cl C X.env) fp) fun M H0 ap => hts M H0 ap s H C cl fp) (fun s H C cl fp => el_of (Y := X.blk s H scope (compEnvC scope cl C X.env) fp) fun M H0 ap => he M H0 ap s H C cl fp) hs).imp
    fun D σ H q => t_lc (B := B) (F := F) ap ht q
end
end DL
end
section
set_option Elab.async false
set_option linter.all false
set_option maxRecDepth 100000
set_option maxHeartbeats 4000000
namespace DL
open PySem PySem.Spec PyProof.Rows L2 LamX

/-! ### what the dens give, step by step -/
section
variable {T : Type} {ρ ρ1 : En} {t t1 t2 t3 : T} {F G J : Den T} {A B : DenB T} {As : En → T → Out (List Dat) T} {d x y z : Dat} {ds : List Dat} {a b : Bool} {i : Nat}
theorem v_name (h : ρ[i]? = some (some (.d d))) : vName i ρ t = .ok d t := by
  unfold vName
  rw [h]
theorem v_cst {α : Type} {c : α} : cst c ρ t = .ok c t := rfl
theorem v_op2 {g : Dat → Dat → Option Dat} (h1 : F ρ t = .ok x t1) (h2 : G ρ t1 = .ok y t2) (h3 : g x y = some z) : op2 g F G ρ t = .ok z t2 := by
  unfold op2
  rw [h1]
  show (G ρ t1).bind _ = _
  rw [h2]
  show Out.lift (g x y) t2 = _
  rw [h3]
  rfl
theorem v_un1 {g : Dat → Option Dat} (h1 : F ρ t = .ok x t1) (h3 : g x = some z) : un1 g F ρ t = .ok z t1 := by
  unfold un1
  rw [h1]
  show Out.lift (g x) t1 = _
  rw [h3]
  rfl
theorem v_and (h1 : F ρ t = .ok (.bl a) t1) (h2 : a = true → G ρ t1 = .ok (.bl b) t1) : andV F G ρ t = .ok (.bl (a && b)) t1 := by
  unfold andV
  rw [h1]
  cases a with
  | false => rfl
  | true => exact h2 rfl
theorem v_or (h1 : F ρ t = .ok (.bl a) t1) (h2 : a = false → G ρ t1 = .ok (.bl b) t1) : orV F G ρ t = .ok (.bl (a || b)) t1 := by
  unfold orV
  rw [h1]
  cases a with
  | true => rfl
  | false => exact h2 rfl
theorem v_not (h1 : F ρ t = .ok (.bl a) t1) : notV F ρ t = .ok (.bl (!a)) t1 := by
  unfold notV
  rw [h1]
  rfl
theorem v_neg {n : Int} (h1 : F ρ t = .ok (.int n) t1) : negD F ρ t = .ok (.int (-n)) t1 := by
  unfold negD
  rw [h1]
  rfl
theorem v_chn {g g' : Dat → Dat → Option Dat} (h1 : F ρ t = .ok x t1) (h2 : G ρ t1 = .ok y t2) (h3 : g x y = some (.bl a)) (h4 : a = true → J ρ t2 = .ok z t2 ∧ g' y z = some (.bl b)) : chn g g' F G J ρ t = .ok (.bl (a && b)) t2 := by
  unfold chn
  rw [h1]
  show (G ρ t1).bind _ = _
  rw [h2]
  simp only [Out.bind, h3]
  cases a with
  | false => rfl
  | true =>
    obtain ⟨q1, q2⟩ := h4 rfl
    simp only [q1, q2]
    rfl
theorem v_nil : aNil ρ t = .ok [] t := rfl
theorem v_cons (h1 : F ρ t = .ok x t1) (h2 : As ρ t1 = .ok ds t2) : aCons F As ρ t = .ok (x :: ds) t2 := by
  unfold aCons
  rw [h1]
  show (As ρ t1).bind _ = _
  rw [h2]
  rfl
theorem v_callD {g : List Dat → Option Dat} (h1 : As ρ t = .ok ds t1) (h2 : g ds = some z) : callD g As ρ t = .ok z t1 := by
  unfold callD
  rw [h1]
  show Out.lift (g ds) t1 = _
  rw [h2]
  rfl
theorem v_callP {n : Nat} {den : List Dat → Unit → Out Dat Unit} {u : Unit} (h1 : As ρ t = .ok ds t1) (h2 : ds.length = n) (h3 : den ds () = .ok z u) : callP n den As ρ t = .ok z t1 := by
  unfold callP
  rw [h1]
  show (if ds.length = n then _ else _) = _
  rw [if_pos h2, h3]
theorem v_callX {n : Nat} {den : List Dat → Unit → Out Dat Unit} {u : Unit} {C : Addr} {fs : List Str} {xs : List Dat} (h1 : As ρ t = .ok ds t1) (h2 : ds.length = n) (h3 : den ds () = .ex C fs xs u) : callP n den As ρ t = .ex C fs xs t1 := by
  unfold callP
  rw [h1]
  show (if ds.length = n then _ else _) = _
  rw [if_pos h2, h3]
theorem v_callG {n : Nat} {den : List Dat → T → Out Dat T} (h1 : As ρ t = .ok ds t1) (h2 : ds.length = n) (h3 : den ds t1 = .ok z t2) : callG n den As ρ t = .ok z t2 := by
  unfold callG
  rw [h1]
  show (if ds.length = n then _ else _) = _
  rw [if_pos h2, h3]
theorem v_met {g : Dat → Dat → Option Dat} {l : List Nat} (h1 : F ρ t = .ok (.str l) t1) (h2 : G ρ t1 = .ok y t2) (h3 : g (.str l) y = some z) : met1 g F G ρ t = .ok z t2 := by
  unfold met1
  rw [h1]
  show (G ρ t1).bind _ = _
  rw [h2]
  show Out.lift (g (.str l) y) t2 = _
  rw [h3]
  rfl
theorem v_tup (h1 : As ρ t = .ok ds t1) (h2 : ds.length ≤ line) : mkTup As ρ t = .ok (.tup ds) t1 := by
  unfold mkTup
  rw [h1]
  exact if_pos h2
theorem v_lst (h1 : As ρ t = .ok ds t1) (h2 : ds.length ≤ line) : mkLst As ρ t = .ok (.lst ds) t1 := by
  unfold mkLst
  rw [h1]
  exact if_pos h2
theorem v_prt {n : Int} (h1 : F ρ t = .ok (.int n) t1) : prt F ρ t = .ok (some n) t1 := by
  unfold prt
  rw [h1]
  rfl
theorem v_sl {L U : En → T → Out (Option Int) T} {l u : Option Int} (h1 : F ρ t = .ok x t1) (h2 : L ρ t1 = .ok l t2) (h3 : U ρ t2 = .ok u t3) (h4 : slD x l u = some z) : sl3 F L U ρ t = .ok z t3 := by
  unfold sl3
  rw [h1]
  show (L ρ t1).bind _ = _
  rw [h2]
  show (U ρ t2).bind _ = _
  rw [h3]
  show Out.lift (slD x l u) t3 = _
  rw [h4]
  rfl
theorem v_if (h1 : A ρ t = .ok a t1) (h2 : a = true → F ρ t1 = .ok x t2) (h3 : a = false → G ρ t1 = .ok y t2) : ifV A F G ρ t = .ok (if a then x else y) t2 := by
  unfold ifV
  rw [h1]
  cases a with
  | true => exact h2 rfl
  | false => exact h3 rfl
theorem v_ifT (h1 : A ρ t = .ok true t1) : ifV A F G ρ t = F ρ t1 := by
  unfold ifV
  rw [h1]
  rfl
theorem v_ifF (h1 : A ρ t = .ok false t1) : ifV A F G ρ t = G ρ t1 := by
  unfold ifV
  rw [h1]
  rfl
theorem v_itm {g : Dat → Option (List Dat)} (h1 : F ρ t = .ok x t1) (h3 : g x = some ds) : itmS g F ρ t = .ok ds t1 := by
  unfold itmS
  rw [h1]
  show Out.lift (g x) t1 = _
  rw [h3]
  rfl
theorem v_enum {xs : List Dat} (h1 : As ρ t = .ok [.lst xs] t1) : itmE As ρ t = .ok (numD xs) t1 := by
  unfold itmE
  rw [h1]
  rfl
theorem v_range {n : Int} (h1 : As ρ t = .ok [.int n] t1) (h2 : -(2 ^ 62) ≤ n ∧ n < 2 ^ 62) : itmR1 As ρ t = .ok (rngD 0 n.toNat) t1 := by
  unfold itmR1
  rw [h1]
  exact if_pos h2
/-! tests -/
theorem t_asb (h1 : F ρ t = .ok (.bl a) t1) : asB F ρ t = .ok a t1 := by
  unfold asB
  rw [h1]
  rfl
theorem t_tru (h1 : F ρ t = .ok x t1) (h2 : truthD x = some a) : truD F ρ t = .ok a t1 := by
  unfold truD
  rw [h1]
  show Out.lift (truthD x) t1 = _
  rw [h2]
  rfl
theorem t_and (h1 : A ρ t = .ok a t1) (h2 : a = true → B ρ t1 = .ok b t1) : andT A B ρ t = .ok (a && b) t1 := by
  unfold andT
  rw [h1]
  cases a with
  | false => rfl
  | true => exact h2 rfl
theorem t_or (h1 : A ρ t = .ok a t1) (h2 : a = false → B ρ t1 = .ok b t1) : orT A B ρ t = .ok (a || b) t1 := by
  unfold orT
  rw [h1]
  cases a with
  | true => rfl
  | false => exact h2 rfl
theorem t_not (h1 : A ρ t = .ok a t1) : notT A ρ t = .ok (!a) t1 := by
  unfold notT
  rw [h1]
  rfl
/-! statements -/
variable {P Q S : DenS T} {o : OutS T}
theorem k_ret (h1 : F ρ t = .ok x t1) : retS F ρ t = .rt x t1 := by
  unfold retS bindS
  rw [h1]
theorem k_seq (h1 : P ρ t = .nx ρ1 t1) (h2 : Q ρ1 t1 = o) : seqS P Q ρ t = o := by
  unfold seqS
  rw [h1]
  exact h2
theorem k_seqR (h1 : P ρ t = .rt x t1) : seqS P Q ρ t = .rt x t1 := by
  unfold seqS
  rw [h1]
theorem k_seqX {C : Addr} {fs : List Str} {xs : List Dat} (h1 : P ρ t = .ex C fs xs t1) : seqS P Q ρ t = .ex C fs xs t1 := by
  unfold seqS
  rw [h1]
theorem k_ifT (h1 : A ρ t = .ok true t1) : ifS A P Q ρ t = P ρ t1 := by
  unfold ifS bindS
  rw [h1]
theorem k_ifF (h1 : A ρ t = .ok false t1) : ifS A P Q ρ t = Q ρ t1 := by
  unfold ifS bindS
  rw [h1]
/-- if ..: return e, the rest -/
theorem k_guard (h1 : A ρ t = .ok a t1) (h2 : a = true → P ρ t1 = o) (h3 : a = false → S ρ t1 = o) (hr : a = true → ∀ ρ' t', o ≠ .nx ρ' t') : seqS (ifS A P skipS) S ρ t = o := by
  unfold seqS ifS bindS
  rw [h1]
  cases a with
  | false => exact h3 rfl
  | true =>
    dsimp only
    rw [h2 rfl]
    cases o with
    | nx ρ' t' => exact (hr rfl ρ' t' rfl).elim
    | _ => rfl
theorem k_set {D : Dat} (h1 : F ρ t = .ok D t1) : asgS i F ρ t = .nx (ρ.set i (some (.d D))) t1 := by
  unfold asgS bindS
  rw [h1]
theorem k_new (h1 : As ρ t = .ok ds t1) (h2 : ds.length ≤ line) : newS i As ρ t = .nx (ρ.set i (some (.o ds))) t1 := by
  unfold newS bindS
  rw [h1]
  exact if_pos h2
theorem k_app {xs : List Dat} (h0 : ρ[i]? = some (some (.o xs))) (h1 : F ρ t = .ok x t1) (h2 : xs.length < line) : appS i F ρ t = .nx (ρ.set i (some (.o (xs ++ [x])))) t1 := by
  unfold appS
  rw [h0]
  show bindS (F ρ t) _ = _
  unfold bindS
  rw [h1]
  exact if_pos h2
theorem k_frz {xs : List Dat} (h0 : ρ[i]? = some (some (.o xs))) (h1 : P (ρ.set i (some (.d (.lst xs)))) t = o) : frzS i P ρ t = o := by
  unfold frzS
  rw [h0]
  exact h1
theorem k_asg {put : Dat → En → Option En} {D : Dat} (h1 : F ρ t = .ok D t1) (h2 : put D ρ = some ρ1) : asgT put F ρ t = .nx ρ1 t1 := by
  unfold asgT bindS
  rw [h1]
  show (match put D ρ with | some ρ1 => OutS.nx ρ1 t1 | none => .no) = _
  rw [h2]
theorem k_loop {put : Dat → En → Option En} {I : En → T → Out (List Dat) T} (h1 : I ρ t = .ok ds t1) (h2 : forS put P ds ρ t1 = o) : loopS put I P ρ t = o := by
  unfold loopS bindS
  rw [h1]
  exact h2
theorem r_ret (h : P ρ t = .rt x t1) : retOf (P ρ t) = .ok x t1 := by
  rw [h]
  rfl
/-! comprehensions -/
theorem lc_pure {put : Dat → En → Option En} {ρw : En} (pt : Dat → En) (p : Dat → Bool) (g : Dat → Dat) (t : T) : ∀ (ds acc : List Dat), (∀ d ∈ ds, put d ρw = some (pt d) ∧ B (pt d) t = .ok (p d) t ∧ (p d = true → F (pt d) t = .ok (g d) t)) → acc.length + ds.length ≤ line →
    lcF put B F ρw ds acc t = .ok (acc ++ (ds.filter p).map g) t
  | [], acc, _, _ => by simp [lcF]
  | d :: ds, acc, h, hl => by
    obtain ⟨h1, h2, h3⟩ := h d (.head _)
    have hr := fun x hx => h x (.tail _ hx)
    simp only [lcF, h1, h2]
    rw [List.length_cons] at hl
    cases hp : p d with
    | false =>
      simp only []
      rw [lc_pure pt p g t ds acc hr (by omega), List.filter_cons_of_neg (by simp [hp])]
    | true =>
      simp only [h3 hp]
      rw [if_pos (by omega), lc_pure pt p g t ds (acc ++ [g d]) hr (by simp; omega), List.filter_cons_of_pos hp]
      simp
theorem lcD_pure {put : Dat → En → Option En} {vs : List Nat} {I : En → T → Out (List Dat) T} (pt : Dat → En) (p : Dat → Bool) (g : Dat → Dat) (no : vs.all (notOwn ρ) = true) (hi : I ρ t = .ok ds t1)
    (h : ∀ d ∈ ds, put d (wipeE ρ vs) = some (pt d) ∧ B (pt d) t1 = .ok (p d) t1 ∧ (p d = true → F (pt d) t1 = .ok (g d) t1)) (hl : ds.length ≤ line) : lcD put vs I B F ρ t = .ok (.lst ((ds.filter p).map g)) t1 := by
  unfold lcD
  rw [if_pos no, hi]
  show (lcF put B F (wipeE ρ vs) ds [] t1).bind _ = _
  rw [lc_pure pt p g t1 ds [] h (by simpa using hl)]
  rfl
theorem lcD_map {put : Dat → En → Option En} {vs : List Nat} {I : En → T → Out (List Dat) T} (pt : Dat → En) (g : Dat → Dat) (no : vs.all (notOwn ρ) = true) (hi : I ρ t = .ok ds t1) (h : ∀ d ∈ ds, put d (wipeE ρ vs) = some (pt d) ∧ F (pt d) t1 = .ok (g d) t1) (hl : ds.length ≤ line) :
    lcD put vs I (cst true) F ρ t = .ok (.lst (ds.map g)) t1 := by
  rw [lcD_pure pt (fun _ => true) g no hi (fun d hd => ⟨(h d hd).1, rfl, fun _ => (h d hd).2⟩) hl, List.filter_eq_self.mpr fun _ _ => rfl]
/-- elements that draw: each has what p asks -/
theorem lc_some {put : Dat → En → Option En} {ρw : En} {p : Dat → Prop} (pt : Dat → En) : ∀ (ds acc : List Dat) (t : T), (∀ d ∈ ds, put d ρw = some (pt d) ∧ ∀ t, ∃ x t', F (pt d) t = .ok x t' ∧ p x) → acc.length + ds.length ≤ line →
    ∃ xs t', lcF put (cst true) F ρw ds acc t = .ok (acc ++ xs) t' ∧ xs.length = ds.length ∧ ∀ x ∈ xs, p x
  | [], acc, t, _, _ => ⟨[], t, by simp [lcF], rfl, fun _ h => by cases h⟩
  | d :: ds, acc, t, h, hl => by
    obtain ⟨h1, h2⟩ := h d (.head _)
    obtain ⟨x, t', h3, h4⟩ := h2 t
    rw [List.length_cons] at hl
    obtain ⟨xs, t2, q1, q2, q3⟩ := lc_some pt ds (acc ++ [x]) t' (fun x hx => h x (.tail _ hx)) (by simp; omega)
    refine ⟨x :: xs, t2, ?_, by simp [q2], fun y hy => ?_⟩
    · simp only [lcF, h1, cst, h3]
      rw [if_pos (by omega), q1]
      simp
    · rcases List.mem_cons.mp hy with rfl | hy
      · exact h4
      · exact q3 y hy
theorem lcD_some {put : Dat → En → Option En} {vs : List Nat} {I : En → T → Out (List Dat) T} {p : Dat → Prop} (pt : Dat → En) (no : vs.all (notOwn ρ) = true) (hi : I ρ t = .ok ds t1) (h : ∀ d ∈ ds, put d (wipeE ρ vs) = some (pt d) ∧ ∀ t, ∃ x t', F (pt d) t = .ok x t' ∧ p x) (hl : ds.length ≤ line) :
    ∃ xs t', lcD put vs I (cst true) F ρ t = .ok (.lst xs) t' ∧ xs.length = ds.length ∧ ∀ x ∈ xs, p x := by
  obtain ⟨xs, t', q1, q2, q3⟩ := lc_some (p := p) pt ds [] t1 h (by simpa using hl)
  refine ⟨xs, t', ?_, q2, q3⟩
  unfold lcD
  rw [if_pos no, hi]
  show (lcF put (cst true) F (wipeE ρ vs) ds [] t1).bind _ = _
  rw [q1]
  rfl
end
end DL
end
section
set_option Elab.async false
set_option linter.all false
set_option maxRecDepth 100000
set_option maxHeartbeats 4000000
namespace K25
open PySem PySem.Spec PyProof.Rows L2 LamX DL
/-- the places that the text speaks of: its classes, the code objects of the defs that make lambdas, their tables -/
structure Ad where
  cFE : Addr
  cBF : Addr
  cBT : Addr
  c1 : Addr
  P1 : Addr
  c2 : Addr
  P2 : Addr
def n_is_number : List Str := ["value"]
def fs_is_number (Z : Ad) : DenS Unit := (retS (andV (un1 (isiD "int") (vName 0)) (notV (un1 (isiD "bool") (vName 0)))))
def den_is_number (Z : Ad) : List Dat → Unit → Out Dat Unit := denOf n_is_number (fs_is_number Z)
def n_is_name : List Str := ["value", "sign"]
def fs_is_name (Z : Ad) : DenS Unit := (retS (andV (un1 (isiD "str") (vName 0)) (andV (chn (cmpD fun i j => decide (i ≤ j)) (cmpD fun i j => decide (i ≤ j)) (cst (.int 1)) (callD lenD (aCons (vName 0) aNil)) (cst (.int 6))) (callD allD (aCons (lcD (putN 1) [1] (itmS itmC (vName 0)) (cst true) (op2 (isInD false) (vName 1) (cst (.str [97, 98, 99, 100, 101, 102, 103, 104, 105, 106, 107, 108, 109, 110, 111, 112, 113, 114, 115, 116, 117, 118, 119, 120, 121, 122])))) aNil)))))
def den_is_name (Z : Ad) : List Dat → Unit → Out Dat Unit := denOf n_is_name (fs_is_name Z)
def n_is_count : List Str := ["thing", "least"]
def fs_is_count (Z : Ad) : DenS Unit := (retS (andV (callP 1 (den_is_number Z) (aCons (vName 0) aNil)) (op2 (cmpD fun i j => decide (j ≤ i)) (vName 0) (vName 1))))
def den_is_count (Z : Ad) : List Dat → Unit → Out Dat Unit := denOf n_is_count (fs_is_count Z)
def n_is_tell : List Str := ["thing", "value"]
def fs_is_tell (Z : Ad) : DenS Unit := (seqS (ifS (orT (asB (op2 (eqD true) (callD lenD (aCons (vName 0) aNil)) (cst (.int 4)))) (orT (notT (truD (callP 2 (den_is_count Z) (aCons (op2 ixD (vName 0) (cst (.int 2))) (aCons (cst (.int 0)) aNil))))) (notT (truD (un1 (isiD "tuple") (op2 ixD (vName 0) (cst (.int 3)))))))) (retS (cst (.bl false))) skipS) (retS (andV (chn (cmpD fun i j => decide (i ≤ j)) (cmpD fun i j => decide (i ≤ j)) (cst (.int 1)) (callD lenD (aCons (op2 ixD (vName 0) (cst (.int 3))) aNil)) (cst (.int 3))) (callD allD (aCons (lcD (putN 1) [1] (itmS itmT (op2 ixD (vName 0) (cst (.int 3)))) (cst true) (callP 1 (den_is_name Z) (aCons (vName 1) aNil))) aNil)))))
def den_is_tell (Z : Ad) : List Dat → Unit → Out Dat Unit := denOf n_is_tell (fs_is_tell Z)
def n_is_ask : List Str := ["thing"]
def fs_is_ask (Z : Ad) : DenS Unit := (seqS (ifS (orT (asB (op2 (eqD true) (callD lenD (aCons (vName 0) aNil)) (cst (.int 6)))) (orT (notT (truD (callP 2 (den_is_count Z) (aCons (op2 ixD (vName 0) (cst (.int 2))) (aCons (cst (.int 1)) aNil))))) (notT (truD (callP 2 (den_is_count Z) (aCons (op2 ixD (vName 0) (cst (.int 3))) (aCons (cst (.int 1)) aNil))))))) (retS (cst (.bl false))) skipS) (retS (andV (callP 2 (den_is_count Z) (aCons (op2 ixD (vName 0) (cst (.int 4))) (aCons (cst (.int 0)) aNil))) (andV (op2 (cmpD fun i j => decide (i ≤ j)) (op2 ixD (vName 0) (cst (.int 4))) (cst (.int 5))) (callP 2 (den_is_count Z) (aCons (op2 ixD (vName 0) (cst (.int 5))) (aCons (cst (.int 0)) aNil)))))))
def den_is_ask (Z : Ad) : List Dat → Unit → Out Dat Unit := denOf n_is_ask (fs_is_ask Z)
def n_is_told : List Str := ["thing"]
def fs_is_told (Z : Ad) : DenS Unit := (seqS (ifS (orT (asB (op2 (eqD true) (callD lenD (aCons (vName 0) aNil)) (cst (.int 5)))) (orT (notT (truD (callP 2 (den_is_count Z) (aCons (op2 ixD (vName 0) (cst (.int 2))) (aCons (cst (.int 1)) aNil))))) (notT (truD (callP 2 (den_is_count Z) (aCons (op2 ixD (vName 0) (cst (.int 3))) (aCons (cst (.int 1)) aNil))))))) (retS (cst (.bl false))) skipS) (retS (andV (un1 (isiD "str") (op2 ixD (vName 0) (cst (.int 4)))) (op2 (isInD false) (op2 ixD (vName 0) (cst (.int 4))) (cst (.tup [.str [108, 97, 110, 100, 101, 100], .str [108, 101, 102, 116]]))))))
def den_is_told (Z : Ad) : List Dat → Unit → Out Dat Unit := denOf n_is_told (fs_is_told Z)
def n_is_frame : List Str := ["thing"]
def fs_is_frame (Z : Ad) : DenS Unit := (seqS (ifS (orT (notT (truD (un1 (isiD "tuple") (vName 0)))) (orT (asB (op2 (cmpD fun i j => decide (i < j)) (callD lenD (aCons (vName 0) aNil)) (cst (.int 2)))) (orT (notT (truD (un1 (isiD "str") (op2 ixD (vName 0) (cst (.int 0)))))) (notT (truD (callP 1 (den_is_name Z) (aCons (op2 ixD (vName 0) (cst (.int 1))) aNil))))))) (retS (cst (.bl false))) skipS) (seqS (ifS (asB (op2 (eqD false) (op2 ixD (vName 0) (cst (.int 0))) (cst (.str [116, 101, 108, 108])))) (retS (callP 1 (den_is_tell Z) (aCons (vName 0) aNil))) skipS) (seqS (ifS (asB (op2 (eqD false) (op2 ixD (vName 0) (cst (.int 0))) (cst (.str [97, 115, 107])))) (retS (callP 1 (den_is_ask Z) (aCons (vName 0) aNil))) skipS) (retS (andV (op2 (eqD false) (op2 ixD (vName 0) (cst (.int 0))) (cst (.str [116, 111, 108, 100]))) (callP 1 (den_is_told Z) (aCons (vName 0) aNil)))))))
def den_is_frame (Z : Ad) : List Dat → Unit → Out Dat Unit := denOf n_is_frame (fs_is_frame Z)
def n_frame_line : List Str := ["frame", "items", "item"]
def fs_frame_line (Z : Ad) : DenS Unit := (seqS (newL 1 (aCons (vName 0) aNil)) (seqS (ifS (asB (op2 (eqD false) (op2 ixD (vName 0) (cst (.int 0))) (cst (.str [116, 101, 108, 108])))) (setS 1 3 (met1 joinD (cst (.str [44])) (op2 ixD (vName 0) (cst (.int 3))))) skipS) (frzS 1 (retS (met1 joinD (cst (.str [32])) (lcD (putN 2) [2] (itmS itmL (vName 1)) (cst true) (callD strD (aCons (vName 2) aNil))))))))
def den_frame_line (Z : Ad) : List Dat → Unit → Out Dat Unit := denOf n_frame_line (fs_frame_line Z)
def n_frame_text : List Str := ["frame"]
def fs_frame_text (Z : Ad) : DenS Unit := (seqS (ifS (notT (truD (callP 1 (den_is_frame Z) (aCons (vName 0) aNil)))) (rsM Z.cBF) skipS) (retS (op2 addD (callP 1 (den_frame_line Z) (aCons (vName 0) aNil)) (cst (.str [10])))))
def den_frame_text (Z : Ad) : List Dat → Unit → Out Dat Unit := denOf n_frame_text (fs_frame_text Z)
def n_number_in : List Str := ["word", "sign"]
def fs_number_in (Z : Ad) : DenS Unit := (seqS (ifS (orT (asB (op2 (eqD false) (vName 0) (cst (.str [])))) (orT (notT (truD (callD allD (aCons (lcD (putN 1) [1] (itmS itmC (vName 0)) (cst true) (op2 (isInD false) (vName 1) (cst (.str [48, 49, 50, 51, 52, 53, 54, 55, 56, 57])))) aNil)))) (andT (asB (op2 (eqD false) (op2 ixD (vName 0) (cst (.int 0))) (cst (.str [48])))) (asB (op2 (eqD true) (vName 0) (cst (.str [48]))))))) (retS (cst .non)) skipS) (retS (callD intD (aCons (vName 0) aNil))))
def den_number_in (Z : Ad) : List Dat → Unit → Out Dat Unit := denOf n_number_in (fs_number_in Z)
def n_frame_in : List Str := ["line", "words", "found", "word"]
def fs_frame_in (Z : Ad) : DenS Unit := (seqS (asgS 1 (met1 splitD (vName 0) (cst (.str [32])))) (seqS (ifS (asB (op2 (cmpD fun i j => decide (i < j)) (callD lenD (aCons (vName 1) aNil)) (cst (.int 4)))) (retS (cst .non)) skipS) (seqS (ifS (asB (op2 (eqD false) (op2 ixD (vName 1) (cst (.int 0))) (cst (.str [116, 101, 108, 108])))) (asgS 2 (op2 addD (mkTup (aCons (op2 ixD (vName 1) (cst (.int 0))) (aCons (op2 ixD (vName 1) (cst (.int 1))) (aCons (callP 1 (den_number_in Z) (aCons (op2 ixD (vName 1) (cst (.int 2))) aNil)) (aCons (callD tupleD (aCons (met1 splitD (op2 ixD (vName 1) (cst (.int 3))) (cst (.str [44]))) aNil)) aNil))))) (callD tupleD (aCons (sl3 (vName 1) (prt (cst (.int 4))) (cst none)) aNil)))) (ifS (asB (op2 (eqD false) (op2 ixD (vName 1) (cst (.int 0))) (cst (.str [97, 115, 107])))) (asgS 2 (op2 addD (callD tupleD (aCons (sl3 (vName 1) (cst none) (prt (cst (.int 2)))) aNil)) (callD tupleD (aCons (lcD (putN 3) [3] (itmS itmL (sl3 (vName 1) (prt (cst (.int 2))) (cst none))) (cst true) (callP 1 (den_number_in Z) (aCons (vName 3) aNil))) aNil)))) (asgS 2 (op2 addD (op2 addD (callD tupleD (aCons (sl3 (vName 1) (cst none) (prt (cst (.int 2)))) aNil)) (callD tupleD (aCons (lcD (putN 3) [3] (itmS itmL (sl3 (vName 1) (prt (cst (.int 2))) (prt (cst (.int 4))))) (cst true) (callP 1 (den_number_in Z) (aCons (vName 3) aNil))) aNil))) (callD tupleD (aCons (sl3 (vName 1) (prt (cst (.int 4))) (cst none)) aNil)))))) (retS (ifV (truD (callP 1 (den_is_frame Z) (aCons (vName 2) aNil))) (vName 2) (cst .non))))))
def den_frame_in (Z : Ad) : List Dat → Unit → Out Dat Unit := denOf n_frame_in (fs_frame_in Z)
def n_cut_text : List Str := ["text", "lines", "found", "at", "line", "frame"]
def fs_cut_text (Z : Ad) : DenS Unit := (seqS (ifS (notT (truD (un1 (isiD "str") (vName 0)))) (rsF Z.cBT "line" (cst (.int 0))) skipS) (seqS (asgS 1 (met1 splitD (vName 0) (cst (.str [10])))) (seqS (newS 2 aNil) (seqS (loopS (putT (putC (putN 3) (putC (putN 4) putNil))) (itmE (aCons (sl3 (vName 1) (cst none) (prt (negD (cst (.int 1))))) aNil)) (seqS (asgS 5 (callP 1 (den_frame_in Z) (aCons (vName 4) aNil))) (seqS (ifS (asB (op2 (isND false) (vName 5) (cst .non))) (rsF Z.cBT "line" (vName 3)) skipS) (appS 2 (vName 5))))) (frzS 2 (retS (mkTup (aCons (vName 2) (aCons (op2 ixD (vName 1) (negD (cst (.int 1)))) aNil)))))))))
def den_cut_text (Z : Ad) : List Dat → Unit → Out Dat Unit := denOf n_cut_text (fs_cut_text Z)
def n_read_frames : List Str := ["text", "found", "rest"]
def fs_read_frames (Z : Ad) : DenS Unit := (seqS (asgT (putT (putC (putN 1) (putC (putN 2) putNil))) (callP 1 (den_cut_text Z) (aCons (vName 0) aNil))) (seqS (ifS (asB (op2 (eqD true) (vName 2) (cst (.str [])))) (rsF Z.cBT "line" (callD lenD (aCons (vName 1) aNil))) skipS) (retS (vName 1))))
def den_read_frames (Z : Ad) : List Dat → Unit → Out Dat Unit := denOf n_read_frames (fs_read_frames Z)
def n_law_begun : List Str := ["script", "large", "cell"]
def fsA_law_begun (Z : Ad) : Den Unit := (lcD (putN 2) [2] (itmS itmL (vName 0)) (asB (op2 (cmpD fun i j => decide (j ≤ i)) (callD absD (aCons (vName 2) aNil)) (op2 powD (cst (.int 10)) (cst (.int 18))))) (op2 subD (callD absD (aCons (vName 2) aNil)) (op2 powD (cst (.int 10)) (cst (.int 18)))))
def fsB_law_begun (Z : Ad) : Den Unit := (lcD (putN 2) [2] (itmS itmL (vName 0)) (cst true) (callD absD (aCons (vName 2) aNil)))
def n_law_mixed : List Str := ["draw", "turn", "found", "great", "blend", "cell"]
def fs_law_mixed (Z : Ad) : DenS DrawSt := (seqS (drPut 0 setTurn (op2 addD (drI 0 DrawSt.turn) (cst (.int 1)))) (seqS (parS 1 2 (aCons (callD intD (aCons (drI 0 DrawSt.turn) aNil)) (aCons (cst (.int 0)) aNil))) (seqS (loopS (putN 3) (itmS itmL (mkLst (aCons (cst (.int 2147483647)) (aCons (cst (.int 2147483629)) (aCons (cst (.int 2147483587)) aNil))))) (seqS (asgS 4 (op2 modD (op2 addD (op2 mulD (vName 1) (cst (.int 48271))) (op2 fdivD (vName 3) (cst (.int 11)))) (vName 3))) (seqS (loopC 0 (putN 5) (asgS 4 (op2 modD (op2 addD (op2 addD (op2 mulD (vName 4) (cst (.int 69621))) (callD intD (aCons (vName 5) aNil))) (vName 1)) (vName 3)))) (asgS 2 (op2 addD (op2 mulD (vName 2) (cst (.int 2147483659))) (op2 modD (op2 powD (vName 4) (cst (.int 5))) (vName 3))))))) (retS (vName 2)))))
def den_law_mixed (Z : Ad) : List Dat → DrawSt → Out Dat DrawSt := denOf n_law_mixed (fs_law_mixed Z)
def n_law_take : List Str := ["draw", "amount", "found"]
def fs_law_take (Z : Ad) : DenS DrawSt := (seqS (ifS (asB (op2 (eqD false) (drI 0 DrawSt.rest) (cst (.int 0)))) (drPut 0 setRest (ifV (asB (drNe 0)) (drPop 0) (callG 1 (den_law_mixed Z) (aCons (vName 0) aNil)))) skipS) (seqS (asgS 2 (op2 modD (callD intD (aCons (drI 0 DrawSt.rest) aNil)) (vName 1))) (seqS (drPut 0 setRest (op2 fdivD (callD intD (aCons (drI 0 DrawSt.rest) aNil)) (vName 1))) (retS (vName 2)))))
def den_law_take (Z : Ad) : List Dat → DrawSt → Out Dat DrawSt := denOf n_law_take (fs_law_take Z)
def n_law_pick : List Str := ["draw", "some"]
def fs_law_pick (Z : Ad) : DenS DrawSt := (retS (op2 ixD (vName 1) (callG 2 (den_law_take Z) (aCons (vName 0) (aCons (callD lenD (aCons (vName 1) aNil)) aNil)))))
def den_law_pick (Z : Ad) : List Dat → DrawSt → Out Dat DrawSt := denOf n_law_pick (fs_law_pick Z)
def n_law_says : List Str := ["told", "due"]
def fs_law_says (Z : Ad) : DenS Unit := (retS (op2 (eqD false) (callD reprD (aCons (vName 0) aNil)) (callD reprD (aCons (vName 1) aNil))))
def den_law_says (Z : Ad) : List Dat → Unit → Out Dat Unit := denOf n_law_says (fs_law_says Z)
def n_law_word : List Str := ["draw"]
def fs_law_word (Z : Ad) : DenS DrawSt := (retS (callG 2 (den_law_pick Z) (aCons (vName 0) (aCons (mkLst (aCons (cst (.str [107])) (aCons (cst (.str [109])) (aCons (cst (.str [103, 117, 97, 114, 100])) (aCons (cst (.str [97, 98, 99, 100, 101, 102])) (aCons (cst (.str [116, 101, 108, 108])) (aCons (cst (.str [111, 110])) (aCons (cst (.str [122])) aNil)))))))) aNil))))
def den_law_word (Z : Ad) : List Dat → DrawSt → Out Dat DrawSt := denOf n_law_word (fs_law_word Z)
def n_law_number : List Str := ["draw", "least"]
def fs_law_number (Z : Ad) : DenS DrawSt := (retS (op2 addD (vName 1) (callG 2 (den_law_pick Z) (aCons (vName 0) (aCons (mkLst (aCons (cst (.int 0)) (aCons (cst (.int 0)) (aCons (cst (.int 1)) (aCons (cst (.int 2)) (aCons (cst (.int 9)) (aCons (cst (.int 10)) (aCons (cst (.int 99)) (aCons (op2 powD (cst (.int 10)) (cst (.int 15))) aNil))))))))) aNil)))))
def den_law_number (Z : Ad) : List Dat → DrawSt → Out Dat DrawSt := denOf n_law_number (fs_law_number Z)
def n_law_frame : List Str := ["draw", "way", "lap"]
def fs_law_frame (Z : Ad) : DenS DrawSt := (seqS (asgS 1 (callG 2 (den_law_take Z) (aCons (vName 0) (aCons (cst (.int 3)) aNil)))) (seqS (ifS (asB (op2 (eqD false) (vName 1) (cst (.int 0)))) (retS (mkTup (aCons (cst (.str [116, 101, 108, 108])) (aCons (callG 1 (den_law_word Z) (aCons (vName 0) aNil)) (aCons (callG 2 (den_law_number Z) (aCons (vName 0) (aCons (cst (.int 0)) aNil))) (aCons (callD tupleD (aCons (lcD (putN 2) [2] (itmR1 (aCons (op2 addD (cst (.int 1)) (callG 2 (den_law_take Z) (aCons (vName 0) (aCons (cst (.int 3)) aNil)))) aNil)) (cst true) (callG 1 (den_law_word Z) (aCons (vName 0) aNil))) aNil)) aNil)))))) skipS) (seqS (ifS (asB (op2 (eqD false) (vName 1) (cst (.int 1)))) (retS (mkTup (aCons (cst (.str [97, 115, 107])) (aCons (callG 1 (den_law_word Z) (aCons (vName 0) aNil)) (aCons (callG 2 (den_law_number Z) (aCons (vName 0) (aCons (cst (.int 1)) aNil))) (aCons (callG 2 (den_law_number Z) (aCons (vName 0) (aCons (cst (.int 1)) aNil))) (aCons (callG 2 (den_law_take Z) (aCons (vName 0) (aCons (cst (.int 6)) aNil))) (aCons (callG 2 (den_law_number Z) (aCons (vName 0) (aCons (cst (.int 0)) aNil))) aNil)))))))) skipS) (retS (mkTup (aCons (cst (.str [116, 111, 108, 100])) (aCons (callG 1 (den_law_word Z) (aCons (vName 0) aNil)) (aCons (callG 2 (den_law_number Z) (aCons (vName 0) (aCons (cst (.int 1)) aNil))) (aCons (callG 2 (den_law_number Z) (aCons (vName 0) (aCons (cst (.int 1)) aNil))) (aCons (callG 2 (den_law_pick Z) (aCons (vName 0) (aCons (mkLst (aCons (cst (.str [108, 97, 110, 100, 101, 100])) (aCons (cst (.str [108, 101, 102, 116])) aNil))) aNil))) aNil))))))))))
def den_law_frame (Z : Ad) : List Dat → DrawSt → Out Dat DrawSt := denOf n_law_frame (fs_law_frame Z)
def n_law_is_name : List Str := ["thing", "sign"]
def fs_law_is_name (Z : Ad) : DenS Unit := (retS (andV (un1 (isiD "str") (vName 0)) (andV (chn (cmpD fun i j => decide (i ≤ j)) (cmpD fun i j => decide (i ≤ j)) (cst (.int 1)) (callD lenD (aCons (vName 0) aNil)) (cst (.int 6))) (op2 (eqD false) (lcD (putN 1) [1] (itmS itmC (vName 0)) (asB (op2 (isInD true) (vName 1) (cst (.str [97, 98, 99, 100, 101, 102, 103, 104, 105, 106, 107, 108, 109, 110, 111, 112, 113, 114, 115, 116, 117, 118, 119, 120, 121, 122])))) (vName 1)) (mkLst aNil)))))
def den_law_is_name (Z : Ad) : List Dat → Unit → Out Dat Unit := denOf n_law_is_name (fs_law_is_name Z)
def n_law_is_from : List Str := ["thing", "least"]
def fs_law_is_from (Z : Ad) : DenS Unit := (retS (andV (un1 (isiD "int") (vName 0)) (andV (notV (un1 (isiD "bool") (vName 0))) (op2 (cmpD fun i j => decide (j ≤ i)) (vName 0) (vName 1)))))
def den_law_is_from (Z : Ad) : List Dat → Unit → Out Dat Unit := denOf n_law_is_from (fs_law_is_from Z)
def n_law_is_a_frame : List Str := ["thing", "scene", "one"]
def fs_law_is_a_frame (Z : Ad) : DenS Unit := (seqS (ifS (orT (notT (truD (un1 (isiD "tuple") (vName 0)))) (orT (asB (op2 (cmpD fun i j => decide (i < j)) (callD lenD (aCons (vName 0) aNil)) (cst (.int 4)))) (orT (notT (truD (un1 (isiD "str") (op2 ixD (vName 0) (cst (.int 0)))))) (notT (truD (callP 1 (den_law_is_name Z) (aCons (op2 ixD (vName 0) (cst (.int 1))) aNil))))))) (retS (cst (.bl false))) skipS) (seqS (ifS (asB (op2 (eqD false) (op2 ixD (vName 0) (cst (.int 0))) (cst (.str [116, 101, 108, 108])))) (seqS (asgS 1 (op2 ixD (vName 0) (cst (.int 3)))) (retS (andV (op2 (eqD false) (callD lenD (aCons (vName 0) aNil)) (cst (.int 4))) (andV (callP 2 (den_law_is_from Z) (aCons (op2 ixD (vName 0) (cst (.int 2))) (aCons (cst (.int 0)) aNil))) (andV (un1 (isiD "tuple") (vName 1)) (andV (chn (cmpD fun i j => decide (i ≤ j)) (cmpD fun i j => decide (i ≤ j)) (cst (.int 1)) (callD lenD (aCons (vName 1) aNil)) (cst (.int 3))) (op2 (eqD false) (lcD (putN 2) [2] (itmS itmT (vName 1)) (notT (truD (callP 1 (den_law_is_name Z) (aCons (vName 2) aNil)))) (vName 2)) (mkLst aNil)))))))) skipS) (seqS (ifS (orT (notT (truD (callP 2 (den_law_is_from Z) (aCons (op2 ixD (vName 0) (cst (.int 2))) (aCons (cst (.int 1)) aNil))))) (notT (truD (callP 2 (den_law_is_from Z) (aCons (op2 ixD (vName 0) (cst (.int 3))) (aCons (cst (.int 1)) aNil)))))) (retS (cst (.bl false))) skipS) (seqS (ifS (asB (op2 (eqD false) (op2 ixD (vName 0) (cst (.int 0))) (cst (.str [116, 111, 108, 100])))) (retS (andV (op2 (eqD false) (callD lenD (aCons (vName 0) aNil)) (cst (.int 5))) (andV (un1 (isiD "str") (op2 ixD (vName 0) (cst (.int 4)))) (op2 (isInD false) (op2 ixD (vName 0) (cst (.int 4))) (mkLst (aCons (cst (.str [108, 97, 110, 100, 101, 100])) (aCons (cst (.str [108, 101, 102, 116])) aNil))))))) skipS) (retS (andV (op2 (eqD false) (op2 ixD (vName 0) (cst (.int 0))) (cst (.str [97, 115, 107]))) (andV (op2 (eqD false) (callD lenD (aCons (vName 0) aNil)) (cst (.int 6))) (andV (callP 2 (den_law_is_from Z) (aCons (op2 ixD (vName 0) (cst (.int 4))) (aCons (cst (.int 0)) aNil))) (andV (op2 (cmpD fun i j => decide (i ≤ j)) (op2 ixD (vName 0) (cst (.int 4))) (cst (.int 5))) (callP 2 (den_law_is_from Z) (aCons (op2 ixD (vName 0) (cst (.int 5))) (aCons (cst (.int 0)) aNil))))))))))))
def den_law_is_a_frame (Z : Ad) : List Dat → Unit → Out Dat Unit := denOf n_law_is_a_frame (fs_law_is_a_frame Z)
def n_law_text_of : List Str := ["frame", "item"]
def fs_law_text_of (Z : Ad) : DenS Unit := (retS (op2 addD (met1 joinD (cst (.str [32])) (lcD (putN 1) [1] (itmS itmT (vName 0)) (cst true) (ifV (truD (un1 (isiD "tuple") (vName 1))) (met1 joinD (cst (.str [44])) (vName 1)) (callD strD (aCons (vName 1) aNil))))) (cst (.str [10]))))
def den_law_text_of (Z : Ad) : List Dat → Unit → Out Dat Unit := denOf n_law_text_of (fs_law_text_of Z)
def n_law_frame_in : List Str := ["line", "words", "figures", "items", "frame", "word", "sign", "at"]
def fs_law_frame_in (Z : Ad) : DenS Unit := (seqS (asgS 1 (met1 splitD (vName 0) (cst (.str [32])))) (seqS (asgS 2 (lcD (putN 5) [5] (itmS itmL (vName 1)) (cst true) (ifV (andT (asB (op2 (eqD true) (vName 5) (cst (.str [])))) (andT (asB (op2 (cmpD fun i j => decide (i < j)) (callD lenD (aCons (vName 5) aNil)) (cst (.int 30)))) (asB (op2 (eqD false) (lcD (putN 6) [6] (itmS itmC (vName 5)) (asB (op2 (isInD true) (vName 6) (cst (.str [48, 49, 50, 51, 52, 53, 54, 55, 56, 57])))) (vName 6)) (mkLst aNil))))) (mkLst (aCons (callD intD (aCons (vName 5) aNil)) aNil)) (mkLst aNil)))) (seqS (asgS 3 (lcD (putT (putC (putN 7) (putC (putN 5) putNil))) [7, 5] (itmE (aCons (vName 1) aNil)) (cst true) (ifV (andT (asB (op2 (eqD false) (vName 7) (cst (.int 3)))) (asB (op2 (eqD false) (op2 ixD (vName 1) (cst (.int 0))) (cst (.str [116, 101, 108, 108]))))) (callD tupleD (aCons (met1 splitD (vName 5) (cst (.str [44]))) aNil)) (ifV (andT (asB (op2 (eqD true) (op2 ixD (vName 2) (vName 7)) (mkLst aNil))) (asB (op2 (cmpD fun i j => decide (j < i)) (vName 7) (cst (.int 1))))) (op2 ixD (op2 ixD (vName 2) (vName 7)) (cst (.int 0))) (vName 5))))) (seqS (asgS 4 (callD tupleD (aCons (vName 3) aNil))) (retS (ifV (andT (truD (callP 1 (den_law_is_a_frame Z) (aCons (vName 4) aNil))) (asB (op2 (eqD false) (callP 1 (den_law_text_of Z) (aCons (vName 4) aNil)) (op2 addD (vName 0) (cst (.str [10])))))) (mkLst (aCons (vName 4) aNil)) (mkLst aNil)))))))
def den_law_frame_in (Z : Ad) : List Dat → Unit → Out Dat Unit := denOf n_law_frame_in (fs_law_frame_in Z)
def n_law_read : List Str := ["text", "lines", "found", "at", "line", "frame"]
def fs_law_read (Z : Ad) : DenS Unit := (seqS (parS 1 2 (aCons (met1 splitD (vName 0) (cst (.str [10]))) (aCons (mkLst aNil) aNil))) (seqS (loopS (putT (putC (putN 3) (putC (putN 4) putNil))) (itmE (aCons (sl3 (vName 1) (cst none) (prt (negD (cst (.int 1))))) aNil)) (seqS (asgS 5 (callP 1 (den_law_frame_in Z) (aCons (vName 4) aNil))) (seqS (ifS (asB (op2 (eqD false) (vName 5) (mkLst aNil))) (retS (mkTup (aCons (vName 2) (aCons (vName 3) aNil)))) skipS) (asgS 2 (op2 addD (vName 2) (vName 5)))))) (retS (mkTup (aCons (vName 2) (aCons (ifV (asB (op2 (eqD false) (op2 ixD (vName 1) (negD (cst (.int 1)))) (cst (.str [])))) (cst .non) (op2 subD (callD lenD (aCons (vName 1) aNil)) (cst (.int 1)))) aNil))))))
def den_law_read (Z : Ad) : List Dat → Unit → Out Dat Unit := denOf n_law_read (fs_law_read Z)
def n_law_near_frames : List Str := ["draw", "frame", "at", "odd"]
def fs_law_near_frames (Z : Ad) : DenS DrawSt := (seqS (asgS 2 (callG 2 (den_law_take Z) (aCons (vName 0) (aCons (callD lenD (aCons (vName 1) aNil)) aNil)))) (seqS (asgS 3 (callG 2 (den_law_pick Z) (aCons (vName 0) (aCons (mkLst (aCons (cst .non) (aCons (cst (.bl true)) (aCons (cst (.int 0)) (aCons (negD (cst (.int 1))) (aCons (cst (.str [])) (aCons (cst (.str [97, 98, 99, 100, 101, 102, 103])) (aCons (cst (.str [65])) (aCons (cst (.str [97, 49])) (aCons (cst (.int 6)) (aCons (mkTup aNil) (aCons (mkTup (aCons (cst (.str [111, 110])) aNil)) (aCons (mkLst (aCons (cst (.str [111, 110])) aNil)) (aCons (cst (.str [108, 101, 102, 116])) (aCons (mkTup (aCons (cst (.str [97])) (aCons (cst (.str [98])) (aCons (cst (.str [99])) (aCons (cst (.str [100])) aNil))))) aNil))))))))))))))) aNil)))) (retS (mkLst (aCons (op2 addD (op2 addD (sl3 (vName 1) (cst none) (prt (vName 2))) (mkTup (aCons (vName 3) aNil))) (sl3 (vName 1) (prt (op2 addD (vName 2) (cst (.int 1)))) (cst none))) (aCons (op2 addD (sl3 (vName 1) (cst none) (prt (vName 2))) (sl3 (vName 1) (prt (op2 addD (vName 2) (cst (.int 1)))) (cst none))) (aCons (op2 addD (vName 1) (mkTup (aCons (vName 3) aNil))) (aCons (callD listD (aCons (vName 1) aNil)) (aCons (un1 revTD (vName 1)) (aCons (cst .non) (aCons (cst (.str [116, 101, 108, 108])) (aCons (mkTup aNil) aNil))))))))))))
def den_law_near_frames (Z : Ad) : List Dat → DrawSt → Out Dat DrawSt := denOf n_law_near_frames (fs_law_near_frames Z)
def n_law_bent_text : List Str := ["draw", "text", "at", "sign"]
def fs_law_bent_text (Z : Ad) : DenS DrawSt := (seqS (asgS 2 (callG 2 (den_law_take Z) (aCons (vName 0) (aCons (op2 addD (callD lenD (aCons (vName 1) aNil)) (cst (.int 1))) aNil)))) (seqS (asgS 3 (callG 2 (den_law_pick Z) (aCons (vName 0) (aCons (mkLst (aCons (cst (.str [32])) (aCons (cst (.str [10])) (aCons (cst (.str [44])) (aCons (cst (.str [48])) (aCons (cst (.str [97])) (aCons (cst (.str [45])) (aCons (cst (.str [65])) (aCons (cst (.str [116, 101, 108, 108])) (aCons (cst (.str [49])) (aCons (cst (.str [10, 10])) aNil))))))))))) aNil)))) (retS (callG 2 (den_law_pick Z) (aCons (vName 0) (aCons (mkLst (aCons (op2 addD (op2 addD (sl3 (vName 1) (cst none) (prt (vName 2))) (vName 3)) (sl3 (vName 1) (prt (vName 2)) (cst none))) (aCons (op2 addD (sl3 (vName 1) (cst none) (prt (vName 2))) (sl3 (vName 1) (prt (op2 addD (vName 2) (cst (.int 1)))) (cst none))) (aCons (op2 addD (op2 addD (sl3 (vName 1) (cst none) (prt (vName 2))) (vName 3)) (sl3 (vName 1) (prt (op2 addD (vName 2) (cst (.int 1)))) (cst none))) (aCons (sl3 (vName 1) (cst none) (prt (vName 2))) (aCons (op2 addD (vName 1) (vName 3)) (aCons (vName 1) aNil))))))) aNil))))))
def den_law_bent_text (Z : Ad) : List Dat → DrawSt → Out Dat DrawSt := denOf n_law_bent_text (fs_law_bent_text Z)
def n_law_pieces_right : List Str := ["draw", "text", "frames", "rest", "found", "at", "lap", "size", "more", "whole", "lines"]
def fs_law_pieces_right (Z : Ad) : DenS DrawSt := (seqS (par3S 3 4 5 (aCons (cst (.str [])) (aCons (mkLst aNil) (aCons (cst (.int 0)) aNil)))) (seqS (loopS (putN 6) (itmR1 (aCons (op2 addD (callD lenD (aCons (vName 1) aNil)) (cst (.int 1))) aNil)) (ifS (asB (op2 (cmpD fun i j => decide (i < j)) (vName 5) (callD lenD (aCons (vName 1) aNil)))) (seqS (asgS 7 (op2 addD (cst (.int 1)) (callG 2 (den_law_take Z) (aCons (vName 0) (aCons (cst (.int 20)) aNil))))) (seqS (asgT (putT (putC (putN 8) (putC (putN 3) putNil))) (callP 1 (den_cut_text Z) (aCons (op2 addD (vName 3) (sl3 (vName 1) (prt (vName 5)) (prt (op2 addD (vName 5) (vName 7))))) aNil))) (parS 4 5 (aCons (op2 addD (vName 4) (vName 8)) (aCons (op2 addD (vName 5) (vName 7)) aNil))))) skipS)) (seqS (asgS 9 (callP 1 (den_cut_text Z) (aCons (vName 1) aNil))) (seqS (asgS 10 (met1 splitD (vName 1) (cst (.str [10])))) (retS (andV (callP 2 (den_law_says Z) (aCons (mkLst (aCons (vName 4) (aCons (vName 3) aNil))) (aCons (mkLst (aCons (vName 2) (aCons (op2 ixD (vName 10) (negD (cst (.int 1)))) aNil))) aNil))) (callP 2 (den_law_says Z) (aCons (vName 9) (aCons (mkTup (aCons (vName 2) (aCons (op2 ixD (vName 10) (negD (cst (.int 1)))) aNil))) aNil)))))))))
def den_law_pieces_right (Z : Ad) : List Dat → DrawSt → Out Dat DrawSt := denOf n_law_pieces_right (fs_law_pieces_right Z)
def n_law_right : List Str := ["draw", "frames", "text", "thing", "is_one", "lap", "near", "found", "due", "line", "error", "ended", "part", "wrong", "frame", "at", "one"]
def fs_law_right (Z : Ad) : DenS DrawSt := (seqS (asgS 1 (lcD (putN 5) [5] (itmR1 (aCons (callG 2 (den_law_take Z) (aCons (vName 0) (aCons (cst (.int 13)) aNil))) aNil)) (cst true) (callG 1 (den_law_frame Z) (aCons (vName 0) aNil)))) (seqS (asgS 2 (met1 joinD (cst (.str [])) (lcD (putN 14) [14] (itmS itmL (vName 1)) (cst true) (callP 1 (den_law_text_of Z) (aCons (vName 14) aNil))))) (seqS (ifS (notT (truD (callP 2 (den_law_says Z) (aCons (mkLst (aCons (met1 joinD (cst (.str [])) (lcD (putN 14) [14] (itmS itmL (vName 1)) (cst true) (callP 1 (den_frame_text Z) (aCons (vName 14) aNil)))) (aCons (callP 1 (den_read_frames Z) (aCons (vName 2) aNil)) aNil))) (aCons (mkLst (aCons (vName 2) (aCons (vName 1) aNil))) aNil))))) (retS (cst (.bl false))) skipS) (seqS (loopS (putN 3) (itmS itmL (op2 addD (sl3 (vName 1) (cst none) (prt (cst (.int 3)))) (ifV (asB (op2 (eqD true) (vName 1) (mkLst aNil))) (callG 2 (den_law_near_frames Z) (aCons (vName 0) (aCons (op2 ixD (vName 1) (cst (.int 0))) aNil))) (mkLst (aCons (cst .non) aNil))))) (seqS (asgS 4 (callP 1 (den_law_is_a_frame Z) (aCons (vName 3) aNil))) (ifS (orT (notT (truD (callP 2 (den_law_says Z) (aCons (mkLst (aCons (callP 1 (den_is_frame Z) (aCons (vName 3) aNil)) (aCons (callP 1 (den_is_frame Z) (aCons (vName 3) aNil)) aNil))) (aCons (mkLst (aCons (vName 4) (aCons (vName 4) aNil))) aNil))))) (asB (op2 (eqD true) (op2 (isND false) (catchD [Z.cBF, Z.cBT] (callP 1 (den_frame_text Z) (aCons (vName 3) aNil))) (cst .non)) (vName 4)))) (retS (cst (.bl false))) skipS))) (seqS (loopS (putN 5) (itmR1 (aCons (cst (.int 4)) aNil)) (seqS (parN 6 7 (callG 2 (den_law_bent_text Z) (aCons (vName 0) (aCons (vName 2) aNil)))) (seqS (asgT (putT (putC (putN 8) (putC (putN 9) putNil))) (callP 1 (den_law_read Z) (aCons (vName 6) aNil))) (seqS (catchA 10 7 [Z.cBF, Z.cBT] (callP 1 (den_read_frames Z) (aCons (vName 6) aNil))) (frzS 7 (seqS (ifS (orT (andT (asB (op2 (isND false) (vName 9) (cst .non))) (notT (truD (callP 2 (den_law_says Z) (aCons (vName 7) (aCons (mkLst (aCons (vName 8) aNil)) aNil)))))) (andT (asB (op2 (isND true) (vName 9) (cst .non))) (orT (notT (truD (un1 (isXD Z.cBT) (vName 10)))) (notT (truD (callP 2 (den_law_says Z) (aCons (un1 (fldD Z.cBT "line") (vName 10)) (aCons (vName 9) aNil)))))))) (retS (cst (.bl false))) skipS) (seqS (parN 11 12 (sl3 (met1 splitD (vName 6) (cst (.str [10]))) (cst none) (prt (negD (cst (.int 1)))))) (seqS (asgS 13 (lcD (putT (putC (putN 15) (putC (putN 16) putNil))) [15, 16] (itmE (aCons (vName 11) aNil)) (asB (op2 (eqD false) (callP 1 (den_law_frame_in Z) (aCons (vName 16) aNil)) (mkLst aNil))) (vName 15))) (seqS (catchA 10 12 [Z.cBF, Z.cBT] (callP 1 (den_cut_text Z) (aCons (vName 6) aNil))) (frzS 12 (ifS (orT (andT (asB (op2 (eqD true) (vName 13) (mkLst aNil))) (orT (notT (truD (un1 (isXD Z.cBT) (vName 10)))) (notT (truD (callP 2 (den_law_says Z) (aCons (un1 (fldD Z.cBT "line") (vName 10)) (aCons (op2 ixD (vName 13) (cst (.int 0))) aNil))))))) (andT (asB (op2 (eqD false) (vName 13) (mkLst aNil))) (notT (truD (callP 2 (den_law_says Z) (aCons (vName 12) (aCons (mkLst (aCons (mkTup (aCons (vName 8) (aCons (op2 ixD (met1 splitD (vName 6) (cst (.str [10]))) (negD (cst (.int 1)))) aNil))) aNil)) aNil))))))) (retS (cst (.bl false))) skipS))))))))))) (retS (callG 3 (den_law_pieces_right Z) (aCons (vName 0) (aCons (op2 addD (vName 2) (callG 2 (den_law_pick Z) (aCons (vName 0) (aCons (mkLst (aCons (cst (.str [])) (aCons (cst (.str [116, 101, 108, 108, 32, 107])) (aCons (cst (.str [97, 115, 107])) (aCons (cst (.str [120, 32, 121, 32, 122])) aNil))))) aNil)))) (aCons (vName 1) aNil))))))))))
def den_law_right (Z : Ad) : List Dat → DrawSt → Out Dat DrawSt := denOf n_law_right (fs_law_right Z)
def n_law : List Str := ["script", "draw", "lap", "errors", "text", "error"]
def fs_law (Z : Ad) : DenS DrawSt := (seqS (loopS (putN 2) (itmR1 (aCons (op2 addD (cst (.int 4)) (callD minD (aCons (callD lenD (aCons (vName 0) aNil)) (aCons (cst (.int 10)) aNil)))) aNil)) (ifS (notT (truD (callG 1 (den_law_right Z) (aCons (vName 1) aNil)))) (retS (cst (.bl false))) skipS)) (seqS (newS 3 (aCons (catchD [Z.cBF, Z.cBT] (callP 1 (den_read_frames Z) (aCons (cst .non) aNil))) aNil)) (seqS (appS 3 (catchD [Z.cBF, Z.cBT] (callP 1 (den_cut_text Z) (aCons (cst (.int 5)) aNil)))) (frzS 3 (seqS (ifS (orT (asB (op2 (eqD true) (lcD (putN 5) [5] (itmS itmL (vName 3)) (cst true) (andV (un1 (isXD Z.cBT) (vName 5)) (op2 (eqD false) (un1 (fldD Z.cBT "line") (vName 5)) (cst (.int 0))))) (mkLst (aCons (cst (.bl true)) (aCons (cst (.bl true)) aNil))))) (notT (truD (un1 (isXD Z.cBF) (catchD [Z.cBF, Z.cBT] (callP 1 (den_frame_text Z) (aCons (cst .non) aNil))))))) (retS (cst (.bl false))) skipS) (seqS (asgS 4 (cst (.str [116, 101, 108, 108, 32, 107, 32, 48, 32, 111, 110, 44, 111, 102, 102, 10, 97, 115, 107, 32, 107, 32, 49, 32, 49, 32, 48, 32, 48, 10, 116, 111, 108, 100, 32, 107, 32, 49, 32, 49, 32, 108, 101, 102, 116, 10]))) (retS (andV (op2 (eqD false) (callP 1 (den_read_frames Z) (aCons (vName 4) aNil)) (mkLst (aCons (mkTup (aCons (cst (.str [116, 101, 108, 108])) (aCons (cst (.str [107])) (aCons (cst (.int 0)) (aCons (mkTup (aCons (cst (.str [111, 110])) (aCons (cst (.str [111, 102, 102])) aNil))) aNil))))) (aCons (mkTup (aCons (cst (.str [97, 115, 107])) (aCons (cst (.str [107])) (aCons (cst (.int 1)) (aCons (cst (.int 1)) (aCons (cst (.int 0)) (aCons (cst (.int 0)) aNil))))))) (aCons (mkTup (aCons (cst (.str [116, 111, 108, 100])) (aCons (cst (.str [107])) (aCons (cst (.int 1)) (aCons (cst (.int 1)) (aCons (cst (.str [108, 101, 102, 116])) aNil)))))) aNil))))) (andV (op2 (eqD false) (callP 1 (den_cut_text Z) (aCons (cst (.str [116, 101, 108, 108, 32, 107])) aNil)) (mkTup (aCons (mkLst aNil) (aCons (cst (.str [116, 101, 108, 108, 32, 107])) aNil)))) (op2 (eqD false) (callP 1 (den_read_frames Z) (aCons (cst (.str [])) aNil)) (mkLst aNil)))))))))))
end K25
end
section
set_option Elab.async false
set_option linter.all false
set_option maxRecDepth 100000
set_option maxHeartbeats 4000000
namespace K25
open PySem PySem.Spec PyProof.Rows L2 LamX DL
def top (i : Nat) : Stmt := PySem.Challenge.pw_leasedkeepers_k25_whole_frames_and_texts.main.body.getD i (.Pass ⟨0, 0, 0, 0⟩)
def qRight : Str := "_law_right.<locals>.<lambda>"
def qLaw : Str := "law.<locals>.<lambda>"
def tabsOf (Z : Ad) : List (Addr × Str) := [(Z.P1, qRight), (Z.P2, qLaw)]
/-- what the walk asks of the top -/
structure Txt (K : PySem.W.Frag) (mg : Str → Option Value) (Z : Ad) : Prop where
  m_len : mg "len" = none
  m_abs : mg "abs" = none
  m_int : mg "int" = none
  m_str : mg "str" = none
  m_tuple : mg "tuple" = none
  m_list : mg "list" = none
  m_all : mg "all" = none
  m_min : mg "min" = none
  m_bool : mg "bool" = none
  m_isinstance : mg "isinstance" = none
  m_repr : mg "repr" = none
  m_range : mg "range" = none
  m_enumerate : mg "enumerate" = none
  c_LETTERS : IsStr mg "LETTERS" [97, 98, 99, 100, 101, 102, 103, 104, 105, 106, 107, 108, 109, 110, 111, 112, 113, 114, 115, 116, 117, 118, 119, 120, 121, 122]
  c_FIGURES : IsStr mg "FIGURES" [48, 49, 50, 51, 52, 53, 54, 55, 56, 57]
  c_MOST_RULE : IsInt mg "MOST_RULE" 5
  c_WORDS : IsTup K mg "WORDS" [.str [108, 97, 110, 100, 101, 100], .str [108, 101, 102, 116]]
  m_FarError : mg "FarError" = some (.ref Z.cFE)
  m_BadFrame : mg "BadFrame" = some (.ref Z.cBF)
  m_BadText : mg "BadText" = some (.ref Z.cBT)
  ec_cBF : ExcC K Z.cBF
  ec_cBT : ExcC K Z.cBT
  kt_cBF : PySem.W.kitOne K (.ref Z.cBF) (.ref Z.cBF) = some true
  kt_cBT : PySem.W.kitOne K (.ref Z.cBT) (.ref Z.cBT) = some true
  xf_line : XfC K Z.cBT
  no_line : PySem.W.findIn K (.ref Z.cBT) "line" = some none
  q_BF : PySem.W.excIn K Z.cBF [.type "ValueError", .type "Exception", .type "BaseException", .type "object"] "ValueError.__new__" = true
  k_BF : PySem.W.keepIn K (.ref Z.cBF) = true
  s_BF : PySem.W.subIn K (.ref Z.cBF) (.type "BaseException") = some true
  t_BF : PySem.W.typeIn K (.ref Z.cBF) = some (.type "type")
  hL : ∀ C ∈ [Z.cBF, Z.cBT], PySem.W.exmOne K (.ref C) (.ref Z.cFE) = some true
/-- BadText and its __init__ -/
structure InitOk (P : Program) (w : World) (K : PySem.W.Frag) (mg : Str → Option Value) (base : Heap) (Z : Ad) : Prop where
  ex : ∃ (fI : Addr) (fd : FuncData) (ps : List Str), OexC K Z.cBT ∧ PySem.W.findIn K (.ref Z.cBT) "__init__" = some (some (.ref fI)) ∧ PySem.W.typeIn K (.ref fI) = some (.type "function") ∧ FnOk P w K mg base CX0 1 fI fd ps (spI Z.cBT "line") ∧ L2.Binds K fd ps [] ∧ mg "BadText" = some (.ref Z.cBT)
theorem raiseT {T : Type} {X : Cx} {W : WX} {R : Res T} {Z : Ad} {g : Bool} {p pos pos' : Pos} {e : Expr} {F : Den T} (o : InitOk X.prog X.w X.K X.mg X.base Z) (rm : Rm g 2 X.A) (hc : X.calm = true) (tk : Takes X W) (gl : Gl X "BadText") (he : PE X e (tD X.K W R F)) (hse : starEach [e] X.env = [(false, eval e X.env)] := by rfl) :
    PS X (.Raise (some (.Call (.Name "BadText" p) [e] [] pos)) none pos') (tDS X.K W R (rsF Z.cBT "line" F)) := by
  obtain ⟨fI, fd, ps, o1, o2, o3, o4, o5, o6⟩ := o.ex
  exact s_raiseF hc tk o1 o2 o3 o4 rm.room o5 gl o6 he (by decide) hse
theorem takesL {X : Cx} {A : Around} {outer : List Env} {s : Shared} {H : Hp} {E : XK} {sc : Scope} {f c' : Addr} : Takes (lamCx X A outer s H E sc f c') (fun cls d _ H' => E cls d H') := takes_of rfl rfl rfl rfl
theorem mem1 (Z : Ad) : (Z.P1, qRight) ∈ tabsOf Z := .head _
theorem mem2 (Z : Ad) : (Z.P2, qLaw) ∈ tabsOf Z := .tail _ (.head _)
theorem one1 {Z : Ad} (h : Z.P1 ≠ Z.P2) : ∀ p ∈ tabsOf Z, p.1 = Z.P1 → p.2 = qRight := fun p m e => by
  rcases List.mem_cons.mp m with rfl | m
  · rfl
  · rcases List.mem_cons.mp m with rfl | m
    · exact (h e.symm).elim
    · cases m
theorem one2 {Z : Ad} (h : Z.P1 ≠ Z.P2) : ∀ p ∈ tabsOf Z, p.1 = Z.P2 → p.2 = qLaw := fun p m e => by
  rcases List.mem_cons.mp m with rfl | m
  · exact (h e).elim
  · rcases List.mem_cons.mp m with rfl | m
    · rfl
    · cases m
section
variable {P : Program} {w : World} {K : PySem.W.Frag} {mg : Str → Option Value} {base : Heap} {Z : Ad} {f : Addr} {fd : FuncData}
abbrev s_is_number : Stmt := top 6
theorem n_is_number_sc : FnScope n_is_number ["value"] (defScope s_is_number) := ⟨rfl, rfl, rfl, by decide +kernel, rfl, by decide +kernel, by decide +kernel⟩
theorem f_is_number (Tx : Txt K mg Z) (t : TopF K mg "is_number" s_is_number ["value"] f fd) : FnD false P w K mg base 1 f fd ["value"] (spG K C0 1 (den_is_number Z)) :=
  fnG t.F n_is_number_sc rfl fun cdv hcd A outer s H E r M hC ap rm => by
    obtain ⟨hd, rfl⟩ := hC
    exact (s_one (s_ret (d_and (d_isi "int" (by decide) rfl Tx.m_isinstance rfl Tx.m_int (by decide +kernel) (d_name (pv 0))) (d_one (d_not (d_isi "bool" (by decide) rfl Tx.m_isinstance rfl Tx.m_bool (by decide +kernel) (d_name (pv 0))))))))
abbrev s_is_name : Stmt := top 7
theorem n_is_name_sc : FnScope n_is_name ["value"] (defScope s_is_name) := ⟨rfl, rfl, rfl, by decide +kernel, rfl, by decide +kernel, by decide +kernel⟩
theorem f_is_name (Tx : Txt K mg Z) (t : TopF K mg "is_name" s_is_name ["value"] f fd) : FnD false P w K mg base 1 f fd ["value"] (spG K C0 1 (den_is_name Z)) :=
  fnG t.F n_is_name_sc rfl fun cdv hcd A outer s H E r M hC ap rm => by
    obtain ⟨hd, rfl⟩ := hC
    exact (s_one (s_ret (d_and (d_isi "str" (by decide) rfl Tx.m_isinstance rfl Tx.m_str (by decide +kernel) (d_name (pv 0))) (d_and (dchain c_le c_le d_int (d_len rfl Tx.m_len (da_cons (d_name (pv 0)) da_nil)) d_int) (d_one (d_all rfl rfl Tx.m_all (da_cons (d_lc rfl n_is_name_sc.nd ap (i_str (d_name (pv 0))) (blkOk_by (own := [("sign", 1)]) rfl) (g_name _ (vs := [1]) 1) (fun s H C cl fp => (pg_name n_is_name_sc.nd rfl (.inl rfl))) (fun M H0 ap s H C cl fp => dts_nil) (fun M H0 ap s H C cl fp => (dcmp c_in (d_name (pv 1)) (d_gstr rfl Tx.c_LETTERS)))) da_nil)))))))
abbrev s_is_count : Stmt := top 12
theorem n_is_count_sc : FnScope n_is_count ["thing", "least"] (defScope s_is_count) := ⟨rfl, rfl, rfl, by decide +kernel, rfl, by decide +kernel, by decide +kernel⟩
theorem f_is_count (Tx : Txt K mg Z) (o_is_number : Ok false P w K mg base "is_number" 1 ["value"] (spG K C0 1 (den_is_number Z))) (t : TopF K mg "is_count" s_is_count ["thing", "least"] f fd) : FnD false P w K mg base 2 f fd ["thing", "least"] (spG K C0 2 (den_is_count Z)) :=
  fnG t.F n_is_count_sc rfl fun cdv hcd A outer s H E r M hC ap rm => by
    obtain ⟨hd, rfl⟩ := hC
    exact (s_one (s_ret (d_and (c_P o_is_number (rm.mono (by decide)) takesD rfl (da_cons (d_name (pv 0)) da_nil)) (d_one (dcmp c_ge (d_name (pv 0)) (d_name (pv 1)))))))
abbrev s_is_tell : Stmt := top 13
theorem n_is_tell_sc : FnScope n_is_tell ["thing"] (defScope s_is_tell) := ⟨rfl, rfl, rfl, by decide +kernel, rfl, by decide +kernel, by decide +kernel⟩
theorem f_is_tell (Tx : Txt K mg Z) (o_is_count : Ok false P w K mg base "is_count" 2 ["thing", "least"] (spG K C0 2 (den_is_count Z))) (o_is_name : Ok false P w K mg base "is_name" 1 ["value"] (spG K C0 1 (den_is_name Z))) (t : TopF K mg "is_tell" s_is_tell ["thing"] f fd) : FnD false P w K mg base 3 f fd ["thing"] (spG K C0 1 (den_is_tell Z)) :=
  fnG t.F n_is_tell_sc rfl fun cdv hcd A outer s H E r M hC ap rm => by
    obtain ⟨hd, rfl⟩ := hC
    exact (s_cons (s_if (PW.pt (dw_or (dtcmp (c_ne (hu64 rm)) (d_len rfl Tx.m_len (da_cons (d_name (pv 0)) da_nil)) d_int) (dw_or (dt_not (dt_truth (c_P o_is_count (rm.mono (by decide)) takesD rfl (da_cons (d_ix (d_name (pv 0)) d_int) (da_cons d_int da_nil))))) (dw_or1 (dt_not (dt_truth (d_isi "tuple" (by decide) rfl Tx.m_isinstance rfl Tx.m_tuple (by decide +kernel) (d_ix (d_name (pv 0)) d_int)))))))) (s_one (s_ret d_bl)) s_nil) (s_one (s_ret (d_and (dchain c_le c_le d_int (d_len rfl Tx.m_len (da_cons (d_ix (d_name (pv 0)) d_int) da_nil)) d_int) (d_one (d_all rfl rfl Tx.m_all (da_cons (d_lc rfl n_is_tell_sc.nd ap (i_tup (d_ix (d_name (pv 0)) d_int)) (blkOk_by (own := [("value", 1)]) rfl) (g_name _ (vs := [1]) 1) (fun s H C cl fp => (pg_name n_is_tell_sc.nd rfl (.inl rfl))) (fun M H0 ap s H C cl fp => dts_nil) (fun M H0 ap s H C cl fp => (c_P o_is_name (rm.mono (by decide)) LamX.takes0 rfl (da_cons (d_name (pv 1)) da_nil)))) da_nil)))))))
abbrev s_is_ask : Stmt := top 14
theorem n_is_ask_sc : FnScope n_is_ask ["thing"] (defScope s_is_ask) := ⟨rfl, rfl, rfl, by decide +kernel, rfl, by decide +kernel, by decide +kernel⟩
theorem f_is_ask (Tx : Txt K mg Z) (o_is_count : Ok false P w K mg base "is_count" 2 ["thing", "least"] (spG K C0 2 (den_is_count Z))) (t : TopF K mg "is_ask" s_is_ask ["thing"] f fd) : FnD false P w K mg base 3 f fd ["thing"] (spG K C0 1 (den_is_ask Z)) :=
  fnG t.F n_is_ask_sc rfl fun cdv hcd A outer s H E r M hC ap rm => by
    obtain ⟨hd, rfl⟩ := hC
    exact (s_cons (s_if (PW.pt (dw_or (dtcmp (c_ne (hu64 rm)) (d_len rfl Tx.m_len (da_cons (d_name (pv 0)) da_nil)) d_int) (dw_or (dt_not (dt_truth (c_P o_is_count (rm.mono (by decide)) takesD rfl (da_cons (d_ix (d_name (pv 0)) d_int) (da_cons d_int da_nil))))) (dw_or1 (dt_not (dt_truth (c_P o_is_count (rm.mono (by decide)) takesD rfl (da_cons (d_ix (d_name (pv 0)) d_int) (da_cons d_int da_nil))))))))) (s_one (s_ret d_bl)) s_nil) (s_one (s_ret (d_and (c_P o_is_count (rm.mono (by decide)) takesD rfl (da_cons (d_ix (d_name (pv 0)) d_int) (da_cons d_int da_nil))) (d_and (dcmp c_le (d_ix (d_name (pv 0)) d_int) (d_gint rfl Tx.c_MOST_RULE)) (d_one (c_P o_is_count (rm.mono (by decide)) takesD rfl (da_cons (d_ix (d_name (pv 0)) d_int) (da_cons d_int da_nil)))))))))
abbrev s_is_told : Stmt := top 15
theorem n_is_told_sc : FnScope n_is_told ["thing"] (defScope s_is_told) := ⟨rfl, rfl, rfl, by decide +kernel, rfl, by decide +kernel, by decide +kernel⟩
theorem f_is_told (Tx : Txt K mg Z) (o_is_count : Ok false P w K mg base "is_count" 2 ["thing", "least"] (spG K C0 2 (den_is_count Z))) (t : TopF K mg "is_told" s_is_told ["thing"] f fd) : FnD false P w K mg base 3 f fd ["thing"] (spG K C0 1 (den_is_told Z)) :=
  fnG t.F n_is_told_sc rfl fun cdv hcd A outer s H E r M hC ap rm => by
    obtain ⟨hd, rfl⟩ := hC
    exact (s_cons (s_if (PW.pt (dw_or (dtcmp (c_ne (hu64 rm)) (d_len rfl Tx.m_len (da_cons (d_name (pv 0)) da_nil)) d_int) (dw_or (dt_not (dt_truth (c_P o_is_count (rm.mono (by decide)) takesD rfl (da_cons (d_ix (d_name (pv 0)) d_int) (da_cons d_int da_nil))))) (dw_or1 (dt_not (dt_truth (c_P o_is_count (rm.mono (by decide)) takesD rfl (da_cons (d_ix (d_name (pv 0)) d_int) (da_cons d_int da_nil))))))))) (s_one (s_ret d_bl)) s_nil) (s_one (s_ret (d_and (d_isi "str" (by decide) rfl Tx.m_isinstance rfl Tx.m_str (by decide +kernel) (d_ix (d_name (pv 0)) d_int)) (d_one (dcmp c_in (d_ix (d_name (pv 0)) d_int) (d_gtup rfl Tx.c_WORDS)))))))
abbrev s_is_frame : Stmt := top 16
theorem n_is_frame_sc : FnScope n_is_frame ["thing"] (defScope s_is_frame) := ⟨rfl, rfl, rfl, by decide +kernel, rfl, by decide +kernel, by decide +kernel⟩
theorem f_is_frame (Tx : Txt K mg Z) (o_is_tell : Ok false P w K mg base "is_tell" 3 ["thing"] (spG K C0 1 (den_is_tell Z))) (o_is_ask : Ok false P w K mg base "is_ask" 3 ["thing"] (spG K C0 1 (den_is_ask Z))) (o_is_told : Ok false P w K mg base "is_told" 3 ["thing"] (spG K C0 1 (den_is_told Z))) (o_is_name : Ok false P w K mg base "is_name" 1 ["value"] (spG K C0 1 (den_is_name Z))) (t : TopF K mg "is_frame" s_is_frame ["thing"] f fd) : FnD false P w K mg base 4 f fd ["thing"] (spG K C0 1 (den_is_frame Z)) :=
  fnG t.F n_is_frame_sc rfl fun cdv hcd A outer s H E r M hC ap rm => by
    obtain ⟨hd, rfl⟩ := hC
    exact (s_cons (s_if (PW.pt (dw_or (dt_not (dt_truth (d_isi "tuple" (by decide) rfl Tx.m_isinstance rfl Tx.m_tuple (by decide +kernel) (d_name (pv 0))))) (dw_or (dtcmp c_lt (d_len rfl Tx.m_len (da_cons (d_name (pv 0)) da_nil)) d_int) (dw_or (dt_not (dt_truth (d_isi "str" (by decide) rfl Tx.m_isinstance rfl Tx.m_str (by decide +kernel) (d_ix (d_name (pv 0)) d_int)))) (dw_or1 (dt_not (dt_truth (c_P o_is_name (rm.mono (by decide)) takesD rfl (da_cons (d_ix (d_name (pv 0)) d_int) da_nil))))))))) (s_one (s_ret d_bl)) s_nil) (s_cons (s_if (dtcmp (c_eq (hu64 rm)) (d_ix (d_name (pv 0)) d_int) (d_str [116, 101, 108, 108])) (s_one (s_ret (c_P o_is_tell (rm.mono (by decide)) takesD rfl (da_cons (d_name (pv 0)) da_nil)))) s_nil) (s_cons (s_if (dtcmp (c_eq (hu64 rm)) (d_ix (d_name (pv 0)) d_int) (d_str [97, 115, 107])) (s_one (s_ret (c_P o_is_ask (rm.mono (by decide)) takesD rfl (da_cons (d_name (pv 0)) da_nil)))) s_nil) (s_one (s_ret (d_and (dcmp (c_eq (hu64 rm)) (d_ix (d_name (pv 0)) d_int) (d_str [116, 111, 108, 100])) (d_one (c_P o_is_told (rm.mono (by decide)) takesD rfl (da_cons (d_name (pv 0)) da_nil)))))))))
abbrev s_frame_line : Stmt := top 17
theorem n_frame_line_sc : FnScope n_frame_line ["frame"] (defScope s_frame_line) := ⟨rfl, rfl, rfl, by decide +kernel, rfl, by decide +kernel, by decide +kernel⟩
theorem f_frame_line (Tx : Txt K mg Z) (t : TopF K mg "frame_line" s_frame_line ["frame"] f fd) : FnD false P w K mg base 1 f fd ["frame"] (spG K C0 1 (den_frame_line Z)) :=
  fnG t.F n_frame_line_sc rfl fun cdv hcd A outer s H E r M hC ap rm => by
    obtain ⟨hd, rfl⟩ := hC
    exact (s_cons (s_newL n_frame_line_sc.nd rfl (.inl rfl) rfl Tx.m_list (da_cons (d_name (pv 0)) da_nil)) (s_cons (s_if (dtcmp (c_eq (hu64 rm)) (d_ix (d_name (pv 0)) d_int) (d_str [116, 101, 108, 108])) (s_one (s_setL (pv 1) (d_join (d_str [44]) (d_ix (d_name (pv 0)) d_int)))) s_nil) (ss_frz (i := 1) (s_one (s_ret (d_join (d_str [32]) (d_lc rfl n_frame_line_sc.nd ap (i_list (d_name (pv 1))) (blkOk_by (own := [("item", 2)]) rfl) (g_name _ (vs := [2]) 2) (fun s H C cl fp => (pg_name n_frame_line_sc.nd rfl (.inl rfl))) (fun M H0 ap s H C cl fp => dts_nil) (fun M H0 ap s H C cl fp => (d_str_ rfl Tx.m_str (da_cons (d_name (pv 2)) da_nil))))))))))
abbrev s_frame_text : Stmt := top 18
theorem n_frame_text_sc : FnScope n_frame_text ["frame"] (defScope s_frame_text) := ⟨rfl, rfl, rfl, by decide +kernel, rfl, by decide +kernel, by decide +kernel⟩
theorem f_frame_text (Tx : Txt K mg Z) (o_is_frame : Ok false P w K mg base "is_frame" 4 ["thing"] (spG K C0 1 (den_is_frame Z))) (o_frame_line : Ok false P w K mg base "frame_line" 1 ["frame"] (spG K C0 1 (den_frame_line Z))) (t : TopF K mg "frame_text" s_frame_text ["frame"] f fd) : FnD false P w K mg base 5 f fd ["frame"] (spG K C0 1 (den_frame_text Z)) :=
  fnG t.F n_frame_text_sc rfl fun cdv hcd A outer s H E r M hC ap rm => by
    obtain ⟨hd, rfl⟩ := hC
    exact (s_cons (s_if (dt_not (dt_truth (c_P o_is_frame (rm.mono (by decide)) takesD rfl (da_cons (d_name (pv 0)) da_nil)))) (s_one (s_raiseM rfl takesD Tx.q_BF Tx.m_BadFrame Tx.k_BF (raises_own Tx.s_BF Tx.t_BF) rfl)) s_nil) (s_one (s_ret (d_add (c_P o_frame_line (rm.mono (by decide)) takesD rfl (da_cons (d_name (pv 0)) da_nil)) (d_str [10])))))
abbrev s_number_in : Stmt := top 19
theorem n_number_in_sc : FnScope n_number_in ["word"] (defScope s_number_in) := ⟨rfl, rfl, rfl, by decide +kernel, rfl, by decide +kernel, by decide +kernel⟩
theorem f_number_in (Tx : Txt K mg Z) (t : TopF K mg "number_in" s_number_in ["word"] f fd) : FnD false P w K mg base 1 f fd ["word"] (spG K C0 1 (den_number_in Z)) :=
  fnG t.F n_number_in_sc rfl fun cdv hcd A outer s H E r M hC ap rm => by
    obtain ⟨hd, rfl⟩ := hC
    exact (s_cons (s_if (PW.pt (dw_or (dtcmp (c_eq (hu64 rm)) (d_name (pv 0)) (d_str [])) (dw_or (dt_not (dt_truth (d_all rfl rfl Tx.m_all (da_cons (d_lc rfl n_number_in_sc.nd ap (i_str (d_name (pv 0))) (blkOk_by (own := [("sign", 1)]) rfl) (g_name _ (vs := [1]) 1) (fun s H C cl fp => (pg_name n_number_in_sc.nd rfl (.inl rfl))) (fun M H0 ap s H C cl fp => dts_nil) (fun M H0 ap s H C cl fp => (dcmp c_in (d_name (pv 1)) (d_gstr rfl Tx.c_FIGURES)))) da_nil)))) (dw_or1 (PW.pt (dw_and (dtcmp (c_eq (hu64 rm)) (d_ix (d_name (pv 0)) d_int) (d_str [48])) (dw_and1 (dtcmp (c_ne (hu64 rm)) (d_name (pv 0)) (d_str [48]))))))))) (s_one (s_ret d_non)) s_nil) (s_one (s_ret (d_int_ rfl Tx.m_int (da_cons (d_name (pv 0)) da_nil)))))
abbrev s_frame_in : Stmt := top 20
theorem n_frame_in_sc : FnScope n_frame_in ["line"] (defScope s_frame_in) := ⟨rfl, rfl, rfl, by decide +kernel, rfl, by decide +kernel, by decide +kernel⟩
theorem f_frame_in (Tx : Txt K mg Z) (o_is_frame : Ok false P w K mg base "is_frame" 4 ["thing"] (spG K C0 1 (den_is_frame Z))) (o_number_in : Ok false P w K mg base "number_in" 1 ["word"] (spG K C0 1 (den_number_in Z))) (t : TopF K mg "frame_in" s_frame_in ["line"] f fd) : FnD false P w K mg base 5 f fd ["line"] (spG K C0 1 (den_frame_in Z)) :=
  fnG t.F n_frame_in_sc rfl fun cdv hcd A outer s H E r M hC ap rm => by
    obtain ⟨hd, rfl⟩ := hC
    exact (s_cons (s_set n_frame_in_sc.nd rfl (.inl rfl) (d_split (d_name (pv 0)) (d_str [32]))) (s_cons (s_if (dtcmp c_lt (d_len rfl Tx.m_len (da_cons (d_name (pv 1)) da_nil)) d_int) (s_one (s_ret d_non)) s_nil) (s_cons (s_if (dtcmp (c_eq (hu64 rm)) (d_ix (d_name (pv 1)) d_int) (d_str [116, 101, 108, 108])) (s_one (s_set n_frame_in_sc.nd rfl (.inl rfl) (d_add (d_tup (da_cons (d_ix (d_name (pv 1)) d_int) (da_cons (d_ix (d_name (pv 1)) d_int) (da_cons (c_P o_number_in (rm.mono (by decide)) takesD rfl (da_cons (d_ix (d_name (pv 1)) d_int) da_nil)) (da_cons (d_tuple_ rfl Tx.m_tuple (da_cons (d_split (d_ix (d_name (pv 1)) d_int) (d_str [44])) da_nil)) da_nil))))) (d_tuple_ rfl Tx.m_tuple (da_cons (d_slice (d_name (pv 1)) (do_some d_int) do_none) da_nil))))) (s_one (s_if (dtcmp (c_eq (hu64 rm)) (d_ix (d_name (pv 1)) d_int) (d_str [97, 115, 107])) (s_one (s_set n_frame_in_sc.nd rfl (.inl rfl) (d_add (d_tuple_ rfl Tx.m_tuple (da_cons (d_slice (d_name (pv 1)) do_none (do_some d_int)) da_nil)) (d_tuple_ rfl Tx.m_tuple (da_cons (d_lc rfl n_frame_in_sc.nd ap (i_list (d_slice (d_name (pv 1)) (do_some d_int) do_none)) (blkOk_by (own := [("word", 3)]) rfl) (g_name _ (vs := [3]) 3) (fun s H C cl fp => (pg_name n_frame_in_sc.nd rfl (.inl rfl))) (fun M H0 ap s H C cl fp => dts_nil) (fun M H0 ap s H C cl fp => (c_P o_number_in (rm.mono (by decide)) LamX.takes0 rfl (da_cons (d_name (pv 3)) da_nil)))) da_nil))))) (s_one (s_set n_frame_in_sc.nd rfl (.inl rfl) (d_add (d_add (d_tuple_ rfl Tx.m_tuple (da_cons (d_slice (d_name (pv 1)) do_none (do_some d_int)) da_nil)) (d_tuple_ rfl Tx.m_tuple (da_cons (d_lc rfl n_frame_in_sc.nd ap (i_list (d_slice (d_name (pv 1)) (do_some d_int) (do_some d_int))) (blkOk_by (own := [("word", 3)]) rfl) (g_name _ (vs := [3]) 3) (fun s H C cl fp => (pg_name n_frame_in_sc.nd rfl (.inl rfl))) (fun M H0 ap s H C cl fp => dts_nil) (fun M H0 ap s H C cl fp => (c_P o_number_in (rm.mono (by decide)) LamX.takes0 rfl (da_cons (d_name (pv 3)) da_nil)))) da_nil))) (d_tuple_ rfl Tx.m_tuple (da_cons (d_slice (d_name (pv 1)) (do_some d_int) do_none) da_nil)))))))) (s_one (s_ret (d_if (dt_truth (c_P o_is_frame (rm.mono (by decide)) takesD rfl (da_cons (d_name (pv 2)) da_nil))) (d_name (pv 2)) d_non))))))
abbrev s_cut_text : Stmt := top 21
theorem n_cut_text_sc : FnScope n_cut_text ["text"] (defScope s_cut_text) := ⟨rfl, rfl, rfl, by decide +kernel, rfl, by decide +kernel, by decide +kernel⟩
theorem f_cut_text (Tx : Txt K mg Z) (o_frame_in : Ok false P w K mg base "frame_in" 5 ["line"] (spG K C0 1 (den_frame_in Z))) (o_BadText : InitOk P w K mg base Z) (t : TopF K mg "cut_text" s_cut_text ["text"] f fd) : FnD false P w K mg base 6 f fd ["text"] (spG K C0 1 (den_cut_text Z)) :=
  fnG t.F n_cut_text_sc rfl fun cdv hcd A outer s H E r M hC ap rm => by
    obtain ⟨hd, rfl⟩ := hC
    exact (s_cons (s_if (dt_not (dt_truth (d_isi "str" (by decide) rfl Tx.m_isinstance rfl Tx.m_str (by decide +kernel) (d_name (pv 0))))) (s_one (raiseT o_BadText (rm.mono (by decide)) rfl takesD rfl d_int)) s_nil) (s_cons (s_set n_cut_text_sc.nd rfl (.inl rfl) (d_split (d_name (pv 0)) (d_str [10]))) (s_cons (s_new n_cut_text_sc.nd rfl (.inl rfl) da_nil) (s_cons (s_for passesD rfl (i_enum rfl Tx.m_enumerate (da_cons (d_slice (d_name (pv 1)) do_none (do_some (d_neg d_int))) da_nil)) (pg_tup rfl (pgs_cons (pg_name n_cut_text_sc.nd rfl (.inl rfl)) (pgs_cons (pg_name n_cut_text_sc.nd rfl (.inl rfl)) pgs_nil))) (g_tup (g_cons (g_name _ (vs := [3, 4]) 3) (g_cons (g_name _ (vs := [3, 4]) 4) (g_nil _)))) (s_cons (s_set n_cut_text_sc.nd rfl (.inl rfl) (c_P o_frame_in (rm.mono (by decide)) takesD rfl (da_cons (d_name (pv 4)) da_nil))) (s_cons (s_if (dtcmp c_is (d_name (pv 5)) d_non) (s_one (raiseT o_BadText (rm.mono (by decide)) rfl takesD rfl (d_name (pv 3)))) s_nil) (s_one (s_app (pv 2) (d_name (pv 5))))))) (ss_frz (i := 2) (s_one (s_ret (d_tup (da_cons (d_name (pv 2)) (da_cons (d_ix (d_name (pv 1)) (d_neg d_int)) da_nil))))))))))
abbrev s_read_frames : Stmt := top 22
theorem n_read_frames_sc : FnScope n_read_frames ["text"] (defScope s_read_frames) := ⟨rfl, rfl, rfl, by decide +kernel, rfl, by decide +kernel, by decide +kernel⟩
theorem f_read_frames (Tx : Txt K mg Z) (o_cut_text : Ok false P w K mg base "cut_text" 6 ["text"] (spG K C0 1 (den_cut_text Z))) (o_BadText : InitOk P w K mg base Z) (t : TopF K mg "read_frames" s_read_frames ["text"] f fd) : FnD false P w K mg base 7 f fd ["text"] (spG K C0 1 (den_read_frames Z)) :=
  fnG t.F n_read_frames_sc rfl fun cdv hcd A outer s H E r M hC ap rm => by
    obtain ⟨hd, rfl⟩ := hC
    exact (s_cons (s_asg (c_P o_cut_text (rm.mono (by decide)) takesD rfl (da_cons (d_name (pv 0)) da_nil)) (pg_tup rfl (pgs_cons (pg_name n_read_frames_sc.nd rfl (.inl rfl)) (pgs_cons (pg_name n_read_frames_sc.nd rfl (.inl rfl)) pgs_nil))) (g_tup (g_cons (g_name _ (vs := [1, 2]) 1) (g_cons (g_name _ (vs := [1, 2]) 2) (g_nil _))))) (s_cons (s_if (dtcmp (c_ne (hu64 rm)) (d_name (pv 2)) (d_str [])) (s_one (raiseT o_BadText (rm.mono (by decide)) rfl takesD rfl (d_len rfl Tx.m_len (da_cons (d_name (pv 1)) da_nil)))) s_nil) (s_one (s_ret (d_name (pv 1))))))
end
end K25
end
section
set_option Elab.async false
set_option linter.all false
set_option maxRecDepth 100000
set_option maxHeartbeats 4000000
namespace K25
open PySem PySem.Spec PyProof.Rows L2 LamX DL
section
variable {P : Program} {w : World} {K : PySem.W.Frag} {mg : Str → Option Value} {base : Heap} {Z : Ad} {f : Addr} {fd : FuncData}
abbrev s_law_begun : Stmt := top 24
theorem n_law_begun_sc : FnScope n_law_begun ["script"] (defScope s_law_begun) := ⟨rfl, rfl, rfl, by decide +kernel, rfl, by decide +kernel, by decide +kernel⟩
theorem f_law_begun (Tx : Txt K mg Z) (t : TopF K mg "_law_begun" s_law_begun ["script"] f fd) : FnD false P w K mg base 1 f fd ["script"] (spB K (fun ns => listOf (fsA_law_begun Z (startE n_law_begun [.rol (ns.map Dat.int)]) ())) (fun ns => listOf (fsB_law_begun Z (startE n_law_begun [.rol (ns.map Dat.int)]) ()))) :=
  begun_ok (E1 := fsA_law_begun Z) (E2 := fsB_law_begun Z) t.F n_law_begun_sc rfl (by decide) rfl fun cdv A outer s H E rm =>
    ⟨fun M H0 => (have ap : ∀ a, M a → ¬ (nilR none).fp a := fun _ _ z => z; s_setLcRaw rfl n_law_begun_sc.nd ap rfl rfl rfl (i_list (d_name (pv 0))) (blkOk_by (own := [("cell", 2)]) rfl) (g_name _ (vs := [2]) 2) (fun s H C cl fp => (pg_name n_law_begun_sc.nd rfl (.inl rfl))) (fun M H0 ap s H C cl fp => dts_one (dtcmp c_ge (d_abs rfl Tx.m_abs (da_cons (d_name (pv 2)) da_nil)) (d_pow d_int d_int))) (fun M H0 ap s H C cl fp => (d_sub (d_abs rfl Tx.m_abs (da_cons (d_name (pv 2)) da_nil)) (d_pow d_int d_int)))), pv 1,
      fun M H0 => (have ap : ∀ a, M a → ¬ (nilR none).fp a := fun _ _ z => z; d_lc rfl n_law_begun_sc.nd ap (i_list (d_name (pv 0))) (blkOk_by (own := [("cell", 2)]) rfl) (g_name _ (vs := [2]) 2) (fun s H C cl fp => (pg_name n_law_begun_sc.nd rfl (.inl rfl))) (fun M H0 ap s H C cl fp => dts_nil) (fun M H0 ap s H C cl fp => (d_abs rfl Tx.m_abs (da_cons (d_name (pv 2)) da_nil))))⟩
abbrev s_law_mixed : Stmt := top 25
theorem n_law_mixed_sc : FnScope n_law_mixed ["draw"] (defScope s_law_mixed) := ⟨rfl, rfl, rfl, by decide +kernel, rfl, by decide +kernel, by decide +kernel⟩
theorem f_law_mixed (Tx : Txt K mg Z) (t : TopF K mg "_law_mixed" s_law_mixed ["draw"] f fd) : FnD false P w K mg base 1 f fd ["draw"] (spG K CD 1 (den_law_mixed Z)) :=
  fnG t.F n_law_mixed_sc rfl fun cdv hcd A outer s H E r M hC ap rm => by
    obtain ⟨dA, lA, cA, rfl⟩ := hC
    exact (s_cons (s_drPut (hu1 rm) ap (pv 0) (d_add (d_drI (hu1 rm) (pv 0) fun t => dv_turn lA cA t) d_int) (fun t n => dp_turn lA cA t n) (fun _ _ => ⟨rfl, rfl⟩)) (s_cons (s_par rfl n_law_mixed_sc.nd rfl rfl (by decide) rfl rfl (da_cons (d_int_ rfl Tx.m_int (da_cons (d_drI (hu1 rm) (pv 0) fun t => dv_turn lA cA t) da_nil)) (da_cons d_int da_nil)) rfl) (s_cons (s_for passesD rfl (i_list (d_lst (da_cons d_int (da_cons d_int (da_cons d_int da_nil))))) (pg_name n_law_mixed_sc.nd rfl (.inl rfl)) (g_name _ (vs := [3]) 3) (s_cons (s_set n_law_mixed_sc.nd rfl (.inl rfl) (d_mod (d_add (d_mul (d_name (pv 1)) d_int) (d_fdiv (d_name (pv 3)) d_int)) (d_name (pv 3)))) (s_cons (s_forCells (hu1 rm) passesD rfl (pv 0) rfl (pg_name n_law_mixed_sc.nd rfl (.inl rfl)) (g_name _ (vs := [5]) 5) (s_one (s_set n_law_mixed_sc.nd rfl (.inl rfl) (d_mod (d_add (d_add (d_mul (d_name (pv 4)) d_int) (d_int_ rfl Tx.m_int (da_cons (d_name (pv 5)) da_nil))) (d_name (pv 1))) (d_name (pv 3)))))) (s_one (s_set n_law_mixed_sc.nd rfl (.inl rfl) (d_add (d_mul (d_name (pv 2)) d_int) (d_mod (d_pow (d_name (pv 4)) d_int) (d_name (pv 3))))))))) (s_one (s_ret (d_name (pv 2)))))))
abbrev s_law_take : Stmt := top 26
theorem n_law_take_sc : FnScope n_law_take ["draw", "amount"] (defScope s_law_take) := ⟨rfl, rfl, rfl, by decide +kernel, rfl, by decide +kernel, by decide +kernel⟩
theorem f_law_take (Tx : Txt K mg Z) (o_law_mixed : Ok false P w K mg base "_law_mixed" 1 ["draw"] (spG K CD 1 (den_law_mixed Z))) (t : TopF K mg "_law_take" s_law_take ["draw", "amount"] f fd) : FnD false P w K mg base 2 f fd ["draw", "amount"] (spG K CD 2 (den_law_take Z)) :=
  fnG t.F n_law_take_sc rfl fun cdv hcd A outer s H E r M hC ap rm => by
    obtain ⟨dA, lA, cA, rfl⟩ := hC
    exact (s_cons (s_if (dtcmp (c_eq (hu64 rm)) (d_drI (hu1 rm) (pv 0) fun t => dv_rest lA cA t) d_int) (s_one (s_drPut (hu1 rm) ap (pv 0) (d_if (dt_drNe (hu64 rm) (pv 0) rfl) (d_drPop (hu1 rm) ap (pv 0) rfl) (c_G ⟨dA, lA, cA, rfl⟩ Sub.refl ap o_law_mixed (rm.mono (by decide)) takesD rfl (da_cons (d_name (pv 0)) da_nil))) (fun t n => dp_rest lA cA t n) (fun _ _ => ⟨rfl, rfl⟩))) s_nil) (s_cons (s_set n_law_take_sc.nd rfl (.inl rfl) (d_mod (d_int_ rfl Tx.m_int (da_cons (d_drI (hu1 rm) (pv 0) fun t => dv_rest lA cA t) da_nil)) (d_name (pv 1)))) (s_cons (s_drPut (hu1 rm) ap (pv 0) (d_fdiv (d_int_ rfl Tx.m_int (da_cons (d_drI (hu1 rm) (pv 0) fun t => dv_rest lA cA t) da_nil)) (d_name (pv 1))) (fun t n => dp_rest lA cA t n) (fun _ _ => ⟨rfl, rfl⟩)) (s_one (s_ret (d_name (pv 2)))))))
abbrev s_law_pick : Stmt := top 27
theorem n_law_pick_sc : FnScope n_law_pick ["draw", "some"] (defScope s_law_pick) := ⟨rfl, rfl, rfl, by decide +kernel, rfl, by decide +kernel, by decide +kernel⟩
theorem f_law_pick (Tx : Txt K mg Z) (o_law_take : Ok false P w K mg base "_law_take" 2 ["draw", "amount"] (spG K CD 2 (den_law_take Z))) (t : TopF K mg "_law_pick" s_law_pick ["draw", "some"] f fd) : FnD false P w K mg base 3 f fd ["draw", "some"] (spG K CD 2 (den_law_pick Z)) :=
  fnG t.F n_law_pick_sc rfl fun cdv hcd A outer s H E r M hC ap rm => by
    obtain ⟨dA, lA, cA, rfl⟩ := hC
    exact (s_one (s_ret (d_ix (d_name (pv 1)) (c_G ⟨dA, lA, cA, rfl⟩ Sub.refl ap o_law_take (rm.mono (by decide)) takesD rfl (da_cons (d_name (pv 0)) (da_cons (d_len rfl Tx.m_len (da_cons (d_name (pv 1)) da_nil)) da_nil))))))
abbrev s_law_caught : Stmt := top 28
theorem n_law_caught_sc : FnScope ["work", "caught", "error"] ["work"] (defScope s_law_caught) := ⟨rfl, rfl, rfl, by decide +kernel, rfl, by decide +kernel, by decide +kernel⟩
theorem cf_of {X : Cx} {CS : Addr} (t : TopF X.K X.mg "_law_caught" s_law_caught ["work"] f fd) (mn : X.mg "FarError" = some (.ref CS)) : CatchF X "_law_caught" CS :=
  catchF_of t.F n_law_caught_sc t.m t.b rfl (by decide +kernel) rfl rfl rfl rfl mn (by decide) (by decide) (by decide) (by decide) (by decide) (by decide) (by decide) (fun _ => rfl) (fun _ => rfl) (fun _ => rfl)
abbrev s_law_says : Stmt := top 29
theorem n_law_says_sc : FnScope n_law_says ["told", "due"] (defScope s_law_says) := ⟨rfl, rfl, rfl, by decide +kernel, rfl, by decide +kernel, by decide +kernel⟩
theorem f_law_says (Tx : Txt K mg Z) (t : TopF K mg "_law_says" s_law_says ["told", "due"] f fd) : FnD true P w K mg base 1 f fd ["told", "due"] (spG K C0 2 (den_law_says Z)) :=
  fnG t.F n_law_says_sc rfl fun cdv hcd A outer s H E r M hC ap rm => by
    obtain ⟨hd, rfl⟩ := hC
    exact (s_one (s_ret (dcmp (c_eq (hu64 rm)) (d_repr rm rfl Tx.m_repr (da_cons (d_name (pv 0)) da_nil)) (d_repr rm rfl Tx.m_repr (da_cons (d_name (pv 1)) da_nil)))))
abbrev s_law_word : Stmt := top 30
theorem n_law_word_sc : FnScope n_law_word ["draw"] (defScope s_law_word) := ⟨rfl, rfl, rfl, by decide +kernel, rfl, by decide +kernel, by decide +kernel⟩
theorem f_law_word (Tx : Txt K mg Z) (o_law_pick : Ok false P w K mg base "_law_pick" 3 ["draw", "some"] (spG K CD 2 (den_law_pick Z))) (t : TopF K mg "_law_word" s_law_word ["draw"] f fd) : FnD false P w K mg base 4 f fd ["draw"] (spG K CD 1 (den_law_word Z)) :=
  fnG t.F n_law_word_sc rfl fun cdv hcd A outer s H E r M hC ap rm => by
    obtain ⟨dA, lA, cA, rfl⟩ := hC
    exact (s_one (s_ret (c_G ⟨dA, lA, cA, rfl⟩ Sub.refl ap o_law_pick (rm.mono (by decide)) takesD rfl (da_cons (d_name (pv 0)) (da_cons (d_lst (da_cons (d_str [107]) (da_cons (d_str [109]) (da_cons (d_str [103, 117, 97, 114, 100]) (da_cons (d_str [97, 98, 99, 100, 101, 102]) (da_cons (d_str [116, 101, 108, 108]) (da_cons (d_str [111, 110]) (da_cons (d_str [122]) da_nil)))))))) da_nil)))))
abbrev s_law_number : Stmt := top 31
theorem n_law_number_sc : FnScope n_law_number ["draw", "least"] (defScope s_law_number) := ⟨rfl, rfl, rfl, by decide +kernel, rfl, by decide +kernel, by decide +kernel⟩
theorem f_law_number (Tx : Txt K mg Z) (o_law_pick : Ok false P w K mg base "_law_pick" 3 ["draw", "some"] (spG K CD 2 (den_law_pick Z))) (t : TopF K mg "_law_number" s_law_number ["draw", "least"] f fd) : FnD false P w K mg base 4 f fd ["draw", "least"] (spG K CD 2 (den_law_number Z)) :=
  fnG t.F n_law_number_sc rfl fun cdv hcd A outer s H E r M hC ap rm => by
    obtain ⟨dA, lA, cA, rfl⟩ := hC
    exact (s_one (s_ret (d_add (d_name (pv 1)) (c_G ⟨dA, lA, cA, rfl⟩ Sub.refl ap o_law_pick (rm.mono (by decide)) takesD rfl (da_cons (d_name (pv 0)) (da_cons (d_lst (da_cons d_int (da_cons d_int (da_cons d_int (da_cons d_int (da_cons d_int (da_cons d_int (da_cons d_int (da_cons (d_pow d_int d_int) da_nil))))))))) da_nil))))))
abbrev s_law_frame : Stmt := top 32
theorem n_law_frame_sc : FnScope n_law_frame ["draw"] (defScope s_law_frame) := ⟨rfl, rfl, rfl, by decide +kernel, rfl, by decide +kernel, by decide +kernel⟩
theorem f_law_frame (Tx : Txt K mg Z) (o_law_take : Ok false P w K mg base "_law_take" 2 ["draw", "amount"] (spG K CD 2 (den_law_take Z))) (o_law_word : Ok false P w K mg base "_law_word" 4 ["draw"] (spG K CD 1 (den_law_word Z))) (o_law_number : Ok false P w K mg base "_law_number" 4 ["draw", "least"] (spG K CD 2 (den_law_number Z))) (o_law_pick : Ok false P w K mg base "_law_pick" 3 ["draw", "some"] (spG K CD 2 (den_law_pick Z))) (t : TopF K mg "_law_frame" s_law_frame ["draw"] f fd) : FnD false P w K mg base 5 f fd ["draw"] (spG K CD 1 (den_law_frame Z)) :=
  fnG t.F n_law_frame_sc rfl fun cdv hcd A outer s H E r M hC ap rm => by
    obtain ⟨dA, lA, cA, rfl⟩ := hC
    exact (s_cons (s_set n_law_frame_sc.nd rfl (.inl rfl) (c_G ⟨dA, lA, cA, rfl⟩ Sub.refl ap o_law_take (rm.mono (by decide)) takesD rfl (da_cons (d_name (pv 0)) (da_cons d_int da_nil)))) (s_cons (s_if (dtcmp (c_eq (hu64 rm)) (d_name (pv 1)) d_int) (s_one (s_ret (d_tup (da_cons (d_str [116, 101, 108, 108]) (da_cons (c_G ⟨dA, lA, cA, rfl⟩ Sub.refl ap o_law_word (rm.mono (by decide)) takesD rfl (da_cons (d_name (pv 0)) da_nil)) (da_cons (c_G ⟨dA, lA, cA, rfl⟩ Sub.refl ap o_law_number (rm.mono (by decide)) takesD rfl (da_cons (d_name (pv 0)) (da_cons d_int da_nil))) (da_cons (d_tuple_ rfl Tx.m_tuple (da_cons (d_lc rfl n_law_frame_sc.nd ap (i_range rfl Tx.m_range (da_cons (d_add d_int (c_G ⟨dA, lA, cA, rfl⟩ Sub.refl ap o_law_take (rm.mono (by decide)) takesD rfl (da_cons (d_name (pv 0)) (da_cons d_int da_nil)))) da_nil)) (blkOk_by (own := [("lap", 2)]) rfl) (g_name _ (vs := [2]) 2) (fun s H C cl fp => (pg_name n_law_frame_sc.nd rfl (.inl rfl))) (fun M H0 ap s H C cl fp => dts_nil) (fun M H0 ap s H C cl fp => (c_G ⟨dA, lA, cA, rfl⟩ Sub.refl ap o_law_word (rm.mono (by decide)) LamX.takes0 rfl (da_cons (d_name (pv 0)) da_nil)))) da_nil)) da_nil))))))) s_nil) (s_cons (s_if (dtcmp (c_eq (hu64 rm)) (d_name (pv 1)) d_int) (s_one (s_ret (d_tup (da_cons (d_str [97, 115, 107]) (da_cons (c_G ⟨dA, lA, cA, rfl⟩ Sub.refl ap o_law_word (rm.mono (by decide)) takesD rfl (da_cons (d_name (pv 0)) da_nil)) (da_cons (c_G ⟨dA, lA, cA, rfl⟩ Sub.refl ap o_law_number (rm.mono (by decide)) takesD rfl (da_cons (d_name (pv 0)) (da_cons d_int da_nil))) (da_cons (c_G ⟨dA, lA, cA, rfl⟩ Sub.refl ap o_law_number (rm.mono (by decide)) takesD rfl (da_cons (d_name (pv 0)) (da_cons d_int da_nil))) (da_cons (c_G ⟨dA, lA, cA, rfl⟩ Sub.refl ap o_law_take (rm.mono (by decide)) takesD rfl (da_cons (d_name (pv 0)) (da_cons d_int da_nil))) (da_cons (c_G ⟨dA, lA, cA, rfl⟩ Sub.refl ap o_law_number (rm.mono (by decide)) takesD rfl (da_cons (d_name (pv 0)) (da_cons d_int da_nil))) da_nil))))))))) s_nil) (s_one (s_ret (d_tup (da_cons (d_str [116, 111, 108, 100]) (da_cons (c_G ⟨dA, lA, cA, rfl⟩ Sub.refl ap o_law_word (rm.mono (by decide)) takesD rfl (da_cons (d_name (pv 0)) da_nil)) (da_cons (c_G ⟨dA, lA, cA, rfl⟩ Sub.refl ap o_law_number (rm.mono (by decide)) takesD rfl (da_cons (d_name (pv 0)) (da_cons d_int da_nil))) (da_cons (c_G ⟨dA, lA, cA, rfl⟩ Sub.refl ap o_law_number (rm.mono (by decide)) takesD rfl (da_cons (d_name (pv 0)) (da_cons d_int da_nil))) (da_cons (c_G ⟨dA, lA, cA, rfl⟩ Sub.refl ap o_law_pick (rm.mono (by decide)) takesD rfl (da_cons (d_name (pv 0)) (da_cons (d_lst (da_cons (d_str [108, 97, 110, 100, 101, 100]) (da_cons (d_str [108, 101, 102, 116]) da_nil))) da_nil))) da_nil)))))))))))
abbrev s_law_is_name : Stmt := top 33
theorem n_law_is_name_sc : FnScope n_law_is_name ["thing"] (defScope s_law_is_name) := ⟨rfl, rfl, rfl, by decide +kernel, rfl, by decide +kernel, by decide +kernel⟩
theorem f_law_is_name (Tx : Txt K mg Z) (t : TopF K mg "_law_is_name" s_law_is_name ["thing"] f fd) : FnD false P w K mg base 1 f fd ["thing"] (spG K C0 1 (den_law_is_name Z)) :=
  fnG t.F n_law_is_name_sc rfl fun cdv hcd A outer s H E r M hC ap rm => by
    obtain ⟨hd, rfl⟩ := hC
    exact (s_one (s_ret (d_and (d_isi "str" (by decide) rfl Tx.m_isinstance rfl Tx.m_str (by decide +kernel) (d_name (pv 0))) (d_and (dchain c_le c_le d_int (d_len rfl Tx.m_len (da_cons (d_name (pv 0)) da_nil)) d_int) (d_one (dcmp (c_eq (hu64 rm)) (d_lc rfl n_law_is_name_sc.nd ap (i_str (d_name (pv 0))) (blkOk_by (own := [("sign", 1)]) rfl) (g_name _ (vs := [1]) 1) (fun s H C cl fp => (pg_name n_law_is_name_sc.nd rfl (.inl rfl))) (fun M H0 ap s H C cl fp => dts_one (dtcmp c_notin (d_name (pv 1)) (d_str [97, 98, 99, 100, 101, 102, 103, 104, 105, 106, 107, 108, 109, 110, 111, 112, 113, 114, 115, 116, 117, 118, 119, 120, 121, 122]))) (fun M H0 ap s H C cl fp => (d_name (pv 1)))) (d_lst da_nil)))))))
abbrev s_law_is_from : Stmt := top 34
theorem n_law_is_from_sc : FnScope n_law_is_from ["thing", "least"] (defScope s_law_is_from) := ⟨rfl, rfl, rfl, by decide +kernel, rfl, by decide +kernel, by decide +kernel⟩
theorem f_law_is_from (Tx : Txt K mg Z) (t : TopF K mg "_law_is_from" s_law_is_from ["thing", "least"] f fd) : FnD false P w K mg base 1 f fd ["thing", "least"] (spG K C0 2 (den_law_is_from Z)) :=
  fnG t.F n_law_is_from_sc rfl fun cdv hcd A outer s H E r M hC ap rm => by
    obtain ⟨hd, rfl⟩ := hC
    exact (s_one (s_ret (d_and (d_isi "int" (by decide) rfl Tx.m_isinstance rfl Tx.m_int (by decide +kernel) (d_name (pv 0))) (d_and (d_not (d_isi "bool" (by decide) rfl Tx.m_isinstance rfl Tx.m_bool (by decide +kernel) (d_name (pv 0)))) (d_one (dcmp c_ge (d_name (pv 0)) (d_name (pv 1))))))))
abbrev s_law_is_a_frame : Stmt := top 35
theorem n_law_is_a_frame_sc : FnScope n_law_is_a_frame ["thing"] (defScope s_law_is_a_frame) := ⟨rfl, rfl, rfl, by decide +kernel, rfl, by decide +kernel, by decide +kernel⟩
theorem f_law_is_a_frame (Tx : Txt K mg Z) (o_law_is_from : Ok false P w K mg base "_law_is_from" 1 ["thing", "least"] (spG K C0 2 (den_law_is_from Z))) (o_law_is_name : Ok false P w K mg base "_law_is_name" 1 ["thing"] (spG K C0 1 (den_law_is_name Z))) (t : TopF K mg "_law_is_a_frame" s_law_is_a_frame ["thing"] f fd) : FnD false P w K mg base 2 f fd ["thing"] (spG K C0 1 (den_law_is_a_frame Z)) :=
  fnG t.F n_law_is_a_frame_sc rfl fun cdv hcd A outer s H E r M hC ap rm => by
    obtain ⟨hd, rfl⟩ := hC
    exact (s_cons (s_if (PW.pt (dw_or (dt_not (dt_truth (d_isi "tuple" (by decide) rfl Tx.m_isinstance rfl Tx.m_tuple (by decide +kernel) (d_name (pv 0))))) (dw_or (dtcmp c_lt (d_len rfl Tx.m_len (da_cons (d_name (pv 0)) da_nil)) d_int) (dw_or (dt_not (dt_truth (d_isi "str" (by decide) rfl Tx.m_isinstance rfl Tx.m_str (by decide +kernel) (d_ix (d_name (pv 0)) d_int)))) (dw_or1 (dt_not (dt_truth (c_P o_law_is_name (rm.mono (by decide)) takesD rfl (da_cons (d_ix (d_name (pv 0)) d_int) da_nil))))))))) (s_one (s_ret d_bl)) s_nil) (s_cons (s_if (dtcmp (c_eq (hu64 rm)) (d_ix (d_name (pv 0)) d_int) (d_str [116, 101, 108, 108])) (s_cons (s_set n_law_is_a_frame_sc.nd rfl (.inl rfl) (d_ix (d_name (pv 0)) d_int)) (s_one (s_ret (d_and (dcmp (c_eq (hu64 rm)) (d_len rfl Tx.m_len (da_cons (d_name (pv 0)) da_nil)) d_int) (d_and (c_P o_law_is_from (rm.mono (by decide)) takesD rfl (da_cons (d_ix (d_name (pv 0)) d_int) (da_cons d_int da_nil))) (d_and (d_isi "tuple" (by decide) rfl Tx.m_isinstance rfl Tx.m_tuple (by decide +kernel) (d_name (pv 1))) (d_and (dchain c_le c_le d_int (d_len rfl Tx.m_len (da_cons (d_name (pv 1)) da_nil)) d_int) (d_one (dcmp (c_eq (hu64 rm)) (d_lc rfl n_law_is_a_frame_sc.nd ap (i_tup (d_name (pv 1))) (blkOk_by (own := [("one", 2)]) rfl) (g_name _ (vs := [2]) 2) (fun s H C cl fp => (pg_name n_law_is_a_frame_sc.nd rfl (.inl rfl))) (fun M H0 ap s H C cl fp => dts_one (dt_not (dt_truth (c_P o_law_is_name (rm.mono (by decide)) LamX.takes0 rfl (da_cons (d_name (pv 2)) da_nil))))) (fun M H0 ap s H C cl fp => (d_name (pv 2)))) (d_lst da_nil)))))))))) s_nil) (s_cons (s_if (PW.pt (dw_or (dt_not (dt_truth (c_P o_law_is_from (rm.mono (by decide)) takesD rfl (da_cons (d_ix (d_name (pv 0)) d_int) (da_cons d_int da_nil))))) (dw_or1 (dt_not (dt_truth (c_P o_law_is_from (rm.mono (by decide)) takesD rfl (da_cons (d_ix (d_name (pv 0)) d_int) (da_cons d_int da_nil)))))))) (s_one (s_ret d_bl)) s_nil) (s_cons (s_if (dtcmp (c_eq (hu64 rm)) (d_ix (d_name (pv 0)) d_int) (d_str [116, 111, 108, 100])) (s_one (s_ret (d_and (dcmp (c_eq (hu64 rm)) (d_len rfl Tx.m_len (da_cons (d_name (pv 0)) da_nil)) d_int) (d_and (d_isi "str" (by decide) rfl Tx.m_isinstance rfl Tx.m_str (by decide +kernel) (d_ix (d_name (pv 0)) d_int)) (d_one (dcmp c_in (d_ix (d_name (pv 0)) d_int) (d_lst (da_cons (d_str [108, 97, 110, 100, 101, 100]) (da_cons (d_str [108, 101, 102, 116]) da_nil))))))))) s_nil) (s_one (s_ret (d_and (dcmp (c_eq (hu64 rm)) (d_ix (d_name (pv 0)) d_int) (d_str [97, 115, 107])) (d_and (dcmp (c_eq (hu64 rm)) (d_len rfl Tx.m_len (da_cons (d_name (pv 0)) da_nil)) d_int) (d_and (c_P o_law_is_from (rm.mono (by decide)) takesD rfl (da_cons (d_ix (d_name (pv 0)) d_int) (da_cons d_int da_nil))) (d_and (dcmp c_le (d_ix (d_name (pv 0)) d_int) d_int) (d_one (c_P o_law_is_from (rm.mono (by decide)) takesD rfl (da_cons (d_ix (d_name (pv 0)) d_int) (da_cons d_int da_nil))))))))))))))
abbrev s_law_text_of : Stmt := top 36
theorem n_law_text_of_sc : FnScope n_law_text_of ["frame"] (defScope s_law_text_of) := ⟨rfl, rfl, rfl, by decide +kernel, rfl, by decide +kernel, by decide +kernel⟩
theorem f_law_text_of (Tx : Txt K mg Z) (t : TopF K mg "_law_text_of" s_law_text_of ["frame"] f fd) : FnD false P w K mg base 1 f fd ["frame"] (spG K C0 1 (den_law_text_of Z)) :=
  fnG t.F n_law_text_of_sc rfl fun cdv hcd A outer s H E r M hC ap rm => by
    obtain ⟨hd, rfl⟩ := hC
    exact (s_one (s_ret (d_add (d_join (d_str [32]) (d_lc rfl n_law_text_of_sc.nd ap (i_tup (d_name (pv 0))) (blkOk_by (own := [("item", 1)]) rfl) (g_name _ (vs := [1]) 1) (fun s H C cl fp => (pg_name n_law_text_of_sc.nd rfl (.inl rfl))) (fun M H0 ap s H C cl fp => dts_nil) (fun M H0 ap s H C cl fp => (d_if (dt_truth (d_isi "tuple" (by decide) rfl Tx.m_isinstance rfl Tx.m_tuple (by decide +kernel) (d_name (pv 1)))) (d_join (d_str [44]) (d_name (pv 1))) (d_str_ rfl Tx.m_str (da_cons (d_name (pv 1)) da_nil)))))) (d_str [10]))))
abbrev s_law_frame_in : Stmt := top 37
theorem n_law_frame_in_sc : FnScope n_law_frame_in ["line"] (defScope s_law_frame_in) := ⟨rfl, rfl, rfl, by decide +kernel, rfl, by decide +kernel, by decide +kernel⟩
theorem f_law_frame_in (Tx : Txt K mg Z) (o_law_is_a_frame : Ok false P w K mg base "_law_is_a_frame" 2 ["thing"] (spG K C0 1 (den_law_is_a_frame Z))) (o_law_text_of : Ok false P w K mg base "_law_text_of" 1 ["frame"] (spG K C0 1 (den_law_text_of Z))) (t : TopF K mg "_law_frame_in" s_law_frame_in ["line"] f fd) : FnD false P w K mg base 3 f fd ["line"] (spG K C0 1 (den_law_frame_in Z)) :=
  fnG t.F n_law_frame_in_sc rfl fun cdv hcd A outer s H E r M hC ap rm => by
    obtain ⟨hd, rfl⟩ := hC
    exact (s_cons (s_set n_law_frame_in_sc.nd rfl (.inr rfl) (d_split (d_name (pv 0)) (d_str [32]))) (s_cons (s_set n_law_frame_in_sc.nd rfl (.inr rfl) (d_lc rfl n_law_frame_in_sc.nd ap (i_list (d_name (pv 1))) (blkOk_by (own := [("word", 5)]) rfl) (g_name _ (vs := [5]) 5) (fun s H C cl fp => (pg_name n_law_frame_in_sc.nd rfl (.inl rfl))) (fun M H0 ap s H C cl fp => dts_nil) (fun M H0 ap s H C cl fp => (d_if (PW.pt (dw_and (dtcmp (c_ne (hu64 rm)) (d_name (pv 5)) (d_str [])) (dw_and (dtcmp c_lt (d_len rfl Tx.m_len (da_cons (d_name (pv 5)) da_nil)) d_int) (dw_and1 (dtcmp (c_eq (hu64 rm)) (d_lc rfl n_law_frame_in_sc.nd ap (i_str (d_name (pv 5))) (blkOk_by (own := [("sign", 6)]) rfl) (g_name _ (vs := [6]) 6) (fun s H C cl fp => (pg_name n_law_frame_in_sc.nd rfl (.inl rfl))) (fun M H0 ap s H C cl fp => dts_one (dtcmp c_notin (d_name (pv 6)) (d_str [48, 49, 50, 51, 52, 53, 54, 55, 56, 57]))) (fun M H0 ap s H C cl fp => (d_name (pv 6)))) (d_lst da_nil)))))) (d_lst (da_cons (d_int_ rfl Tx.m_int (da_cons (d_name (pv 5)) da_nil)) da_nil)) (d_lst da_nil))))) (s_cons (s_setLc rfl n_law_frame_in_sc.nd ap rfl rfl rfl (i_enum rfl Tx.m_enumerate (da_cons (d_name (pv 1)) da_nil)) (blkOk_by (own := [("at", 7), ("word", 5)]) rfl) (g_tup (g_cons (g_name _ (vs := [7, 5]) 7) (g_cons (g_name _ (vs := [7, 5]) 5) (g_nil _)))) (fun s H C cl fp => (pg_tup rfl (pgs_cons (pg_name n_law_frame_in_sc.nd rfl (.inl rfl)) (pgs_cons (pg_name n_law_frame_in_sc.nd rfl (.inl rfl)) pgs_nil)))) (fun M H0 ap s H C cl fp => dts_nil) (fun M H0 ap s H C cl fp => (d_if (PW.pt (dw_and (dtcmp (c_eq (hu64 rm)) (d_name (pv 7)) d_int) (dw_and1 (dtcmp (c_eq (hu64 rm)) (d_ix (d_name (pv 1)) d_int) (d_str [116, 101, 108, 108]))))) (d_tuple_ rfl Tx.m_tuple (da_cons (d_split (d_name (pv 5)) (d_str [44])) da_nil)) (d_if (PW.pt (dw_and (dtcmp (c_ne (hu64 rm)) (d_ix (d_name (pv 2)) (d_name (pv 7))) (d_lst da_nil)) (dw_and1 (dtcmp c_gt (d_name (pv 7)) d_int)))) (d_ix (d_ix (d_name (pv 2)) (d_name (pv 7))) d_int) (d_name (pv 5)))))) (s_cons (s_set n_law_frame_in_sc.nd rfl (.inl rfl) (d_tuple_ rfl Tx.m_tuple (da_cons (d_name (pv 3)) da_nil))) (s_one (s_ret (d_if (PW.pt (dw_and (dt_truth (c_P o_law_is_a_frame (rm.mono (by decide)) takesD rfl (da_cons (d_name (pv 4)) da_nil))) (dw_and1 (dtcmp (c_eq (hu64 rm)) (c_P o_law_text_of (rm.mono (by decide)) takesD rfl (da_cons (d_name (pv 4)) da_nil)) (d_add (d_name (pv 0)) (d_str [10])))))) (d_lst (da_cons (d_name (pv 4)) da_nil)) (d_lst da_nil))))))))
abbrev s_law_read : Stmt := top 38
theorem n_law_read_sc : FnScope n_law_read ["text"] (defScope s_law_read) := ⟨rfl, rfl, rfl, by decide +kernel, rfl, by decide +kernel, by decide +kernel⟩
theorem f_law_read (Tx : Txt K mg Z) (o_law_frame_in : Ok false P w K mg base "_law_frame_in" 3 ["line"] (spG K C0 1 (den_law_frame_in Z))) (t : TopF K mg "_law_read" s_law_read ["text"] f fd) : FnD false P w K mg base 4 f fd ["text"] (spG K C0 1 (den_law_read Z)) :=
  fnG t.F n_law_read_sc rfl fun cdv hcd A outer s H E r M hC ap rm => by
    obtain ⟨hd, rfl⟩ := hC
    exact (s_cons (s_par rfl n_law_read_sc.nd rfl rfl (by decide) rfl rfl (da_cons (d_split (d_name (pv 0)) (d_str [10])) (da_cons (d_lst da_nil) da_nil)) rfl) (s_cons (s_for passesD rfl (i_enum rfl Tx.m_enumerate (da_cons (d_slice (d_name (pv 1)) do_none (do_some (d_neg d_int))) da_nil)) (pg_tup rfl (pgs_cons (pg_name n_law_read_sc.nd rfl (.inl rfl)) (pgs_cons (pg_name n_law_read_sc.nd rfl (.inl rfl)) pgs_nil))) (g_tup (g_cons (g_name _ (vs := [3, 4]) 3) (g_cons (g_name _ (vs := [3, 4]) 4) (g_nil _)))) (s_cons (s_set n_law_read_sc.nd rfl (.inl rfl) (c_P o_law_frame_in (rm.mono (by decide)) takesD rfl (da_cons (d_name (pv 4)) da_nil))) (s_cons (s_if (dtcmp (c_eq (hu64 rm)) (d_name (pv 5)) (d_lst da_nil)) (s_one (s_ret (d_tup (da_cons (d_name (pv 2)) (da_cons (d_name (pv 3)) da_nil))))) s_nil) (s_one (s_set n_law_read_sc.nd rfl (.inl rfl) (d_add (d_name (pv 2)) (d_name (pv 5)))))))) (s_one (s_ret (d_tup (da_cons (d_name (pv 2)) (da_cons (d_if (dtcmp (c_eq (hu64 rm)) (d_ix (d_name (pv 1)) (d_neg d_int)) (d_str [])) d_non (d_sub (d_len rfl Tx.m_len (da_cons (d_name (pv 1)) da_nil)) d_int)) da_nil)))))))
abbrev s_law_near_frames : Stmt := top 39
theorem n_law_near_frames_sc : FnScope n_law_near_frames ["draw", "frame"] (defScope s_law_near_frames) := ⟨rfl, rfl, rfl, by decide +kernel, rfl, by decide +kernel, by decide +kernel⟩
theorem f_law_near_frames (Tx : Txt K mg Z) (o_law_take : Ok false P w K mg base "_law_take" 2 ["draw", "amount"] (spG K CD 2 (den_law_take Z))) (o_law_pick : Ok false P w K mg base "_law_pick" 3 ["draw", "some"] (spG K CD 2 (den_law_pick Z))) (t : TopF K mg "_law_near_frames" s_law_near_frames ["draw", "frame"] f fd) : FnD false P w K mg base 4 f fd ["draw", "frame"] (spG K CD 2 (den_law_near_frames Z)) :=
  fnG t.F n_law_near_frames_sc rfl fun cdv hcd A outer s H E r M hC ap rm => by
    obtain ⟨dA, lA, cA, rfl⟩ := hC
    exact (s_cons (s_set n_law_near_frames_sc.nd rfl (.inl rfl) (c_G ⟨dA, lA, cA, rfl⟩ Sub.refl ap o_law_take (rm.mono (by decide)) takesD rfl (da_cons (d_name (pv 0)) (da_cons (d_len rfl Tx.m_len (da_cons (d_name (pv 1)) da_nil)) da_nil)))) (s_cons (s_set n_law_near_frames_sc.nd rfl (.inl rfl) (c_G ⟨dA, lA, cA, rfl⟩ Sub.refl ap o_law_pick (rm.mono (by decide)) takesD rfl (da_cons (d_name (pv 0)) (da_cons (d_lst (da_cons d_non (da_cons d_bl (da_cons d_int (da_cons (d_neg d_int) (da_cons (d_str []) (da_cons (d_str [97, 98, 99, 100, 101, 102, 103]) (da_cons (d_str [65]) (da_cons (d_str [97, 49]) (da_cons d_int (da_cons (d_tup da_nil) (da_cons (d_tup (da_cons (d_str [111, 110]) da_nil)) (da_cons (d_lst (da_cons (d_str [111, 110]) da_nil)) (da_cons (d_str [108, 101, 102, 116]) (da_cons (d_tup (da_cons (d_str [97]) (da_cons (d_str [98]) (da_cons (d_str [99]) (da_cons (d_str [100]) da_nil))))) da_nil))))))))))))))) da_nil)))) (s_one (s_ret (d_lst (da_cons (d_add (d_add (d_slice (d_name (pv 1)) do_none (do_some (d_name (pv 2)))) (d_tup (da_cons (d_name (pv 3)) da_nil))) (d_slice (d_name (pv 1)) (do_some (d_add (d_name (pv 2)) d_int)) do_none)) (da_cons (d_add (d_slice (d_name (pv 1)) do_none (do_some (d_name (pv 2)))) (d_slice (d_name (pv 1)) (do_some (d_add (d_name (pv 2)) d_int)) do_none)) (da_cons (d_add (d_name (pv 1)) (d_tup (da_cons (d_name (pv 3)) da_nil))) (da_cons (d_list_ rfl Tx.m_list (da_cons (d_name (pv 1)) da_nil)) (da_cons (d_revT (d_name (pv 1))) (da_cons d_non (da_cons (d_str [116, 101, 108, 108]) (da_cons (d_tup da_nil) da_nil)))))))))))))
abbrev s_law_bent_text : Stmt := top 40
theorem n_law_bent_text_sc : FnScope n_law_bent_text ["draw", "text"] (defScope s_law_bent_text) := ⟨rfl, rfl, rfl, by decide +kernel, rfl, by decide +kernel, by decide +kernel⟩
theorem f_law_bent_text (Tx : Txt K mg Z) (o_law_take : Ok false P w K mg base "_law_take" 2 ["draw", "amount"] (spG K CD 2 (den_law_take Z))) (o_law_pick : Ok false P w K mg base "_law_pick" 3 ["draw", "some"] (spG K CD 2 (den_law_pick Z))) (t : TopF K mg "_law_bent_text" s_law_bent_text ["draw", "text"] f fd) : FnD false P w K mg base 4 f fd ["draw", "text"] (spG K CD 2 (den_law_bent_text Z)) :=
  fnG t.F n_law_bent_text_sc rfl fun cdv hcd A outer s H E r M hC ap rm => by
    obtain ⟨dA, lA, cA, rfl⟩ := hC
    exact (s_cons (s_set n_law_bent_text_sc.nd rfl (.inl rfl) (c_G ⟨dA, lA, cA, rfl⟩ Sub.refl ap o_law_take (rm.mono (by decide)) takesD rfl (da_cons (d_name (pv 0)) (da_cons (d_add (d_len rfl Tx.m_len (da_cons (d_name (pv 1)) da_nil)) d_int) da_nil)))) (s_cons (s_set n_law_bent_text_sc.nd rfl (.inl rfl) (c_G ⟨dA, lA, cA, rfl⟩ Sub.refl ap o_law_pick (rm.mono (by decide)) takesD rfl (da_cons (d_name (pv 0)) (da_cons (d_lst (da_cons (d_str [32]) (da_cons (d_str [10]) (da_cons (d_str [44]) (da_cons (d_str [48]) (da_cons (d_str [97]) (da_cons (d_str [45]) (da_cons (d_str [65]) (da_cons (d_str [116, 101, 108, 108]) (da_cons (d_str [49]) (da_cons (d_str [10, 10]) da_nil))))))))))) da_nil)))) (s_one (s_ret (c_G ⟨dA, lA, cA, rfl⟩ Sub.refl ap o_law_pick (rm.mono (by decide)) takesD rfl (da_cons (d_name (pv 0)) (da_cons (d_lst (da_cons (d_add (d_add (d_slice (d_name (pv 1)) do_none (do_some (d_name (pv 2)))) (d_name (pv 3))) (d_slice (d_name (pv 1)) (do_some (d_name (pv 2))) do_none)) (da_cons (d_add (d_slice (d_name (pv 1)) do_none (do_some (d_name (pv 2)))) (d_slice (d_name (pv 1)) (do_some (d_add (d_name (pv 2)) d_int)) do_none)) (da_cons (d_add (d_add (d_slice (d_name (pv 1)) do_none (do_some (d_name (pv 2)))) (d_name (pv 3))) (d_slice (d_name (pv 1)) (do_some (d_add (d_name (pv 2)) d_int)) do_none)) (da_cons (d_slice (d_name (pv 1)) do_none (do_some (d_name (pv 2)))) (da_cons (d_add (d_name (pv 1)) (d_name (pv 3))) (da_cons (d_name (pv 1)) da_nil))))))) da_nil)))))))
abbrev s_law_pieces_right : Stmt := top 41
theorem n_law_pieces_right_sc : FnScope n_law_pieces_right ["draw", "text", "frames"] (defScope s_law_pieces_right) := ⟨rfl, rfl, rfl, by decide +kernel, rfl, by decide +kernel, by decide +kernel⟩
theorem f_law_pieces_right (Tx : Txt K mg Z) (o_cut_text : Ok false P w K mg base "cut_text" 6 ["text"] (spG K C0 1 (den_cut_text Z))) (o_law_says : Ok true P w K mg base "_law_says" 1 ["told", "due"] (spG K C0 2 (den_law_says Z))) (o_law_take : Ok false P w K mg base "_law_take" 2 ["draw", "amount"] (spG K CD 2 (den_law_take Z))) (t : TopF K mg "_law_pieces_right" s_law_pieces_right ["draw", "text", "frames"] f fd) : FnD true P w K mg base 7 f fd ["draw", "text", "frames"] (spG K CD 3 (den_law_pieces_right Z)) :=
  fnG t.F n_law_pieces_right_sc rfl fun cdv hcd A outer s H E r M hC ap rm => by
    obtain ⟨dA, lA, cA, rfl⟩ := hC
    exact (s_cons (s_par3 rfl n_law_pieces_right_sc.nd rfl rfl rfl (by decide) (by decide) (by decide) rfl rfl rfl (da_cons (d_str []) (da_cons (d_lst da_nil) (da_cons d_int da_nil))) rfl) (s_cons (s_for passesD rfl (i_range rfl Tx.m_range (da_cons (d_add (d_len rfl Tx.m_len (da_cons (d_name (pv 1)) da_nil)) d_int) da_nil)) (pg_name n_law_pieces_right_sc.nd rfl (.inl rfl)) (g_name _ (vs := [6]) 6) (s_one (s_if (dtcmp c_lt (d_name (pv 5)) (d_len rfl Tx.m_len (da_cons (d_name (pv 1)) da_nil))) (s_cons (s_set n_law_pieces_right_sc.nd rfl (.inl rfl) (d_add d_int (c_G ⟨dA, lA, cA, rfl⟩ Sub.refl ap o_law_take (rm.weak.mono (by decide)) takesD rfl (da_cons (d_name (pv 0)) (da_cons d_int da_nil))))) (s_cons (s_asg (c_P o_cut_text (rm.weak.mono (by decide)) takesD rfl (da_cons (d_add (d_name (pv 3)) (d_slice (d_name (pv 1)) (do_some (d_name (pv 5))) (do_some (d_add (d_name (pv 5)) (d_name (pv 7)))))) da_nil)) (pg_tup rfl (pgs_cons (pg_name n_law_pieces_right_sc.nd rfl (.inl rfl)) (pgs_cons (pg_name n_law_pieces_right_sc.nd rfl (.inl rfl)) pgs_nil))) (g_tup (g_cons (g_name _ (vs := [8, 3]) 8) (g_cons (g_name _ (vs := [8, 3]) 3) (g_nil _))))) (s_one (s_par rfl n_law_pieces_right_sc.nd rfl rfl (by decide) rfl rfl (da_cons (d_add (d_name (pv 4)) (d_name (pv 8))) (da_cons (d_add (d_name (pv 5)) (d_name (pv 7))) da_nil)) rfl)))) s_nil))) (s_cons (s_set n_law_pieces_right_sc.nd rfl (.inl rfl) (c_P o_cut_text (rm.weak.mono (by decide)) takesD rfl (da_cons (d_name (pv 1)) da_nil))) (s_cons (s_set n_law_pieces_right_sc.nd rfl (.inl rfl) (d_split (d_name (pv 1)) (d_str [10]))) (s_one (s_ret (d_and (c_P o_law_says (rm.mono (by decide)) takesD rfl (da_cons (d_lst (da_cons (d_name (pv 4)) (da_cons (d_name (pv 3)) da_nil))) (da_cons (d_lst (da_cons (d_name (pv 2)) (da_cons (d_ix (d_name (pv 10)) (d_neg d_int)) da_nil))) da_nil))) (d_one (c_P o_law_says (rm.mono (by decide)) takesD rfl (da_cons (d_name (pv 9)) (da_cons (d_tup (da_cons (d_name (pv 2)) (da_cons (d_ix (d_name (pv 10)) (d_neg d_int)) da_nil))) da_nil)))))))))))
abbrev s_law_right : Stmt := top 42
theorem n_law_right_sc : FnScope n_law_right ["draw"] (defScope s_law_right) := ⟨rfl, rfl, rfl, by decide +kernel, rfl, by decide +kernel, by decide +kernel⟩
theorem f_law_right (Tx : Txt K mg Z) (o_law_pieces_right : Ok true P w K mg base "_law_pieces_right" 7 ["draw", "text", "frames"] (spG K CD 3 (den_law_pieces_right Z))) (o_law_frame : Ok false P w K mg base "_law_frame" 5 ["draw"] (spG K CD 1 (den_law_frame Z))) (o_law_says : Ok true P w K mg base "_law_says" 1 ["told", "due"] (spG K C0 2 (den_law_says Z))) (o_law_is_a_frame : Ok false P w K mg base "_law_is_a_frame" 2 ["thing"] (spG K C0 1 (den_law_is_a_frame Z))) (o_law_read : Ok false P w K mg base "_law_read" 4 ["text"] (spG K C0 1 (den_law_read Z))) (o_law_text_of : Ok false P w K mg base "_law_text_of" 1 ["frame"] (spG K C0 1 (den_law_text_of Z))) (o_law_near_frames : Ok false P w K mg base "_law_near_frames" 4 ["draw", "frame"] (spG K CD 2 (den_law_near_frames Z))) (o_law_bent_text : Ok false P w K mg base "_law_bent_text" 4 ["draw", "text"] (spG K CD 2 (den_law_bent_text Z))) (o_law_pick : Ok false P w K mg base "_law_pick" 3 ["draw", "some"] (spG K CD 2 (den_law_pick Z))) (o_law_take : Ok false P w K mg base "_law_take" 2 ["draw", "amount"] (spG K CD 2 (den_law_take Z))) (o_read_frames : Ok false P w K mg base "read_frames" 7 ["text"] (spG K C0 1 (den_read_frames Z))) (o_law_frame_in : Ok false P w K mg base "_law_frame_in" 3 ["line"] (spG K C0 1 (den_law_frame_in Z))) (o_cut_text : Ok false P w K mg base "cut_text" 6 ["text"] (spG K C0 1 (den_cut_text Z))) (o_frame_text : Ok false P w K mg base "frame_text" 5 ["frame"] (spG K C0 1 (den_frame_text Z))) (o_is_frame : Ok false P w K mg base "is_frame" 4 ["thing"] (spG K C0 1 (den_is_frame Z))) (ok_is_frame : OkK false P w K mg base "is_frame" 4 ["thing"] ["thing"] (spG K C0 1 (den_is_frame Z))) (tb1 : TabB base mg Z.c1 Z.P1) (code : fd.code = .ref Z.c1) (hP : Z.P1 ≠ Z.P2) {fc : Addr} {fdc : FuncData} (t_law_caught : TopF K mg "_law_caught" s_law_caught ["work"] fc fdc) (t : TopF K mg "_law_right" s_law_right ["draw"] f fd) : FnD true P w K mg base 10 f fd ["draw"] (spG K (CDT (tabsOf Z)) 1 (den_law_right Z)) :=
  fnG t.F n_law_right_sc rfl fun cdv hcd A outer s H E r M hC ap rm => by
    obtain ⟨dA, lA, cA, rfl⟩ := hC
    exact (s_cons (s_setLc rfl n_law_right_sc.nd ap rfl rfl rfl (i_range rfl Tx.m_range (da_cons (c_G ⟨dA, lA, cA, rfl⟩ sub_draw ap o_law_take (rm.weak.mono (by decide)) takesD rfl (da_cons (d_name (pv 0)) (da_cons d_int da_nil))) da_nil)) (blkOk_by (own := [("lap", 5)]) rfl) (g_name _ (vs := [5]) 5) (fun s H C cl fp => (pg_name n_law_right_sc.nd rfl (.inl rfl))) (fun M H0 ap s H C cl fp => dts_nil) (fun M H0 ap s H C cl fp => (c_G ⟨dA, lA, cA, rfl⟩ sub_draw ap o_law_frame (rm.weak.mono (by decide)) LamX.takes0 rfl (da_cons (d_name (pv 0)) da_nil)))) (s_cons (s_set n_law_right_sc.nd rfl (.inl rfl) (d_join (d_str []) (d_lc rfl n_law_right_sc.nd ap (i_list (d_name (pv 1))) (blkOk_by (own := [("frame", 14)]) rfl) (g_name _ (vs := [14]) 14) (fun s H C cl fp => (pg_name n_law_right_sc.nd rfl (.inl rfl))) (fun M H0 ap s H C cl fp => dts_nil) (fun M H0 ap s H C cl fp => (c_P o_law_text_of (rm.weak.mono (by decide)) LamX.takes0 rfl (da_cons (d_name (pv 14)) da_nil)))))) (s_cons (s_if (dt_not (dt_truth (c_P o_law_says (rm.mono (by decide)) takesD rfl (da_cons (d_lst (da_cons (d_join (d_str []) (d_lc rfl n_law_right_sc.nd ap (i_list (d_name (pv 1))) (blkOk_by (own := [("frame", 14)]) rfl) (g_name _ (vs := [14]) 14) (fun s H C cl fp => (pg_name n_law_right_sc.nd rfl (.inl rfl))) (fun M H0 ap s H C cl fp => dts_nil) (fun M H0 ap s H C cl fp => (c_P o_frame_text (rm.weak.mono (by decide)) LamX.takes0 rfl (da_cons (d_name (pv 14)) da_nil))))) (da_cons (c_P o_read_frames (rm.weak.mono (by decide)) takesD rfl (da_cons (d_name (pv 2)) da_nil)) da_nil))) (da_cons (d_lst (da_cons (d_name (pv 2)) (da_cons (d_name (pv 1)) da_nil))) da_nil))))) (s_one (s_ret d_bl)) s_nil) (s_cons (s_for passesD rfl (i_list (d_add (d_slice (d_name (pv 1)) do_none (do_some d_int)) (d_if (dtcmp (c_ne (hu64 rm)) (d_name (pv 1)) (d_lst da_nil)) (c_G ⟨dA, lA, cA, rfl⟩ sub_draw ap o_law_near_frames (rm.weak.mono (by decide)) takesD rfl (da_cons (d_name (pv 0)) (da_cons (d_ix (d_name (pv 1)) d_int) da_nil))) (d_lst (da_cons d_non da_nil))))) (pg_name n_law_right_sc.nd rfl (.inr rfl)) (g_name _ (vs := [3]) 3) (s_cons (s_set n_law_right_sc.nd rfl (.inl rfl) (c_P o_law_is_a_frame (rm.weak.mono (by decide)) takesD rfl (da_cons (d_name (pv 3)) da_nil))) (s_one (s_if (PW.pt (dw_or (dt_not (dt_truth (c_P o_law_says (rm.mono (by decide)) takesD rfl (da_cons (d_lst (da_cons (c_P o_is_frame (rm.weak.mono (by decide)) takesD rfl (da_cons (d_name (pv 3)) da_nil)) (da_cons (c_K ok_is_frame (rm.weak.mono (by decide)) takesD rfl (dk_one (d_name (pv 3)))) da_nil))) (da_cons (d_lst (da_cons (d_name (pv 4)) (da_cons (d_name (pv 4)) da_nil))) da_nil))))) (dw_or1 (dtcmp (c_ne (hu64 rm)) (dcmp c_is (d_caught (k := 7) (L := [Z.cBF, Z.cBT]) (cf_of t_law_caught Tx.m_FarError) rfl (tabR_draw (mem1 Z)) ap Tx.hL tb1 (hcd.symm.trans code) (mem1 Z) (one1 hP) (rm.mono (by decide)).room (lamS_by rfl) rfl (fun _ _ _ _ _ => rfl) (fun A outer s H E f c' rmL => (c_P o_frame_text (rmL.mono (by decide)) takesL rfl (da_cons (d_name (pv 3)) da_nil)))) d_non) (d_name (pv 4)))))) (s_one (s_ret d_bl)) s_nil)))) (s_cons (s_for passesD rfl (i_range rfl Tx.m_range (da_cons d_int da_nil)) (pg_name n_law_right_sc.nd rfl (.inl rfl)) (g_name _ (vs := [5]) 5) (s_cons (s_parN rfl (c_G ⟨dA, lA, cA, rfl⟩ sub_draw ap o_law_bent_text (rm.weak.mono (by decide)) takesD rfl (da_cons (d_name (pv 0)) (da_cons (d_name (pv 2)) da_nil))) (pg_name n_law_right_sc.nd rfl (.inr rfl)) (pg_name n_law_right_sc.nd rfl (.inr rfl)) (by decide)) (s_cons (s_asg (c_P o_law_read (rm.weak.mono (by decide)) takesD rfl (da_cons (d_name (pv 6)) da_nil)) (pg_tup rfl (pgs_cons (pg_name n_law_right_sc.nd rfl (.inl rfl)) (pgs_cons (pg_name n_law_right_sc.nd rfl (.inl rfl)) pgs_nil))) (g_tup (g_cons (g_name _ (vs := [8, 9]) 8) (g_cons (g_name _ (vs := [8, 9]) 9) (g_nil _))))) (s_cons (s_caughtA (k := 7) (L := [Z.cBF, Z.cBT]) (il := 7) (cf_of t_law_caught Tx.m_FarError) rfl (tabR_draw (mem1 Z)) ap Tx.hL tb1 (hcd.symm.trans code) (mem1 Z) (one1 hP) (rm.mono (by decide)).room (lamS_by rfl) rfl (fun _ _ _ _ _ => rfl) n_law_right_sc.nd rfl rfl rfl (.inr (.inr rfl)) (fun A outer s H E f c' rmL => (c_P o_read_frames (rmL.mono (by decide)) takesL rfl (da_cons (d_name (pv 6)) da_nil)))) (ss_frz (i := 7) (s_cons (s_if (PW.pt (dw_or (PW.pt (dw_and (dtcmp c_is (d_name (pv 9)) d_non) (dw_and1 (dt_not (dt_truth (c_P o_law_says (rm.mono (by decide)) takesD rfl (da_cons (d_name (pv 7)) (da_cons (d_lst (da_cons (d_name (pv 8)) da_nil)) da_nil)))))))) (dw_or1 (PW.pt (dw_and (dtcmp c_isnot (d_name (pv 9)) d_non) (dw_and1 (PW.pt (dw_or (dt_not (dt_truth (d_isX Tx.ec_cBT Tx.kt_cBT rfl Tx.m_isinstance rfl Tx.m_BadText (d_name (pv 10))))) (dw_or1 (dt_not (dt_truth (c_P o_law_says (rm.mono (by decide)) takesD rfl (da_cons (d_fldX Tx.xf_line Tx.no_line (d_name (pv 10))) (da_cons (d_name (pv 9)) da_nil)))))))))))))) (s_one (s_ret d_bl)) s_nil) (s_cons (s_parN rfl (d_slice (d_split (d_name (pv 6)) (d_str [10])) do_none (do_some (d_neg d_int))) (pg_name n_law_right_sc.nd rfl (.inl rfl)) (pg_name n_law_right_sc.nd rfl (.inr rfl)) (by decide)) (s_cons (s_setLc rfl n_law_right_sc.nd ap rfl rfl rfl (i_enum rfl Tx.m_enumerate (da_cons (d_name (pv 11)) da_nil)) (blkOk_by (own := [("at", 15), ("one", 16)]) rfl) (g_tup (g_cons (g_name _ (vs := [15, 16]) 15) (g_cons (g_name _ (vs := [15, 16]) 16) (g_nil _)))) (fun s H C cl fp => (pg_tup rfl (pgs_cons (pg_name n_law_right_sc.nd rfl (.inl rfl)) (pgs_cons (pg_name n_law_right_sc.nd rfl (.inl rfl)) pgs_nil)))) (fun M H0 ap s H C cl fp => dts_one (dtcmp (c_eq (hu64 rm)) (c_P o_law_frame_in (rm.weak.mono (by decide)) LamX.takes0 rfl (da_cons (d_name (pv 16)) da_nil)) (d_lst da_nil))) (fun M H0 ap s H C cl fp => (d_name (pv 15)))) (s_cons (s_caughtA (k := 7) (L := [Z.cBF, Z.cBT]) (il := 12) (cf_of t_law_caught Tx.m_FarError) rfl (tabR_draw (mem1 Z)) ap Tx.hL tb1 (hcd.symm.trans code) (mem1 Z) (one1 hP) (rm.mono (by decide)).room (lamS_by rfl) rfl (fun _ _ _ _ _ => rfl) n_law_right_sc.nd rfl rfl rfl (.inr (.inr rfl)) (fun A outer s H E f c' rmL => (c_P o_cut_text (rmL.mono (by decide)) takesL rfl (da_cons (d_name (pv 6)) da_nil)))) (ss_frz (i := 12) (s_one (s_if (PW.pt (dw_or (PW.pt (dw_and (dtcmp (c_ne (hu64 rm)) (d_name (pv 13)) (d_lst da_nil)) (dw_and1 (PW.pt (dw_or (dt_not (dt_truth (d_isX Tx.ec_cBT Tx.kt_cBT rfl Tx.m_isinstance rfl Tx.m_BadText (d_name (pv 10))))) (dw_or1 (dt_not (dt_truth (c_P o_law_says (rm.mono (by decide)) takesD rfl (da_cons (d_fldX Tx.xf_line Tx.no_line (d_name (pv 10))) (da_cons (d_ix (d_name (pv 13)) d_int) da_nil))))))))))) (dw_or1 (PW.pt (dw_and (dtcmp (c_eq (hu64 rm)) (d_name (pv 13)) (d_lst da_nil)) (dw_and1 (dt_not (dt_truth (c_P o_law_says (rm.mono (by decide)) takesD rfl (da_cons (d_name (pv 12)) (da_cons (d_lst (da_cons (d_tup (da_cons (d_name (pv 8)) (da_cons (d_ix (d_split (d_name (pv 6)) (d_str [10])) (d_neg d_int)) da_nil))) da_nil)) da_nil))))))))))) (s_one (s_ret d_bl)) s_nil)))))))))))) (s_one (s_ret (c_G ⟨dA, lA, cA, rfl⟩ sub_draw ap o_law_pieces_right (rm.mono (by decide)) takesD rfl (da_cons (d_name (pv 0)) (da_cons (d_add (d_name (pv 2)) (c_G ⟨dA, lA, cA, rfl⟩ sub_draw ap o_law_pick (rm.weak.mono (by decide)) takesD rfl (da_cons (d_name (pv 0)) (da_cons (d_lst (da_cons (d_str []) (da_cons (d_str [116, 101, 108, 108, 32, 107]) (da_cons (d_str [97, 115, 107]) (da_cons (d_str [120, 32, 121, 32, 122]) da_nil))))) da_nil)))) (da_cons (d_name (pv 1)) da_nil)))))))))))
abbrev s_law : Stmt := top 43
theorem n_law_sc : FnScope n_law ["script"] (defScope s_law) := ⟨rfl, rfl, rfl, by decide +kernel, rfl, by decide +kernel, by decide +kernel⟩
theorem f_law (Tx : Txt K mg Z) (o_law_right : Ok true P w K mg base "_law_right" 10 ["draw"] (spG K (CDT (tabsOf Z)) 1 (den_law_right Z))) (o_read_frames : Ok false P w K mg base "read_frames" 7 ["text"] (spG K C0 1 (den_read_frames Z))) (o_cut_text : Ok false P w K mg base "cut_text" 6 ["text"] (spG K C0 1 (den_cut_text Z))) (o_frame_text : Ok false P w K mg base "frame_text" 5 ["frame"] (spG K C0 1 (den_frame_text Z))) (o_law_begun : Ok false P w K mg base "_law_begun" 1 ["script"] (spB K (fun ns => listOf (fsA_law_begun Z (startE n_law_begun [.rol (ns.map Dat.int)]) ())) (fun ns => listOf (fsB_law_begun Z (startE n_law_begun [.rol (ns.map Dat.int)]) ())))) (tb2 : TabB base mg Z.c2 Z.P2) (code : fd.code = .ref Z.c2) (hP : Z.P1 ≠ Z.P2) {fc : Addr} {fdc : FuncData} (t_law_caught : TopF K mg "_law_caught" s_law_caught ["work"] fc fdc) (t : TopF K mg "law" s_law ["script"] f fd) : FnD true P w K mg base 11 f fd ["script"] (spL K (tabsOf Z) (fun ns => listOf (fsA_law_begun Z (startE n_law_begun [.rol (ns.map Dat.int)]) ())) (fun ns => listOf (fsB_law_begun Z (startE n_law_begun [.rol (ns.map Dat.int)]) ())) n_law 1 (fs_law Z)) := by
  obtain ⟨fb, fdb, mb, kpb, bdb, FB⟩ := o_law_begun.ex
  exact law_ok (y := "draw") t.F n_law_sc rfl (by decide) rfl (by decide) (by simp [tabsOf]) (by decide) rfl FB.up mb kpb bdb fun cdv hcd A outer s H E rm => ⟨⟨pv 0, rfl, fun t h => ps_set n_law_sc.nd rfl (.inl rfl) h⟩, fun dA lA cA M H0 ap =>
    (s_cons (s_for passesD rfl (i_range rfl Tx.m_range (da_cons (d_add d_int (d_min rfl rfl Tx.m_min (da_cons (d_len rfl Tx.m_len (da_cons (d_name (pv 0)) da_nil)) (da_cons d_int da_nil)))) da_nil)) (pg_name n_law_sc.nd rfl (.inl rfl)) (g_name _ (vs := [2]) 2) (s_one (s_if (dt_not (dt_truth (c_G ⟨dA, lA, cA, rfl⟩ Sub.refl ap o_law_right (rm.mono (by decide)) takesD rfl (da_cons (d_name (pv 1)) da_nil)))) (s_one (s_ret d_bl)) s_nil))) (s_cons (s_new n_law_sc.nd rfl (.inl rfl) (da_cons (d_caught (k := 8) (L := [Z.cBF, Z.cBT]) (cf_of t_law_caught Tx.m_FarError) rfl (tabR_draw (mem2 Z)) ap Tx.hL tb2 (hcd.symm.trans code) (mem2 Z) (one2 hP) (rm.mono (by decide)).room (lamS_by rfl) rfl (fun _ _ _ _ _ => rfl) (fun A outer s H E f c' rmL => (c_P o_read_frames (rmL.mono (by decide)) takesL rfl (da_cons d_non da_nil)))) da_nil)) (s_cons (s_app (pv 3) (d_caught (k := 8) (L := [Z.cBF, Z.cBT]) (cf_of t_law_caught Tx.m_FarError) rfl (tabR_draw (mem2 Z)) ap Tx.hL tb2 (hcd.symm.trans code) (mem2 Z) (one2 hP) (rm.mono (by decide)).room (lamS_by rfl) rfl (fun _ _ _ _ _ => rfl) (fun A outer s H E f c' rmL => (c_P o_cut_text (rmL.mono (by decide)) takesL rfl (da_cons d_int da_nil))))) (ss_frz (i := 3) (s_cons (s_if (PW.pt (dw_or (dtcmp (c_ne (hu64 rm)) (d_lc rfl n_law_sc.nd ap (i_list (d_name (pv 3))) (blkOk_by (own := [("error", 5)]) rfl) (g_name _ (vs := [5]) 5) (fun s H C cl fp => (pg_name n_law_sc.nd rfl (.inl rfl))) (fun M H0 ap s H C cl fp => dts_nil) (fun M H0 ap s H C cl fp => (d_and (d_isX Tx.ec_cBT Tx.kt_cBT rfl Tx.m_isinstance rfl Tx.m_BadText (d_name (pv 5))) (d_one (dcmp (c_eq (hu64 rm)) (d_fldX Tx.xf_line Tx.no_line (d_name (pv 5))) d_int))))) (d_lst (da_cons d_bl (da_cons d_bl da_nil)))) (dw_or1 (dt_not (dt_truth (d_isX Tx.ec_cBF Tx.kt_cBF rfl Tx.m_isinstance rfl Tx.m_BadFrame (d_caught (k := 8) (L := [Z.cBF, Z.cBT]) (cf_of t_law_caught Tx.m_FarError) rfl (tabR_draw (mem2 Z)) ap Tx.hL tb2 (hcd.symm.trans code) (mem2 Z) (one2 hP) (rm.mono (by decide)).room (lamS_by rfl) rfl (fun _ _ _ _ _ => rfl) (fun A outer s H E f c' rmL => (c_P o_frame_text (rmL.mono (by decide)) takesL rfl (da_cons d_non da_nil)))))))))) (s_one (s_ret d_bl)) s_nil) (s_cons (s_set n_law_sc.nd rfl (.inl rfl) (d_str [116, 101, 108, 108, 32, 107, 32, 48, 32, 111, 110, 44, 111, 102, 102, 10, 97, 115, 107, 32, 107, 32, 49, 32, 49, 32, 48, 32, 48, 10, 116, 111, 108, 100, 32, 107, 32, 49, 32, 49, 32, 108, 101, 102, 116, 10])) (s_one (s_ret (d_and (dcmp (c_eq (hu64 rm)) (c_P o_read_frames (rm.weak.mono (by decide)) takesD rfl (da_cons (d_name (pv 4)) da_nil)) (d_lst (da_cons (d_tup (da_cons (d_str [116, 101, 108, 108]) (da_cons (d_str [107]) (da_cons d_int (da_cons (d_tup (da_cons (d_str [111, 110]) (da_cons (d_str [111, 102, 102]) da_nil))) da_nil))))) (da_cons (d_tup (da_cons (d_str [97, 115, 107]) (da_cons (d_str [107]) (da_cons d_int (da_cons d_int (da_cons d_int (da_cons d_int da_nil))))))) (da_cons (d_tup (da_cons (d_str [116, 111, 108, 100]) (da_cons (d_str [107]) (da_cons d_int (da_cons d_int (da_cons (d_str [108, 101, 102, 116]) da_nil)))))) da_nil))))) (d_and (dcmp (c_eq (hu64 rm)) (c_P o_cut_text (rm.weak.mono (by decide)) takesD rfl (da_cons (d_str [116, 101, 108, 108, 32, 107]) da_nil)) (d_tup (da_cons (d_lst da_nil) (da_cons (d_str [116, 101, 108, 108, 32, 107]) da_nil)))) (d_one (dcmp (c_eq (hu64 rm)) (c_P o_read_frames (rm.weak.mono (by decide)) takesD rfl (da_cons (d_str []) da_nil)) (d_lst da_nil)))))))))))))⟩
end
end K25
end
section
set_option Elab.async false
set_option linter.all false
set_option maxRecDepth 100000
set_option maxHeartbeats 4000000
namespace K25
open PySem PySem.Spec PyProof.Rows L2 LamX DL
/-- what is left: what the dens give -/
def Plain (Z : Ad) : Prop := ∀ ns : List Int, ns.length ≤ 63 → (∀ z ∈ ns, Builtin.Int.intBits z ≤ 1048576) → ∃ (ls cs : List Int) (t : DrawSt), listOf (fsA_law_begun Z (startE n_law_begun [.rol (ns.map Dat.int)]) ()) = some ls ∧ listOf (fsB_law_begun Z (startE n_law_begun [.rol (ns.map Dat.int)]) ()) = some cs ∧
  fs_law Z ((startE n_law [.rol (ns.map Dat.int)]).set 1 (some (.d .hd))) ⟨ls, 0, cs, 0⟩ = .rt (.bl true) t
theorem mem_lk {a : Addr} {o : Obj} : ∀ {l : List (Addr × Obj)}, l.lookup a = some o → (a, o) ∈ l
  | [], e => by cases e
  | (b, u) :: l, e => by
    rw [List.lookup_cons] at e
    cases q : a == b with
    | true =>
      rw [q] at e
      cases e
      rw [eq_of_beq q]
      exact .head _
    | false =>
      rw [q] at e
      exact .tail _ (mem_lk e)
theorem look_none {K : Params → PySem.W.Frag} {as : List Addr} {e : ∀ P, as = (K P).map (·.1)} {ts : List Addr} {w : World} {h : Heap} (_ : (PySem.W.kmHook K as e ts).says w h) {a : Addr} (n : as.contains a = false) : (K w.params).lookup a = none := by
  cases q : (K w.params).lookup a with
  | none => rfl
  | some o =>
    have m : a ∈ as := by
      rw [e w.params]
      exact List.mem_map.mpr ⟨(a, o), mem_lk q, rfl⟩
    rw [List.contains_iff_mem.mpr m] at n
    cases n

abbrev sInit : Stmt := inClass (top 3) 0
theorem scInit : FnScope ["self", "line"] ["self", "line"] (defScope sInit) := ⟨rfl, rfl, rfl, by decide +kernel, rfl, by decide +kernel, by decide +kernel⟩
theorem f_init {P : Program} {w : World} {K : PySem.W.Frag} {mg : Str → Option Value} {base : Heap} {Z : Ad} {f : Addr} {fd : FuncData} (F : Fun K "__init__" "BadText.__init__" sInit f fd) (oc : OexC K Z.cBT) (no : PySem.W.findIn K (.ref Z.cBT) "line" = some none) (mFE : mg "FarError" = some (.ref Z.cFE)) (bi : BaseI K Z.cFE) :
    FnOk P w K mg base CX0 1 f fd ["self", "line"] (spI Z.cBT "line") := by
  refine F.ok scInit (fun vs H Q E h => ?_) fun cdv A outer s H vs Q E hr h => ?_
  · obtain ⟨a, v, rfl, _⟩ := h
    rfl
  · obtain ⟨a, v, rfl, ea, k⟩ := h
    refine ⟨_, pss_cons (ps_expr (pe_binit rfl mFE bi (pa_cons (pv 0) (pa_cons pe_str pa_nil)))) (pss_one (ps_ost (pv 0) (pv 1))), ?_⟩
    refine ⟨.ref a, rfl, a, Z.cBT, [.str _], rfl, by decide, oc, ea, ?_⟩
    refine ⟨v, rfl, .ref a, rfl, a, Z.cBT, rfl, oc, no, .inl ⟨ea, fun dx n1 n2 => ?_⟩⟩
    exact k dx n1 n2
theorem all_mk {l : PySem.W.OpenLaw} {w : World} {K : PySem.W.Frag} {h : Heap} {mg : Str → Option Value} {fa : Addr} (Z : Ad) (X : K.In h) (G : h.Ns mainGlobals mg) (hfa : mg "law" = some (.ref fa)) (hT1 : h.get? Z.P1 = some { cls := .none, data := .fields #[] }) (hT2 : h.get? Z.P2 = some { cls := .none, data := .fields #[] })
    {f0 f1 f2 f3 f4 f5 f6 f7 f8 f9 f10 f11 f12 f13 f14 f15 f16 f17 f18 f19 f20 f21 f22 f23 f24 f25 f26 f27 f28 f29 f30 f31 f32 fI aW : Addr} {od0 an0 od1 an1 od2 an2 od3 an3 od4 an4 od5 an5 od6 an6 od7 an7 od8 an8 od9 an9 od10 an10 od11 an11 od12 an12 od13 an13 od14 an14 od15 an15 od16 an16 od17 an17 od18 an18 od19 an19 od20 an20 od21 an21 od22 an22 od23 an23 od24 an24 od25 an25 od26 an26 od27 an27 od28 an28 od29 an29 od30 an30 od31 an31 od32 an32 odI anI dd : Option Addr} {sl0 sl1 sl2 sl3 sl4 sl5 sl6 sl7 sl8 sl9 sl10 sl11 sl12 sl13 sl14 sl15 sl16 sl17 sl18 sl19 sl20 sl21 sl22 sl23 sl24 sl25 sl26 sl27 sl28 sl29 sl30 sl31 sl32 slI : Array (Option Value)} {oc0 kV0 dc0 pm0 cd0 ct0 oc1 kV1 dc1 pm1 cd1 ct1 oc2 kV2 dc2 pm2 cd2 ct2 oc3 kV3 dc3 pm3 cd3 ct3 oc4 kV4 dc4 pm4 cd4 ct4 oc5 kV5 dc5 pm5 cd5 ct5 oc6 kV6 dc6 pm6 cd6 ct6 oc7 kV7 dc7 pm7 cd7 ct7 oc8 kV8 dc8 pm8 cd8 ct8 oc9 kV9 dc9 pm9 cd9 ct9 oc10 kV10 dc10 pm10 cd10 ct10 oc11 kV11 dc11 pm11 cd11 ct11 oc12 kV12 dc12 pm12 cd12 ct12 oc13 kV13 dc13 pm13 cd13 ct13 oc14 kV14 dc14 pm14 cd14 ct14 oc15 kV15 dc15 pm15 cd15 ct15 oc16 kV16 dc16 pm16 cd16 ct16 oc17 kV17 dc17 pm17 cd17 ct17 oc18 kV18 dc18 pm18 cd18 ct18 oc19 kV19 dc19 pm19 cd19 ct19 oc20 kV20 dc20 pm20 cd20 ct20 oc21 kV21 dc21 pm21 cd21 ct21 oc22 kV22 dc22 pm22 cd22 ct22 oc23 kV23 dc23 pm23 cd23 ct23 oc24 kV24 dc24 pm24 cd24 ct24 oc25 kV25 dc25 pm25 cd25 ct25 oc26 kV26 dc26 pm26 cd26 ct26 oc27 kV27 dc27 pm27 cd27 ct27 oc28 kV28 dc28 pm28 cd28 ct28 oc29 kV29 dc29 pm29 cd29 ct29 oc30 kV30 dc30 pm30 cd30 ct30 oc31 kV31 dc31 pm31 cd31 ct31 oc32 kV32 dc32 pm32 cd32 ct32 ocI kVI dcI pmI cdI ctI : Value}
    {nm qn : Str} {Nn : Addr} {bs sub : List Value} {sn : List Str} {ab : Bool} {col : Option Bool} {m0 m1 m2 m3 m5 : Option Value} {tg1 tg2 tg3 : Tok}
    (xcFE : PySem.W.nsIn K mainGlobals "FarError" = some (some (.ref Z.cFE)))
    (xcBF : PySem.W.nsIn K mainGlobals "BadFrame" = some (some (.ref Z.cBF)))
    (xcBT : PySem.W.nsIn K mainGlobals "BadText" = some (some (.ref Z.cBT)))
    (mlen : PySem.W.nsIn K mainGlobals "len" = some none)
    (mabs : PySem.W.nsIn K mainGlobals "abs" = some none)
    (mint : PySem.W.nsIn K mainGlobals "int" = some none)
    (mstr : PySem.W.nsIn K mainGlobals "str" = some none)
    (mtuple : PySem.W.nsIn K mainGlobals "tuple" = some none)
    (mlist : PySem.W.nsIn K mainGlobals "list" = some none)
    (mall : PySem.W.nsIn K mainGlobals "all" = some none)
    (mmin : PySem.W.nsIn K mainGlobals "min" = some none)
    (mbool : PySem.W.nsIn K mainGlobals "bool" = some none)
    (misinstance : PySem.W.nsIn K mainGlobals "isinstance" = some none)
    (mrepr : PySem.W.nsIn K mainGlobals "repr" = some none)
    (mrange : PySem.W.nsIn K mainGlobals "range" = some none)
    (menumerate : PySem.W.nsIn K mainGlobals "enumerate" = some none)
    (hgcBF : PySem.W.findIn K (.ref Z.cBF) "__getattribute__" = some (some (.builtin "BaseException.__getattribute__")))
    (hkcBF : PySem.W.findIn K (.ref Z.cBF) "__getattr__" = some none)
    (hscBF : PySem.W.subIn K (.ref Z.cBF) (.type "BaseException") = some true)
    (hdcBF : PySem.W.hasDictIn K Z.cBF = true)
    (hacBF : PySem.W.findIn K (.ref Z.cBF) "__class__" = some (some (.builtin "object.__class__")))
    (hmcBF : PySem.W.mroIn K Z.cBF (.type "object") = some true)
    (sucBF : PySem.W.subIn K (.ref Z.cBF) (.ref Z.cFE) = some true)
    (tycBF : PySem.W.typeIn K (.ref Z.cBF) = some (.type "type"))
    (kccBF : PySem.W.keepIn K (.ref Z.cBF) = true)
    (hgcBT : PySem.W.findIn K (.ref Z.cBT) "__getattribute__" = some (some (.builtin "BaseException.__getattribute__")))
    (hkcBT : PySem.W.findIn K (.ref Z.cBT) "__getattr__" = some none)
    (hscBT : PySem.W.subIn K (.ref Z.cBT) (.type "BaseException") = some true)
    (hdcBT : PySem.W.hasDictIn K Z.cBT = true)
    (hacBT : PySem.W.findIn K (.ref Z.cBT) "__class__" = some (some (.builtin "object.__class__")))
    (hmcBT : PySem.W.mroIn K Z.cBT (.type "object") = some true)
    (sucBT : PySem.W.subIn K (.ref Z.cBT) (.ref Z.cFE) = some true)
    (tycBT : PySem.W.typeIn K (.ref Z.cBT) = some (.type "type"))
    (kccBT : PySem.W.keepIn K (.ref Z.cBT) = true)
    (s1 : PySem.W.subIn K (.ref Z.cFE) (.type "BaseException") = some true)
    (s2 : PySem.W.hasDictIn K Z.cFE = true)
    (s3 : PySem.W.typeIn K (.ref Z.cFE) = some (.type "type"))
    (hn : PySem.W.specialIn K (.builtin "object.__class__") "__get__" = some (some (.builtin "getset_descriptor.__get__")))
    (ht : PySem.W.takesIn K (.builtin "object.__class__") = some true)
    (no : PySem.W.findIn K (.ref Z.cBT) "line" = some none)
    (sa : PySem.W.findIn K (.ref Z.cBT) "__setattr__" = some (some (.builtin "object.__setattr__")))
    (qB : PySem.W.excIn K Z.cBF [.type "ValueError", .type "Exception", .type "BaseException", .type "object"] "ValueError.__new__" = true)
    (xL : K.lookup Z.cBT = some (excClassObj nm qn Z.cBT Nn bs [.ref Z.cFE, .type "ValueError", .type "Exception", .type "BaseException", .type "object"] true sn sub ab col dd m0 m1 m2 m3 m5 "ValueError.__new__"))
    (bg : PySem.W.specialIn K (.ref Z.cFE) "__getattribute__" = some (some (.builtin "type.__getattribute__")))
    (br : PySem.W.readsIn K Z.cFE (.type "type") = true)
    (bf : PySem.W.findCls K (.ref Z.cFE) (.type "type") "__init__" = some (.val (.builtin "ValueError.__init__")))
    (g1 : PySem.W.nsIn K mainGlobals "LETTERS" = some (some (.str ⟨[97, 98, 99, 100, 101, 102, 103, 104, 105, 106, 107, 108, 109, 110, 111, 112, 113, 114, 115, 116, 117, 118, 119, 120, 121, 122].toArray⟩ tg1)))
    (g2 : PySem.W.nsIn K mainGlobals "FIGURES" = some (some (.str ⟨[48, 49, 50, 51, 52, 53, 54, 55, 56, 57].toArray⟩ tg2)))
    (g3 : PySem.W.nsIn K mainGlobals "MOST_RULE" = some (some (.int 5 tg3)))
    (g4 : PySem.W.nsIn K mainGlobals "WORDS" = some (some (.ref aW)))
    (g5 : tupIn K aW = some [.str [108, 97, 110, 100, 101, 100], .str [108, 101, 102, 116]])
    (a0 : PySem.W.nsIn K mainGlobals "is_number" = some (some (.ref f0)))
    (l0 : K.lookup f0 = some ⟨oc0, od0, .func (PySem.W.fnOf "is_number" "is_number" (defArgs s_is_number) (defBody s_is_number) (defScope s_is_number) .none kV0 dc0 pm0 an0 cd0 ct0), sl0⟩)
    (c0 : PySem.W.codeIn K cd0 "is_number" = true)
    (k0 : PySem.W.keepIn K (.ref f0) = true)
    (a1 : PySem.W.nsIn K mainGlobals "is_name" = some (some (.ref f1)))
    (l1 : K.lookup f1 = some ⟨oc1, od1, .func (PySem.W.fnOf "is_name" "is_name" (defArgs s_is_name) (defBody s_is_name) (defScope s_is_name) .none kV1 dc1 pm1 an1 cd1 ct1), sl1⟩)
    (c1 : PySem.W.codeIn K cd1 "is_name" = true)
    (k1 : PySem.W.keepIn K (.ref f1) = true)
    (a2 : PySem.W.nsIn K mainGlobals "is_count" = some (some (.ref f2)))
    (l2 : K.lookup f2 = some ⟨oc2, od2, .func (PySem.W.fnOf "is_count" "is_count" (defArgs s_is_count) (defBody s_is_count) (defScope s_is_count) .none kV2 dc2 pm2 an2 cd2 ct2), sl2⟩)
    (c2 : PySem.W.codeIn K cd2 "is_count" = true)
    (k2 : PySem.W.keepIn K (.ref f2) = true)
    (a3 : PySem.W.nsIn K mainGlobals "is_tell" = some (some (.ref f3)))
    (l3 : K.lookup f3 = some ⟨oc3, od3, .func (PySem.W.fnOf "is_tell" "is_tell" (defArgs s_is_tell) (defBody s_is_tell) (defScope s_is_tell) .none kV3 dc3 pm3 an3 cd3 ct3), sl3⟩)
    (c3 : PySem.W.codeIn K cd3 "is_tell" = true)
    (k3 : PySem.W.keepIn K (.ref f3) = true)
    (a4 : PySem.W.nsIn K mainGlobals "is_ask" = some (some (.ref f4)))
    (l4 : K.lookup f4 = some ⟨oc4, od4, .func (PySem.W.fnOf "is_ask" "is_ask" (defArgs s_is_ask) (defBody s_is_ask) (defScope s_is_ask) .none kV4 dc4 pm4 an4 cd4 ct4), sl4⟩)
    (c4 : PySem.W.codeIn K cd4 "is_ask" = true)
    (k4 : PySem.W.keepIn K (.ref f4) = true)
    (a5 : PySem.W.nsIn K mainGlobals "is_told" = some (some (.ref f5)))
    (l5 : K.lookup f5 = some ⟨oc5, od5, .func (PySem.W.fnOf "is_told" "is_told" (defArgs s_is_told) (defBody s_is_told) (defScope s_is_told) .none kV5 dc5 pm5 an5 cd5 ct5), sl5⟩)
    (c5 : PySem.W.codeIn K cd5 "is_told" = true)
    (k5 : PySem.W.keepIn K (.ref f5) = true)
    (a6 : PySem.W.nsIn K mainGlobals "is_frame" = some (some (.ref f6)))
    (l6 : K.lookup f6 = some ⟨oc6, od6, .func (PySem.W.fnOf "is_frame" "is_frame" (defArgs s_is_frame) (defBody s_is_frame) (defScope s_is_frame) .none kV6 dc6 pm6 an6 cd6 ct6), sl6⟩)
    (c6 : PySem.W.codeIn K cd6 "is_frame" = true)
    (k6 : PySem.W.keepIn K (.ref f6) = true)
    (a7 : PySem.W.nsIn K mainGlobals "frame_line" = some (some (.ref f7)))
    (l7 : K.lookup f7 = some ⟨oc7, od7, .func (PySem.W.fnOf "frame_line" "frame_line" (defArgs s_frame_line) (defBody s_frame_line) (defScope s_frame_line) .none kV7 dc7 pm7 an7 cd7 ct7), sl7⟩)
    (c7 : PySem.W.codeIn K cd7 "frame_line" = true)
    (k7 : PySem.W.keepIn K (.ref f7) = true)
    (a8 : PySem.W.nsIn K mainGlobals "frame_text" = some (some (.ref f8)))
    (l8 : K.lookup f8 = some ⟨oc8, od8, .func (PySem.W.fnOf "frame_text" "frame_text" (defArgs s_frame_text) (defBody s_frame_text) (defScope s_frame_text) .none kV8 dc8 pm8 an8 cd8 ct8), sl8⟩)
    (c8 : PySem.W.codeIn K cd8 "frame_text" = true)
    (k8 : PySem.W.keepIn K (.ref f8) = true)
    (a9 : PySem.W.nsIn K mainGlobals "number_in" = some (some (.ref f9)))
    (l9 : K.lookup f9 = some ⟨oc9, od9, .func (PySem.W.fnOf "number_in" "number_in" (defArgs s_number_in) (defBody s_number_in) (defScope s_number_in) .none kV9 dc9 pm9 an9 cd9 ct9), sl9⟩)
    (c9 : PySem.W.codeIn K cd9 "number_in" = true)
    (k9 : PySem.W.keepIn K (.ref f9) = true)
    (a10 : PySem.W.nsIn K mainGlobals "frame_in" = some (some (.ref f10)))
    (l10 : K.lookup f10 = some ⟨oc10, od10, .func (PySem.W.fnOf "frame_in" "frame_in" (defArgs s_frame_in) (defBody s_frame_in) (defScope s_frame_in) .none kV10 dc10 pm10 an10 cd10 ct10), sl10⟩)
    (c10 : PySem.W.codeIn K cd10 "frame_in" = true)
    (k10 : PySem.W.keepIn K (.ref f10) = true)
    (a11 : PySem.W.nsIn K mainGlobals "cut_text" = some (some (.ref f11)))
    (l11 : K.lookup f11 = some ⟨oc11, od11, .func (PySem.W.fnOf "cut_text" "cut_text" (defArgs s_cut_text) (defBody s_cut_text) (defScope s_cut_text) .none kV11 dc11 pm11 an11 cd11 ct11), sl11⟩)
    (c11 : PySem.W.codeIn K cd11 "cut_text" = true)
    (k11 : PySem.W.keepIn K (.ref f11) = true)
    (a12 : PySem.W.nsIn K mainGlobals "read_frames" = some (some (.ref f12)))
    (l12 : K.lookup f12 = some ⟨oc12, od12, .func (PySem.W.fnOf "read_frames" "read_frames" (defArgs s_read_frames) (defBody s_read_frames) (defScope s_read_frames) .none kV12 dc12 pm12 an12 cd12 ct12), sl12⟩)
    (c12 : PySem.W.codeIn K cd12 "read_frames" = true)
    (k12 : PySem.W.keepIn K (.ref f12) = true)
    (a13 : PySem.W.nsIn K mainGlobals "_law_begun" = some (some (.ref f13)))
    (l13 : K.lookup f13 = some ⟨oc13, od13, .func (PySem.W.fnOf "_law_begun" "_law_begun" (defArgs s_law_begun) (defBody s_law_begun) (defScope s_law_begun) .none kV13 dc13 pm13 an13 cd13 ct13), sl13⟩)
    (c13 : PySem.W.codeIn K cd13 "_law_begun" = true)
    (k13 : PySem.W.keepIn K (.ref f13) = true)
    (a14 : PySem.W.nsIn K mainGlobals "_law_mixed" = some (some (.ref f14)))
    (l14 : K.lookup f14 = some ⟨oc14, od14, .func (PySem.W.fnOf "_law_mixed" "_law_mixed" (defArgs s_law_mixed) (defBody s_law_mixed) (defScope s_law_mixed) .none kV14 dc14 pm14 an14 cd14 ct14), sl14⟩)
    (c14 : PySem.W.codeIn K cd14 "_law_mixed" = true)
    (k14 : PySem.W.keepIn K (.ref f14) = true)
    (a15 : PySem.W.nsIn K mainGlobals "_law_take" = some (some (.ref f15)))
    (l15 : K.lookup f15 = some ⟨oc15, od15, .func (PySem.W.fnOf "_law_take" "_law_take" (defArgs s_law_take) (defBody s_law_take) (defScope s_law_take) .none kV15 dc15 pm15 an15 cd15 ct15), sl15⟩)
    (c15 : PySem.W.codeIn K cd15 "_law_take" = true)
    (k15 : PySem.W.keepIn K (.ref f15) = true)
    (a16 : PySem.W.nsIn K mainGlobals "_law_pick" = some (some (.ref f16)))
    (l16 : K.lookup f16 = some ⟨oc16, od16, .func (PySem.W.fnOf "_law_pick" "_law_pick" (defArgs s_law_pick) (defBody s_law_pick) (defScope s_law_pick) .none kV16 dc16 pm16 an16 cd16 ct16), sl16⟩)
    (c16 : PySem.W.codeIn K cd16 "_law_pick" = true)
    (k16 : PySem.W.keepIn K (.ref f16) = true)
    (a17 : PySem.W.nsIn K mainGlobals "_law_caught" = some (some (.ref f17)))
    (l17 : K.lookup f17 = some ⟨oc17, od17, .func (PySem.W.fnOf "_law_caught" "_law_caught" (defArgs s_law_caught) (defBody s_law_caught) (defScope s_law_caught) .none kV17 dc17 pm17 an17 cd17 ct17), sl17⟩)
    (c17 : PySem.W.codeIn K cd17 "_law_caught" = true)
    (k17 : PySem.W.keepIn K (.ref f17) = true)
    (a18 : PySem.W.nsIn K mainGlobals "_law_says" = some (some (.ref f18)))
    (l18 : K.lookup f18 = some ⟨oc18, od18, .func (PySem.W.fnOf "_law_says" "_law_says" (defArgs s_law_says) (defBody s_law_says) (defScope s_law_says) .none kV18 dc18 pm18 an18 cd18 ct18), sl18⟩)
    (c18 : PySem.W.codeIn K cd18 "_law_says" = true)
    (k18 : PySem.W.keepIn K (.ref f18) = true)
    (a19 : PySem.W.nsIn K mainGlobals "_law_word" = some (some (.ref f19)))
    (l19 : K.lookup f19 = some ⟨oc19, od19, .func (PySem.W.fnOf "_law_word" "_law_word" (defArgs s_law_word) (defBody s_law_word) (defScope s_law_word) .none kV19 dc19 pm19 an19 cd19 ct19), sl19⟩)
    (c19 : PySem.W.codeIn K cd19 "_law_word" = true)
    (k19 : PySem.W.keepIn K (.ref f19) = true)
    (a20 : PySem.W.nsIn K mainGlobals "_law_number" = some (some (.ref f20)))
    (l20 : K.lookup f20 = some ⟨oc20, od20, .func (PySem.W.fnOf "_law_number" "_law_number" (defArgs s_law_number) (defBody s_law_number) (defScope s_law_number) .none kV20 dc20 pm20 an20 cd20 ct20), sl20⟩)
    (c20 : PySem.W.codeIn K cd20 "_law_number" = true)
    (k20 : PySem.W.keepIn K (.ref f20) = true)
    (a21 : PySem.W.nsIn K mainGlobals "_law_frame" = some (some (.ref f21)))
    (l21 : K.lookup f21 = some ⟨oc21, od21, .func (PySem.W.fnOf "_law_frame" "_law_frame" (defArgs s_law_frame) (defBody s_law_frame) (defScope s_law_frame) .none kV21 dc21 pm21 an21 cd21 ct21), sl21⟩)
    (c21 : PySem.W.codeIn K cd21 "_law_frame" = true)
    (k21 : PySem.W.keepIn K (.ref f21) = true)
    (a22 : PySem.W.nsIn K mainGlobals "_law_is_name" = some (some (.ref f22)))
    (l22 : K.lookup f22 = some ⟨oc22, od22, .func (PySem.W.fnOf "_law_is_name" "_law_is_name" (defArgs s_law_is_name) (defBody s_law_is_name) (defScope s_law_is_name) .none kV22 dc22 pm22 an22 cd22 ct22), sl22⟩)
    (c22 : PySem.W.codeIn K cd22 "_law_is_name" = true)
    (k22 : PySem.W.keepIn K (.ref f22) = true)
    (a23 : PySem.W.nsIn K mainGlobals "_law_is_from" = some (some (.ref f23)))
    (l23 : K.lookup f23 = some ⟨oc23, od23, .func (PySem.W.fnOf "_law_is_from" "_law_is_from" (defArgs s_law_is_from) (defBody s_law_is_from) (defScope s_law_is_from) .none kV23 dc23 pm23 an23 cd23 ct23), sl23⟩)
    (c23 : PySem.W.codeIn K cd23 "_law_is_from" = true)
    (k23 : PySem.W.keepIn K (.ref f23) = true)
    (a24 : PySem.W.nsIn K mainGlobals "_law_is_a_frame" = some (some (.ref f24)))
    (l24 : K.lookup f24 = some ⟨oc24, od24, .func (PySem.W.fnOf "_law_is_a_frame" "_law_is_a_frame" (defArgs s_law_is_a_frame) (defBody s_law_is_a_frame) (defScope s_law_is_a_frame) .none kV24 dc24 pm24 an24 cd24 ct24), sl24⟩)
    (c24 : PySem.W.codeIn K cd24 "_law_is_a_frame" = true)
    (k24 : PySem.W.keepIn K (.ref f24) = true)
    (a25 : PySem.W.nsIn K mainGlobals "_law_text_of" = some (some (.ref f25)))
    (l25 : K.lookup f25 = some ⟨oc25, od25, .func (PySem.W.fnOf "_law_text_of" "_law_text_of" (defArgs s_law_text_of) (defBody s_law_text_of) (defScope s_law_text_of) .none kV25 dc25 pm25 an25 cd25 ct25), sl25⟩)
    (c25 : PySem.W.codeIn K cd25 "_law_text_of" = true)
    (k25 : PySem.W.keepIn K (.ref f25) = true)
    (a26 : PySem.W.nsIn K mainGlobals "_law_frame_in" = some (some (.ref f26)))
    (l26 : K.lookup f26 = some ⟨oc26, od26, .func (PySem.W.fnOf "_law_frame_in" "_law_frame_in" (defArgs s_law_frame_in) (defBody s_law_frame_in) (defScope s_law_frame_in) .none kV26 dc26 pm26 an26 cd26 ct26), sl26⟩)
    (c26 : PySem.W.codeIn K cd26 "_law_frame_in" = true)
    (k26 : PySem.W.keepIn K (.ref f26) = true)
    (a27 : PySem.W.nsIn K mainGlobals "_law_read" = some (some (.ref f27)))
    (l27 : K.lookup f27 = some ⟨oc27, od27, .func (PySem.W.fnOf "_law_read" "_law_read" (defArgs s_law_read) (defBody s_law_read) (defScope s_law_read) .none kV27 dc27 pm27 an27 cd27 ct27), sl27⟩)
    (c27 : PySem.W.codeIn K cd27 "_law_read" = true)
    (k27 : PySem.W.keepIn K (.ref f27) = true)
    (a28 : PySem.W.nsIn K mainGlobals "_law_near_frames" = some (some (.ref f28)))
    (l28 : K.lookup f28 = some ⟨oc28, od28, .func (PySem.W.fnOf "_law_near_frames" "_law_near_frames" (defArgs s_law_near_frames) (defBody s_law_near_frames) (defScope s_law_near_frames) .none kV28 dc28 pm28 an28 cd28 ct28), sl28⟩)
    (c28 : PySem.W.codeIn K cd28 "_law_near_frames" = true)
    (k28 : PySem.W.keepIn K (.ref f28) = true)
    (a29 : PySem.W.nsIn K mainGlobals "_law_bent_text" = some (some (.ref f29)))
    (l29 : K.lookup f29 = some ⟨oc29, od29, .func (PySem.W.fnOf "_law_bent_text" "_law_bent_text" (defArgs s_law_bent_text) (defBody s_law_bent_text) (defScope s_law_bent_text) .none kV29 dc29 pm29 an29 cd29 ct29), sl29⟩)
    (c29 : PySem.W.codeIn K cd29 "_law_bent_text" = true)
    (k29 : PySem.W.keepIn K (.ref f29) = true)
    (a30 : PySem.W.nsIn K mainGlobals "_law_pieces_right" = some (some (.ref f30)))
    (l30 : K.lookup f30 = some ⟨oc30, od30, .func (PySem.W.fnOf "_law_pieces_right" "_law_pieces_right" (defArgs s_law_pieces_right) (defBody s_law_pieces_right) (defScope s_law_pieces_right) .none kV30 dc30 pm30 an30 cd30 ct30), sl30⟩)
    (c30 : PySem.W.codeIn K cd30 "_law_pieces_right" = true)
    (k30 : PySem.W.keepIn K (.ref f30) = true)
    (a31 : PySem.W.nsIn K mainGlobals "_law_right" = some (some (.ref f31)))
    (l31 : K.lookup f31 = some ⟨oc31, od31, .func (PySem.W.fnOf "_law_right" "_law_right" (defArgs s_law_right) (defBody s_law_right) (defScope s_law_right) .none kV31 dc31 pm31 an31 cd31 ct31), sl31⟩)
    (c31 : PySem.W.codeIn K cd31 "_law_right" = true)
    (k31 : PySem.W.keepIn K (.ref f31) = true)
    (a32 : PySem.W.nsIn K mainGlobals "law" = some (some (.ref f32)))
    (l32 : K.lookup f32 = some ⟨oc32, od32, .func (PySem.W.fnOf "law" "law" (defArgs s_law) (defBody s_law) (defScope s_law) .none kV32 dc32 pm32 an32 cd32 ct32), sl32⟩)
    (c32 : PySem.W.codeIn K cd32 "law" = true)
    (k32 : PySem.W.keepIn K (.ref f32) = true)
    (ai : PySem.W.findIn K (.ref Z.cBT) "__init__" = some (some (.ref fI)))
    (li : K.lookup fI = some ⟨ocI, odI, .func (PySem.W.fnOf "__init__" "BadText.__init__" (defArgs sInit) (defBody sInit) (defScope sInit) .none kVI dcI pmI anI cdI ctI), slI⟩)
    (ci : PySem.W.codeIn K cdI "BadText.__init__" = true)
    (ki : PySem.W.keepIn K (.ref fI) = true)
    (ti : PySem.W.typeIn K (.ref fI) = some (.type "function"))
    (e1 : cd31 = .ref Z.c1)
    (e2 : cd32 = .ref Z.c2)
    (h1 : PySem.W.codeHdIn K Z.c1 Z.P1 = true)
    (h2 : PySem.W.codeHdIn K Z.c2 Z.P2 = true)
    (n1 : K.lookup Z.P1 = none)
    (n2 : K.lookup Z.P2 = none)
    (hP : Z.P1 ≠ Z.P2)
    (PL : Plain Z) : LawD l w K 11 63 "script" mg fa h := by
  have ef := hfa.symm.trans (PySem.W.mg_of X G a32)
  cases ef
  have ecF : ExcC K Z.cBF := ⟨hgcBF, hkcBF, hscBF, hdcBF, hacBF, hn, ht, hmcBF⟩
  have ecT : ExcC K Z.cBT := ⟨hgcBT, hkcBT, hscBT, hdcBT, hacBT, hn, ht, hmcBT⟩
  have Tx : Txt K mg Z := {
    m_len := PySem.W.mg_none_of X G mlen
    m_abs := PySem.W.mg_none_of X G mabs
    m_int := PySem.W.mg_none_of X G mint
    m_str := PySem.W.mg_none_of X G mstr
    m_tuple := PySem.W.mg_none_of X G mtuple
    m_list := PySem.W.mg_none_of X G mlist
    m_all := PySem.W.mg_none_of X G mall
    m_min := PySem.W.mg_none_of X G mmin
    m_bool := PySem.W.mg_none_of X G mbool
    m_isinstance := PySem.W.mg_none_of X G misinstance
    m_repr := PySem.W.mg_none_of X G mrepr
    m_range := PySem.W.mg_none_of X G mrange
    m_enumerate := PySem.W.mg_none_of X G menumerate
    c_LETTERS := ⟨_, PySem.W.mg_of X G g1⟩
    c_FIGURES := ⟨_, PySem.W.mg_of X G g2⟩
    c_MOST_RULE := ⟨_, PySem.W.mg_of X G g3⟩
    c_WORDS := ⟨aW, PySem.W.mg_of X G g4, g5⟩
    m_FarError := PySem.W.mg_of X G xcFE
    m_BadFrame := PySem.W.mg_of X G xcBF
    m_BadText := PySem.W.mg_of X G xcBT
    ec_cBF := ecF
    ec_cBT := ecT
    kt_cBF := if_pos (beq_self_eq_true _)
    kt_cBT := if_pos (beq_self_eq_true _)
    xf_line := ⟨hgcBT, hkcBT, hscBT, hdcBT⟩
    no_line := no
    q_BF := qB
    k_BF := kccBF
    s_BF := hscBF
    t_BF := tycBF
    hL := fun C m => by
      rcases List.mem_cons.mp m with rfl | m
      · exact PySem.W.exm_ref s1 s2 s3 sucBF
      · rcases List.mem_cons.mp m with rfl | m
        · exact PySem.W.exm_ref s1 s2 s3 sucBT
        · cases m }
  have oex : OexC K Z.cBT := ⟨⟨nm, qn, Nn, bs, _, sn, sub, ab, col, dd, m0, m1, m2, m3, m5, xL, rfl⟩, sa, hscBT, tycBT, kccBT⟩
  have FI := fun_mk (st := sInit) li ci ki
  have bI := FI.binds (ps := ["self", "line"]) fun _ _ _ _ _ _ us hl => match us, hl with | [_, _], _ => rfl
  have t0 : TopF K mg "is_number" s_is_number ["value"] _ _ := ⟨fun_mk l0 c0 k0, PySem.W.mg_of X G a0, (fun_mk (st := s_is_number) l0 c0 k0).binds (ps := ["value"]) fun _ _ _ _ _ _ us hl => match us, hl with | [_], _ => rfl⟩
  have t1 : TopF K mg "is_name" s_is_name ["value"] _ _ := ⟨fun_mk l1 c1 k1, PySem.W.mg_of X G a1, (fun_mk (st := s_is_name) l1 c1 k1).binds (ps := ["value"]) fun _ _ _ _ _ _ us hl => match us, hl with | [_], _ => rfl⟩
  have t2 : TopF K mg "is_count" s_is_count ["thing", "least"] _ _ := ⟨fun_mk l2 c2 k2, PySem.W.mg_of X G a2, (fun_mk (st := s_is_count) l2 c2 k2).binds (ps := ["thing", "least"]) fun _ _ _ _ _ _ us hl => match us, hl with | [_, _], _ => rfl⟩
  have t3 : TopF K mg "is_tell" s_is_tell ["thing"] _ _ := ⟨fun_mk l3 c3 k3, PySem.W.mg_of X G a3, (fun_mk (st := s_is_tell) l3 c3 k3).binds (ps := ["thing"]) fun _ _ _ _ _ _ us hl => match us, hl with | [_], _ => rfl⟩
  have t4 : TopF K mg "is_ask" s_is_ask ["thing"] _ _ := ⟨fun_mk l4 c4 k4, PySem.W.mg_of X G a4, (fun_mk (st := s_is_ask) l4 c4 k4).binds (ps := ["thing"]) fun _ _ _ _ _ _ us hl => match us, hl with | [_], _ => rfl⟩
  have t5 : TopF K mg "is_told" s_is_told ["thing"] _ _ := ⟨fun_mk l5 c5 k5, PySem.W.mg_of X G a5, (fun_mk (st := s_is_told) l5 c5 k5).binds (ps := ["thing"]) fun _ _ _ _ _ _ us hl => match us, hl with | [_], _ => rfl⟩
  have t6 : TopF K mg "is_frame" s_is_frame ["thing"] _ _ := ⟨fun_mk l6 c6 k6, PySem.W.mg_of X G a6, (fun_mk (st := s_is_frame) l6 c6 k6).binds (ps := ["thing"]) fun _ _ _ _ _ _ us hl => match us, hl with | [_], _ => rfl⟩
  have t7 : TopF K mg "frame_line" s_frame_line ["frame"] _ _ := ⟨fun_mk l7 c7 k7, PySem.W.mg_of X G a7, (fun_mk (st := s_frame_line) l7 c7 k7).binds (ps := ["frame"]) fun _ _ _ _ _ _ us hl => match us, hl with | [_], _ => rfl⟩
  have t8 : TopF K mg "frame_text" s_frame_text ["frame"] _ _ := ⟨fun_mk l8 c8 k8, PySem.W.mg_of X G a8, (fun_mk (st := s_frame_text) l8 c8 k8).binds (ps := ["frame"]) fun _ _ _ _ _ _ us hl => match us, hl with | [_], _ => rfl⟩
  have t9 : TopF K mg "number_in" s_number_in ["word"] _ _ := ⟨fun_mk l9 c9 k9, PySem.W.mg_of X G a9, (fun_mk (st := s_number_in) l9 c9 k9).binds (ps := ["word"]) fun _ _ _ _ _ _ us hl => match us, hl with | [_], _ => rfl⟩
  have t10 : TopF K mg "frame_in" s_frame_in ["line"] _ _ := ⟨fun_mk l10 c10 k10, PySem.W.mg_of X G a10, (fun_mk (st := s_frame_in) l10 c10 k10).binds (ps := ["line"]) fun _ _ _ _ _ _ us hl => match us, hl with | [_], _ => rfl⟩
  have t11 : TopF K mg "cut_text" s_cut_text ["text"] _ _ := ⟨fun_mk l11 c11 k11, PySem.W.mg_of X G a11, (fun_mk (st := s_cut_text) l11 c11 k11).binds (ps := ["text"]) fun _ _ _ _ _ _ us hl => match us, hl with | [_], _ => rfl⟩
  have t12 : TopF K mg "read_frames" s_read_frames ["text"] _ _ := ⟨fun_mk l12 c12 k12, PySem.W.mg_of X G a12, (fun_mk (st := s_read_frames) l12 c12 k12).binds (ps := ["text"]) fun _ _ _ _ _ _ us hl => match us, hl with | [_], _ => rfl⟩
  have t13 : TopF K mg "_law_begun" s_law_begun ["script"] _ _ := ⟨fun_mk l13 c13 k13, PySem.W.mg_of X G a13, (fun_mk (st := s_law_begun) l13 c13 k13).binds (ps := ["script"]) fun _ _ _ _ _ _ us hl => match us, hl with | [_], _ => rfl⟩
  have t14 : TopF K mg "_law_mixed" s_law_mixed ["draw"] _ _ := ⟨fun_mk l14 c14 k14, PySem.W.mg_of X G a14, (fun_mk (st := s_law_mixed) l14 c14 k14).binds (ps := ["draw"]) fun _ _ _ _ _ _ us hl => match us, hl with | [_], _ => rfl⟩
  have t15 : TopF K mg "_law_take" s_law_take ["draw", "amount"] _ _ := ⟨fun_mk l15 c15 k15, PySem.W.mg_of X G a15, (fun_mk (st := s_law_take) l15 c15 k15).binds (ps := ["draw", "amount"]) fun _ _ _ _ _ _ us hl => match us, hl with | [_, _], _ => rfl⟩
  have t16 : TopF K mg "_law_pick" s_law_pick ["draw", "some"] _ _ := ⟨fun_mk l16 c16 k16, PySem.W.mg_of X G a16, (fun_mk (st := s_law_pick) l16 c16 k16).binds (ps := ["draw", "some"]) fun _ _ _ _ _ _ us hl => match us, hl with | [_, _], _ => rfl⟩
  have t17 : TopF K mg "_law_caught" s_law_caught ["work"] _ _ := ⟨fun_mk l17 c17 k17, PySem.W.mg_of X G a17, (fun_mk (st := s_law_caught) l17 c17 k17).binds (ps := ["work"]) fun _ _ _ _ _ _ us hl => match us, hl with | [_], _ => rfl⟩
  have t18 : TopF K mg "_law_says" s_law_says ["told", "due"] _ _ := ⟨fun_mk l18 c18 k18, PySem.W.mg_of X G a18, (fun_mk (st := s_law_says) l18 c18 k18).binds (ps := ["told", "due"]) fun _ _ _ _ _ _ us hl => match us, hl with | [_, _], _ => rfl⟩
  have t19 : TopF K mg "_law_word" s_law_word ["draw"] _ _ := ⟨fun_mk l19 c19 k19, PySem.W.mg_of X G a19, (fun_mk (st := s_law_word) l19 c19 k19).binds (ps := ["draw"]) fun _ _ _ _ _ _ us hl => match us, hl with | [_], _ => rfl⟩
  have t20 : TopF K mg "_law_number" s_law_number ["draw", "least"] _ _ := ⟨fun_mk l20 c20 k20, PySem.W.mg_of X G a20, (fun_mk (st := s_law_number) l20 c20 k20).binds (ps := ["draw", "least"]) fun _ _ _ _ _ _ us hl => match us, hl with | [_, _], _ => rfl⟩
  have t21 : TopF K mg "_law_frame" s_law_frame ["draw"] _ _ := ⟨fun_mk l21 c21 k21, PySem.W.mg_of X G a21, (fun_mk (st := s_law_frame) l21 c21 k21).binds (ps := ["draw"]) fun _ _ _ _ _ _ us hl => match us, hl with | [_], _ => rfl⟩
  have t22 : TopF K mg "_law_is_name" s_law_is_name ["thing"] _ _ := ⟨fun_mk l22 c22 k22, PySem.W.mg_of X G a22, (fun_mk (st := s_law_is_name) l22 c22 k22).binds (ps := ["thing"]) fun _ _ _ _ _ _ us hl => match us, hl with | [_], _ => rfl⟩
  have t23 : TopF K mg "_law_is_from" s_law_is_from ["thing", "least"] _ _ := ⟨fun_mk l23 c23 k23, PySem.W.mg_of X G a23, (fun_mk (st := s_law_is_from) l23 c23 k23).binds (ps := ["thing", "least"]) fun _ _ _ _ _ _ us hl => match us, hl with | [_, _], _ => rfl⟩
  have t24 : TopF K mg "_law_is_a_frame" s_law_is_a_frame ["thing"] _ _ := ⟨fun_mk l24 c24 k24, PySem.W.mg_of X G a24, (fun_mk (st := s_law_is_a_frame) l24 c24 k24).binds (ps := ["thing"]) fun _ _ _ _ _ _ us hl => match us, hl with | [_], _ => rfl⟩
  have t25 : TopF K mg "_law_text_of" s_law_text_of ["frame"] _ _ := ⟨fun_mk l25 c25 k25, PySem.W.mg_of X G a25, (fun_mk (st := s_law_text_of) l25 c25 k25).binds (ps := ["frame"]) fun _ _ _ _ _ _ us hl => match us, hl with | [_], _ => rfl⟩
  have t26 : TopF K mg "_law_frame_in" s_law_frame_in ["line"] _ _ := ⟨fun_mk l26 c26 k26, PySem.W.mg_of X G a26, (fun_mk (st := s_law_frame_in) l26 c26 k26).binds (ps := ["line"]) fun _ _ _ _ _ _ us hl => match us, hl with | [_], _ => rfl⟩
  have t27 : TopF K mg "_law_read" s_law_read ["text"] _ _ := ⟨fun_mk l27 c27 k27, PySem.W.mg_of X G a27, (fun_mk (st := s_law_read) l27 c27 k27).binds (ps := ["text"]) fun _ _ _ _ _ _ us hl => match us, hl with | [_], _ => rfl⟩
  have t28 : TopF K mg "_law_near_frames" s_law_near_frames ["draw", "frame"] _ _ := ⟨fun_mk l28 c28 k28, PySem.W.mg_of X G a28, (fun_mk (st := s_law_near_frames) l28 c28 k28).binds (ps := ["draw", "frame"]) fun _ _ _ _ _ _ us hl => match us, hl with | [_, _], _ => rfl⟩
  have t29 : TopF K mg "_law_bent_text" s_law_bent_text ["draw", "text"] _ _ := ⟨fun_mk l29 c29 k29, PySem.W.mg_of X G a29, (fun_mk (st := s_law_bent_text) l29 c29 k29).binds (ps := ["draw", "text"]) fun _ _ _ _ _ _ us hl => match us, hl with | [_, _], _ => rfl⟩
  have t30 : TopF K mg "_law_pieces_right" s_law_pieces_right ["draw", "text", "frames"] _ _ := ⟨fun_mk l30 c30 k30, PySem.W.mg_of X G a30, (fun_mk (st := s_law_pieces_right) l30 c30 k30).binds (ps := ["draw", "text", "frames"]) fun _ _ _ _ _ _ us hl => match us, hl with | [_, _, _], _ => rfl⟩
  have t31 : TopF K mg "_law_right" s_law_right ["draw"] _ _ := ⟨fun_mk l31 c31 k31, PySem.W.mg_of X G a31, (fun_mk (st := s_law_right) l31 c31 k31).binds (ps := ["draw"]) fun _ _ _ _ _ _ us hl => match us, hl with | [_], _ => rfl⟩
  have t32 : TopF K mg "law" s_law ["script"] _ _ := ⟨fun_mk l32 c32 k32, PySem.W.mg_of X G a32, (fun_mk (st := s_law) l32 c32 k32).binds (ps := ["script"]) fun _ _ _ _ _ _ us hl => match us, hl with | [_], _ => rfl⟩
  refine ⟨PySem.W.fnOf "law" "law" (defArgs s_law) (defBody s_law) (defScope s_law) .none kV32 dc32 pm32 an32 cd32 ct32, [(Z.c1, Z.P1), (Z.c2, Z.P2)], spL K (tabsOf Z) (fun ns => listOf (fsA_law_begun Z (startE n_law_begun [.rol (ns.map Dat.int)]) ())) (fun ns => listOf (fsB_law_begun Z (startE n_law_begun [.rol (ns.map Dat.int)]) ())) n_law 1 (fs_law Z), ?_, ?_, ?_, ?_, ?_, ?_⟩
  · intro p m
    rcases List.mem_cons.mp m with rfl | m
    · exact hT1
    · rcases List.mem_cons.mp m with rfl | m
      · exact hT2
      · cases m
  · intro p m
    rcases List.mem_cons.mp m with rfl | m
    · exact n1
    · rcases List.mem_cons.mp m with rfl | m
      · exact n2
      · cases m
  · intro p m
    rcases List.mem_cons.mp m with rfl | m
    · exact PySem.W.codeHd_of_K X h1
    · rcases List.mem_cons.mp m with rfl | m
      · exact PySem.W.codeHd_of_K X h2
      · cases m
  · exact fun s u => .of_eq rfl
  · intro H a ns few bits tb sq nl
    obtain ⟨ls, cs, t, q1, q2, q3⟩ := PL ns few bits
    refine ⟨a, ns, ls, cs, t, rfl, sq, nl, fun p m => ?_, q1, q2, q3, fun _ => rfl⟩
    rcases List.mem_cons.mp m with rfl | m
    · exact .nil (tb _ (.head _))
    · rcases List.mem_cons.mp m with rfl | m
      · exact .nil (tb _ (.tail _ (.head _)))
      · cases m
  · intro base kin nsB tabB
    have tb1 := tabB _ (.head _)
    have tb2 := tabB _ (.tail _ (.head _))
    have o_BadText : InitOk l.prog w K mg base Z := ⟨fI, _, ["self", "line"], oex, ai, ti, f_init FI oex no Tx.m_FarError ⟨bg, br, bf⟩, bI, Tx.m_BadText⟩
    have o_is_number := t0.ok (P := l.prog) (w := w) (base := base) (f_is_number Tx t0)
    have o_is_name := t1.ok (P := l.prog) (w := w) (base := base) (f_is_name Tx t1)
    have o_is_count := t2.ok (P := l.prog) (w := w) (base := base) (f_is_count Tx o_is_number t2)
    have o_is_tell := t3.ok (P := l.prog) (w := w) (base := base) (f_is_tell Tx o_is_count o_is_name t3)
    have o_is_ask := t4.ok (P := l.prog) (w := w) (base := base) (f_is_ask Tx o_is_count t4)
    have o_is_told := t5.ok (P := l.prog) (w := w) (base := base) (f_is_told Tx o_is_count t5)
    have o_is_frame := t6.ok (P := l.prog) (w := w) (base := base) (f_is_frame Tx o_is_tell o_is_ask o_is_told o_is_name t6)
    have ok_is_frame : OkK false l.prog w K mg base "is_frame" 4 ["thing"] ["thing"] (spG K C0 1 (den_is_frame Z)) := ⟨_, _, t6.m, t6.F.kp, ⟨fun s ws _ hl => match ws, hl with | [_], _ => .of_eq rfl⟩, f_is_frame Tx o_is_tell o_is_ask o_is_told o_is_name t6⟩
    have o_frame_line := t7.ok (P := l.prog) (w := w) (base := base) (f_frame_line Tx t7)
    have o_frame_text := t8.ok (P := l.prog) (w := w) (base := base) (f_frame_text Tx o_is_frame o_frame_line t8)
    have o_number_in := t9.ok (P := l.prog) (w := w) (base := base) (f_number_in Tx t9)
    have o_frame_in := t10.ok (P := l.prog) (w := w) (base := base) (f_frame_in Tx o_is_frame o_number_in t10)
    have o_cut_text := t11.ok (P := l.prog) (w := w) (base := base) (f_cut_text Tx o_frame_in o_BadText t11)
    have o_read_frames := t12.ok (P := l.prog) (w := w) (base := base) (f_read_frames Tx o_cut_text o_BadText t12)
    have o_law_begun := t13.ok (P := l.prog) (w := w) (base := base) (f_law_begun Tx t13)
    have o_law_mixed := t14.ok (P := l.prog) (w := w) (base := base) (f_law_mixed Tx t14)
    have o_law_take := t15.ok (P := l.prog) (w := w) (base := base) (f_law_take Tx o_law_mixed t15)
    have o_law_pick := t16.ok (P := l.prog) (w := w) (base := base) (f_law_pick Tx o_law_take t16)
    have t_law_caught := t17
    have o_law_says := t18.ok (P := l.prog) (w := w) (base := base) (f_law_says Tx t18)
    have o_law_word := t19.ok (P := l.prog) (w := w) (base := base) (f_law_word Tx o_law_pick t19)
    have o_law_number := t20.ok (P := l.prog) (w := w) (base := base) (f_law_number Tx o_law_pick t20)
    have o_law_frame := t21.ok (P := l.prog) (w := w) (base := base) (f_law_frame Tx o_law_take o_law_word o_law_number o_law_pick t21)
    have o_law_is_name := t22.ok (P := l.prog) (w := w) (base := base) (f_law_is_name Tx t22)
    have o_law_is_from := t23.ok (P := l.prog) (w := w) (base := base) (f_law_is_from Tx t23)
    have o_law_is_a_frame := t24.ok (P := l.prog) (w := w) (base := base) (f_law_is_a_frame Tx o_law_is_from o_law_is_name t24)
    have o_law_text_of := t25.ok (P := l.prog) (w := w) (base := base) (f_law_text_of Tx t25)
    have o_law_frame_in := t26.ok (P := l.prog) (w := w) (base := base) (f_law_frame_in Tx o_law_is_a_frame o_law_text_of t26)
    have o_law_read := t27.ok (P := l.prog) (w := w) (base := base) (f_law_read Tx o_law_frame_in t27)
    have o_law_near_frames := t28.ok (P := l.prog) (w := w) (base := base) (f_law_near_frames Tx o_law_take o_law_pick t28)
    have o_law_bent_text := t29.ok (P := l.prog) (w := w) (base := base) (f_law_bent_text Tx o_law_take o_law_pick t29)
    have o_law_pieces_right := t30.ok (P := l.prog) (w := w) (base := base) (f_law_pieces_right Tx o_cut_text o_law_says o_law_take t30)
    have o_law_right := t31.ok (P := l.prog) (w := w) (base := base) (f_law_right Tx o_law_pieces_right o_law_frame o_law_says o_law_is_a_frame o_law_read o_law_text_of o_law_near_frames o_law_bent_text o_law_pick o_law_take o_read_frames o_law_frame_in o_cut_text o_frame_text o_is_frame ok_is_frame tb1 e1 hP t_law_caught t31)
    exact f_law Tx o_law_right o_read_frames o_cut_text o_frame_text o_law_begun tb2 e2 hP t_law_caught t32
theorem all_mk2 {l : PySem.W.OpenLaw} {w : World} {K : PySem.W.Frag} {h : Heap} {mg : Str → Option Value} {fa zcFE zcBF zcBT zc1 zP1 zc2 zP2 : Addr} (PL : ∀ Z, Plain Z) (X : K.In h) (G : h.Ns mainGlobals mg) (hfa : mg "law" = some (.ref fa)) (hT1 : h.get? zP1 = some { cls := .none, data := .fields #[] }) (hT2 : h.get? zP2 = some { cls := .none, data := .fields #[] })
    {f0 f1 f2 f3 f4 f5 f6 f7 f8 f9 f10 f11 f12 f13 f14 f15 f16 f17 f18 f19 f20 f21 f22 f23 f24 f25 f26 f27 f28 f29 f30 f31 f32 fI aW : Addr} {od0 an0 od1 an1 od2 an2 od3 an3 od4 an4 od5 an5 od6 an6 od7 an7 od8 an8 od9 an9 od10 an10 od11 an11 od12 an12 od13 an13 od14 an14 od15 an15 od16 an16 od17 an17 od18 an18 od19 an19 od20 an20 od21 an21 od22 an22 od23 an23 od24 an24 od25 an25 od26 an26 od27 an27 od28 an28 od29 an29 od30 an30 od31 an31 od32 an32 odI anI dd : Option Addr} {sl0 sl1 sl2 sl3 sl4 sl5 sl6 sl7 sl8 sl9 sl10 sl11 sl12 sl13 sl14 sl15 sl16 sl17 sl18 sl19 sl20 sl21 sl22 sl23 sl24 sl25 sl26 sl27 sl28 sl29 sl30 sl31 sl32 slI : Array (Option Value)} {oc0 kV0 dc0 pm0 cd0 ct0 oc1 kV1 dc1 pm1 cd1 ct1 oc2 kV2 dc2 pm2 cd2 ct2 oc3 kV3 dc3 pm3 cd3 ct3 oc4 kV4 dc4 pm4 cd4 ct4 oc5 kV5 dc5 pm5 cd5 ct5 oc6 kV6 dc6 pm6 cd6 ct6 oc7 kV7 dc7 pm7 cd7 ct7 oc8 kV8 dc8 pm8 cd8 ct8 oc9 kV9 dc9 pm9 cd9 ct9 oc10 kV10 dc10 pm10 cd10 ct10 oc11 kV11 dc11 pm11 cd11 ct11 oc12 kV12 dc12 pm12 cd12 ct12 oc13 kV13 dc13 pm13 cd13 ct13 oc14 kV14 dc14 pm14 cd14 ct14 oc15 kV15 dc15 pm15 cd15 ct15 oc16 kV16 dc16 pm16 cd16 ct16 oc17 kV17 dc17 pm17 cd17 ct17 oc18 kV18 dc18 pm18 cd18 ct18 oc19 kV19 dc19 pm19 cd19 ct19 oc20 kV20 dc20 pm20 cd20 ct20 oc21 kV21 dc21 pm21 cd21 ct21 oc22 kV22 dc22 pm22 cd22 ct22 oc23 kV23 dc23 pm23 cd23 ct23 oc24 kV24 dc24 pm24 cd24 ct24 oc25 kV25 dc25 pm25 cd25 ct25 oc26 kV26 dc26 pm26 cd26 ct26 oc27 kV27 dc27 pm27 cd27 ct27 oc28 kV28 dc28 pm28 cd28 ct28 oc29 kV29 dc29 pm29 cd29 ct29 oc30 kV30 dc30 pm30 cd30 ct30 oc31 kV31 dc31 pm31 cd31 ct31 oc32 kV32 dc32 pm32 cd32 ct32 ocI kVI dcI pmI cdI ctI : Value}
    {nm qn : Str} {Nn : Addr} {bs sub : List Value} {sn : List Str} {ab : Bool} {col : Option Bool} {m0 m1 m2 m3 m5 : Option Value} {tg1 tg2 tg3 : Tok}
    (xcFE : PySem.W.nsIn K mainGlobals "FarError" = some (some (.ref zcFE)))
    (xcBF : PySem.W.nsIn K mainGlobals "BadFrame" = some (some (.ref zcBF)))
    (xcBT : PySem.W.nsIn K mainGlobals "BadText" = some (some (.ref zcBT)))
    (mlen : PySem.W.nsIn K mainGlobals "len" = some none)
    (mabs : PySem.W.nsIn K mainGlobals "abs" = some none)
    (mint : PySem.W.nsIn K mainGlobals "int" = some none)
    (mstr : PySem.W.nsIn K mainGlobals "str" = some none)
    (mtuple : PySem.W.nsIn K mainGlobals "tuple" = some none)
    (mlist : PySem.W.nsIn K mainGlobals "list" = some none)
    (mall : PySem.W.nsIn K mainGlobals "all" = some none)
    (mmin : PySem.W.nsIn K mainGlobals "min" = some none)
    (mbool : PySem.W.nsIn K mainGlobals "bool" = some none)
    (misinstance : PySem.W.nsIn K mainGlobals "isinstance" = some none)
    (mrepr : PySem.W.nsIn K mainGlobals "repr" = some none)
    (mrange : PySem.W.nsIn K mainGlobals "range" = some none)
    (menumerate : PySem.W.nsIn K mainGlobals "enumerate" = some none)
    (hgcBF : PySem.W.findIn K (.ref zcBF) "__getattribute__" = some (some (.builtin "BaseException.__getattribute__")))
    (hkcBF : PySem.W.findIn K (.ref zcBF) "__getattr__" = some none)
    (hscBF : PySem.W.subIn K (.ref zcBF) (.type "BaseException") = some true)
    (hdcBF : PySem.W.hasDictIn K zcBF = true)
    (hacBF : PySem.W.findIn K (.ref zcBF) "__class__" = some (some (.builtin "object.__class__")))
    (hmcBF : PySem.W.mroIn K zcBF (.type "object") = some true)
    (sucBF : PySem.W.subIn K (.ref zcBF) (.ref zcFE) = some true)
    (tycBF : PySem.W.typeIn K (.ref zcBF) = some (.type "type"))
    (kccBF : PySem.W.keepIn K (.ref zcBF) = true)
    (hgcBT : PySem.W.findIn K (.ref zcBT) "__getattribute__" = some (some (.builtin "BaseException.__getattribute__")))
    (hkcBT : PySem.W.findIn K (.ref zcBT) "__getattr__" = some none)
    (hscBT : PySem.W.subIn K (.ref zcBT) (.type "BaseException") = some true)
    (hdcBT : PySem.W.hasDictIn K zcBT = true)
    (hacBT : PySem.W.findIn K (.ref zcBT) "__class__" = some (some (.builtin "object.__class__")))
    (hmcBT : PySem.W.mroIn K zcBT (.type "object") = some true)
    (sucBT : PySem.W.subIn K (.ref zcBT) (.ref zcFE) = some true)
    (tycBT : PySem.W.typeIn K (.ref zcBT) = some (.type "type"))
    (kccBT : PySem.W.keepIn K (.ref zcBT) = true)
    (s1 : PySem.W.subIn K (.ref zcFE) (.type "BaseException") = some true)
    (s2 : PySem.W.hasDictIn K zcFE = true)
    (s3 : PySem.W.typeIn K (.ref zcFE) = some (.type "type"))
    (hn : PySem.W.specialIn K (.builtin "object.__class__") "__get__" = some (some (.builtin "getset_descriptor.__get__")))
    (ht : PySem.W.takesIn K (.builtin "object.__class__") = some true)
    (no : PySem.W.findIn K (.ref zcBT) "line" = some none)
    (sa : PySem.W.findIn K (.ref zcBT) "__setattr__" = some (some (.builtin "object.__setattr__")))
    (qB : PySem.W.excIn K zcBF [.type "ValueError", .type "Exception", .type "BaseException", .type "object"] "ValueError.__new__" = true)
    (xL : K.lookup zcBT = some (excClassObj nm qn zcBT Nn bs [.ref zcFE, .type "ValueError", .type "Exception", .type "BaseException", .type "object"] true sn sub ab col dd m0 m1 m2 m3 m5 "ValueError.__new__"))
    (bg : PySem.W.specialIn K (.ref zcFE) "__getattribute__" = some (some (.builtin "type.__getattribute__")))
    (br : PySem.W.readsIn K zcFE (.type "type") = true)
    (bf : PySem.W.findCls K (.ref zcFE) (.type "type") "__init__" = some (.val (.builtin "ValueError.__init__")))
    (g1 : PySem.W.nsIn K mainGlobals "LETTERS" = some (some (.str ⟨[97, 98, 99, 100, 101, 102, 103, 104, 105, 106, 107, 108, 109, 110, 111, 112, 113, 114, 115, 116, 117, 118, 119, 120, 121, 122].toArray⟩ tg1)))
    (g2 : PySem.W.nsIn K mainGlobals "FIGURES" = some (some (.str ⟨[48, 49, 50, 51, 52, 53, 54, 55, 56, 57].toArray⟩ tg2)))
    (g3 : PySem.W.nsIn K mainGlobals "MOST_RULE" = some (some (.int 5 tg3)))
    (g4 : PySem.W.nsIn K mainGlobals "WORDS" = some (some (.ref aW)))
    (g5 : tupIn K aW = some [.str [108, 97, 110, 100, 101, 100], .str [108, 101, 102, 116]])
    (a0 : PySem.W.nsIn K mainGlobals "is_number" = some (some (.ref f0)))
    (l0 : K.lookup f0 = some ⟨oc0, od0, .func (PySem.W.fnOf "is_number" "is_number" (defArgs s_is_number) (defBody s_is_number) (defScope s_is_number) .none kV0 dc0 pm0 an0 cd0 ct0), sl0⟩)
    (c0 : PySem.W.codeIn K cd0 "is_number" = true)
    (k0 : PySem.W.keepIn K (.ref f0) = true)
    (a1 : PySem.W.nsIn K mainGlobals "is_name" = some (some (.ref f1)))
    (l1 : K.lookup f1 = some ⟨oc1, od1, .func (PySem.W.fnOf "is_name" "is_name" (defArgs s_is_name) (defBody s_is_name) (defScope s_is_name) .none kV1 dc1 pm1 an1 cd1 ct1), sl1⟩)
    (c1 : PySem.W.codeIn K cd1 "is_name" = true)
    (k1 : PySem.W.keepIn K (.ref f1) = true)
    (a2 : PySem.W.nsIn K mainGlobals "is_count" = some (some (.ref f2)))
    (l2 : K.lookup f2 = some ⟨oc2, od2, .func (PySem.W.fnOf "is_count" "is_count" (defArgs s_is_count) (defBody s_is_count) (defScope s_is_count) .none kV2 dc2 pm2 an2 cd2 ct2), sl2⟩)
    (c2 : PySem.W.codeIn K cd2 "is_count" = true)
    (k2 : PySem.W.keepIn K (.ref f2) = true)
    (a3 : PySem.W.nsIn K mainGlobals "is_tell" = some (some (.ref f3)))
    (l3 : K.lookup f3 = some ⟨oc3, od3, .func (PySem.W.fnOf "is_tell" "is_tell" (defArgs s_is_tell) (defBody s_is_tell) (defScope s_is_tell) .none kV3 dc3 pm3 an3 cd3 ct3), sl3⟩)
    (c3 : PySem.W.codeIn K cd3 "is_tell" = true)
    (k3 : PySem.W.keepIn K (.ref f3) = true)
    (a4 : PySem.W.nsIn K mainGlobals "is_ask" = some (some (.ref f4)))
    (l4 : K.lookup f4 = some ⟨oc4, od4, .func (PySem.W.fnOf "is_ask" "is_ask" (defArgs s_is_ask) (defBody s_is_ask) (defScope s_is_ask) .none kV4 dc4 pm4 an4 cd4 ct4), sl4⟩)
    (c4 : PySem.W.codeIn K cd4 "is_ask" = true)
    (k4 : PySem.W.keepIn K (.ref f4) = true)
    (a5 : PySem.W.nsIn K mainGlobals "is_told" = some (some (.ref f5)))
    (l5 : K.lookup f5 = some ⟨oc5, od5, .func (PySem.W.fnOf "is_told" "is_told" (defArgs s_is_told) (defBody s_is_told) (defScope s_is_told) .none kV5 dc5 pm5 an5 cd5 ct5), sl5⟩)
    (c5 : PySem.W.codeIn K cd5 "is_told" = true)
    (k5 : PySem.W.keepIn K (.ref f5) = true)
    (a6 : PySem.W.nsIn K mainGlobals "is_frame" = some (some (.ref f6)))
    (l6 : K.lookup f6 = some ⟨oc6, od6, .func (PySem.W.fnOf "is_frame" "is_frame" (defArgs s_is_frame) (defBody s_is_frame) (defScope s_is_frame) .none kV6 dc6 pm6 an6 cd6 ct6), sl6⟩)
    (c6 : PySem.W.codeIn K cd6 "is_frame" = true)
    (k6 : PySem.W.keepIn K (.ref f6) = true)
    (a7 : PySem.W.nsIn K mainGlobals "frame_line" = some (some (.ref f7)))
    (l7 : K.lookup f7 = some ⟨oc7, od7, .func (PySem.W.fnOf "frame_line" "frame_line" (defArgs s_frame_line) (defBody s_frame_line) (defScope s_frame_line) .none kV7 dc7 pm7 an7 cd7 ct7), sl7⟩)
    (c7 : PySem.W.codeIn K cd7 "frame_line" = true)
    (k7 : PySem.W.keepIn K (.ref f7) = true)
    (a8 : PySem.W.nsIn K mainGlobals "frame_text" = some (some (.ref f8)))
    (l8 : K.lookup f8 = some ⟨oc8, od8, .func (PySem.W.fnOf "frame_text" "frame_text" (defArgs s_frame_text) (defBody s_frame_text) (defScope s_frame_text) .none kV8 dc8 pm8 an8 cd8 ct8), sl8⟩)
    (c8 : PySem.W.codeIn K cd8 "frame_text" = true)
    (k8 : PySem.W.keepIn K (.ref f8) = true)
    (a9 : PySem.W.nsIn K mainGlobals "number_in" = some (some (.ref f9)))
    (l9 : K.lookup f9 = some ⟨oc9, od9, .func (PySem.W.fnOf "number_in" "number_in" (defArgs s_number_in) (defBody s_number_in) (defScope s_number_in) .none kV9 dc9 pm9 an9 cd9 ct9), sl9⟩)
    (c9 : PySem.W.codeIn K cd9 "number_in" = true)
    (k9 : PySem.W.keepIn K (.ref f9) = true)
    (a10 : PySem.W.nsIn K mainGlobals "frame_in" = some (some (.ref f10)))
    (l10 : K.lookup f10 = some ⟨oc10, od10, .func (PySem.W.fnOf "frame_in" "frame_in" (defArgs s_frame_in) (defBody s_frame_in) (defScope s_frame_in) .none kV10 dc10 pm10 an10 cd10 ct10), sl10⟩)
    (c10 : PySem.W.codeIn K cd10 "frame_in" = true)
    (k10 : PySem.W.keepIn K (.ref f10) = true)
    (a11 : PySem.W.nsIn K mainGlobals "cut_text" = some (some (.ref f11)))
    (l11 : K.lookup f11 = some ⟨oc11, od11, .func (PySem.W.fnOf "cut_text" "cut_text" (defArgs s_cut_text) (defBody s_cut_text) (defScope s_cut_text) .none kV11 dc11 pm11 an11 cd11 ct11), sl11⟩)
    (c11 : PySem.W.codeIn K cd11 "cut_text" = true)
    (k11 : PySem.W.keepIn K (.ref f11) = true)
    (a12 : PySem.W.nsIn K mainGlobals "read_frames" = some (some (.ref f12)))
    (l12 : K.lookup f12 = some ⟨oc12, od12, .func (PySem.W.fnOf "read_frames" "read_frames" (defArgs s_read_frames) (defBody s_read_frames) (defScope s_read_frames) .none kV12 dc12 pm12 an12 cd12 ct12), sl12⟩)
    (c12 : PySem.W.codeIn K cd12 "read_frames" = true)
    (k12 : PySem.W.keepIn K (.ref f12) = true)
    (a13 : PySem.W.nsIn K mainGlobals "_law_begun" = some (some (.ref f13)))
    (l13 : K.lookup f13 = some ⟨oc13, od13, .func (PySem.W.fnOf "_law_begun" "_law_begun" (defArgs s_law_begun) (defBody s_law_begun) (defScope s_law_begun) .none kV13 dc13 pm13 an13 cd13 ct13), sl13⟩)
    (c13 : PySem.W.codeIn K cd13 "_law_begun" = true)
    (k13 : PySem.W.keepIn K (.ref f13) = true)
    (a14 : PySem.W.nsIn K mainGlobals "_law_mixed" = some (some (.ref f14)))
    (l14 : K.lookup f14 = some ⟨oc14, od14, .func (PySem.W.fnOf "_law_mixed" "_law_mixed" (defArgs s_law_mixed) (defBody s_law_mixed) (defScope s_law_mixed) .none kV14 dc14 pm14 an14 cd14 ct14), sl14⟩)
    (c14 : PySem.W.codeIn K cd14 "_law_mixed" = true)
    (k14 : PySem.W.keepIn K (.ref f14) = true)
    (a15 : PySem.W.nsIn K mainGlobals "_law_take" = some (some (.ref f15)))
    (l15 : K.lookup f15 = some ⟨oc15, od15, .func (PySem.W.fnOf "_law_take" "_law_take" (defArgs s_law_take) (defBody s_law_take) (defScope s_law_take) .none kV15 dc15 pm15 an15 cd15 ct15), sl15⟩)
    (c15 : PySem.W.codeIn K cd15 "_law_take" = true)
    (k15 : PySem.W.keepIn K (.ref f15) = true)
    (a16 : PySem.W.nsIn K mainGlobals "_law_pick" = some (some (.ref f16)))
    (l16 : K.lookup f16 = some ⟨oc16, od16, .func (PySem.W.fnOf "_law_pick" "_law_pick" (defArgs s_law_pick) (defBody s_law_pick) (defScope s_law_pick) .none kV16 dc16 pm16 an16 cd16 ct16), sl16⟩)
    (c16 : PySem.W.codeIn K cd16 "_law_pick" = true)
    (k16 : PySem.W.keepIn K (.ref f16) = true)
    (a17 : PySem.W.nsIn K mainGlobals "_law_caught" = some (some (.ref f17)))
    (l17 : K.lookup f17 = some ⟨oc17, od17, .func (PySem.W.fnOf "_law_caught" "_law_caught" (defArgs s_law_caught) (defBody s_law_caught) (defScope s_law_caught) .none kV17 dc17 pm17 an17 cd17 ct17), sl17⟩)
    (c17 : PySem.W.codeIn K cd17 "_law_caught" = true)
    (k17 : PySem.W.keepIn K (.ref f17) = true)
    (a18 : PySem.W.nsIn K mainGlobals "_law_says" = some (some (.ref f18)))
    (l18 : K.lookup f18 = some ⟨oc18, od18, .func (PySem.W.fnOf "_law_says" "_law_says" (defArgs s_law_says) (defBody s_law_says) (defScope s_law_says) .none kV18 dc18 pm18 an18 cd18 ct18), sl18⟩)
    (c18 : PySem.W.codeIn K cd18 "_law_says" = true)
    (k18 : PySem.W.keepIn K (.ref f18) = true)
    (a19 : PySem.W.nsIn K mainGlobals "_law_word" = some (some (.ref f19)))
    (l19 : K.lookup f19 = some ⟨oc19, od19, .func (PySem.W.fnOf "_law_word" "_law_word" (defArgs s_law_word) (defBody s_law_word) (defScope s_law_word) .none kV19 dc19 pm19 an19 cd19 ct19), sl19⟩)
    (c19 : PySem.W.codeIn K cd19 "_law_word" = true)
    (k19 : PySem.W.keepIn K (.ref f19) = true)
    (a20 : PySem.W.nsIn K mainGlobals "_law_number" = some (some (.ref f20)))
    (l20 : K.lookup f20 = some ⟨oc20, od20, .func (PySem.W.fnOf "_law_number" "_law_number" (defArgs s_law_number) (defBody s_law_number) (defScope s_law_number) .none kV20 dc20 pm20 an20 cd20 ct20), sl20⟩)
    (c20 : PySem.W.codeIn K cd20 "_law_number" = true)
    (k20 : PySem.W.keepIn K (.ref f20) = true)
    (a21 : PySem.W.nsIn K mainGlobals "_law_frame" = some (some (.ref f21)))
    (l21 : K.lookup f21 = some ⟨oc21, od21, .func (PySem.W.fnOf "_law_frame" "_law_frame" (defArgs s_law_frame) (defBody s_law_frame) (defScope s_law_frame) .none kV21 dc21 pm21 an21 cd21 ct21), sl21⟩)
    (c21 : PySem.W.codeIn K cd21 "_law_frame" = true)
    (k21 : PySem.W.keepIn K (.ref f21) = true)
    (a22 : PySem.W.nsIn K mainGlobals "_law_is_name" = some (some (.ref f22)))
    (l22 : K.lookup f22 = some ⟨oc22, od22, .func (PySem.W.fnOf "_law_is_name" "_law_is_name" (defArgs s_law_is_name) (defBody s_law_is_name) (defScope s_law_is_name) .none kV22 dc22 pm22 an22 cd22 ct22), sl22⟩)
    (c22 : PySem.W.codeIn K cd22 "_law_is_name" = true)
    (k22 : PySem.W.keepIn K (.ref f22) = true)
    (a23 : PySem.W.nsIn K mainGlobals "_law_is_from" = some (some (.ref f23)))
    (l23 : K.lookup f23 = some ⟨oc23, od23, .func (PySem.W.fnOf "_law_is_from" "_law_is_from" (defArgs s_law_is_from) (defBody s_law_is_from) (defScope s_law_is_from) .none kV23 dc23 pm23 an23 cd23 ct23), sl23⟩)
    (c23 : PySem.W.codeIn K cd23 "_law_is_from" = true)
    (k23 : PySem.W.keepIn K (.ref f23) = true)
    (a24 : PySem.W.nsIn K mainGlobals "_law_is_a_frame" = some (some (.ref f24)))
    (l24 : K.lookup f24 = some ⟨oc24, od24, .func (PySem.W.fnOf "_law_is_a_frame" "_law_is_a_frame" (defArgs s_law_is_a_frame) (defBody s_law_is_a_frame) (defScope s_law_is_a_frame) .none kV24 dc24 pm24 an24 cd24 ct24), sl24⟩)
    (c24 : PySem.W.codeIn K cd24 "_law_is_a_frame" = true)
    (k24 : PySem.W.keepIn K (.ref f24) = true)
    (a25 : PySem.W.nsIn K mainGlobals "_law_text_of" = some (some (.ref f25)))
    (l25 : K.lookup f25 = some ⟨oc25, od25, .func (PySem.W.fnOf "_law_text_of" "_law_text_of" (defArgs s_law_text_of) (defBody s_law_text_of) (defScope s_law_text_of) .none kV25 dc25 pm25 an25 cd25 ct25), sl25⟩)
    (c25 : PySem.W.codeIn K cd25 "_law_text_of" = true)
    (k25 : PySem.W.keepIn K (.ref f25) = true)
    (a26 : PySem.W.nsIn K mainGlobals "_law_frame_in" = some (some (.ref f26)))
    (l26 : K.lookup f26 = some ⟨oc26, od26, .func (PySem.W.fnOf "_law_frame_in" "_law_frame_in" (defArgs s_law_frame_in) (defBody s_law_frame_in) (defScope s_law_frame_in) .none kV26 dc26 pm26 an26 cd26 ct26), sl26⟩)
    (c26 : PySem.W.codeIn K cd26 "_law_frame_in" = true)
    (k26 : PySem.W.keepIn K (.ref f26) = true)
    (a27 : PySem.W.nsIn K mainGlobals "_law_read" = some (some (.ref f27)))
    (l27 : K.lookup f27 = some ⟨oc27, od27, .func (PySem.W.fnOf "_law_read" "_law_read" (defArgs s_law_read) (defBody s_law_read) (defScope s_law_read) .none kV27 dc27 pm27 an27 cd27 ct27), sl27⟩)
    (c27 : PySem.W.codeIn K cd27 "_law_read" = true)
    (k27 : PySem.W.keepIn K (.ref f27) = true)
    (a28 : PySem.W.nsIn K mainGlobals "_law_near_frames" = some (some (.ref f28)))
    (l28 : K.lookup f28 = some ⟨oc28, od28, .func (PySem.W.fnOf "_law_near_frames" "_law_near_frames" (defArgs s_law_near_frames) (defBody s_law_near_frames) (defScope s_law_near_frames) .none kV28 dc28 pm28 an28 cd28 ct28), sl28⟩)
    (c28 : PySem.W.codeIn K cd28 "_law_near_frames" = true)
    (k28 : PySem.W.keepIn K (.ref f28) = true)
    (a29 : PySem.W.nsIn K mainGlobals "_law_bent_text" = some (some (.ref f29)))
    (l29 : K.lookup f29 = some ⟨oc29, od29, .func (PySem.W.fnOf "_law_bent_text" "_law_bent_text" (defArgs s_law_bent_text) (defBody s_law_bent_text) (defScope s_law_bent_text) .none kV29 dc29 pm29 an29 cd29 ct29), sl29⟩)
    (c29 : PySem.W.codeIn K cd29 "_law_bent_text" = true)
    (k29 : PySem.W.keepIn K (.ref f29) = true)
    (a30 : PySem.W.nsIn K mainGlobals "_law_pieces_right" = some (some (.ref f30)))
    (l30 : K.lookup f30 = some ⟨oc30, od30, .func (PySem.W.fnOf "_law_pieces_right" "_law_pieces_right" (defArgs s_law_pieces_right) (defBody s_law_pieces_right) (defScope s_law_pieces_right) .none kV30 dc30 pm30 an30 cd30 ct30), sl30⟩)
    (c30 : PySem.W.codeIn K cd30 "_law_pieces_right" = true)
    (k30 : PySem.W.keepIn K (.ref f30) = true)
    (a31 : PySem.W.nsIn K mainGlobals "_law_right" = some (some (.ref f31)))
    (l31 : K.lookup f31 = some ⟨oc31, od31, .func (PySem.W.fnOf "_law_right" "_law_right" (defArgs s_law_right) (defBody s_law_right) (defScope s_law_right) .none kV31 dc31 pm31 an31 cd31 ct31), sl31⟩)
    (c31 : PySem.W.codeIn K cd31 "_law_right" = true)
    (k31 : PySem.W.keepIn K (.ref f31) = true)
    (a32 : PySem.W.nsIn K mainGlobals "law" = some (some (.ref f32)))
    (l32 : K.lookup f32 = some ⟨oc32, od32, .func (PySem.W.fnOf "law" "law" (defArgs s_law) (defBody s_law) (defScope s_law) .none kV32 dc32 pm32 an32 cd32 ct32), sl32⟩)
    (c32 : PySem.W.codeIn K cd32 "law" = true)
    (k32 : PySem.W.keepIn K (.ref f32) = true)
    (ai : PySem.W.findIn K (.ref zcBT) "__init__" = some (some (.ref fI)))
    (li : K.lookup fI = some ⟨ocI, odI, .func (PySem.W.fnOf "__init__" "BadText.__init__" (defArgs sInit) (defBody sInit) (defScope sInit) .none kVI dcI pmI anI cdI ctI), slI⟩)
    (ci : PySem.W.codeIn K cdI "BadText.__init__" = true)
    (ki : PySem.W.keepIn K (.ref fI) = true)
    (ti : PySem.W.typeIn K (.ref fI) = some (.type "function"))
    (e1 : cd31 = .ref zc1)
    (e2 : cd32 = .ref zc2)
    (h1 : PySem.W.codeHdIn K zc1 zP1 = true)
    (h2 : PySem.W.codeHdIn K zc2 zP2 = true)
    (n1 : K.lookup zP1 = none)
    (n2 : K.lookup zP2 = none)
    (hP : zP1 ≠ zP2)
    : LawD l w K 11 63 "script" mg fa h :=
  all_mk ⟨zcFE, zcBF, zcBT, zc1, zP1, zc2, zP2⟩ X G hfa hT1 hT2 xcFE xcBF xcBT mlen mabs mint mstr mtuple mlist mall mmin mbool misinstance mrepr mrange menumerate hgcBF hkcBF hscBF hdcBF hacBF hmcBF sucBF tycBF kccBF hgcBT hkcBT hscBT hdcBT hacBT hmcBT sucBT tycBT kccBT s1 s2 s3 hn ht no sa qB xL bg br bf g1 g2 g3 g4 g5 a0 l0 c0 k0 a1 l1 c1 k1 a2 l2 c2 k2 a3 l3 c3 k3 a4 l4 c4 k4 a5 l5 c5 k5 a6 l6 c6 k6 a7 l7 c7 k7 a8 l8 c8 k8 a9 l9 c9 k9 a10 l10 c10 k10 a11 l11 c11 k11 a12 l12 c12 k12 a13 l13 c13 k13 a14 l14 c14 k14 a15 l15 c15 k15 a16 l16 c16 k16 a17 l17 c17 k17 a18 l18 c18 k18 a19 l19 c19 k19 a20 l20 c20 k20 a21 l21 c21 k21 a22 l22 c22 k22 a23 l23 c23 k23 a24 l24 c24 k24 a25 l25 c25 k25 a26 l26 c26 k26 a27 l27 c27 k27 a28 l28 c28 k28 a29 l29 c29 k29 a30 l30 c30 k30 a31 l31 c31 k31 a32 l32 c32 k32 ai li ci ki ti e1 e2 h1 h2 n1 n2 hP (PL _)
end K25
end
section
set_option Elab.async false
set_option linter.all false
set_option maxRecDepth 100000
set_option maxHeartbeats 4000000
namespace K25
open PySem PySem.Spec PyProof.Rows L2 LamX DL

/-! ### split and join -/
theorem split_app (c : Nat) (y : List Nat) : ∀ x : List Nat, ∃ (as : List (List Nat)) (a b : List Nat) (bs : List (List Nat)), splitL c x = as ++ [a] ∧ splitL c y = b :: bs ∧ splitL c (x ++ y) = as ++ (a ++ b) :: bs
  | [] => by
    cases e : splitL c y with
    | nil => exact (splitL_ne c y e).elim
    | cons b bs => exact ⟨[], [], b, bs, rfl, rfl, e⟩
  | d :: x => by
    obtain ⟨as, a, b, bs, h1, h2, h3⟩ := split_app c y x
    by_cases hd : d = c
    · refine ⟨[] :: as, a, b, bs, ?_, h2, ?_⟩
      · simp only [splitL, if_pos hd, h1, List.cons_append]
      · simp only [List.cons_append, splitL, if_pos hd, h3]
    · cases as with
      | nil =>
        refine ⟨[], d :: a, b, bs, ?_, h2, ?_⟩
        · simp only [splitL, if_neg hd, h1, List.nil_append]
        · simp only [List.cons_append, splitL, if_neg hd, h3, List.nil_append]
      | cons p as =>
        refine ⟨(d :: p) :: as, a, b, bs, ?_, h2, ?_⟩
        · simp only [splitL, if_neg hd, h1, List.cons_append]
        · simp only [List.cons_append, splitL, if_neg hd, h3]
theorem split_no {c : Nat} : ∀ {l : List Nat}, c ∉ l → splitL c l = [l]
  | [], _ => rfl
  | d :: l, h => by
    have h1 : d ≠ c := fun z => h (z ▸ List.mem_cons_self ..)
    have h2 := split_no (c := c) (l := l) fun z => h (List.mem_cons_of_mem _ z)
    simp only [splitL, if_neg h1, h2]
theorem split_cons {c : Nat} {p l : List Nat} (h : c ∉ p) : splitL c (p ++ c :: l) = p :: splitL c l := by
  obtain ⟨as, a, b, bs, h1, h2, h3⟩ := split_app c (c :: l) p
  rw [split_no h] at h1
  cases as with
  | nil =>
    cases h1
    simp only [splitL, if_true] at h2
    cases h2
    rw [h3, List.append_nil]
    rfl
  | cons q as =>
    have := congrArg List.length h1
    simp at this
theorem split_join {c : Nat} : ∀ {ps : List (List Nat)}, ps ≠ [] → (∀ p ∈ ps, c ∉ p) → splitL c (TL.joinL [c] ps) = ps
  | [], h, _ => (h rfl).elim
  | [p], _, h => split_no (h p (.head _))
  | p :: q :: r, _, h => by
    show splitL c (p ++ ([c] ++ TL.joinL [c] (q :: r))) = _
    rw [List.singleton_append, split_cons (h p (.head _)), split_join (by simp) fun x hx => h x (.tail _ hx)]
theorem join_cons {c : Nat} {p : List Nat} {ps : List (List Nat)} (h : ps ≠ []) : TL.joinL [c] (p :: ps) = p ++ c :: TL.joinL [c] ps := by
  cases ps with
  | nil => exact (h rfl).elim
  | cons q r => rfl
theorem join_split (c : Nat) : ∀ l : List Nat, TL.joinL [c] (splitL c l) = l
  | [] => rfl
  | d :: l => by
    have ih := join_split c l
    by_cases hd : d = c
    · simp only [splitL, if_pos hd]
      rw [join_cons (splitL_ne c l), ih, hd]
      rfl
    · simp only [splitL, if_neg hd]
      cases e : splitL c l with
      | nil => exact (splitL_ne c l e).elim
      | cons p ps =>
        rw [e] at ih
        cases ps with
        | nil =>
          show d :: p = d :: l
          rw [← ih]
          rfl
        | cons q r =>
          show (d :: p) ++ ([c] ++ TL.joinL [c] (q :: r)) = d :: l
          rw [← ih]
          rfl
theorem split_free (c : Nat) : ∀ (l : List Nat), ∀ p ∈ splitL c l, c ∉ p
  | [], p, h => by
    simp only [splitL, List.mem_singleton] at h
    rw [h]
    simp
  | d :: l, p, h => by
    have ih := split_free c l
    by_cases hd : d = c
    · simp only [splitL, if_pos hd, List.mem_cons] at h
      rcases h with rfl | h
      · simp
      · exact ih p h
    · simp only [splitL, if_neg hd] at h
      cases e : splitL c l with
      | nil => exact (splitL_ne c l e).elim
      | cons q r =>
        rw [e] at h ih
        rcases List.mem_cons.mp h with rfl | h
        · intro z
          rcases List.mem_cons.mp z with z | z
          · exact hd z.symm
          · exact ih q (.head _) z
        · exact ih p (.tail _ h)
theorem split_lines : ∀ (ls : List (List Nat)), (∀ l ∈ ls, 10 ∉ l) → splitL 10 (ls.map (· ++ [10])).flatten = ls ++ [[]]
  | [], _ => rfl
  | l :: ls, h => by
    have ih := split_lines ls fun x hx => h x (.tail _ hx)
    rw [List.map_cons, List.flatten_cons, List.append_assoc, List.singleton_append, split_cons (h l (.head _)), ih]
    rfl
/-! ### how long the words are -/
/-- each word of x's lines has at most n signs -/
def Wl (n : Nat) (x : List Nat) : Prop := ∀ L ∈ splitL 10 x, ∀ w ∈ splitL 32 L, w.length ≤ n
theorem ws_left {n : Nat} {x y : List Nat} (h : ∀ w ∈ splitL 32 (x ++ y), w.length ≤ n) : ∀ w ∈ splitL 32 x, w.length ≤ n := by
  obtain ⟨as, a, b, bs, h1, h2, h3⟩ := split_app 32 y x
  rw [h1]
  rw [h3] at h
  intro w hw
  rcases List.mem_append.mp hw with hw | hw
  · exact h w (List.mem_append_left _ hw)
  · rw [List.mem_singleton.mp hw]
    have := h (a ++ b) (List.mem_append_right _ (.head _))
    rw [List.length_append] at this
    omega
theorem ws_right {n : Nat} {x y : List Nat} (h : ∀ w ∈ splitL 32 (x ++ y), w.length ≤ n) : ∀ w ∈ splitL 32 y, w.length ≤ n := by
  obtain ⟨as, a, b, bs, h1, h2, h3⟩ := split_app 32 y x
  rw [h2]
  rw [h3] at h
  intro w hw
  rcases List.mem_cons.mp hw with rfl | hw
  · have := h (a ++ w) (List.mem_append_right _ (.head _))
    rw [List.length_append] at this
    omega
  · exact h w (List.mem_append_right _ (.tail _ hw))
theorem wl_left {n : Nat} {x y : List Nat} (h : Wl n (x ++ y)) : Wl n x := by
  obtain ⟨as, a, b, bs, h1, h2, h3⟩ := split_app 10 y x
  unfold Wl at h ⊢
  rw [h1]
  rw [h3] at h
  intro L hL
  rcases List.mem_append.mp hL with hL | hL
  · exact h L (List.mem_append_left _ hL)
  · rw [List.mem_singleton.mp hL]
    exact ws_left (h (a ++ b) (List.mem_append_right _ (.head _)))
theorem wl_right {n : Nat} {x y : List Nat} (h : Wl n (x ++ y)) : Wl n y := by
  obtain ⟨as, a, b, bs, h1, h2, h3⟩ := split_app 10 y x
  unfold Wl at h ⊢
  rw [h2]
  rw [h3] at h
  intro L hL
  rcases List.mem_cons.mp hL with rfl | hL
  · exact ws_right (h (a ++ L) (List.mem_append_right _ (.head _)))
  · exact h L (List.mem_append_right _ (.tail _ hL))
theorem Wl.mono {m n : Nat} {x : List Nat} (h : Wl m x) (l : m ≤ n) : Wl n x := fun L hL w hw => Nat.le_trans (h L hL w hw) l

/-! ### frames -/
def lets : List Nat := [97, 98, 99, 100, 101, 102, 103, 104, 105, 106, 107, 108, 109, 110, 111, 112, 113, 114, 115, 116, 117, 118, 119, 120, 121, 122]
def isName (w : List Nat) : Bool := decide (1 ≤ w.length) && (decide (w.length ≤ 6) && w.all fun c => decide (c ∈ lets))
def sTell : List Nat := [116, 101, 108, 108]
def sAsk : List Nat := [97, 115, 107]
def sTold : List Nat := [116, 111, 108, 100]
def sLanded : List Nat := [108, 97, 110, 100, 101, 100]
def sLeft : List Nat := [108, 101, 102, 116]
inductive Fr where
  | tell (k : List Nat) (n : Nat) (vs : List (List Nat))
  | ask (k : List Nat) (n m r p : Nat)
  | told (k : List Nat) (n m : Nat) (x : List Nat)
def Fr.ok : Fr → Prop
  | .tell k _ vs => isName k = true ∧ 1 ≤ vs.length ∧ vs.length ≤ 3 ∧ ∀ v ∈ vs, isName v = true
  | .ask k n m r _ => isName k = true ∧ 1 ≤ n ∧ 1 ≤ m ∧ r ≤ 5
  | .told k n m x => isName k = true ∧ 1 ≤ n ∧ 1 ≤ m ∧ (x = sLanded ∨ x = sLeft)
def Fr.d : Fr → Dat
  | .tell k n vs => .tup [.str sTell, .str k, .int n, .tup (vs.map Dat.str)]
  | .ask k n m r p => .tup [.str sAsk, .str k, .int n, .int m, .int r, .int p]
  | .told k n m x => .tup [.str sTold, .str k, .int n, .int m, .str x]
def Fr.ws : Fr → List (List Nat)
  | .tell k n vs => [sTell, k, TL.numL n, TL.joinL [44] vs]
  | .ask k n m r p => [sAsk, k, TL.numL n, TL.numL m, TL.numL r, TL.numL p]
  | .told k n m x => [sTold, k, TL.numL n, TL.numL m, x]
def Fr.line (f : Fr) : List Nat := TL.joinL [32] f.ws
theorem name_let {w : List Nat} (h : isName w = true) : (∀ c ∈ w, c ∈ lets) ∧ 1 ≤ w.length ∧ w.length ≤ 6 := by
  unfold isName at h
  simp only [Bool.and_eq_true, decide_eq_true_eq, List.all_eq_true] at h
  exact ⟨h.2.2, h.1, h.2.1⟩
theorem lets_no {c d : Nat} (h : c ∈ lets) (hd : d ∉ lets) : d ≠ c := fun e => hd (e ▸ h)
theorem name_no {w : List Nat} {d : Nat} (h : isName w = true) (hd : d ∉ lets) : d ∉ w := fun z => hd ((name_let h).1 d z)
theorem join_no {c d : Nat} (hcd : d ≠ c) : ∀ {ps : List (List Nat)}, (∀ p ∈ ps, d ∉ p) → d ∉ TL.joinL [c] ps
  | [], _ => by simp [TL.joinL]
  | [p], h => h p (.head _)
  | p :: q :: r, h => by
    rw [join_cons (by simp)]
    intro z
    rcases List.mem_append.mp z with z | z
    · exact h p (.head _) z
    · rcases List.mem_cons.mp z with z | z
      · exact hcd z
      · exact join_no hcd (fun x hx => h x (.tail _ hx)) z
/-- no word of a frame holds a sign below 44 or so -/
theorem ws_no {f : Fr} (h : f.ok) {d : Nat} (hd : d = 32 ∨ d = 10) : ∀ w ∈ f.ws, d ∉ w := by
  have hl : d ∉ lets := by rcases hd with rfl | rfl <;> decide
  have hn : ∀ n, d ∉ TL.numL n := fun n => TL.numL_free (by rcases hd with rfl | rfl <;> decide)
  have hc : d ≠ 44 := by rcases hd with rfl | rfl <;> decide
  have lit : ∀ s ∈ [sTell, sAsk, sTold, sLanded, sLeft], d ∉ s := by rcases hd with rfl | rfl <;> decide
  intro w hw
  cases f with
  | tell k n vs =>
    simp only [Fr.ws, List.mem_cons, List.not_mem_nil, or_false] at hw
    rcases hw with rfl | rfl | rfl | rfl
    · exact lit _ (by simp)
    · exact name_no h.1 hl
    · exact hn _
    · exact join_no hc fun p hp => name_no (h.2.2.2 p hp) hl
  | ask k n m r p =>
    simp only [Fr.ws, List.mem_cons, List.not_mem_nil, or_false] at hw
    rcases hw with rfl | rfl | rfl | rfl | rfl | rfl
    · exact lit _ (by simp)
    · exact name_no h.1 hl
    all_goals exact hn _
  | told k n m x =>
    simp only [Fr.ws, List.mem_cons, List.not_mem_nil, or_false] at hw
    rcases hw with rfl | rfl | rfl | rfl | rfl
    · exact lit _ (by simp)
    · exact name_no h.1 hl
    · exact hn _
    · exact hn _
    · rcases h.2.2.2 with e | e <;> rw [e]
      · exact lit _ (by simp)
      · exact lit _ (by simp)
theorem ws_ne (f : Fr) : f.ws ≠ [] := by cases f <;> simp [Fr.ws]
theorem line_split {f : Fr} (h : f.ok) : splitL 32 f.line = f.ws := split_join (ws_ne f) (ws_no h (.inl rfl))
theorem line_no {f : Fr} (h : f.ok) : 10 ∉ f.line := join_no (by decide) (ws_no h (.inr rfl))
/-- as many words as the first word tells -/
def many (w : List Nat) : Nat := if w = sTell then 4 else if w = sAsk then 6 else 5
theorem ws_many (f : Fr) : ∃ w r, f.ws = w :: r ∧ f.ws.length = many w ∧ w.length ≤ 4 := by
  cases f with
  | tell k n vs => exact ⟨_, _, rfl, rfl, by decide⟩
  | ask k n m r p => exact ⟨_, _, rfl, rfl, by decide⟩
  | told k n m x => exact ⟨_, _, rfl, rfl, by decide⟩
/-- a made frame: its numbers are small -/
def Fr.small (f : Fr) : Prop := ∀ w ∈ f.ws, w.length ≤ 20
/-! ### a text with one place bent -/
theorem mem_mid {α : Type} {as bs : List α} {m x : α} (h : x ∈ as ++ m :: bs) : x ∈ as ∨ x = m ∨ x ∈ bs := by
  rcases List.mem_append.mp h with h | h
  · exact .inl h
  · rcases List.mem_cons.mp h with h | h
    · exact .inr (.inl h)
    · exact .inr (.inr h)
end K25
end
section
set_option Elab.async false
set_option linter.all false
set_option maxRecDepth 100000
set_option maxHeartbeats 4000000
namespace K25
open PySem PySem.Spec PyProof.Rows L2 LamX DL

/-- a made text: each of its lines is a made frame's, or empty -/
def Made (x : List Nat) : Prop := ∀ L ∈ splitL 10 x, L = [] ∨ ∃ g : Fr, g.ok ∧ g.small ∧ L = g.line
def Sm (L : List Nat) : Prop := ∀ w ∈ splitL 32 L, w.length ≤ 20
theorem made_sm {L : List Nat} (h : L = [] ∨ ∃ g : Fr, g.ok ∧ g.small ∧ L = g.line) : Sm L := by
  rcases h with rfl | ⟨g, h1, h2, rfl⟩
  · intro w hw
    simp only [splitL, List.mem_singleton] at hw
    rw [hw]
    exact Nat.zero_le _
  · intro w hw
    rw [line_split h1] at hw
    exact h2 w hw
theorem made_head {L : List Nat} (h : L = [] ∨ ∃ g : Fr, g.ok ∧ g.small ∧ L = g.line) {b : List Nat} {bs : List (List Nat)} (e : splitL 32 L = b :: bs) : b.length ≤ 4 := by
  rcases h with rfl | ⟨g, h1, h2, rfl⟩
  · simp only [splitL, List.cons.injEq] at e
    rw [← e.1]
    exact Nat.zero_le _
  · rw [line_split h1] at e
    obtain ⟨w, r, e1, _, e3⟩ := ws_many g
    rw [e1] at e
    cases e
    exact e3
/-- what may stand at the bent place -/
def Sign (s : List Nat) : Prop := s.length ≤ 4 ∧ ((10 ∉ s ∧ (32 ∉ s ∨ s = [32])) ∨ s = [10] ∨ s = [10, 10])
/-- the words of a line are few signs long, or it is no frame's line -/
def Few (L : List Nat) : Prop := (∀ w ∈ splitL 32 L, w.length ≤ 44) ∧ ∀ f : Fr, f.ok → L = f.line → ∀ w ∈ f.ws, w.length < 30
theorem few_sm {L : List Nat} (h : Sm L) : Few L := ⟨fun w hw => by have := h w hw; omega, fun f h1 h2 w hw => by
  rw [h2] at h
  have := h w (by rw [line_split h1]; exact hw)
  omega⟩
/-- all words but one are small -/
theorem few_mid {as bs : List (List Nat)} {m L : List Nat} (e : splitL 32 L = as ++ m :: bs) (h1 : ∀ w ∈ as, w.length ≤ 20) (h2 : ∀ w ∈ bs, w.length ≤ 20) (h3 : m.length ≤ 44) (h4 : ∀ f : Fr, f.ok → L = f.line → m.length < 30) : Few L := by
  refine ⟨fun w hw => ?_, fun f ok eL w hw => ?_⟩
  · rw [e] at hw
    rcases mem_mid hw with hw | rfl | hw
    · have := h1 w hw
      omega
    · exact h3
    · have := h2 w hw
      omega
  · have hw' : w ∈ splitL 32 L := by
      rw [eL, line_split ok]
      exact hw
    rw [e] at hw'
    rcases mem_mid hw' with hw | rfl | hw
    · have := h1 w hw
      omega
    · exact h4 f ok eL
    · have := h2 w hw
      omega
theorem join_left {as : List (List Nat)} {a b0 : List Nat} {bs : List (List Nat)} {n : Nat} (h : ∀ w ∈ as ++ (a ++ b0) :: bs, w.length ≤ n) : (∀ w ∈ as, w.length ≤ n) ∧ (∀ w ∈ bs, w.length ≤ n) ∧ a.length + b0.length ≤ n := by
  refine ⟨fun w hw => h w (List.mem_append_left _ hw), fun w hw => h w (List.mem_append_right _ (.tail _ hw)), ?_⟩
  have := h (a ++ b0) (List.mem_append_right _ (.head _))
  rw [List.length_append] at this
  exact this
/-- the bent line itself: a and b are the parts of x's line(s) on both sides -/
theorem bent_line {a b s c : List Nat} (hs : Sign s) (ns : 10 ∉ s) (hc : c.length ≤ 1) (h : if c = [10] then (a = [] ∨ ∃ g : Fr, g.ok ∧ g.small ∧ a = g.line) ∧ (b = [] ∨ ∃ g : Fr, g.ok ∧ g.small ∧ b = g.line) else (a ++ (c ++ b) = [] ∨ ∃ g : Fr, g.ok ∧ g.small ∧ a ++ (c ++ b) = g.line)) : Few (a ++ (s ++ b)) := by
  obtain ⟨as, a0, b0, bs, h1, h2, h3⟩ := split_app 32 b a
  -- both parts are small
  have sab : Sm a ∧ Sm b := by
    split at h
    · exact ⟨made_sm h.1, made_sm h.2⟩
    · exact ⟨ws_left (made_sm h), ws_right (ws_right (made_sm h))⟩
  have sa := sab.1
  have sb := sab.2
  unfold Sm at sa sb
  rw [h1] at sa
  rw [h2] at sb
  have sas : ∀ w ∈ as, w.length ≤ 20 := fun w hw => sa w (List.mem_append_left _ hw)
  have sa0 : a0.length ≤ 20 := sa a0 (List.mem_append_right _ (.head _))
  have sbs : ∀ w ∈ bs, w.length ≤ 20 := fun w hw => sb w (.tail _ hw)
  have sb0 : b0.length ≤ 20 := sb b0 (.head _)
  rcases hs with ⟨l4, (⟨_, ns32 | rfl⟩ | rfl | rfl)⟩
  · -- no blank in s: one word of three parts
    have e : splitL 32 (a ++ (s ++ b)) = as ++ (a0 ++ (s ++ b0)) :: bs := by
      obtain ⟨cs, c0, d0, ds, q1, q2, q3⟩ := split_app 32 b s
      rw [split_no ns32] at q1
      have : cs = [] ∧ c0 = s := by
        cases cs with
        | nil =>
          cases q1
          exact ⟨rfl, rfl⟩
        | cons _ _ =>
          have := congrArg List.length q1
          simp at this
      obtain ⟨rfl, rfl⟩ := this
      rw [h2] at q2
      cases q2
      obtain ⟨es, e0, f0, fs, r1, r2, r3⟩ := split_app 32 (c0 ++ b) a
      rw [h1] at r1
      obtain ⟨rfl, r4⟩ := List.append_inj' r1 rfl
      cases r4
      rw [q3] at r2
      cases r2
      exact r3
    refine few_mid e sas sbs (by simp only [List.length_append]; omega) fun f ok eL => ?_
    simp only [List.length_append]
    split at h
    · have := made_head h.2 h2
      omega
    · match c, hc with
      | [], _ =>
        have hw := made_sm h
        unfold Sm at hw
        rw [List.nil_append, h3] at hw
        have := (join_left hw).2.2
        omega
      | [ch], _ =>
        rename_i nc
        by_cases h32 : ch = 32
        · subst h32
          have ew : splitL 32 (a ++ ([32] ++ b)) = as ++ a0 :: b0 :: bs := by
            obtain ⟨es, e0, f0, fs, r1, r2, r3⟩ := split_app 32 ([32] ++ b) a
            rw [h1] at r1
            obtain ⟨rfl, r4⟩ := List.append_inj' r1 rfl
            cases r4
            simp only [List.singleton_append, splitL, if_true, h2] at r2
            cases r2
            rw [r3, List.append_nil]
          rcases h with h | ⟨g, g1, g2, g3⟩
          · simp at h
          · rw [g3, line_split g1] at ew
            rw [eL, line_split ok] at e
            obtain ⟨w1, r1, q1, q2, q3⟩ := ws_many f
            obtain ⟨w2, r2, p1, p2, p3⟩ := ws_many g
            cases as with
            | nil =>
              rw [e] at q1
              cases q1
              rw [List.length_append, List.length_append] at q3
              omega
            | cons t ts =>
              have l1 := congrArg List.length e
              have l2 := congrArg List.length ew
              have hw1 : w1 = t := by
                rw [q1] at e
                exact (List.cons.inj e).1
              have hw2 : w2 = t := by
                rw [p1] at ew
                exact (List.cons.inj ew).1
              rw [q2, hw1] at l1
              rw [p2, hw2] at l2
              simp only [List.length_append, List.length_cons] at l1 l2
              omega
        · have hw := made_sm h
          unfold Sm at hw
          have ew : splitL 32 (a ++ ([ch] ++ b)) = as ++ (a0 ++ ([ch] ++ b0)) :: bs := by
            obtain ⟨es, e0, f0, fs, r1, r2, r3⟩ := split_app 32 ([ch] ++ b) a
            rw [h1] at r1
            obtain ⟨rfl, r4⟩ := List.append_inj' r1 rfl
            cases r4
            simp only [List.singleton_append, splitL, if_neg h32, h2] at r2
            cases r2
            exact r3
          rw [ew] at hw
          have := (join_left hw).2.2
          simp only [List.length_append, List.length_singleton] at this
          omega
  · -- a blank: two words
    have e : splitL 32 (a ++ ([32] ++ b)) = as ++ a0 :: b0 :: bs := by
      obtain ⟨es, e0, f0, fs, r1, r2, r3⟩ := split_app 32 ([32] ++ b) a
      rw [h1] at r1
      obtain ⟨rfl, r4⟩ := List.append_inj' r1 rfl
      cases r4
      simp only [List.singleton_append, splitL, if_true, h2] at r2
      cases r2
      rw [r3, List.append_nil]
    refine few_sm fun w hw => ?_
    rw [e] at hw
    rcases mem_mid hw with hw | rfl | hw
    · exact sas w hw
    · exact sa0
    · rcases List.mem_cons.mp hw with rfl | hw
      · exact sb0
      · exact sbs w hw
  · exact (ns (.head _)).elim
  · exact (ns (.head _)).elim
theorem bent {A B s c : List Nat} (hs : Sign s) (hc : c.length ≤ 1) (hx : Made (A ++ (c ++ B))) : ∀ L ∈ splitL 10 (A ++ (s ++ B)), Few L := by
  obtain ⟨as, a, b, bs, h1, h2, h3⟩ := split_app 10 B A
  have cut : ∀ y z zs, splitL 10 (y ++ B) = z :: zs → splitL 10 (A ++ (y ++ B)) = as ++ (a ++ z) :: zs := fun y z zs e => by
    obtain ⟨es, e0, f0, fs, r1, r2, r3⟩ := split_app 10 (y ++ B) A
    rw [h1] at r1
    obtain ⟨rfl, r4⟩ := List.append_inj' r1 rfl
    cases r4
    rw [e] at r2
    cases r2
    exact r3
  have plain : ∀ y, 10 ∉ y → splitL 10 (y ++ B) = (y ++ b) :: bs := fun y ny => by
    obtain ⟨cs, c0, d0, ds, q1, q2, q3⟩ := split_app 10 B y
    rw [split_no ny] at q1
    cases cs with
    | nil =>
      cases q1
      rw [h2] at q2
      cases q2
      exact q3
    | cons _ _ =>
      have := congrArg List.length q1
      simp at this
  -- the lines of x
  have old : (∀ L ∈ as, Sm L) ∧ (∀ L ∈ bs, Sm L) ∧ (if c = [10] then (a = [] ∨ ∃ g : Fr, g.ok ∧ g.small ∧ a = g.line) ∧ (b = [] ∨ ∃ g : Fr, g.ok ∧ g.small ∧ b = g.line) else (a ++ (c ++ b) = [] ∨ ∃ g : Fr, g.ok ∧ g.small ∧ a ++ (c ++ b) = g.line)) := by
    unfold Made at hx
    by_cases h10 : c = [10]
    · subst h10
      have e : splitL 10 (A ++ ([10] ++ B)) = as ++ (a ++ []) :: b :: bs := cut [10] [] (b :: bs) (by simp only [List.singleton_append, splitL, if_true, h2])
      rw [e, List.append_nil] at hx
      rw [if_pos rfl]
      exact ⟨fun L hL => made_sm (hx L (List.mem_append_left _ hL)), fun L hL => made_sm (hx L (List.mem_append_right _ (.tail _ (.tail _ hL)))), hx a (List.mem_append_right _ (.head _)), hx b (List.mem_append_right _ (.tail _ (.head _)))⟩
    · have nc : 10 ∉ c := fun z => by
        match c, hc with
        | [], _ => cases z
        | [ch], _ =>
          rw [List.mem_singleton] at z
          exact h10 (by rw [z])
      rw [cut c _ _ (plain c nc)] at hx
      rw [if_neg h10]
      exact ⟨fun L hL => made_sm (hx L (List.mem_append_left _ hL)), fun L hL => made_sm (hx L (List.mem_append_right _ (.tail _ hL))), hx _ (List.mem_append_right _ (.head _))⟩
  obtain ⟨o1, o2, o3⟩ := old
  have sab : Sm a ∧ Sm b := by
    split at o3
    · exact ⟨made_sm o3.1, made_sm o3.2⟩
    · exact ⟨ws_left (made_sm o3), ws_right (ws_right (made_sm o3))⟩
  by_cases ns : 10 ∈ s
  · rcases hs with ⟨_, (⟨n, _⟩ | rfl | rfl)⟩
    · exact (n ns).elim
    · have e : splitL 10 (A ++ ([10] ++ B)) = as ++ (a ++ []) :: b :: bs := cut [10] [] (b :: bs) (by simp only [List.singleton_append, splitL, if_true, h2])
      rw [e, List.append_nil]
      intro L hL
      rcases mem_mid hL with hL | rfl | hL
      · exact few_sm (o1 L hL)
      · exact few_sm sab.1
      · rcases List.mem_cons.mp hL with rfl | hL
        · exact few_sm sab.2
        · exact few_sm (o2 L hL)
    · have e : splitL 10 (A ++ ([10, 10] ++ B)) = as ++ (a ++ []) :: [] :: b :: bs := cut [10, 10] [] ([] :: b :: bs) (by simp only [List.cons_append, List.nil_append, splitL, if_true, h2])
      rw [e, List.append_nil]
      intro L hL
      rcases mem_mid hL with hL | rfl | hL
      · exact few_sm (o1 L hL)
      · exact few_sm sab.1
      · rcases List.mem_cons.mp hL with rfl | hL
        · exact few_sm (made_sm (.inl rfl))
        · rcases List.mem_cons.mp hL with rfl | hL
          · exact few_sm sab.2
          · exact few_sm (o2 L hL)
  · rw [cut s _ _ (plain s ns)]
    intro L hL
    rcases mem_mid hL with hL | rfl | hL
    · exact few_sm (o1 L hL)
    · exact bent_line hs ns hc o3
    · exact few_sm (o2 L hL)
/-- the lines of a made text's beginning -/
theorem made_take {A B : List Nat} (hx : Made (A ++ B)) : ∀ L ∈ splitL 10 A, Few L := by
  obtain ⟨as, a, b, bs, h1, h2, h3⟩ := split_app 10 B A
  unfold Made at hx
  rw [h3] at hx
  rw [h1]
  intro L hL
  rcases List.mem_append.mp hL with hL | hL
  · exact few_sm (made_sm (hx L (List.mem_append_left _ hL)))
  · rw [List.mem_singleton.mp hL]
    exact few_sm (ws_left (made_sm (hx _ (List.mem_append_right _ (.head _)))))
end K25
end
section
set_option Elab.async false
set_option linter.all false
set_option maxRecDepth 100000
set_option maxHeartbeats 4000000
namespace K25
open PySem PySem.Spec PyProof.Rows L2 LamX DL

/-! ### the program's tests -/
/-- data that may be looked at: no exception, no handle, no text past the line -/
def okD : Dat → Bool
  | .non => true
  | .bl _ => true
  | .int _ => true
  | .str x => decide (x.length ≤ line)
  | .tup _ => true
  | .lst _ => true
  | _ => false
def isStr : Dat → Bool
  | .str _ => true
  | _ => false
def isTup : Dat → Bool
  | .tup _ => true
  | _ => false
def isBl : Dat → Bool
  | .bl _ => true
  | _ => false
def isInt : Dat → Bool
  | .int _ => true
  | .bl _ => true
  | _ => false
theorem ty_str {d : Dat} (h : okD d = true) : isiD "str" d = some (.bl (isStr d)) := by cases d <;> first | rfl | cases h
theorem ty_tup {d : Dat} (h : okD d = true) : isiD "tuple" d = some (.bl (isTup d)) := by cases d <;> first | rfl | cases h
theorem ty_int {d : Dat} (h : okD d = true) : isiD "int" d = some (.bl (isInt d)) := by cases d <;> first | rfl | cases h
theorem ty_bool {d : Dat} (h : okD d = true) : isiD "bool" d = some (.bl (isBl d)) := by cases d <;> first | rfl | cases h
theorem eqI {neg : Bool} {i j : Int} : eqD neg (.int i) (.int j) = some (.bl (if neg then !(i == j) else (i == j))) := rfl
theorem eqS {neg : Bool} {a b : List Nat} : eqD neg (.str a) (.str b) = some (.bl (if neg then !decide (a = b) else decide (a = b))) := rfl
theorem line_big : (1000000 : Nat) ≤ line := by decide
def numD' : Dat → Bool := fun d => isInt d && !isBl d
theorem is_number_eq (Z : Ad) (d : Dat) (h : okD d = true) : den_is_number Z [d] () = .ok (.bl (isInt d && !isBl d)) () := by
  show retOf (fs_is_number Z [some (.d d)] ()) = _
  exact r_ret (k_ret (v_and (v_un1 (v_name rfl) (ty_int h)) fun _ => v_not (v_un1 (v_name rfl) (ty_bool h))))
def nameB : Dat → Bool
  | .str w => isName w
  | _ => false
theorem bls_map {α : Type} (f : α → Bool) : ∀ l : List α, blsOf (l.map fun c => Dat.bl (f c)) = some (l.map f)
  | [] => rfl
  | c :: l => by simp only [List.map_cons, blsOf, bls_map f l, Option.map_some]
theorem all_bls {α : Type} (f : α → Bool) (l : List α) : allD [.lst (l.map fun c => Dat.bl (f c))] = some (.bl (l.all f)) := by
  simp only [allD, bls_map, Option.map_some, List.all_map]
  rfl
theorem sgn_map {β : Type} (w : List Nat) (g : Nat → β) (h : Dat → β) (e : ∀ c, h (.str [c]) = g c) : (sgnD w).map h = w.map g := by
  unfold sgnD
  rw [List.map_map]
  exact List.map_congr_left fun c _ => e c
theorem cmpI {p : Int → Int → Bool} {i j : Int} : cmpD p (.int i) (.int j) = some (.bl (p i j)) := rfl
theorem is_name_eq (Z : Ad) (d : Dat) (h : okD d = true) : den_is_name Z [d] () = .ok (.bl (nameB d)) () := by
  show retOf (fs_is_name Z [some (.d d), none] ()) = _
  have key : isStr d = true → andV (chn (cmpD fun i j => decide (i ≤ j)) (cmpD fun i j => decide (i ≤ j)) (cst (.int 1)) (callD lenD (aCons (vName 0) aNil)) (cst (.int 6))) (callD allD (aCons (lcD (putN 1) [1] (itmS itmC (vName 0)) (cst true) (op2 (isInD false) (vName 1) (cst (.str [97, 98, 99, 100, 101, 102, 103, 104, 105, 106, 107, 108, 109, 110, 111, 112, 113, 114, 115, 116, 117, 118, 119, 120, 121, 122])))) aNil)) [some (.d d), none] () = .ok (.bl (nameB d)) () := by
    intro hs
    cases d with
    | str w =>
      have hw : w.length ≤ line := by simpa [okD] using h
      have e1 : lcD (T := Unit) (putN 1) [1] (itmS itmC (vName 0)) (cst true) (op2 (isInD false) (vName 1) (cst (.str [97, 98, 99, 100, 101, 102, 103, 104, 105, 106, 107, 108, 109, 110, 111, 112, 113, 114, 115, 116, 117, 118, 119, 120, 121, 122]))) [some (.d (.str w)), none] () = .ok (.lst (w.map fun c => .bl (decide (c ∈ lets)))) () := by
        rw [lcD_map (t1 := ()) (ds := sgnD w) (fun d => [some (.d (.str w)), some (.d d)]) (fun d => match d with | .str [c] => .bl (decide (c ∈ lets)) | _ => .non) rfl rfl ?_ (by simp [sgnD]; exact hw), sgn_map w (fun c => .bl (decide (c ∈ lets))) _ fun _ => rfl]
        intro d hd
        simp only [sgnD, List.mem_map] at hd
        obtain ⟨c, _, rfl⟩ := hd
        exact ⟨rfl, rfl⟩
      refine (v_and (v_chn (a := decide (1 ≤ w.length)) (b := decide (w.length ≤ 6)) v_cst (v_callD (v_cons (v_name rfl) v_nil) (if_pos hw)) ?_ fun _ => ⟨v_cst, ?_⟩) fun _ => v_callD (v_cons e1 v_nil) (all_bls _ w)).trans ?_
      · rw [cmpI]
        congr 2
        simp
        omega
      · rw [cmpI]
        congr 2
        simp
        omega
      · unfold nameB isName
        rw [Bool.and_assoc]
    | _ => cases hs
  refine r_ret ((k_ret (v_and (v_un1 (v_name rfl) (ty_str h)) key)).trans ?_)
  cases d <;> rfl
def numB (l : Int) : Dat → Bool
  | .int i => decide (l ≤ i)
  | _ => false
theorem is_count_eq (Z : Ad) (d : Dat) (l : Int) (h : okD d = true) : den_is_count Z [d, .int l] () = .ok (.bl (numB l d)) () := by
  show retOf (fs_is_count Z [some (.d d), some (.d (.int l))] ()) = _
  refine r_ret ((k_ret (v_and (b := numB l d) (v_callP (v_cons (v_name rfl) v_nil) rfl (is_number_eq Z d h)) fun q => ?_)).trans ?_)
  · cases d with
    | int i => exact v_op2 (v_name rfl) (v_name rfl) rfl
    | _ => cases q
  · cases d <;> rfl
/-- a tuple's parts that may be looked at -/
structure GoodL (ds : List Dat) : Prop where
  ok : ∀ d ∈ ds, okD d = true
  tup : ∀ vs, Dat.tup vs ∈ ds → vs.length ≤ 1000 ∧ ∀ v ∈ vs, okD v = true
def tellB : List Dat → Bool
  | [_, _, n, .tup vs] => numB 0 n && (decide (1 ≤ vs.length) && (decide (vs.length ≤ 3) && vs.all nameB))
  | _ => false
def leB (l : Int) : Dat → Bool
  | .int i => decide (i ≤ l)
  | _ => false
def askB : List Dat → Bool
  | [_, _, n, m, r, p] => numB 1 n && (numB 1 m && (numB 0 r && (leB 5 r && numB 0 p)))
  | _ => false
def toldB : List Dat → Bool
  | [_, _, n, m, .str x] => numB 1 n && (numB 1 m && (decide (sLanded = x) || decide (sLeft = x)))
  | _ => false
theorem len_ne {ds : List Dat} {k : Nat} : eqD true (.int ds.length) (.int k) = some (.bl (!decide (ds.length = k))) := by
  rw [eqI]
  by_cases h : ds.length = k
  · simp [h]
  · have : ¬ ((ds.length : Int) = (k : Int)) := by omega
    simp [h, this]
theorem is_tell_eq (Z : Ad) (ds : List Dat) (g : GoodL ds) : den_is_tell Z [.tup ds] () = .ok (.bl (tellB ds)) () := by
  show retOf (fs_is_tell Z [some (.d (.tup ds)), none] ()) = _
  by_cases hl : ds.length = 4
  · match ds, hl, g with
    | [a, b, n, x], _, g =>
      have hn := g.ok n (by simp)
      have hx := g.ok x (by simp)
      refine r_ret (k_guard (t_or (t_asb (v_op2 (v_callD (v_cons (v_name rfl) v_nil) rfl) v_cst (len_ne (ds := [a, b, n, x]) (k := 4)))) fun _ => t_or (t_not (t_tru (v_callP (v_cons (v_op2 (v_name rfl) v_cst rfl) (v_cons v_cst v_nil)) rfl (is_count_eq Z n 0 hn)) rfl)) fun _ => t_not (t_tru (v_un1 (v_op2 (v_name rfl) v_cst rfl) (ty_tup hx)) rfl)) (fun q => ?_) (fun q => ?_) (fun _ _ _ z => by cases z))
      · refine (k_ret v_cst).trans ?_
        simp at q
        cases x with
        | tup vs =>
          have : numB 0 n = false := by simpa [isTup] using q
          simp only [tellB, this, Bool.false_and]
        | _ => rfl
      · cases x with
        | tup vs =>
          have qn : numB 0 n = true := by simpa [isTup] using q
          obtain ⟨hv, ok⟩ := g.tup vs (by simp)
          have e1 : lcD (T := Unit) (putN 1) [1] (itmS itmT (op2 ixD (vName 0) (cst (.int 3)))) (cst true) (callP 1 (den_is_name Z) (aCons (vName 1) aNil)) [some (.d (.tup [a, b, n, .tup vs])), none] () = .ok (.lst (vs.map fun v => .bl (nameB v))) () :=
            lcD_map (t1 := ()) (ds := vs) (fun d => [some (.d (.tup [a, b, n, .tup vs])), some (.d d)]) (fun v => .bl (nameB v)) rfl rfl (fun d hd => ⟨rfl, v_callP (v_cons (v_name rfl) v_nil) rfl (is_name_eq Z d (ok d hd))⟩) (Nat.le_trans hv (by decide))
          refine (k_ret (v_and (v_chn (a := decide (1 ≤ vs.length)) (b := decide (vs.length ≤ 3)) v_cst (v_callD (v_cons (v_op2 (v_name rfl) v_cst rfl) v_nil) rfl) ?_ fun _ => ⟨v_cst, ?_⟩) fun _ => v_callD (v_cons e1 v_nil) (all_bls _ vs))).trans ?_
          · rw [cmpI]
            congr 2
            simp
            omega
          · rw [cmpI]
            congr 2
            simp
            omega
          · simp only [tellB, qn, Bool.true_and, Bool.and_assoc]
        | _ => simp [isTup] at q
  · have q : (!decide (ds.length = 4)) = true := by simp [hl]
    have e : tellB ds = false := by
      unfold tellB
      split
      · exact (hl rfl).elim
      · rfl
    rw [e]
    exact r_ret (k_guard (t_or (b := true) (t_asb (v_op2 (v_callD (v_cons (v_name rfl) v_nil) rfl) v_cst (len_ne (ds := ds) (k := 4)))) fun z => by rw [q] at z; cases z) (fun _ => k_ret v_cst) (fun z => by simp at z) (fun _ _ _ z => by cases z))
theorem is_ask_eq (Z : Ad) (ds : List Dat) (g : GoodL ds) : den_is_ask Z [.tup ds] () = .ok (.bl (askB ds)) () := by
  show retOf (fs_is_ask Z [some (.d (.tup ds))] ()) = _
  by_cases hl : ds.length = 6
  · match ds, hl, g with
    | [a, b, n, m, r, p], _, g =>
      have cnt : ∀ (x : Dat) (i l : Int), x ∈ [a, b, n, m, r, p] → ixD (.tup [a, b, n, m, r, p]) (.int i) = some x → callP 2 (den_is_count Z) (aCons (op2 ixD (vName 0) (cst (.int i))) (aCons (cst (.int l)) aNil)) [some (.d (.tup [a, b, n, m, r, p]))] () = .ok (.bl (numB l x)) () := fun x i l hx hi =>
        v_callP (v_cons (v_op2 (v_name rfl) v_cst hi) (v_cons v_cst v_nil)) rfl (is_count_eq Z x l (g.ok x hx))
      refine r_ret (k_guard (t_or (t_asb (v_op2 (v_callD (v_cons (v_name rfl) v_nil) rfl) v_cst (len_ne (ds := [a, b, n, m, r, p]) (k := 6)))) fun _ => t_or (t_not (t_tru (cnt n 2 1 (by simp) rfl) rfl)) fun _ => t_not (t_tru (cnt m 3 1 (by simp) rfl) rfl)) (fun q => ?_) (fun q => ?_) (fun _ _ _ z => by cases z))
      · refine (k_ret v_cst).trans ?_
        simp at q
        have : (numB 1 n && (numB 1 m && (numB 0 r && (leB 5 r && numB 0 p)))) = false := by
          rcases q with q | q
          · simp [q]
          · simp [q]
        simp only [askB, this]
      · simp at q
        refine (k_ret (v_and (b := leB 5 r && numB 0 p) (cnt r 4 0 (by simp) rfl) fun q4 => v_and (v_op2 (v_op2 (v_name rfl) v_cst (show ixD (.tup [a, b, n, m, r, p]) (.int 4) = some r from rfl)) v_cst ?_) fun _ => cnt p 5 0 (by simp) rfl)).trans ?_
        · cases r with
          | int i => rfl
          | _ => cases q4
        · simp only [askB, q.1, q.2, Bool.true_and]
  · have q : (!decide (ds.length = 6)) = true := by simp [hl]
    have e : askB ds = false := by
      unfold askB
      split
      · exact (hl rfl).elim
      · rfl
    rw [e]
    exact r_ret (k_guard (t_or (b := true) (t_asb (v_op2 (v_callD (v_cons (v_name rfl) v_nil) rfl) v_cst (len_ne (ds := ds) (k := 6)))) fun z => by rw [q] at z; cases z) (fun _ => k_ret v_cst) (fun z => by simp at z) (fun _ _ _ z => by cases z))
theorem is_told_eq (Z : Ad) (ds : List Dat) (g : GoodL ds) : den_is_told Z [.tup ds] () = .ok (.bl (toldB ds)) () := by
  show retOf (fs_is_told Z [some (.d (.tup ds))] ()) = _
  by_cases hl : ds.length = 5
  · match ds, hl, g with
    | [a, b, n, m, x], _, g =>
      have cnt : ∀ (y : Dat) (i l : Int), y ∈ [a, b, n, m, x] → ixD (.tup [a, b, n, m, x]) (.int i) = some y → callP 2 (den_is_count Z) (aCons (op2 ixD (vName 0) (cst (.int i))) (aCons (cst (.int l)) aNil)) [some (.d (.tup [a, b, n, m, x]))] () = .ok (.bl (numB l y)) () := fun y i l hx hi =>
        v_callP (v_cons (v_op2 (v_name rfl) v_cst hi) (v_cons v_cst v_nil)) rfl (is_count_eq Z y l (g.ok y hx))
      have hx := g.ok x (by simp)
      refine r_ret (k_guard (t_or (t_asb (v_op2 (v_callD (v_cons (v_name rfl) v_nil) rfl) v_cst (len_ne (ds := [a, b, n, m, x]) (k := 5)))) fun _ => t_or (t_not (t_tru (cnt n 2 1 (by simp) rfl) rfl)) fun _ => t_not (t_tru (cnt m 3 1 (by simp) rfl) rfl)) (fun q => ?_) (fun q => ?_) (fun _ _ _ z => by cases z))
      · refine (k_ret v_cst).trans ?_
        simp at q
        cases x with
        | str w =>
          have : (numB 1 n && (numB 1 m && (decide (sLanded = w) || decide (sLeft = w)))) = false := by
            rcases q with q | q
            · simp [q]
            · simp [q]
          simp only [toldB, this]
        | _ => rfl
      · simp at q
        cases x with
        | str w =>
          have e : isInD false (.str w) (.tup [.str [108, 97, 110, 100, 101, 100], .str [108, 101, 102, 116]]) = some (.bl (decide (sLanded = w) || decide (sLeft = w))) := by
            have r : ∀ w, isInD false (.str w) (.tup [.str [108, 97, 110, 100, 101, 100], .str [108, 101, 102, 116]]) = some (.bl (decide (sLanded = w) || (decide (sLeft = w) || false))) := fun w => by
              match w with
              | [] => rfl
              | [c] => rfl
              | _ :: _ :: _ => rfl
            rw [r, Bool.or_false]
          refine (k_ret (v_and (v_un1 (v_op2 (v_name rfl) v_cst rfl) (ty_str hx)) fun _ => v_op2 (v_op2 (v_name rfl) v_cst rfl) v_cst e)).trans ?_
          simp only [toldB, q.1, q.2, Bool.true_and, isStr]
        | _ => exact (k_ret (v_and (b := true) (v_un1 (v_op2 (v_name rfl) v_cst rfl) (ty_str hx)) fun z => by cases z)).trans rfl
  · have q : (!decide (ds.length = 5)) = true := by simp [hl]
    have e : toldB ds = false := by
      unfold toldB
      split
      · exact (hl rfl).elim
      · rfl
    rw [e]
    exact r_ret (k_guard (t_or (b := true) (t_asb (v_op2 (v_callD (v_cons (v_name rfl) v_nil) rfl) v_cst (len_ne (ds := ds) (k := 5)))) fun z => by rw [q] at z; cases z) (fun _ => k_ret v_cst) (fun z => by simp at z) (fun _ _ _ z => by cases z))
/-- what is_frame answers -/
def frameB : Dat → Bool
  | .tup (.str a :: k :: r) => nameB k && (if a = sTell then tellB (.str a :: k :: r) else if a = sAsk then askB (.str a :: k :: r) else decide (a = sTold) && toldB (.str a :: k :: r))
  | _ => false
def GoodD : Dat → Prop
  | .tup ds => GoodL ds
  | d => okD d = true
end K25
end
section
set_option Elab.async false
set_option linter.all false
set_option maxRecDepth 100000
set_option maxHeartbeats 4000000
namespace K25
open PySem PySem.Spec PyProof.Rows L2 LamX DL

theorem atI_nat {α : Type} {l : List α} {j : Nat} (h : j < l.length) : atI l (j : Int) = l[j]? := by
  unfold atI ixN
  rw [if_pos (by omega), if_pos (by omega), Int.toNat_natCast]
  rfl
theorem good_ok {d : Dat} (h : GoodD d) : okD d = true := by
  cases d with
  | tup ds => rfl
  | _ => exact h
theorem is_frame_eq (Z : Ad) (d : Dat) (h : GoodD d) : den_is_frame Z [d] () = .ok (.bl (frameB d)) () := by
  have hd := good_ok h
  show retOf (fs_is_frame Z [some (.d d)] ()) = _
  cases d with
  | tup ds =>
    have g : GoodL ds := h
    match ds, g with
    | [], _ => rfl
    | [x], _ =>
      have e : frameB (.tup [x]) = false := by
        cases x <;> rfl
      rw [e]
      exact r_ret (k_guard (t_or (t_not (t_tru (v_un1 (v_name rfl) rfl) rfl)) fun _ => t_or (b := true) (t_asb (v_op2 (v_callD (v_cons (v_name rfl) v_nil) rfl) v_cst rfl)) fun z => by cases z) (fun _ => k_ret v_cst) (fun z => by cases z) (fun _ _ _ z => by cases z))
    | x :: k :: r, g =>
      have hx := g.ok x (by simp)
      have hk := g.ok k (by simp)
      have i0 : ixD (.tup (x :: k :: r)) (.int 0) = some x := by
        exact atI_nat (l := x :: k :: r) (j := 0) (by simp)
      have i1 : ixD (.tup (x :: k :: r)) (.int 1) = some k := by
        exact atI_nat (l := x :: k :: r) (j := 1) (by simp)
      have lt2 : cmpD (fun i j => decide (i < j)) (.int ((x :: k :: r).length : Nat)) (.int 2) = some (.bl false) := by
        show some (Dat.bl (decide (((x :: k :: r).length : Int) < 2))) = _
        rw [decide_eq_false (by rw [List.length_cons, List.length_cons]; omega)]
      refine r_ret (k_guard (t_or (t_not (t_tru (v_un1 (v_name rfl) rfl) rfl)) fun _ => t_or (t_asb (v_op2 (v_callD (v_cons (v_name rfl) v_nil) rfl) v_cst lt2)) fun _ => t_or (t_not (t_tru (v_un1 (v_op2 (v_name rfl) v_cst i0) (ty_str hx)) rfl)) fun _ => t_not (t_tru (v_callP (v_cons (v_op2 (v_name rfl) v_cst i1) v_nil) rfl (is_name_eq Z k hk)) rfl)) (fun q => ?_) (fun q => ?_) (fun _ _ _ z => by cases z))
      · refine (k_ret v_cst).trans ?_
        cases x with
        | str a =>
          have : nameB k = false := by simpa [isTup, isStr, isTab] using q
          simp only [frameB, this, Bool.false_and]
        | _ => rfl
      · cases x with
        | str a =>
          have qk : nameB k = true := by simpa [isTup, isStr, isTab] using q
          simp only [frameB, qk, Bool.true_and]
          refine k_guard (t_asb (v_op2 (v_op2 (v_name rfl) v_cst i0) v_cst eqS)) (fun q1 => ?_) (fun q1 => ?_) (fun _ _ _ z => by cases z)
          · have e : a = sTell := show a = [116, 101, 108, 108] by simpa using q1
            rw [if_pos e]
            exact k_ret (v_callP (v_cons (v_name rfl) v_nil) rfl (is_tell_eq Z _ g))
          · have e : ¬ a = sTell := show ¬ a = [116, 101, 108, 108] by simpa using q1
            rw [if_neg e]
            refine k_guard (t_asb (v_op2 (v_op2 (v_name rfl) v_cst i0) v_cst eqS)) (fun q2 => ?_) (fun q2 => ?_) (fun _ _ _ z => by cases z)
            · have e : a = sAsk := show a = [97, 115, 107] by simpa using q2
              rw [if_pos e]
              exact k_ret (v_callP (v_cons (v_name rfl) v_nil) rfl (is_ask_eq Z _ g))
            · have e : ¬ a = sAsk := show ¬ a = [97, 115, 107] by simpa using q2
              rw [if_neg e]
              exact k_ret (v_and (v_op2 (v_op2 (v_name rfl) v_cst i0) v_cst eqS) fun _ => v_callP (v_cons (v_name rfl) v_nil) rfl (is_told_eq Z _ g))
        | _ => simp [isStr, isTup, isTab] at q
  | _ =>
    refine r_ret (k_guard (t_or (b := true) (t_not (t_tru (v_un1 (v_name rfl) (ty_tup hd)) rfl)) fun z => by cases z) (fun _ => k_ret v_cst) (fun z => by cases z) (fun _ _ _ z => by cases z))

/-! ### a frame's line -/
theorem digitsVal_lt : ∀ (n : Nat) (w : List Nat), w.length = n → NumText.AllDigits w → NumText.digitsVal w < 10 ^ n := by
  intro n
  induction n with
  | zero =>
    intro w h _
    rw [List.length_eq_zero_iff.mp h]
    decide
  | succ n ih =>
    intro w h ad
    have hne : w ≠ [] := by
      intro z
      rw [z] at h
      cases h
    obtain ⟨v, c, rfl⟩ : ∃ v c, w = v ++ [c] := ⟨w.dropLast, w.getLast hne, (List.dropLast_concat_getLast hne).symm⟩
    rw [NumText.digitsVal_snoc]
    have l : v.length = n := by simpa using h
    have i := ih v l fun d hd => ad d (List.mem_append_left _ hd)
    have hc := ad c (by simp)
    rw [Nat.pow_succ]
    omega
theorem num_lt {n k : Nat} (h : (TL.numL n).length ≤ k) : n < 10 ^ k := by
  have h1 := digitsVal_lt _ _ rfl (TL.numL_digits n)
  rw [TL.numL_val] at h1
  exact Nat.lt_of_lt_of_le h1 (Nat.pow_le_pow_right (by decide) h)
theorem log_fit {n : Nat} (h : (TL.numL n).length ≤ 44) : n.log2 < 1920 := by
  have h1 := num_lt h
  by_cases h0 : n = 0
  · rw [h0]
    decide
  · refine (Nat.log2_lt h0).mpr (Nat.lt_of_lt_of_le h1 ?_)
    exact Nat.le_trans (Nat.pow_le_pow_left (show 10 ≤ 2 ^ 4 by decide) 44) (by rw [← Nat.pow_mul]; exact Nat.pow_le_pow_right (by decide) (by decide))
/-- each of its words has at most 44 signs -/
def Fr.fit (f : Fr) : Prop := ∀ w ∈ f.ws, w.length ≤ 44
theorem strs_map : ∀ ws : List (List Nat), strsOf (ws.map Dat.str) = some ws
  | [] => rfl
  | w :: ws => by simp only [List.map_cons, strsOf, strs_map ws, Option.map_some]
theorem join_lst {s : List Nat} {ws : List (List Nat)} (h : (ws.map List.length).sum + ws.length * s.length ≤ 16777216) : joinD (.str s) (.lst (ws.map Dat.str)) = some (.str (TL.joinL s ws)) := by
  show (strsOf (ws.map Dat.str)).bind _ = _
  rw [strs_map]
  exact if_pos h
theorem join_tup {s : List Nat} {ws : List (List Nat)} (h : (ws.map List.length).sum + ws.length * s.length ≤ 16777216) : joinD (.str s) (.tup (ws.map Dat.str)) = some (.str (TL.joinL s ws)) := by
  show (strsOf (ws.map Dat.str)).bind _ = _
  rw [strs_map]
  exact if_pos h
theorem sum_le {k : Nat} : ∀ {ws : List (List Nat)}, (∀ w ∈ ws, w.length ≤ k) → (ws.map List.length).sum ≤ k * ws.length
  | [], _ => by simp
  | w :: ws, h => by
    have h1 := h w (.head _)
    have h2 := sum_le fun x hx => h x (List.mem_cons_of_mem w hx)
    simp only [List.map_cons, List.sum_cons, List.length_cons, Nat.mul_add, Nat.mul_one]
    omega
theorem join_few {s : List Nat} {ws : List (List Nat)} {k : Nat} (h : ∀ w ∈ ws, w.length ≤ k) (hk : k ≤ 1000) (hn : ws.length ≤ 1000) (hs : s.length ≤ 1) : (ws.map List.length).sum + ws.length * s.length ≤ 16777216 := by
  have h1 := sum_le h
  have h2 : k * ws.length ≤ 1000 * 1000 := Nat.mul_le_mul hk hn
  have h3 : ws.length * s.length ≤ 1000 * 1 := Nat.mul_le_mul hn hs
  omega
/-- the items of a frame, its values joined -/
def Fr.its : Fr → List Dat
  | .tell k n vs => [.str sTell, .str k, .int n, .str (TL.joinL [44] vs)]
  | .ask k n m r p => [.str sAsk, .str k, .int n, .int m, .int r, .int p]
  | .told k n m x => [.str sTold, .str k, .int n, .int m, .str x]
def strF : Dat → Dat
  | .int i => .str (TL.numL i.toNat)
  | d => d
theorem its_ws (f : Fr) : f.its.map strF = f.ws.map Dat.str := by cases f <;> rfl
theorem str_its {f : Fr} (fit : f.fit) : ∀ d ∈ f.its, strD [d] = some (strF d) := by
  have num : ∀ n : Nat, (TL.numL n).length ≤ 44 → strD [.int n] = some (strF (.int n)) := fun n h => by
    have := log_fit h
    unfold strD
    exact if_pos ⟨by omega, by simpa using this⟩
  intro d hd
  unfold Fr.fit at fit
  cases f with
  | tell k n vs =>
    simp only [Fr.its, List.mem_cons, List.not_mem_nil, or_false] at hd
    rcases hd with rfl | rfl | rfl | rfl
    · rfl
    · rfl
    · exact num n (fit _ (by simp [Fr.ws]))
    · rfl
  | ask k n m r p =>
    simp only [Fr.its, List.mem_cons, List.not_mem_nil, or_false] at hd
    rcases hd with rfl | rfl | rfl | rfl | rfl | rfl
    · rfl
    · rfl
    · exact num n (fit _ (by simp [Fr.ws]))
    · exact num m (fit _ (by simp [Fr.ws]))
    · exact num r (fit _ (by simp [Fr.ws]))
    · exact num p (fit _ (by simp [Fr.ws]))
  | told k n m x =>
    simp only [Fr.its, List.mem_cons, List.not_mem_nil, or_false] at hd
    rcases hd with rfl | rfl | rfl | rfl | rfl
    · rfl
    · rfl
    · exact num n (fit _ (by simp [Fr.ws]))
    · exact num m (fit _ (by simp [Fr.ws]))
    · rfl
theorem ws_len (f : Fr) : f.ws.length ≤ 6 := by cases f <;> simp [Fr.ws]
theorem line_join {f : Fr} (fit : f.fit) : joinD (.str [32]) (.lst (f.ws.map Dat.str)) = some (.str f.line) := join_lst (join_few (k := 44) fit (by decide) (Nat.le_trans (ws_len f) (by decide)) (by decide))
theorem vals_join {f : Fr} {k : List Nat} {n : Nat} {vs : List (List Nat)} (e : f = .tell k n vs) (ok : f.ok) : joinD (.str [44]) (.tup (vs.map Dat.str)) = some (.str (TL.joinL [44] vs)) := by
  subst e
  exact join_tup (join_few (k := 6) (fun w hw => (name_let (ok.2.2.2 w hw)).2.2) (by decide) (by have := ok.2.2.1; omega) (by decide))
theorem frame_line_eq (Z : Ad) (f : Fr) (ok : f.ok) (fit : f.fit) : den_frame_line Z [f.d] () = .ok (.str f.line) () := by
  show retOf (fs_frame_line Z [some (.d f.d), none, none] ()) = _
  have last : ∀ (ρ : En), ρ = [some (.d f.d), some (.o f.its), none] → frzS 1 (retS (met1 joinD (cst (.str [32])) (lcD (putN 2) [2] (itmS itmL (vName 1)) (cst true) (callD strD (aCons (vName 2) aNil))))) ρ () = .rt (.str f.line) () := by
    rintro ρ rfl
    refine k_frz (xs := f.its) rfl (k_ret (v_met v_cst (lcD_map (t1 := ()) (ds := f.its) (fun d => [some (.d f.d), some (.d (.lst f.its)), some (.d d)]) strF rfl rfl (fun d hd => ⟨rfl, v_callD (v_cons (v_name rfl) v_nil) (str_its fit d hd)⟩) ?_) ?_))
    · have : f.its.length ≤ 6 := by cases f <;> simp [Fr.its]
      exact Nat.le_trans this (by decide)
    · rw [its_ws]
      exact line_join fit
  refine r_ret ?_
  cases f with
  | tell k n vs =>
    have start : newL (T := Unit) 1 (aCons (vName 0) aNil) [some (.d (Fr.tell k n vs).d), none, none] () = .nx [some (.d (Fr.tell k n vs).d), some (.o [.str sTell, .str k, .int n, .tup (vs.map Dat.str)]), none] () := rfl
    refine k_seq start (k_seq ((k_ifT (t_asb (v_op2 (v_op2 (v_name rfl) v_cst rfl) v_cst rfl))).trans ?_) (last _ rfl))
    have j : met1 (T := Unit) joinD (cst (.str [44])) (op2 ixD (vName 0) (cst (.int 3))) [some (.d (Fr.tell k n vs).d), some (.o [.str sTell, .str k, .int n, .tup (vs.map Dat.str)]), none] () = .ok (.str (TL.joinL [44] vs)) () := v_met v_cst (v_op2 (v_name rfl) v_cst rfl) (vals_join rfl ok)
    unfold setS bindS
    simp only [List.getElem?_cons_succ, List.getElem?_cons_zero, j]
    rfl
  | ask k n m r p =>
    have start : newL (T := Unit) 1 (aCons (vName 0) aNil) [some (.d (Fr.ask k n m r p).d), none, none] () = .nx [some (.d (Fr.ask k n m r p).d), some (.o (Fr.ask k n m r p).its), none] () := rfl
    exact k_seq start (k_seq ((k_ifF (t_asb (v_op2 (v_op2 (v_name rfl) v_cst rfl) v_cst rfl))).trans rfl) (last _ rfl))
  | told k n m x =>
    have start : newL (T := Unit) 1 (aCons (vName 0) aNil) [some (.d (Fr.told k n m x).d), none, none] () = .nx [some (.d (Fr.told k n m x).d), some (.o (Fr.told k n m x).its), none] () := rfl
    exact k_seq start (k_seq ((k_ifF (t_asb (v_op2 (v_op2 (v_name rfl) v_cst rfl) v_cst rfl))).trans rfl) (last _ rfl))
end K25
end
section
set_option Elab.async false
set_option linter.all false
set_option maxRecDepth 100000
set_option maxHeartbeats 4000000
namespace K25
open PySem PySem.Spec PyProof.Rows L2 LamX DL

/-! ### frames and the test -/
theorem tell_not : ¬ sAsk = sTell ∧ ¬ sTold = sTell ∧ ¬ sTold = sAsk := by decide
theorem frame_ok {f : Fr} (ok : f.ok) : frameB f.d = true := by
  cases f with
  | tell k n vs =>
    obtain ⟨h1, h2, h3, h4⟩ := ok
    have a : (vs.map Dat.str).all nameB = true := by
      rw [List.all_map]
      exact List.all_eq_true.mpr h4
    show (nameB (.str k) && (if sTell = sTell then tellB _ else _)) = true
    rw [if_pos rfl]
    simp only [tellB, nameB, h1, numB, a, List.length_map, h2, h3, decide_true, Bool.and_true, Bool.true_and]
    simp
  | ask k n m r p =>
    obtain ⟨h1, h2, h3, h4⟩ := ok
    show (nameB (.str k) && (if sAsk = sTell then _ else if sAsk = sAsk then askB _ else _)) = true
    rw [if_neg tell_not.1, if_pos rfl]
    simp [askB, nameB, h1, numB, leB]
    omega
  | told k n m x =>
    obtain ⟨h1, h2, h3, h4⟩ := ok
    show (nameB (.str k) && (if sTold = sTell then _ else if sTold = sAsk then _ else (decide (sTold = sTold) && toldB _))) = true
    rw [if_neg tell_not.2.1, if_neg tell_not.2.2]
    have : decide (sLanded = x) || decide (sLeft = x) := by
      rcases h4 with e | e <;> simp [e]
    simp [toldB, nameB, h1, numB] at this ⊢
    exact ⟨by omega, by omega, this⟩
theorem nat_of {l i : Int} (h : l ≤ i) (h0 : 0 ≤ l) : ∃ n : Nat, i = n ∧ l ≤ n := ⟨i.toNat, by omega, by omega⟩
theorem num_of {l : Int} {d : Dat} (h0 : 0 ≤ l) (h : numB l d = true) : ∃ n : Nat, d = .int n ∧ l ≤ n := by
  cases d with
  | int i =>
    obtain ⟨n, h1, h2⟩ := nat_of (of_decide_eq_true h) h0
    exact ⟨n, by rw [h1], h2⟩
  | _ => cases h
theorem names_of : ∀ {vs : List Dat}, vs.all nameB = true → ∃ ws : List (List Nat), vs = ws.map Dat.str ∧ ∀ w ∈ ws, isName w = true
  | [], _ => ⟨[], rfl, fun _ h => by cases h⟩
  | v :: vs, h => by
    rw [List.all_cons, Bool.and_eq_true] at h
    obtain ⟨ws, h1, h2⟩ := names_of h.2
    cases v with
    | str w =>
      refine ⟨w :: ws, by rw [h1]; rfl, fun x hx => ?_⟩
      rcases List.mem_cons.mp hx with rfl | hx
      · exact h.1
      · exact h2 x hx
    | _ => cases h.1
theorem frame_of {d : Dat} (h : frameB d = true) : ∃ f : Fr, f.ok ∧ d = f.d := by
  unfold frameB at h
  split at h
  · rename_i a k r
    rw [Bool.and_eq_true] at h
    obtain ⟨hk, h⟩ := h
    cases k with
    | str k =>
      have hk : isName k = true := hk
      split at h
      · rename_i e
        subst e
        unfold tellB at h
        split at h
        · rename_i q
          cases q
          simp only [Bool.and_eq_true, decide_eq_true_eq] at h
          obtain ⟨n, rfl, _⟩ := num_of (by decide) h.1
          obtain ⟨ws, rfl, hw⟩ := names_of h.2.2.2
          rw [List.length_map] at h
          exact ⟨.tell k n ws, ⟨hk, h.2.1, h.2.2.1, hw⟩, rfl⟩
        · cases h
      · split at h
        · rename_i e
          subst e
          unfold askB at h
          split at h
          · rename_i q
            cases q
            simp only [Bool.and_eq_true] at h
            obtain ⟨n, rfl, h1⟩ := num_of (by decide) h.1
            obtain ⟨m, rfl, h2⟩ := num_of (by decide) h.2.1
            obtain ⟨r, rfl, _⟩ := num_of (by decide) h.2.2.1
            obtain ⟨p, rfl, _⟩ := num_of (by decide) h.2.2.2.2
            have h5 : (r : Int) ≤ 5 := of_decide_eq_true h.2.2.2.1
            exact ⟨.ask k n m r p, ⟨hk, by omega, by omega, by omega⟩, rfl⟩
          · cases h
        · rw [Bool.and_eq_true] at h
          have e : a = sTold := of_decide_eq_true h.1
          subst e
          have h8 : toldB _ = true := h.2
          clear h
          unfold toldB at h8
          split at h8
          · rename_i q
            cases q
            simp only [Bool.and_eq_true, Bool.or_eq_true, decide_eq_true_eq] at h8
            obtain ⟨n, rfl, h1⟩ := num_of (by decide) h8.1
            obtain ⟨m, rfl, h2⟩ := num_of (by decide) h8.2.1
            refine ⟨.told k n m _, ⟨hk, by omega, by omega, ?_⟩, rfl⟩
            rcases h8.2.2 with e | e
            · exact .inl e.symm
            · exact .inr e.symm
          · cases h8
    | _ => cases hk
  · cases h
theorem good_frame {f : Fr} (ok : f.ok) (fit : f.fit) : GoodD f.d := by
  have hn : ∀ {w : List Nat}, isName w = true → okD (.str w) = true := fun h => by
    have := (name_let h).2.2
    exact decide_eq_true (Nat.le_trans this (by decide))
  have wd : ∀ w ∈ f.ws, okD (.str w) = true := fun w hw => decide_eq_true (Nat.le_trans (fit w hw) (by decide))
  cases f with
  | tell k n vs =>
    refine ⟨fun d hd => ?_, fun us hu => ?_⟩
    · simp only [List.mem_cons, List.not_mem_nil, or_false] at hd
      rcases hd with rfl | rfl | rfl | rfl
      · rfl
      · exact hn ok.1
      · rfl
      · rfl
    · simp only [List.mem_cons, List.not_mem_nil, or_false, reduceCtorEq, false_or, Dat.tup.injEq] at hu
      subst hu
      refine ⟨by rw [List.length_map]; have := ok.2.2.1; omega, fun v hv => ?_⟩
      obtain ⟨w, hw, rfl⟩ := List.mem_map.mp hv
      exact hn (ok.2.2.2 w hw)
  | ask k n m r p =>
    refine ⟨fun d hd => ?_, fun us hu => ?_⟩
    · simp only [List.mem_cons, List.not_mem_nil, or_false] at hd
      rcases hd with rfl | rfl | rfl | rfl | rfl | rfl
      · rfl
      · exact hn ok.1
      all_goals rfl
    · simp at hu
  | told k n m x =>
    refine ⟨fun d hd => ?_, fun us hu => ?_⟩
    · simp only [List.mem_cons, List.not_mem_nil, or_false] at hd
      rcases hd with rfl | rfl | rfl | rfl | rfl
      · rfl
      · exact hn ok.1
      · rfl
      · rfl
      · exact wd x (by simp [Fr.ws])
    · simp at hu
theorem fit_line {f : Fr} (fit : f.fit) : f.line.length ≤ 1000 := by
  have h : ∀ (ws : List (List Nat)) (k : Nat), (∀ w ∈ ws, w.length ≤ k) → (TL.joinL [32] ws).length ≤ ws.length * (k + 1) := by
    intro ws
    induction ws with
    | nil => intro k _; simp [TL.joinL]
    | cons w ws ih =>
      intro k hk
      have h1 := hk w (.head _)
      have h2 := ih k fun x hx => hk x (.tail _ hx)
      cases ws with
      | nil =>
        show w.length ≤ 1 * (k + 1)
        omega
      | cons v vs =>
        rw [join_cons (by simp)]
        simp only [List.length_append, List.length_cons] at h2 ⊢
        have : (vs.length + 1 + 1) * (k + 1) = (vs.length + 1) * (k + 1) + (k + 1) := by rw [Nat.succ_mul]
        omega
  have h1 := h f.ws 44 fit
  have h2 : f.ws.length * 45 ≤ 6 * 45 := Nat.mul_le_mul_right _ (ws_len f)
  unfold Fr.line
  omega
theorem frame_text_eq (Z : Ad) (f : Fr) (ok : f.ok) (fit : f.fit) : den_frame_text Z [f.d] () = .ok (.str (f.line ++ [10])) () := by
  show retOf (fs_frame_text Z [some (.d f.d)] ()) = _
  refine r_ret (k_guard (t_not (t_tru (v_callP (v_cons (v_name rfl) v_nil) rfl (is_frame_eq Z f.d (good_frame ok fit))) rfl)) (fun q => ?_) (fun q => ?_) (fun _ _ _ z => by cases z))
  · rw [frame_ok ok] at q
    cases q
  · refine k_ret (v_op2 (v_callP (v_cons (v_name rfl) v_nil) rfl (frame_line_eq Z f ok fit)) v_cst ?_)
    show (if f.line.length + 1 ≤ line then some (Dat.str (f.line ++ [10])) else none) = _
    exact if_pos (Nat.le_trans (Nat.succ_le_succ (fit_line fit)) (by decide))
theorem frame_text_no (Z : Ad) (d : Dat) (g : GoodD d) (h : frameB d = false) : den_frame_text Z [d] () = .ex Z.cBF [] [] () := by
  show retOf (fs_frame_text Z [some (.d d)] ()) = _
  have e : fs_frame_text Z [some (.d d)] () = .ex Z.cBF [] [] () := by
    refine k_guard (t_not (t_tru (v_callP (v_cons (v_name rfl) v_nil) rfl (is_frame_eq Z d g)) rfl)) (fun q => rfl) (fun q => ?_) (fun _ _ _ z => by cases z)
    rw [h] at q
    cases q
  rw [e]
  rfl
end K25
end
section
set_option Elab.async false
set_option linter.all false
set_option maxRecDepth 100000
set_option maxHeartbeats 4000000
namespace K25
open PySem PySem.Spec PyProof.Rows L2 LamX DL

/-! ### numbers in words -/
def figs : List Nat := [48, 49, 50, 51, 52, 53, 54, 55, 56, 57]
theorem fig_mem (c : Nat) : decide (c ∈ figs) = isFig c := by
  by_cases h : 48 ≤ c ∧ c ≤ 57
  · have : c = 48 ∨ c = 49 ∨ c = 50 ∨ c = 51 ∨ c = 52 ∨ c = 53 ∨ c = 54 ∨ c = 55 ∨ c = 56 ∨ c = 57 := by omega
    rcases this with rfl | rfl | rfl | rfl | rfl | rfl | rfl | rfl | rfl | rfl <;> rfl
  · have n1 : c ∉ figs := fun m => by
      simp only [figs, List.mem_cons, List.not_mem_nil, or_false] at m
      omega
    unfold isFig
    rw [decide_eq_false n1]
    by_cases h1 : 48 ≤ c
    · have h2 : ¬ c ≤ 57 := fun z => h ⟨h1, z⟩
      simp [h1, h2]
    · simp [h1]
theorem all_figs {w : List Nat} (h : w.all isFig = true) : NumText.AllDigits w := fun c hc => by
  have := List.all_eq_true.mp h c hc
  unfold isFig at this
  simpa using this
theorem figs_all {w : List Nat} (h : NumText.AllDigits w) : w.all isFig = true := List.all_eq_true.mpr fun c hc => by
  have := h c hc
  unfold isFig
  simpa using this
def numBad (w : List Nat) : Bool := decide (w = []) || (!(w.all isFig) || (decide (w.take 1 = [48]) && !(decide (w = [48]))))
def numIn (w : List Nat) : Dat := if numBad w then .non else .int (NumText.digitsVal w : Nat)
theorem back_map : ∀ {w : List Nat}, NumText.AllDigits w → (w.map Char.ofNat).map Char.toNat = w
  | [], _ => rfl
  | c :: w, h => by
    have h1 := h c (.head _)
    have e : (Char.ofNat c).toNat = c := by
      have : c = 48 ∨ c = 49 ∨ c = 50 ∨ c = 51 ∨ c = 52 ∨ c = 53 ∨ c = 54 ∨ c = 55 ∨ c = 56 ∨ c = 57 := by omega
      rcases this with rfl | rfl | rfl | rfl | rfl | rfl | rfl | rfl | rfl | rfl <;> rfl
    rw [List.map_cons, List.map_cons, e, back_map fun d hd => h d (.tail _ hd)]
theorem num_head : ∀ n : Nat, n ≠ 0 → (TL.numL n).head? ≠ some 48 := by
  intro n
  induction n using Nat.strongRecOn with
  | ind n ih =>
    intro h0
    by_cases h : n < 10
    · rw [TL.numL_lt h]
      intro z
      have : 48 + n = 48 := Option.some.inj z
      omega
    · rw [TL.numL_step (by omega)]
      have h1 := ih (n / 10) (by omega) (by omega)
      cases e : TL.numL (n / 10) with
      | nil => exact (TL.numL_ne _ e).elim
      | cons c r =>
        rw [e] at h1
        exact h1
theorem num_bad (n : Nat) : numBad (TL.numL n) = false := by
  unfold numBad
  rw [figs_all (TL.numL_digits n), decide_eq_false (TL.numL_ne n)]
  by_cases h0 : n = 0
  · subst h0
    rfl
  · have h1 := num_head n h0
    cases e : TL.numL n with
    | nil => exact (TL.numL_ne n e).elim
    | cons c r =>
      rw [e] at h1
      have hc : c ≠ 48 := fun z => h1 (by rw [z]; rfl)
      simp [hc]
theorem num_in_num (n : Nat) : numIn (TL.numL n) = .int n := by
  unfold numIn
  rw [num_bad, TL.numL_val]
  rfl
theorem num_in_of {w : List Nat} {i : Int} (h : numIn w = .int i) : ∃ n : Nat, i = n ∧ w = TL.numL n := by
  unfold numIn at h
  split at h
  · cases h
  · rename_i q
    cases h
    refine ⟨_, rfl, ?_⟩
    unfold numBad at q
    simp only [Bool.or_eq_true, Bool.and_eq_true, decide_eq_true_eq, Bool.not_eq_true', not_or, not_and] at q
    obtain ⟨h1, h2, h3⟩ := q
    have ad := all_figs (by simpa using h2)
    have hl : w.length = (w.length - 1) + 1 := by
      have : w.length ≠ 0 := fun z => h1 (List.length_eq_zero_iff.mp z)
      omega
    have lead : w.length - 1 = 0 ∨ ∃ c r, w = c :: r ∧ 49 ≤ c := by
      cases w with
      | nil => exact (h1 rfl).elim
      | cons c r =>
        by_cases hc : c = 48
        · subst hc
          left
          have : decide ((48 :: r : List Nat) = [48]) ≠ false := h3 rfl
          have : (48 :: r : List Nat) = [48] := by simpa using this
          rw [this]
          rfl
        · right
          have := ad c (.head _)
          exact ⟨c, r, rfl, by omega⟩
    unfold TL.numL
    rw [NumText.toDigits_digitsVal _ w hl ad lead, back_map ad]
theorem number_in_eq (Z : Ad) (w : List Nat) (h : w.length ≤ 640) : den_number_in Z [.str w] () = .ok (numIn w) () := by
  show retOf (fs_number_in Z [some (.d (.str w)), none] ()) = _
  have e1 : lcD (T := Unit) (putN 1) [1] (itmS itmC (vName 0)) (cst true) (op2 (isInD false) (vName 1) (cst (.str [48, 49, 50, 51, 52, 53, 54, 55, 56, 57]))) [some (.d (.str w)), none] () = .ok (.lst (w.map fun c => .bl (isFig c))) () := by
    rw [lcD_map (t1 := ()) (ds := sgnD w) (fun d => [some (.d (.str w)), some (.d d)]) (fun d => match d with | .str [c] => .bl (decide (c ∈ figs)) | _ => .non) rfl rfl ?_ (by simp [sgnD]; exact Nat.le_trans h (by decide)), sgn_map w (fun c => .bl (isFig c)) _ fun c => by
      show Dat.bl (decide (c ∈ figs)) = _
      rw [fig_mem]]
    intro d hd
    simp only [sgnD, List.mem_map] at hd
    obtain ⟨c, _, rfl⟩ := hd
    exact ⟨rfl, rfl⟩
  cases w with
  | nil => exact r_ret (k_guard (t_or (b := true) (t_asb (v_op2 (v_name rfl) v_cst rfl)) fun z => by cases z) (fun _ => k_ret v_cst) (fun z => by cases z) (fun _ _ _ z => by cases z))
  | cons c r =>
    have i0 : ixD (.str (c :: r)) (.int 0) = some (.str [c]) := by
      show (if (c :: r).length ≤ line then (atI (c :: r) 0).map fun c => Dat.str [c] else none) = _
      rw [if_pos (Nat.le_trans h (by decide)), show atI (c :: r) 0 = some c from atI_nat (l := c :: r) (j := 0) (by simp)]
      rfl
    refine r_ret (k_guard (t_or (t_asb (v_op2 (v_name rfl) v_cst eqS)) fun _ => t_or (t_not (t_tru (v_callD (v_cons e1 v_nil) (all_bls _ _)) rfl)) fun _ => t_and (t_asb (v_op2 (v_op2 (v_name rfl) v_cst i0) v_cst eqS)) fun _ => t_asb (v_op2 (v_name rfl) v_cst eqS)) (fun q => (k_ret v_cst).trans ?_) (fun q => ?_) (fun _ _ _ z => by cases z))
    · have q1 : numBad (c :: r) = true := q
      unfold numIn
      rw [if_pos q1]
    · have q1 : numBad (c :: r) = false := q
      refine (k_ret (v_callD (z := .int (NumText.digitsVal (c :: r) : Nat)) (v_cons (v_name rfl) v_nil) ?_)).trans ?_
      · unfold numBad at q1
        simp only [Bool.or_eq_false_iff, Bool.not_eq_false'] at q1
        exact if_pos ⟨q1.2.1, by simp, h⟩
      · unfold numIn
        rw [q1]
        rfl
end K25
end
section
set_option Elab.async false
set_option linter.all false
set_option maxRecDepth 100000
set_option maxHeartbeats 4000000
namespace K25
open PySem PySem.Spec PyProof.Rows L2 LamX DL

/-! ### parts of a list -/
theorem cut_from {α : Type} {xs : List α} {k : Nat} (h : k ≤ xs.length) : cutL xs (some (k : Int)) none = xs.drop k := by
  unfold cutL
  rw [HT.sIx_nat, HT.sIx_none, Nat.min_eq_left h]
  exact List.take_of_length_le (by rw [List.length_drop]; exact Nat.le_refl _)
theorem cut_to {α : Type} {xs : List α} {k : Nat} (h : k ≤ xs.length) : cutL xs none (some (k : Int)) = xs.take k := by
  unfold cutL
  rw [HT.sIx_nat, HT.sIx_none, Nat.min_eq_left h]
  rfl
theorem cut_mid {α : Type} {xs : List α} {j k : Nat} (h : j ≤ k) (hk : k ≤ xs.length) : cutL xs (some (j : Int)) (some (k : Int)) = (xs.drop j).take (k - j) := by
  unfold cutL
  rw [HT.sIx_nat, HT.sIx_nat, Nat.min_eq_left (Nat.le_trans h hk), Nat.min_eq_left hk]
theorem ix_lst {ds : List Dat} {j : Nat} {d : Dat} (h : ds[j]? = some d) : ixD (.lst ds) (.int (j : Int)) = some d := by
  have hj := (List.getElem?_eq_some_iff.mp h).1
  show atI ds j = some d
  rw [atI_nat hj, h]
theorem split_len (c : Nat) : ∀ l : List Nat, (splitL c l).length ≤ l.length + 1
  | [] => by simp [splitL]
  | d :: l => by
    have ih := split_len c l
    by_cases h : d = c
    · simp only [splitL, if_pos h, List.length_cons]
      omega
    · simp only [splitL, if_neg h]
      cases e : splitL c l with
      | nil => exact (splitL_ne c l e).elim
      | cons p ps =>
        rw [e] at ih
        simp only [List.length_cons] at ih ⊢
        omega
theorem split_piece (c : Nat) : ∀ l : List Nat, ∀ p ∈ splitL c l, p.length ≤ l.length
  | [], p, h => by
    simp only [splitL, List.mem_singleton] at h
    rw [h]
    exact Nat.le_refl _
  | d :: l, p, h => by
    have ih := split_piece c l
    by_cases hd : d = c
    · simp only [splitL, if_pos hd] at h
      rcases List.mem_cons.mp h with rfl | h
      · exact Nat.zero_le _
      · have := ih p h
        rw [List.length_cons]
        omega
    · simp only [splitL, if_neg hd] at h
      cases e : splitL c l with
      | nil => exact (splitL_ne c l e).elim
      | cons q ps =>
        rw [e] at h ih
        rcases List.mem_cons.mp h with rfl | h
        · have := ih q (.head _)
          simp only [List.length_cons]
          omega
        · have := ih p (.tail _ h)
          rw [List.length_cons]
          omega
/-! ### a line read by the program -/
def foundD : List (List Nat) → Dat
  | w0 :: w1 :: w2 :: w3 :: r => if w0 = sTell then .tup ([.str w0, .str w1, numIn w2, .tup ((splitL 44 w3).map Dat.str)] ++ r.map Dat.str) else if w0 = sAsk then .tup ([.str w0, .str w1] ++ (w2 :: w3 :: r).map numIn) else .tup ([.str w0, .str w1] ++ ([numIn w2, numIn w3] ++ r.map Dat.str))
  | _ => .non
theorem num_in_ok (w : List Nat) : okD (numIn w) = true ∧ ∀ vs, numIn w ≠ .tup vs := by
  unfold numIn
  split
  · exact ⟨rfl, fun vs z => by cases z⟩
  · exact ⟨rfl, fun vs z => by cases z⟩
structure LineOk (L : List Nat) : Prop where
  len : L.length ≤ 1000000
  ws : ∀ w ∈ splitL 32 L, w.length ≤ 44
theorem ok_word {w : List Nat} (h : w.length ≤ 44) : okD (.str w) = true := decide_eq_true (Nat.le_trans h (by decide))
theorem good_found {ws : List (List Nat)} (h : ∀ w ∈ ws, w.length ≤ 44) : GoodD (foundD ws) := by
  unfold foundD
  split
  · rename_i w0 w1 w2 w3 r
    have k0 := ok_word (h w0 (by simp))
    have k1 := ok_word (h w1 (by simp))
    have l3 := h w3 (by simp)
    have kr : ∀ d ∈ r.map Dat.str, okD d = true ∧ ∀ vs, d ≠ .tup vs := fun d hd => by
      obtain ⟨w, hw, rfl⟩ := List.mem_map.mp hd
      exact ⟨ok_word (h w (by simp [hw])), fun vs z => by cases z⟩
    split
    · refine ⟨fun d hd => ?_, fun vs hv => ?_⟩
      · rcases List.mem_append.mp hd with hd | hd
        · simp only [List.mem_cons, List.not_mem_nil, or_false] at hd
          rcases hd with rfl | rfl | rfl | rfl
          · exact k0
          · exact k1
          · exact (num_in_ok w2).1
          · rfl
        · exact (kr d hd).1
      · rcases List.mem_append.mp hv with hv | hv
        · simp only [List.mem_cons, List.not_mem_nil, or_false, reduceCtorEq, false_or] at hv
          rcases hv with hv | hv
          · exact ((num_in_ok w2).2 vs hv.symm).elim
          · cases hv
            refine ⟨by rw [List.length_map]; have := split_len 44 w3; omega, fun v hv => ?_⟩
            obtain ⟨p, hp, rfl⟩ := List.mem_map.mp hv
            exact ok_word (Nat.le_trans (split_piece 44 w3 p hp) l3)
        · exact ((kr _ hv).2 vs rfl).elim
    · split
      · refine ⟨fun d hd => ?_, fun vs hv => ?_⟩
        · rcases List.mem_append.mp hd with hd | hd
          · simp only [List.mem_cons, List.not_mem_nil, or_false] at hd
            rcases hd with rfl | rfl
            · exact k0
            · exact k1
          · obtain ⟨w, _, rfl⟩ := List.mem_map.mp hd
            exact (num_in_ok w).1
        · rcases List.mem_append.mp hv with hv | hv
          · simp at hv
          · obtain ⟨w, _, e⟩ := List.mem_map.mp hv
            exact ((num_in_ok w).2 vs e).elim
      · refine ⟨fun d hd => ?_, fun vs hv => ?_⟩
        · rcases List.mem_append.mp hd with hd | hd
          · simp only [List.mem_cons, List.not_mem_nil, or_false] at hd
            rcases hd with rfl | rfl
            · exact k0
            · exact k1
          · rcases List.mem_append.mp hd with hd | hd
            · simp only [List.mem_cons, List.not_mem_nil, or_false] at hd
              rcases hd with rfl | rfl
              · exact (num_in_ok _).1
              · exact (num_in_ok _).1
            · exact (kr d hd).1
        · rcases List.mem_append.mp hv with hv | hv
          · simp at hv
          · rcases List.mem_append.mp hv with hv | hv
            · simp only [List.mem_cons, List.not_mem_nil, or_false] at hv
              rcases hv with hv | hv
              · exact ((num_in_ok _).2 vs hv.symm).elim
              · exact ((num_in_ok _).2 vs hv.symm).elim
            · exact ((kr _ hv).2 vs rfl).elim
  · rfl
theorem str_inj : ∀ {a b : List (List Nat)}, a.map Dat.str = b.map Dat.str → a = b
  | [], [], _ => rfl
  | [], _ :: _, h => by cases h
  | _ :: _, [], h => by cases h
  | x :: a, y :: b, h => by
    rw [List.map_cons, List.map_cons] at h
    injection h with h1 h2
    injection h1 with h1
    rw [h1, str_inj h2]
theorem found_ws {f : Fr} (ok : f.ok) : foundD f.ws = f.d := by
  cases f with
  | tell k n vs =>
    have e : foundD (Fr.tell k n vs).ws = .tup ([.str sTell, .str k, numIn (TL.numL n), .tup ((splitL 44 (TL.joinL [44] vs)).map Dat.str)] ++ ([] : List (List Nat)).map Dat.str) := by
      rw [Fr.ws, foundD]
      exact if_pos rfl
    rw [e, num_in_num, split_join (fun z => by rw [z] at ok; exact absurd ok.2.1 (by decide)) fun p hp => name_no (ok.2.2.2 p hp) (by decide)]
    rfl
  | ask k n m r p =>
    have e : foundD (Fr.ask k n m r p).ws = .tup ([.str sAsk, .str k] ++ [TL.numL n, TL.numL m, TL.numL r, TL.numL p].map numIn) := by
      rw [Fr.ws, foundD, if_neg tell_not.1]
      exact if_pos rfl
    rw [e]
    simp only [List.map_cons, List.map_nil, num_in_num]
    rfl
  | told k n m x =>
    have e : foundD (Fr.told k n m x).ws = .tup ([.str sTold, .str k] ++ ([numIn (TL.numL n), numIn (TL.numL m)] ++ [x].map Dat.str)) := by
      rw [Fr.ws, foundD, if_neg tell_not.2.1]
      exact if_neg tell_not.2.2
    rw [e, num_in_num, num_in_num]
    rfl
theorem ws_found {ws : List (List Nat)} (h : frameB (foundD ws) = true) : ∃ f : Fr, f.ok ∧ ws = f.ws ∧ foundD ws = f.d := by
  obtain ⟨f, ok, e⟩ := frame_of h
  refine ⟨f, ok, ?_, e⟩
  unfold foundD at e
  split at e
  · rename_i w0 w1 w2 w3 r
    split at e
    · rename_i q
      cases f with
      | tell k n vs =>
        simp only [Fr.d, Dat.tup.injEq, List.cons_append, List.cons.injEq, Dat.str.injEq, List.nil_append, List.map_eq_nil_iff] at e
        obtain ⟨e0, e1, e2, e3, e4⟩ := e
        obtain ⟨n', hn, e2⟩ := num_in_of e2
        have hn : n = n' := by omega
        rw [e0, e1, e2, e4, ← str_inj e3, hn]
        show _ = [sTell, k, TL.numL n', TL.joinL [44] (splitL 44 w3)]
        rw [join_split]
      | ask k n m r' p =>
        simp only [Fr.d, Dat.tup.injEq, List.cons_append, List.cons.injEq, Dat.str.injEq] at e
        rw [q] at e
        exact absurd e.1 (by decide)
      | told k n m x =>
        simp only [Fr.d, Dat.tup.injEq, List.cons_append, List.cons.injEq, Dat.str.injEq] at e
        rw [q] at e
        exact absurd e.1 (by decide)
    · rename_i q0
      split at e
      · rename_i q
        cases f with
        | tell k n vs =>
          simp only [Fr.d, Dat.tup.injEq, List.cons_append, List.cons.injEq, Dat.str.injEq] at e
          exact (q0 e.1).elim
        | ask k n m r' p =>
          simp only [Fr.d, Dat.tup.injEq, List.cons_append, List.nil_append, List.map_cons, List.cons.injEq, Dat.str.injEq] at e
          obtain ⟨e0, e1, e2, e3, e4⟩ := e
          match r, e4 with
          | [], e4 => simp at e4
          | [_], e4 => simp at e4
          | [w4, w5], e4 =>
            simp only [List.map_cons, List.map_nil, List.cons.injEq, and_true] at e4
            obtain ⟨a1, b1, e2⟩ := num_in_of e2
            obtain ⟨a2, b2, e3⟩ := num_in_of e3
            obtain ⟨a3, b3, e5⟩ := num_in_of e4.1
            obtain ⟨a4, b4, e6⟩ := num_in_of e4.2
            have b1 : n = a1 := by omega
            have b2 : m = a2 := by omega
            have b3 : r' = a3 := by omega
            have b4 : p = a4 := by omega
            rw [e0, e1, e2, e3, e5, e6, b1, b2, b3, b4]
            rfl
          | _ :: _ :: _ :: _, e4 => simp at e4
        | told k n m x =>
          simp only [Fr.d, Dat.tup.injEq, List.cons_append, List.cons.injEq, Dat.str.injEq] at e
          rw [q] at e
          exact absurd e.1 (by decide)
      · rename_i q1
        cases f with
        | tell k n vs =>
          simp only [Fr.d, Dat.tup.injEq, List.cons_append, List.cons.injEq, Dat.str.injEq] at e
          exact (q0 e.1).elim
        | ask k n m r' p =>
          simp only [Fr.d, Dat.tup.injEq, List.cons_append, List.cons.injEq, Dat.str.injEq] at e
          exact (q1 e.1).elim
        | told k n m x =>
          simp only [Fr.d, Dat.tup.injEq, List.cons_append, List.nil_append, List.cons.injEq, Dat.str.injEq] at e
          obtain ⟨e0, e1, e2, e3, e4⟩ := e
          have e4 : r = [x] := str_inj (b := [x]) e4
          obtain ⟨a1, b1, e2⟩ := num_in_of e2
          obtain ⟨a2, b2, e3⟩ := num_in_of e3
          have b1 : n = a1 := by omega
          have b2 : m = a2 := by omega
          rw [e0, e1, e2, e3, e4, b1, b2]
          rfl
  · cases f <;> cases e
/-- the data of a line's words -/
abbrev wsD (ws : List (List Nat)) : Dat := .lst (ws.map Dat.str)
theorem frame_in_eq (Z : Ad) (L : List Nat) (h : LineOk L) : den_frame_in Z [.str L] () = .ok (if frameB (foundD (splitL 32 L)) then foundD (splitL 32 L) else .non) () := by
  have hL := h.len
  have big : ∀ k : Nat, k ≤ 2000000 → k ≤ line := fun k hk => Nat.le_trans hk (by decide)
  have e0 : fs_frame_in Z [some (.d (.str L)), none, none, none] () = _ := rfl
  show retOf (fs_frame_in Z [some (.d (.str L)), none, none, none] ()) = _
  have sp : met1 (T := Unit) splitD (vName 0) (cst (.str [32])) [some (.d (.str L)), none, none, none] () = .ok (wsD (splitL 32 L)) () := v_met (v_name rfl) v_cst (if_pos ⟨by decide, big _ (by omega)⟩)
  have hws := h.ws
  have lws := split_len 32 L
  generalize splitL 32 L = ws at sp hws lws
  refine r_ret (k_seq (k_set sp) ?_)
  by_cases h4 : ws.length < 4
  · have e : foundD ws = .non := by
      unfold foundD
      split
      · simp at h4
        omega
      · rfl
    rw [e]
    refine k_guard (t_asb (v_op2 (v_callD (v_cons (v_name rfl) v_nil) rfl) v_cst (z := .bl true) ?_)) (fun _ => k_ret v_cst) (fun z => by cases z) (fun _ _ _ z => by cases z)
    show some (Dat.bl (decide (((ws.map Dat.str).length : Int) < 4))) = _
    rw [decide_eq_true (by rw [List.length_map]; omega)]
  · match ws, h4, hws, lws with
    | w0 :: w1 :: w2 :: w3 :: r, _, hws, lws =>
      have g := good_found hws
      have l0 := hws w0 (by simp)
      have l2 := hws w2 (by simp)
      have l3 := hws w3 (by simp)
      have i0 : ixD (wsD (w0 :: w1 :: w2 :: w3 :: r)) (.int 0) = some (.str w0) := ix_lst (j := 0) rfl
      have i1 : ixD (wsD (w0 :: w1 :: w2 :: w3 :: r)) (.int 1) = some (.str w1) := ix_lst (j := 1) rfl
      have i2 : ixD (wsD (w0 :: w1 :: w2 :: w3 :: r)) (.int 2) = some (.str w2) := ix_lst (j := 2) rfl
      have i3 : ixD (wsD (w0 :: w1 :: w2 :: w3 :: r)) (.int 3) = some (.str w3) := ix_lst (j := 3) rfl
      have hlen : ((w0 :: w1 :: w2 :: w3 :: r).map Dat.str).length = r.length + 4 := by simp
      have s4 : slD (wsD (w0 :: w1 :: w2 :: w3 :: r)) (some 4) none = some (.lst (r.map Dat.str)) := congrArg (fun z => some (Dat.lst z)) (cut_from (k := 4) (by omega))
      have s2 : slD (wsD (w0 :: w1 :: w2 :: w3 :: r)) none (some 2) = some (.lst [.str w0, .str w1]) := congrArg (fun z => some (Dat.lst z)) (cut_to (k := 2) (by omega))
      have s2' : slD (wsD (w0 :: w1 :: w2 :: w3 :: r)) (some 2) none = some (.lst ((w2 :: w3 :: r).map Dat.str)) := congrArg (fun z => some (Dat.lst z)) (cut_from (k := 2) (by omega))
      have s24 : slD (wsD (w0 :: w1 :: w2 :: w3 :: r)) (some 2) (some 4) = some (.lst [.str w2, .str w3]) := congrArg (fun z => some (Dat.lst z)) (cut_mid (j := 2) (k := 4) (by decide) (by omega))
      rw [List.length_cons, List.length_cons, List.length_cons, List.length_cons] at lws
      have num : ∀ w ∈ w0 :: w1 :: w2 :: w3 :: r, den_number_in Z [.str w] () = .ok (numIn w) () := fun w hw => number_in_eq Z w (Nat.le_trans (hws w hw) (by decide))
      have addT : ∀ a b : List Dat, a.length ≤ 1000 → b.length ≤ 1500000 → addD (.tup a) (.tup b) = some (.tup (a ++ b)) := fun a b ha hb => if_pos (big _ (by omega))
      have nums : ∀ (us : List (List Nat)) (I : En → Unit → Out (List Dat) Unit) (ρ : En), (∀ w ∈ us, w ∈ w0 :: w1 :: w2 :: w3 :: r) → us.length ≤ 1500000 → ρ = [some (.d (.str L)), some (.d (wsD (w0 :: w1 :: w2 :: w3 :: r))), none, none] → I ρ () = .ok (us.map Dat.str) () → lcD (putN 3) [3] I (cst true) (callP 1 (den_number_in Z) (aCons (vName 3) aNil)) ρ () = .ok (.lst (us.map numIn)) () := by
        rintro us I ρ hu hl rfl hI
        have e := lcD_map (T := Unit) (t1 := ()) (put := putN 3) (vs := [3]) (I := I) (F := callP 1 (den_number_in Z) (aCons (vName 3) aNil)) (ρ := [some (.d (.str L)), some (.d (wsD (w0 :: w1 :: w2 :: w3 :: r))), none, none]) (t := ()) (ds := us.map Dat.str) (fun d => [some (.d (.str L)), some (.d (wsD (w0 :: w1 :: w2 :: w3 :: r))), none, some (.d d)]) (fun d => match d with | .str w => numIn w | d => d) rfl hI (fun d hd => ?_) (by rw [List.length_map]; exact big _ (by omega))
        · rw [e, List.map_map]
          rfl
        · obtain ⟨w, hw, rfl⟩ := List.mem_map.mp hd
          exact ⟨rfl, v_callP (v_cons (v_name rfl) v_nil) rfl (num w (hu w hw))⟩
      have fin : ∀ (ρ : En), ρ = [some (.d (.str L)), some (.d (wsD (w0 :: w1 :: w2 :: w3 :: r))), some (.d (foundD (w0 :: w1 :: w2 :: w3 :: r))), none] → retS (ifV (truD (callP 1 (den_is_frame Z) (aCons (vName 2) aNil))) (vName 2) (cst .non)) ρ () = .rt (if frameB (foundD (w0 :: w1 :: w2 :: w3 :: r)) then foundD (w0 :: w1 :: w2 :: w3 :: r) else .non) () := by
        rintro ρ rfl
        exact k_ret (v_if (t_tru (v_callP (v_cons (v_name rfl) v_nil) rfl (is_frame_eq Z _ g)) rfl) (fun _ => v_name rfl) fun _ => v_cst)
      refine k_guard (a := false) (t_asb (v_op2 (v_callD (v_cons (v_name rfl) v_nil) rfl) v_cst ?_)) (fun z => by cases z) (fun _ => ?_) (fun z => by cases z)
      · show some (Dat.bl (decide ((((w0 :: w1 :: w2 :: w3 :: r).map Dat.str).length : Int) < 4))) = _
        rw [decide_eq_false (by rw [hlen]; omega)]
      by_cases q0 : w0 = sTell
      · have ef : foundD (w0 :: w1 :: w2 :: w3 :: r) = .tup ([.str w0, .str w1, numIn w2, .tup ((splitL 44 w3).map Dat.str)] ++ r.map Dat.str) := if_pos q0
        refine k_seq ((k_ifT (t_asb (v_op2 (v_op2 (v_name rfl) v_cst i0) v_cst (by rw [eqS, q0]; rfl)))).trans (k_set (D := foundD (w0 :: w1 :: w2 :: w3 :: r)) ?_)) (fin _ rfl)
        rw [ef]
        exact v_op2 (v_tup (v_cons (v_op2 (v_name rfl) v_cst i0) (v_cons (v_op2 (v_name rfl) v_cst i1) (v_cons (v_callP (v_cons (v_op2 (v_name rfl) v_cst i2) v_nil) rfl (num w2 (by simp))) (v_cons (v_callD (v_cons (v_met (v_op2 (v_name rfl) v_cst i3) v_cst (if_pos ⟨by decide, big _ (by omega)⟩)) v_nil) rfl) v_nil)))) (show 4 ≤ line by decide)) (v_callD (v_cons (v_sl (v_name rfl) (v_prt v_cst) v_cst s4) v_nil) rfl) (addT _ _ (show 4 ≤ 1000 by decide) (by rw [List.length_map]; omega))
      · have n0 : eqD false (.str w0) (.str [116, 101, 108, 108]) = some (.bl false) := by
          rw [eqS]
          show some (Dat.bl (decide (w0 = sTell))) = _
          rw [decide_eq_false q0]
        by_cases q1 : w0 = sAsk
        · have ef : foundD (w0 :: w1 :: w2 :: w3 :: r) = .tup ([.str w0, .str w1] ++ (w2 :: w3 :: r).map numIn) := (if_neg q0).trans (if_pos q1)
          refine k_seq ((k_ifF (t_asb (v_op2 (v_op2 (v_name rfl) v_cst i0) v_cst n0))).trans ((k_ifT (t_asb (v_op2 (v_op2 (v_name rfl) v_cst i0) v_cst (by rw [eqS, q1]; rfl)))).trans (k_set (D := foundD (w0 :: w1 :: w2 :: w3 :: r)) ?_))) (fin _ rfl)
          rw [ef]
          exact v_op2 (v_callD (v_cons (v_sl (v_name rfl) v_cst (v_prt v_cst) s2) v_nil) rfl) (v_callD (v_cons (nums (w2 :: w3 :: r) _ _ (fun w hw => .tail _ (.tail _ hw)) (by simp only [List.length_cons]; omega) rfl (v_itm (v_sl (v_name rfl) (v_prt v_cst) v_cst s2') rfl)) v_nil) rfl) (addT _ _ (by simp) (by simp only [List.length_map, List.length_cons]; omega))
        · have n1 : eqD false (.str w0) (.str [97, 115, 107]) = some (.bl false) := by
            rw [eqS]
            show some (Dat.bl (decide (w0 = sAsk))) = _
            rw [decide_eq_false q1]
          have ef : foundD (w0 :: w1 :: w2 :: w3 :: r) = .tup ([.str w0, .str w1] ++ [numIn w2, numIn w3] ++ r.map Dat.str) := (if_neg q0).trans (if_neg q1)
          refine k_seq ((k_ifF (t_asb (v_op2 (v_op2 (v_name rfl) v_cst i0) v_cst n0))).trans ((k_ifF (t_asb (v_op2 (v_op2 (v_name rfl) v_cst i0) v_cst n1))).trans (k_set (D := foundD (w0 :: w1 :: w2 :: w3 :: r)) ?_))) (fin _ rfl)
          rw [ef]
          exact v_op2 (v_op2 (v_callD (v_cons (v_sl (v_name rfl) v_cst (v_prt v_cst) s2) v_nil) rfl) (v_callD (v_cons (nums [w2, w3] _ _ (fun w hw => by
            simp only [List.mem_cons, List.not_mem_nil, or_false] at hw
            rcases hw with rfl | rfl <;> simp) (by simp) rfl (v_itm (v_sl (v_name rfl) (v_prt v_cst) (v_prt v_cst) s24) rfl)) v_nil) rfl) (addT _ _ (by simp) (by simp))) (v_callD (v_cons (v_sl (v_name rfl) (v_prt v_cst) v_cst s4) v_nil) rfl) (addT _ _ (by simp) (by rw [List.length_map]; omega))
    | [], h4, _, _ => exact (h4 (by simp)).elim
    | [_], h4, _, _ => exact (h4 (by simp)).elim
    | [_, _], h4, _, _ => exact (h4 (by simp)).elim
    | [_, _, _], h4, _, _ => exact (h4 (by simp)).elim
/-- the program reads just the lines of frames -/
theorem frame_in_yes (Z : Ad) (f : Fr) (ok : f.ok) (fit : f.fit) : den_frame_in Z [.str f.line] () = .ok f.d () := by
  rw [frame_in_eq Z f.line ⟨Nat.le_trans (fit_line fit) (by decide), by rw [line_split ok]; exact fit⟩, line_split ok, found_ws ok, if_pos (frame_ok ok)]
theorem frame_in_no (Z : Ad) (L : List Nat) (h : LineOk L) (n : ∀ f : Fr, f.ok → L ≠ f.line) : den_frame_in Z [.str L] () = .ok .non () := by
  rw [frame_in_eq Z L h, if_neg]
  intro z
  obtain ⟨f, ok, e, _⟩ := ws_found z
  refine n f ok ?_
  unfold Fr.line
  rw [← e, join_split]
end K25
end
section
set_option Elab.async false
set_option linter.all false
set_option maxRecDepth 100000
set_option maxHeartbeats 4000000
namespace K25
open PySem PySem.Spec PyProof.Rows L2 LamX DL

/-! ### texts read by the program -/
def prs (L : List Nat) : Option Dat := if frameB (foundD (splitL 32 L)) then some (foundD (splitL 32 L)) else none
def readP : List (List Nat) → Nat → List Dat → List Dat ⊕ Nat
  | [], _, acc => .inl acc
  | L :: ls, k, acc => match prs L with
    | some d => readP ls (k + 1) (acc ++ [d])
    | none => .inr k
def numF : Nat → List Dat → List Dat
  | _, [] => []
  | k, d :: ds => .tup [.int (k : Int), d] :: numF (k + 1) ds
theorem num_F : ∀ (ds : List Dat) (k : Nat), (ds.mapIdx fun i d => Dat.tup [.int ((k + i : Nat) : Int), d]) = numF k ds
  | [], _ => rfl
  | d :: ds, k => by
    rw [List.mapIdx_cons]
    show Dat.tup [.int ((k + 0 : Nat) : Int), d] :: _ = Dat.tup [.int (k : Int), d] :: numF (k + 1) ds
    rw [← num_F ds (k + 1)]
    congr 2
    funext i x
    rw [show k + (i + 1) = k + 1 + i by omega]
theorem num_D (ds : List Dat) : numD ds = numF 0 ds := by
  rw [← num_F ds 0]
  unfold numD
  congr 1
  funext i d
  rw [Nat.zero_add]
theorem cut_last {α : Type} (xs : List α) (x : α) : cutL (xs ++ [x]) none (some (-1)) = xs := by
  unfold cutL
  rw [HT.sIx_none]
  have h : HT.sIx (xs ++ [x]).length (xs ++ [x]).length (some (-1)) = xs.length := by
    unfold HT.sIx
    simp
    omega
  rw [h]
  simp
theorem at_last {α : Type} (xs : List α) (x : α) : atI (xs ++ [x]) (-1) = some x := by
  unfold atI ixN
  rw [if_neg (by decide), if_pos (by rw [List.length_append, List.length_singleton]; omega)]
  have h : ((-1 : Int) + ((xs ++ [x]).length : Int)).toNat = xs.length := by
    rw [List.length_append, List.length_singleton]
    omega
  rw [h]
  show (xs ++ [x])[xs.length]? = some x
  simp
theorem prs_ne {L : List Nat} {d : Dat} (h : prs L = some d) : ∃ f : Fr, f.ok ∧ L = f.line ∧ d = f.d := by
  unfold prs at h
  split at h
  · rename_i q
    obtain ⟨f, ok, e1, e2⟩ := ws_found q
    cases h
    refine ⟨f, ok, ?_, e2⟩
    unfold Fr.line
    rw [← e1, join_split]
  · cases h
theorem prs_line {f : Fr} (ok : f.ok) : prs f.line = some f.d := by
  unfold prs
  rw [line_split ok, found_ws ok, if_pos (frame_ok ok)]
theorem prs_in (Z : Ad) {L : List Nat} (h : LineOk L) : den_frame_in Z [.str L] () = .ok ((prs L).getD .non) () := by
  rw [frame_in_eq Z L h]
  unfold prs
  by_cases q : frameB (foundD (splitL 32 L)) = true
  · rw [if_pos q, if_pos q]
    rfl
  · rw [if_neg q, if_neg q]
    rfl
/-- the program's loop over the lines -/
theorem cut_loop (Z : Ad) (x : List Nat) (ls0 : Dat) : ∀ (ls : List (List Nat)) (k : Nat) (acc : List Dat) (a3 a4 a5 : Option SV), (∀ L ∈ ls, LineOk L) → notOwn [some (.d (.str x)), some (.d ls0), some (.o acc), a3, a4, a5] 3 = true → notOwn [some (.d (.str x)), some (.d ls0), some (.o acc), a3, a4, a5] 4 = true → acc.length + ls.length < line →
    ∃ b3 b4 b5, forS (putT (putC (putN 3) (putC (putN 4) putNil))) (seqS (asgS 5 (callP 1 (den_frame_in Z) (aCons (vName 4) aNil))) (seqS (ifS (asB (op2 (isND false) (vName 5) (cst .non))) (rsF Z.cBT "line" (vName 3)) skipS) (appS 2 (vName 5)))) (numF k (ls.map Dat.str)) [some (.d (.str x)), some (.d ls0), some (.o acc), a3, a4, a5] () =
      match readP ls k acc with
      | .inl ds => .nx [some (.d (.str x)), some (.d ls0), some (.o ds), b3, b4, b5] ()
      | .inr i => .ex Z.cBT ["line"] [.int (i : Int)] ()
  | [], k, acc, a3, a4, a5, _, _, _, _ => ⟨a3, a4, a5, rfl⟩
  | L :: ls, k, acc, a3, a4, a5, h, n3, n4, hl => by
    have hL := h L (.head _)
    rw [List.length_cons] at hl
    have put : putT (putC (putN 3) (putC (putN 4) putNil)) (.tup [.int (k : Int), .str L]) [some (.d (.str x)), some (.d ls0), some (.o acc), a3, a4, a5] = some [some (.d (.str x)), some (.d ls0), some (.o acc), some (.d (.int k)), some (.d (.str L)), a5] := by
      simp only [putT, putC, putN, putNil, n3, if_true]
      have n4' : notOwn [some (SV.d (.str x)), some (.d ls0), some (.o acc), some (.d (.int k)), a4, a5] 4 = true := n4
      show Option.bind (if notOwn [some (SV.d (.str x)), some (.d ls0), some (.o acc), some (.d (.int k)), a4, a5] 4 = true then some _ else none) _ = _
      rw [if_pos n4']
      rfl
    simp only [List.map_cons, numF, forS, put]
    have set : asgS (T := Unit) 5 (callP 1 (den_frame_in Z) (aCons (vName 4) aNil)) [some (.d (.str x)), some (.d ls0), some (.o acc), some (.d (.int k)), some (.d (.str L)), a5] () = .nx [some (.d (.str x)), some (.d ls0), some (.o acc), some (.d (.int k)), some (.d (.str L)), some (.d ((prs L).getD .non))] () :=
      k_set (v_callP (v_cons (v_name rfl) v_nil) rfl (prs_in Z hL))
    cases e : prs L with
    | none =>
      rw [e] at set
      refine ⟨none, none, none, ?_⟩
      have step : seqS (asgS 5 (callP 1 (den_frame_in Z) (aCons (vName 4) aNil))) (seqS (ifS (asB (op2 (isND false) (vName 5) (cst .non))) (rsF Z.cBT "line" (vName 3)) skipS) (appS 2 (vName 5))) [some (.d (.str x)), some (.d ls0), some (.o acc), some (.d (.int k)), some (.d (.str L)), a5] () = .ex Z.cBT ["line"] [.int (k : Int)] () :=
        k_seq set (k_seqX ((k_ifT (t_asb (v_op2 (v_name rfl) v_cst rfl))).trans rfl))
      rw [step]
      simp only [readP, e]
    | some d =>
      rw [e] at set
      obtain ⟨f, ok, e1, e2⟩ := prs_ne e
      have nn : isND false d .non = some (.bl false) := by
        rw [e2]
        cases f <;> rfl
      have step : seqS (asgS 5 (callP 1 (den_frame_in Z) (aCons (vName 4) aNil))) (seqS (ifS (asB (op2 (isND false) (vName 5) (cst .non))) (rsF Z.cBT "line" (vName 3)) skipS) (appS 2 (vName 5))) [some (.d (.str x)), some (.d ls0), some (.o acc), some (.d (.int k)), some (.d (.str L)), a5] () = .nx [some (.d (.str x)), some (.d ls0), some (.o (acc ++ [d])), some (.d (.int k)), some (.d (.str L)), some (.d d)] () :=
        k_seq set (k_seq ((k_ifF (t_asb (v_op2 (v_name rfl) v_cst nn))).trans rfl) (k_app (xs := acc) rfl (v_name rfl) (by omega)))
      rw [step]
      obtain ⟨b3, b4, b5, q⟩ := cut_loop Z x ls0 ls (k + 1) (acc ++ [d]) (some (.d (.int k))) (some (.d (.str L))) (some (.d d)) (fun M hM => h M (.tail _ hM)) rfl rfl (by simp; omega)
      refine ⟨b3, b4, b5, ?_⟩
      simp only [readP, e]
      exact q
structure TextOk (x : List Nat) : Prop where
  len : x.length ≤ 1000000
  ls : ∀ L ∈ splitL 10 x, LineOk L
theorem split_last (c : Nat) (x : List Nat) : ∃ ls l, splitL c x = ls ++ [l] := by
  have h := splitL_ne c x
  exact ⟨(splitL c x).dropLast, (splitL c x).getLast h, (List.dropLast_concat_getLast h).symm⟩
theorem cut_text_eq (Z : Ad) {x l : List Nat} {ls : List (List Nat)} (h : TextOk x) (e : splitL 10 x = ls ++ [l]) : den_cut_text Z [.str x] () = match readP ls 0 [] with
    | .inl ds => .ok (.tup [.lst ds, .str l]) ()
    | .inr i => .ex Z.cBT ["line"] [.int (i : Int)] () := by
  have hx := h.len
  have big : ∀ k : Nat, k ≤ 2000000 → k ≤ line := fun k hk => Nat.le_trans hk (by decide)
  have hls : ls.length ≤ 1000001 := by
    have := split_len 10 x
    rw [e, List.length_append, List.length_singleton] at this
    omega
  show retOf (fs_cut_text Z [some (.d (.str x)), none, none, none, none, none] ()) = _
  have ty : notT (T := Unit) (truD (un1 (isiD "str") (vName 0))) [some (.d (.str x)), none, none, none, none, none] () = .ok false () := t_not (t_tru (v_un1 (v_name (d := .str x) rfl) (z := .bl true) rfl) rfl)
  have sp : met1 (T := Unit) splitD (vName 0) (cst (.str [10])) [some (.d (.str x)), none, none, none, none, none] () = .ok (wsD (ls ++ [l])) () := by
    rw [← e]
    exact v_met (v_name rfl) v_cst (if_pos ⟨by decide, big _ (by omega)⟩)
  have it : itmE (T := Unit) (aCons (sl3 (vName 1) (cst none) (prt (negD (cst (.int 1))))) aNil) [some (.d (.str x)), some (.d (wsD (ls ++ [l]))), some (.o []), none, none, none] () = .ok (numF 0 (ls.map Dat.str)) () := by
    rw [← num_D]
    refine v_enum (v_cons (v_sl (v_name rfl) v_cst (v_prt (v_neg v_cst)) ?_) v_nil)
    show some (Dat.lst (cutL ((ls ++ [l]).map Dat.str) none (some (-1)))) = _
    rw [List.map_append, List.map_singleton, cut_last]
  obtain ⟨b3, b4, b5, q⟩ := cut_loop Z x (wsD (ls ++ [l])) ls 0 [] none none none (fun L hL => h.ls L (by rw [e]; exact List.mem_append_left _ hL)) rfl rfl (by simp; exact Nat.lt_of_le_of_lt hls (by decide))
  have start : ∀ o, seqS (loopS (putT (putC (putN 3) (putC (putN 4) putNil))) (itmE (aCons (sl3 (vName 1) (cst none) (prt (negD (cst (.int 1))))) aNil)) (seqS (asgS 5 (callP 1 (den_frame_in Z) (aCons (vName 4) aNil))) (seqS (ifS (asB (op2 (isND false) (vName 5) (cst .non))) (rsF Z.cBT "line" (vName 3)) skipS) (appS 2 (vName 5))))) (frzS 2 (retS (mkTup (aCons (vName 2) (aCons (op2 ixD (vName 1) (negD (cst (.int 1)))) aNil))))) [some (.d (.str x)), some (.d (wsD (ls ++ [l]))), some (.o []), none, none, none] () = o →
      fs_cut_text Z [some (.d (.str x)), none, none, none, none, none] () = o := fun o ho => k_seq ((k_ifF ty).trans rfl) (k_seq (k_set sp) (k_seq (k_new v_nil (by decide)) ho))
  cases er : readP ls 0 [] with
  | inr i =>
    rw [er] at q
    rw [start (.ex Z.cBT ["line"] [.int (i : Int)] ()) (k_seqX (k_loop it q))]
    rfl
  | inl ds =>
    rw [er] at q
    rw [start (.rt (.tup [.lst ds, .str l]) ()) (k_seq (k_loop it q) (k_frz (xs := ds) rfl (k_ret (v_tup (v_cons (v_name rfl) (v_cons (v_op2 (v_name rfl) (v_neg v_cst) (z := .str l) ?_) v_nil)) (show 2 ≤ line by decide)))))]
    · rfl
    · show atI ((ls ++ [l]).map Dat.str) (-1) = _
      rw [List.map_append, List.map_singleton, at_last]
theorem read_len : ∀ {ls : List (List Nat)} {k : Nat} {acc ds : List Dat}, readP ls k acc = .inl ds → ds.length = acc.length + ls.length
  | [], k, acc, ds, h => by
    cases h
    rfl
  | L :: ls, k, acc, ds, h => by
    unfold readP at h
    split at h
    · have := read_len h
      rw [this, List.length_append, List.length_singleton, List.length_cons]
      omega
    · cases h
theorem read_frames_eq (Z : Ad) {x l : List Nat} {ls : List (List Nat)} (h : TextOk x) (e : splitL 10 x = ls ++ [l]) : den_read_frames Z [.str x] () = match readP ls 0 [] with
    | .inl ds => if l = [] then .ok (.lst ds) () else .ex Z.cBT ["line"] [.int (ls.length : Int)] ()
    | .inr i => .ex Z.cBT ["line"] [.int (i : Int)] () := by
  have c := cut_text_eq Z h e
  show retOf (fs_read_frames Z [some (.d (.str x)), none, none] ()) = _
  cases er : readP ls 0 [] with
  | inr i =>
    rw [er] at c
    have : fs_read_frames Z [some (.d (.str x)), none, none] () = .ex Z.cBT ["line"] [.int (i : Int)] () := by
      refine k_seqX ?_
      unfold asgT bindS
      have cc : callP (T := Unit) 1 (den_cut_text Z) (aCons (vName 0) aNil) [some (.d (.str x)), none, none] () = .ex Z.cBT ["line"] [.int (i : Int)] () := v_callX (v_cons (v_name rfl) v_nil) rfl c
      rw [cc]
    rw [this]
    rfl
  | inl ds =>
    rw [er] at c
    have hd := read_len er
    have st : asgT (T := Unit) (putT (putC (putN 1) (putC (putN 2) putNil))) (callP 1 (den_cut_text Z) (aCons (vName 0) aNil)) [some (.d (.str x)), none, none] () = .nx [some (.d (.str x)), some (.d (.lst ds)), some (.d (.str l))] () := k_asg (v_callP (v_cons (v_name rfl) v_nil) rfl c) rfl
    by_cases hl : l = []
    · have : fs_read_frames Z [some (.d (.str x)), none, none] () = .rt (.lst ds) () := by
        refine k_seq st (k_seq ((k_ifF (t_asb (v_op2 (v_name rfl) v_cst (by rw [eqS, hl]; rfl)))).trans rfl) (k_ret (v_name rfl)))
      rw [this]
      show Out.ok _ _ = if l = [] then _ else _
      rw [if_pos hl]
    · have : fs_read_frames Z [some (.d (.str x)), none, none] () = .ex Z.cBT ["line"] [.int (ls.length : Int)] () := by
        refine k_seq st (k_seqX ((k_ifT (t_asb (v_op2 (v_name rfl) v_cst (by
          rw [eqS]
          show some (Dat.bl (!decide (l = []))) = _
          rw [decide_eq_false hl]
          rfl)))).trans ?_))
        show bindS (callD lenD (aCons (vName 1) aNil) [some (.d (.str x)), some (.d (.lst ds)), some (.d (.str l))] ()) _ = _
        rw [v_callD (z := .int ds.length) (v_cons (v_name rfl) v_nil) rfl, hd]
        simp [bindS]
      rw [this]
      show Out.ex _ _ _ _ = if l = [] then _ else _
      rw [if_neg hl]
end K25
end
section
set_option Elab.async false
set_option linter.all false
set_option maxRecDepth 100000
set_option maxHeartbeats 4000000
namespace K25
open PySem PySem.Spec PyProof.Rows L2 LamX DL

/-! ### the law's own tests -/
mutual
theorem shp_mono : ∀ (d : Dat) (n m : Nat), n ≤ m → shp d n = true → shp d m = true
  | .non, _, _, _, _ => rfl
  | .bl _, _, _, _, _ => rfl
  | .int _, _, _, _, _ => rfl
  | .str x, _, _, _, h => by
    simp only [shp] at h ⊢
    exact h
  | .tup ds, n, m, hl, h => by
    simp only [shp, Bool.and_eq_true, decide_eq_true_eq] at h ⊢
    exact ⟨by omega, shps_mono ds _ _ (by omega) h.2⟩
  | .lst ds, n, m, hl, h => by
    simp only [shp, Bool.and_eq_true, decide_eq_true_eq] at h ⊢
    exact ⟨by omega, shps_mono ds _ _ (by omega) h.2⟩
  | .rol _, _, _, _, h => by simp [shp] at h
  | .exc _ _ _, _, _, _, h => by simp [shp] at h
  | .hd, _, _, _, h => by simp [shp] at h
theorem shps_mono : ∀ (ds : List Dat) (n m : Nat), n ≤ m → shps ds n = true → shps ds m = true
  | [], _, _, _, _ => rfl
  | d :: ds, n, m, hl, h => by
    simp only [shps, Bool.and_eq_true] at h ⊢
    exact ⟨shp_mono d n m hl h.1, shps_mono ds n m hl h.2⟩
end
theorem shps_all {n : Nat} : ∀ {ds : List Dat}, (∀ d ∈ ds, shp d n = true) → shps ds n = true
  | [], _ => rfl
  | d :: ds, h => by
    simp only [shps, Bool.and_eq_true]
    exact ⟨h d (.head _), shps_all fun x hx => h x (.tail _ hx)⟩
theorem shps_mem {n : Nat} : ∀ {ds : List Dat}, shps ds n = true → ∀ d ∈ ds, shp d n = true
  | d :: ds, h, x, hx => by
    simp only [shps, Bool.and_eq_true] at h
    rcases List.mem_cons.mp hx with rfl | hx
    · exact h.1
    · exact shps_mem h.2 x hx
theorem eq_empty {neg : Bool} {xs : List Dat} (h : ∀ d ∈ xs, shp d 20 = true) : eqD neg (.lst xs) (.lst []) = some (.bl (if neg then !xs.isEmpty else xs.isEmpty)) := by
  have h1 : shp (.lst xs) 60 = true := by
    simp only [shp, Bool.and_eq_true, decide_eq_true_eq]
    exact ⟨by decide, shps_mono xs 20 _ (by decide) (shps_all h)⟩
  have h2 : eqv (.lst xs) (.lst []) = xs.isEmpty := by cases xs <;> rfl
  show (if (shp (.lst xs) 60 && shp (.lst []) 60) = true then some (Dat.bl (if neg then !eqv (.lst xs) (.lst []) else eqv (.lst xs) (.lst []))) else none) = _
  rw [h1, h2]
  rfl
theorem filter_none {α : Type} (p : α → Bool) (l : List α) : (l.filter fun c => !p c).isEmpty = l.all p := by
  induction l with
  | nil => rfl
  | cons c l ih =>
    cases h : p c with
    | true => rw [List.filter_cons_of_neg (by simp [h]), ih, List.all_cons, h, Bool.true_and]
    | false => rw [List.filter_cons_of_pos (by simp [h]), List.all_cons, h, Bool.false_and]; rfl
theorem isempty_map {α β : Type} (f : α → β) (l : List α) : (l.map f).isEmpty = l.isEmpty := by cases l <;> rfl
theorem sgn_filter (w : List Nat) (p : Dat → Bool) (q : Nat → Bool) (e : ∀ c, p (.str [c]) = q c) : (sgnD w).filter p = sgnD (w.filter q) := by
  unfold sgnD
  rw [List.filter_map]
  congr 1
  exact List.filter_congr fun c _ => e c
/-- [sign for sign in w if sign not in letters] == [] -/
theorem none_out {w : List Nat} {ls : List Nat} {i : Nat} {ρ : En} {pt : Dat → En} {ρ' : En} (hw : w.length ≤ line) (hc : ∀ c ∈ w, c < 0x110000) (hn : [i].all (notOwn ρ) = true) {S : Den Unit} (hs : S ρ () = .ok (.str w) ()) (hp : ∀ d, putN i d (wipeE ρ [i]) = some (pt d)) (hv : ∀ d t, vName (T := Unit) i (pt d) t = .ok d t) :
    op2 (T := Unit) (eqD false) (lcD (putN i) [i] (itmS itmC S) (asB (op2 (isInD true) (vName i) (cst (.str ls)))) (vName i)) (mkLst aNil) ρ () = .ok (.bl (w.all fun c => decide (c ∈ ls))) () := by
  have e1 : lcD (T := Unit) (putN i) [i] (itmS itmC S) (asB (op2 (isInD true) (vName i) (cst (.str ls)))) (vName i) ρ () = .ok (.lst (((sgnD w).filter fun d => match d with | .str [c] => !decide (c ∈ ls) | _ => false).map id)) () := by
    refine lcD_pure pt (fun d => match d with | .str [c] => !decide (c ∈ ls) | _ => false) id hn (v_itm hs rfl) (fun d hd => ?_) (by simp [sgnD]; exact hw)
    simp only [sgnD, List.mem_map] at hd
    obtain ⟨c, _, rfl⟩ := hd
    exact ⟨hp _, t_asb (v_op2 (hv _ _) v_cst rfl), fun _ => hv _ _⟩
  rw [List.map_id, sgn_filter w _ (fun c => !decide (c ∈ ls)) fun _ => rfl] at e1
  have e2 := eq_empty (neg := false) (xs := sgnD (w.filter fun c => !decide (c ∈ ls))) fun d hd => by
    simp only [sgnD, List.mem_map, List.mem_filter] at hd
    obtain ⟨c, ⟨hm, _⟩, rfl⟩ := hd
    simp only [shp, List.all_cons, List.all_nil, Bool.and_true, decide_eq_true_eq]
    exact hc c hm
  refine v_op2 e1 (v_lst v_nil (by decide)) (e2.trans ?_)
  rw [show sgnD (w.filter fun c => !decide (c ∈ ls)) = (w.filter fun c => !decide (c ∈ ls)).map fun c => Dat.str [c] from rfl, isempty_map, filter_none]
  rfl
theorem str_shp {w : List Nat} {n : Nat} (h : shp (.str w) n = true) : ∀ c ∈ w, c < 0x110000 := fun c hc => by
  simp only [shp, List.all_eq_true] at h
  exact of_decide_eq_true (h c hc)
theorem law_is_name_eq (Z : Ad) (d : Dat) (h : okD d = true) (hs : shp d 21 = true) : den_law_is_name Z [d] () = .ok (.bl (nameB d)) () := by
  show retOf (fs_law_is_name Z [some (.d d), none] ()) = _
  refine r_ret ((k_ret (v_and (b := nameB d) (v_un1 (v_name rfl) (ty_str h)) fun q => ?_)).trans ?_)
  · cases d with
    | str w =>
      have hw : w.length ≤ line := by simpa [okD] using h
      refine (v_and (v_chn (a := decide (1 ≤ w.length)) (b := decide (w.length ≤ 6)) v_cst (v_callD (v_cons (v_name rfl) v_nil) (if_pos hw)) ?_ fun _ => ⟨v_cst, ?_⟩) fun _ => none_out (ls := lets) (pt := fun d => [some (.d (.str w)), some (.d d)]) (ρ' := []) hw (str_shp hs) rfl (v_name rfl) (fun _ => rfl) fun _ _ => rfl).trans ?_
      · rw [cmpI]
        congr 2
        simp
        omega
      · rw [cmpI]
        congr 2
        simp
        omega
      · unfold nameB isName
        rw [Bool.and_assoc]
    | _ => cases q
  · cases d <;> rfl
theorem law_is_from_eq (Z : Ad) (d : Dat) (l : Int) (h : okD d = true) : den_law_is_from Z [d, .int l] () = .ok (.bl (numB l d)) () := by
  show retOf (fs_law_is_from Z [some (.d d), some (.d (.int l))] ()) = _
  refine r_ret ((k_ret (v_and (b := numB l d) (v_un1 (v_name rfl) (ty_int h)) fun q => (v_and (b := numB l d) (v_not (v_un1 (v_name rfl) (ty_bool h))) fun q2 => ?_).trans ?_)).trans ?_)
  · cases d with
    | int i => exact v_op2 (v_name rfl) (v_name rfl) rfl
    | bl b => cases q2
    | _ => cases q
  · cases d <;> first | rfl | cases q
  · cases d <;> rfl
/-- GoodD, and shapes that == takes -/
structure GoodS (d : Dat) : Prop where
  g : GoodD d
  s : shp d 22 = true
theorem law_is_a_frame_eq (Z : Ad) (d : Dat) (h : GoodS d) : den_law_is_a_frame Z [d] () = .ok (.bl (frameB d)) () := by
  have hd := good_ok h.g
  show retOf (fs_law_is_a_frame Z [some (.d d), none, none] ()) = _
  cases d with
  | tup ds =>
    have g : GoodL ds := h.g
    have sh : ∀ x ∈ ds, shp x 21 = true := by
      have := h.s
      simp only [shp, Bool.and_eq_true] at this
      exact shps_mem this.2
    have len_lt : ∀ (xs : List Dat), cmpD (fun i j => decide (i < j)) (.int (xs.length : Nat)) (.int 4) = some (.bl (decide (xs.length < 4))) := fun xs => by
      show some (Dat.bl (decide ((xs.length : Int) < 4))) = _
      congr 2
      simp
      omega
    have len_eq : ∀ (xs : List Dat) (k : Nat), eqD false (.int (xs.length : Nat)) (.int (k : Nat)) = some (.bl (decide (xs.length = k))) := fun xs k => by
      rw [eqI]
      show some (Dat.bl ((xs.length : Int) == (k : Int))) = _
      by_cases q : xs.length = k
      · simp [q]
      · have : ¬ ((xs.length : Int) = (k : Int)) := by omega
        simp [q, this]
    by_cases h4 : ds.length < 4
    · have e : frameB (.tup ds) = false := by
        match ds, h4 with
        | [], _ => rfl
        | [x], _ => cases x <;> rfl
        | [x, k], _ => cases x <;> simp [frameB, tellB, askB, toldB]
        | [x, k, y], _ => cases x <;> simp [frameB, tellB, askB, toldB]
        | _ :: _ :: _ :: _ :: _, h4 => simp at h4; omega
      rw [e]
      exact r_ret (k_guard (t_or (t_not (t_tru (v_un1 (v_name (d := .tup ds) rfl) (z := .bl true) rfl) rfl)) fun _ => t_or (b := true) (t_asb (v_op2 (v_callD (v_cons (v_name rfl) v_nil) rfl) v_cst (len_lt ds))) fun z => by rw [decide_eq_true h4] at z; cases z) (fun _ => k_ret v_cst) (fun z => by simp [h4] at z) (fun _ _ _ z => by cases z))
    · match ds, h4, g, sh with
      | x :: k :: n :: m :: r, h4, g, sh =>
        have hx := g.ok x (by simp)
        have hk := g.ok k (by simp)
        have hn := g.ok n (by simp)
        have hm := g.ok m (by simp)
        have ix : ∀ (j : Nat) (y : Dat), (x :: k :: n :: m :: r)[j]? = some y → ixD (.tup (x :: k :: n :: m :: r)) (.int (j : Int)) = some y := fun j y q => by
          have hj := (List.getElem?_eq_some_iff.mp q).1
          show atI _ (j : Int) = _
          rw [atI_nat hj, q]
        have i0 := ix 0 x rfl
        have i1 := ix 1 k rfl
        have i2 := ix 2 n rfl
        have i3 := ix 3 m rfl
        have cnt : ∀ (ρ : En) (y : Dat) (i : Int) (l : Int), ρ[0]? = some (some (.d (.tup (x :: k :: n :: m :: r)))) → okD y = true → ixD (.tup (x :: k :: n :: m :: r)) (.int i) = some y → callP (T := Unit) 2 (den_law_is_from Z) (aCons (op2 ixD (vName 0) (cst (.int i))) (aCons (cst (.int l)) aNil)) ρ () = .ok (.bl (numB l y)) () := fun ρ y i l h0 hy hi =>
          v_callP (v_cons (v_op2 (v_name h0) v_cst hi) (v_cons v_cst v_nil)) rfl (law_is_from_eq Z y l hy)
        refine r_ret (k_guard (t_or (t_not (t_tru (v_un1 (v_name (d := .tup (x :: k :: n :: m :: r)) rfl) (z := .bl true) rfl) rfl)) fun _ => t_or (t_asb (v_op2 (v_callD (v_cons (v_name rfl) v_nil) rfl) v_cst (len_lt (x :: k :: n :: m :: r)))) fun _ => t_or (t_not (t_tru (v_un1 (v_op2 (v_name rfl) v_cst i0) (ty_str hx)) rfl)) fun _ => t_not (t_tru (v_callP (v_cons (v_op2 (v_name rfl) v_cst i1) v_nil) rfl (law_is_name_eq Z k hk (sh k (by simp)))) rfl)) (fun q => ?_) (fun q => ?_) (fun _ _ _ z => by cases z))
        · refine (k_ret v_cst).trans ?_
          cases x with
          | str a =>
            have : nameB k = false := by
              have q' : (decide ((Dat.str a :: k :: n :: m :: r).length < 4) || (false || !nameB k)) = true := q
              rw [decide_eq_false h4] at q'
              simpa using q'
            simp only [frameB, this, Bool.false_and]
          | _ => rfl
        · cases x with
          | str a =>
            have qk : nameB k = true := by
              have q' : (decide ((Dat.str a :: k :: n :: m :: r).length < 4) || (false || !nameB k)) = false := q
              rw [decide_eq_false h4] at q'
              simpa using q'
            simp only [frameB, qk, Bool.true_and]
            refine k_guard (a := decide (a = sTell)) (t_asb (v_op2 (v_op2 (v_name rfl) v_cst i0) v_cst eqS)) (fun q1 => ?_) (fun q1 => ?_) (fun _ _ _ z => by cases z)
            · have e := of_decide_eq_true q1
              rw [if_pos e]
              have st : asgS (T := Unit) 1 (op2 ixD (vName 0) (cst (.int 3))) [some (.d (.tup (Dat.str a :: k :: n :: m :: r))), none, none] () = .nx [some (.d (.tup (Dat.str a :: k :: n :: m :: r))), some (.d m), none] () := k_set (v_op2 (v_name rfl) v_cst i3)
              refine k_seq st ((k_ret (v_and (a := decide ((Dat.str a :: k :: n :: m :: r).length = 4)) (b := numB 0 n && (match m with | .tup vs => decide (1 ≤ vs.length) && (decide (vs.length ≤ 3) && vs.all nameB) | _ => false)) (v_op2 (v_callD (v_cons (v_name rfl) v_nil) rfl) v_cst (len_eq _ 4)) fun _ => v_and (cnt _ n 2 0 rfl hn i2) fun _ => (v_and (b := match m with | .tup vs => decide (1 ≤ vs.length) && (decide (vs.length ≤ 3) && vs.all nameB) | _ => false) (v_un1 (v_name rfl) (ty_tup hm)) fun qm => ?_).trans ?_)).trans ?_)
              · cases m with
                | tup vs =>
                  obtain ⟨hv, ok⟩ := g.tup vs (by simp)
                  have shv : ∀ v ∈ vs, shp v 20 = true := by
                    have := sh (.tup vs) (by simp)
                    simp only [shp, Bool.and_eq_true] at this
                    exact shps_mem this.2
                  have e1 : lcD (T := Unit) (putN 2) [2] (itmS itmT (vName 1)) (notT (truD (callP 1 (den_law_is_name Z) (aCons (vName 2) aNil)))) (vName 2) [some (.d (.tup (Dat.str a :: k :: n :: .tup vs :: r))), some (.d (.tup vs)), none] () = .ok (.lst ((vs.filter fun v => !nameB v).map id)) () :=
                    lcD_pure (t1 := ()) (ds := vs) (fun d => [some (.d (.tup (Dat.str a :: k :: n :: .tup vs :: r))), some (.d (.tup vs)), some (.d d)]) (fun v => !nameB v) id rfl rfl (fun d hd => ⟨rfl, t_not (t_tru (v_callP (v_cons (v_name rfl) v_nil) rfl (law_is_name_eq Z d (ok d hd) (shp_mono d 20 21 (by decide) (shv d hd)))) rfl), fun _ => v_name rfl⟩) (Nat.le_trans hv (by decide))
                  rw [List.map_id] at e1
                  have e2 := eq_empty (neg := false) (xs := vs.filter fun v => !nameB v) fun d hd => shv d (List.mem_filter.mp hd).1
                  rw [filter_none] at e2
                  refine (v_and (v_chn (a := decide (1 ≤ vs.length)) (b := decide (vs.length ≤ 3)) v_cst (v_callD (v_cons (v_name rfl) v_nil) rfl) ?_ fun _ => ⟨v_cst, ?_⟩) fun _ => v_op2 e1 (v_lst v_nil (by decide)) e2).trans ?_
                  · rw [cmpI]
                    congr 2
                    simp
                    omega
                  · rw [cmpI]
                    congr 2
                    simp
                    omega
                  · simp only [Bool.and_assoc]
                    rfl
                | _ => cases qm
              · cases m <;> rfl
              · cases r with
                | nil => cases m <;> simp [tellB]
                | cons y r => simp [tellB]
            · have e := of_decide_eq_false q1
              rw [if_neg e]
              refine k_guard (t_or (t_not (t_tru (cnt _ n 2 1 rfl hn i2) rfl)) fun _ => t_not (t_tru (cnt _ m 3 1 rfl hm i3) rfl)) (fun q2 => (k_ret v_cst).trans ?_) (fun q2 => ?_) (fun _ _ _ z => by cases z)
              · have q3 : numB 1 n = false ∨ numB 1 m = false := by simpa using q2
                have e1 : askB (Dat.str a :: k :: n :: m :: r) = false := by
                  match r with
                  | [] => rfl
                  | [_] => rfl
                  | [y, z] => rcases q3 with q3 | q3 <;> simp [askB, q3]
                  | _ :: _ :: _ :: _ => rfl
                have e2 : toldB (Dat.str a :: k :: n :: m :: r) = false := by
                  match r with
                  | [] => rfl
                  | [y] => cases y <;> first | rfl | (rcases q3 with q3 | q3 <;> simp [toldB, q3])
                  | _ :: _ :: _ => simp [toldB]
                rw [e1, e2, Bool.and_false]
                split <;> rfl
              · have q3 : numB 1 n = true ∧ numB 1 m = true := by simpa using q2
                refine k_guard (a := decide (a = sTold)) (t_asb (v_op2 (v_op2 (v_name rfl) v_cst i0) v_cst eqS)) (fun q4 => ?_) (fun q4 => ?_) (fun _ _ _ z => by cases z)
                · have e4 := of_decide_eq_true q4
                  have e5 : ¬ a = sAsk := fun z => by
                    rw [e4] at z
                    exact tell_not.2.2 z
                  rw [if_neg e5, q4, Bool.true_and]
                  refine (k_ret (v_and (b := toldB (Dat.str a :: k :: n :: m :: r)) (v_op2 (v_callD (v_cons (v_name rfl) v_nil) rfl) v_cst (len_eq _ 5)) fun q5 => ?_)).trans ?_
                  · match r, q5, g, sh, ix with
                    | [y], _, g, sh, ix =>
                      have i4 := ix 4 y rfl
                      have hy := g.ok y (by simp)
                      cases y with
                      | str w =>
                        have em : isInD false (.str w) (.lst [.str sLanded, .str sLeft]) = some (.bl (decide (sLanded = w) || decide (sLeft = w))) := by
                          have r : ∀ w, isInD false (.str w) (.lst [.str sLanded, .str sLeft]) = some (.bl (decide (sLanded = w) || (decide (sLeft = w) || false))) := fun w => by
                            match w with
                            | [] => rfl
                            | [c] => rfl
                            | _ :: _ :: _ => rfl
                          rw [r, Bool.or_false]
                        refine (v_and (v_un1 (v_op2 (v_name rfl) v_cst i4) (ty_str hy)) fun _ => v_op2 (v_op2 (v_name rfl) v_cst i4) (v_lst (v_cons v_cst (v_cons v_cst v_nil)) (show 2 ≤ line by decide)) em).trans ?_
                        simp only [toldB, q3.1, q3.2, Bool.true_and, isStr]
                      | _ => exact (v_and (b := true) (v_un1 (v_op2 (v_name rfl) v_cst i4) (ty_str hy)) fun z => by cases z).trans rfl
                    | [], q5, _, _, _ => simp at q5
                    | _ :: _ :: _, q5, _, _, _ => simp at q5
                  · match r with
                    | [] => rfl
                    | [y] => simp
                    | _ :: _ :: _ => simp [toldB]
                · have e4 := of_decide_eq_false q4
                  rw [q4, Bool.false_and]
                  refine (k_ret (v_and (a := decide (a = sAsk)) (b := askB (Dat.str a :: k :: n :: m :: r)) (v_op2 (v_op2 (v_name rfl) v_cst i0) v_cst eqS) fun _ => (v_and (b := askB (Dat.str a :: k :: n :: m :: r)) (v_op2 (v_callD (v_cons (v_name rfl) v_nil) rfl) v_cst (len_eq _ 6)) fun q6 => ?_).trans ?_)).trans ?_
                  · match r, q6, g, sh, ix, cnt with
                    | [y, z], _, g, sh, ix, cnt =>
                      have i4 := ix 4 y rfl
                      have i5 := ix 5 z rfl
                      have hy := g.ok y (by simp)
                      have hz := g.ok z (by simp)
                      refine (v_and (b := leB 5 y && numB 0 z) (cnt _ y 4 0 rfl hy i4) fun qy => v_and (v_op2 (v_op2 (v_name rfl) v_cst i4) v_cst ?_) fun _ => cnt _ z 5 0 rfl hz i5).trans ?_
                      · cases y with
                        | int i => rfl
                        | _ => cases qy
                      · simp only [askB, q3.1, q3.2, Bool.true_and]
                    | [], q6, _, _, _, _ => simp at q6
                    | [_], q6, _, _, _, _ => simp at q6
                    | _ :: _ :: _ :: _, q6, _, _, _, _ => simp at q6
                  · match r with
                    | [] => rfl
                    | [y] => rfl
                    | [y, z] => simp
                    | _ :: _ :: _ :: _ => simp [askB]
                  · by_cases e6 : a = sAsk
                    · rw [if_pos e6, decide_eq_true e6, Bool.true_and]
                    · rw [if_neg e6, decide_eq_false e6, Bool.false_and]
          | _ =>
            simp [isStr] at q
      | [], h4, _, _ => exact (h4 (by simp)).elim
      | [_], h4, _, _ => exact (h4 (by simp)).elim
      | [_, _], h4, _, _ => exact (h4 (by simp)).elim
      | [_, _, _], h4, _, _ => exact (h4 (by simp)).elim
  | _ =>
    refine r_ret (k_guard (t_or (b := true) (t_not (t_tru (v_un1 (v_name rfl) (ty_tup hd)) rfl)) fun z => by cases z) (fun _ => k_ret v_cst) (fun z => by cases z) (fun _ _ _ z => by cases z))
end K25
end
section
set_option Elab.async false
set_option linter.all false
set_option maxRecDepth 100000
set_option maxHeartbeats 4000000
namespace K25
open PySem PySem.Spec PyProof.Rows L2 LamX DL

/-! ### the law's own reading of a line -/
def Fr.parts : Fr → List Dat
  | .tell k n vs => [.str sTell, .str k, .int n, .tup (vs.map Dat.str)]
  | .ask k n m r p => [.str sAsk, .str k, .int n, .int m, .int r, .int p]
  | .told k n m x => [.str sTold, .str k, .int n, .int m, .str x]
theorem d_parts (f : Fr) : f.d = .tup f.parts := by cases f <;> rfl
def txt (vs : List (List Nat)) : Dat → Dat
  | .tup _ => .str (TL.joinL [44] vs)
  | d => strF d
def Fr.vs : Fr → List (List Nat)
  | .tell _ _ vs => vs
  | _ => []
theorem parts_ws (f : Fr) : f.parts.map (txt f.vs) = f.ws.map Dat.str := by cases f <;> rfl
theorem law_text_of_eq (Z : Ad) (f : Fr) (ok : f.ok) (fit : f.fit) : den_law_text_of Z [f.d] () = .ok (.str (f.line ++ [10])) () := by
  show retOf (fs_law_text_of Z [some (.d f.d), none] ()) = _
  have e1 : lcD (T := Unit) (putN 1) [1] (itmS itmT (vName 0)) (cst true) (ifV (truD (un1 (isiD "tuple") (vName 1))) (met1 joinD (cst (.str [44])) (vName 1)) (callD strD (aCons (vName 1) aNil))) [some (.d f.d), none] () = .ok (.lst (f.ws.map Dat.str)) () := by
    have hi : itmS (T := Unit) itmT (vName 0) [some (.d f.d), none] () = .ok f.parts () := v_itm (v_name rfl) (by rw [d_parts]; rfl)
    have e := lcD_map (T := Unit) (t1 := ()) (put := putN 1) (vs := [1]) (F := ifV (truD (un1 (isiD "tuple") (vName 1))) (met1 joinD (cst (.str [44])) (vName 1)) (callD strD (aCons (vName 1) aNil))) (ρ := [some (.d f.d), none]) (t := ()) (fun d => [some (.d f.d), some (.d d)]) (txt f.vs) rfl hi (fun d hd => ⟨rfl, ?_⟩) (by have : f.parts.length ≤ 6 := by { cases f <;> simp [Fr.parts] }; exact Nat.le_trans this (by decide))
    · rw [e, parts_ws]
    · have num : ∀ n : Nat, TL.numL n ∈ f.ws → callD (T := Unit) strD (aCons (vName 1) aNil) [some (.d f.d), some (.d (.int n))] () = .ok (.str (TL.numL n)) () := fun n hm => by
        have := log_fit (fit _ hm)
        exact v_callD (v_cons (v_name rfl) v_nil) (if_pos ⟨by omega, by simpa using this⟩)
      have str : ∀ w, ifV (T := Unit) (truD (un1 (isiD "tuple") (vName 1))) (met1 joinD (cst (.str [44])) (vName 1)) (callD strD (aCons (vName 1) aNil)) [some (.d f.d), some (.d (.str w))] () = .ok (.str w) () := fun w => (v_ifF (t_tru (v_un1 (v_name (d := .str w) rfl) (z := .bl false) rfl) rfl)).trans (v_callD (v_cons (v_name rfl) v_nil) rfl)
      have int : ∀ n : Nat, TL.numL n ∈ f.ws → ifV (T := Unit) (truD (un1 (isiD "tuple") (vName 1))) (met1 joinD (cst (.str [44])) (vName 1)) (callD strD (aCons (vName 1) aNil)) [some (.d f.d), some (.d (.int n))] () = .ok (.str (TL.numL n)) () := fun n hm => (v_ifF (t_tru (v_un1 (v_name (d := .int n) rfl) (z := .bl false) rfl) rfl)).trans (num n hm)
      cases f with
      | tell k n vs =>
        simp only [Fr.parts, List.mem_cons, List.not_mem_nil, or_false] at hd
        rcases hd with rfl | rfl | rfl | rfl
        · exact str _
        · exact str _
        · exact int n (by simp [Fr.ws])
        · exact (v_ifT (t_tru (v_un1 (v_name (d := .tup (vs.map Dat.str)) rfl) (z := .bl true) rfl) rfl)).trans (v_met v_cst (v_name rfl) (vals_join rfl ok))
      | ask k n m r p =>
        simp only [Fr.parts, List.mem_cons, List.not_mem_nil, or_false] at hd
        rcases hd with rfl | rfl | rfl | rfl | rfl | rfl
        · exact str _
        · exact str _
        · exact int n (by simp [Fr.ws])
        · exact int m (by simp [Fr.ws])
        · exact int r (by simp [Fr.ws])
        · exact int p (by simp [Fr.ws])
      | told k n m x =>
        simp only [Fr.parts, List.mem_cons, List.not_mem_nil, or_false] at hd
        rcases hd with rfl | rfl | rfl | rfl | rfl
        · exact str _
        · exact str _
        · exact int n (by simp [Fr.ws])
        · exact int m (by simp [Fr.ws])
        · exact str _
  refine r_ret (k_ret (v_op2 (v_met v_cst e1 (line_join fit)) v_cst ?_))
  show (if f.line.length + 1 ≤ line then some (Dat.str (f.line ++ [10])) else none) = _
  exact if_pos (Nat.le_trans (Nat.succ_le_succ (fit_line fit)) (by decide))
def fig (w : List Nat) : Bool := !decide (w = []) && (decide (w.length < 30) && w.all isFig)
def figD (w : List Nat) : Dat := if fig w then .lst [.int (NumText.digitsVal w : Nat)] else .lst []
def itemAt (w0 : List Nat) (i : Nat) (w : List Nat) : Dat := if i = 3 ∧ w0 = sTell then .tup ((splitL 44 w).map Dat.str) else if fig w = true ∧ 1 < i then .int (NumText.digitsVal w : Nat) else .str w
def itemsD (w0 : List Nat) : Nat → List (List Nat) → List Dat
  | _, [] => []
  | k, w :: r => itemAt w0 k w :: itemsD w0 (k + 1) r
def itemOf (w0 : List Nat) : Dat → Dat
  | .tup [.int i, .str w] => itemAt w0 i.toNat w
  | _ => .non
theorem items_map (w0 : List Nat) : ∀ (ws : List (List Nat)) (k : Nat), (numF k (ws.map Dat.str)).map (itemOf w0) = itemsD w0 k ws
  | [], _ => rfl
  | w :: ws, k => by
    simp only [List.map_cons, numF, itemsD, items_map w0 ws (k + 1)]
    rfl
theorem numF_mem : ∀ {ws : List (List Nat)} {k : Nat} {d : Dat}, d ∈ numF k (ws.map Dat.str) → ∃ i w, d = .tup [.int (i : Nat), .str w] ∧ k ≤ i ∧ ws[i - k]? = some w
  | [], _, _, h => by cases h
  | w :: ws, k, d, h => by
    rcases List.mem_cons.mp h with rfl | h
    · exact ⟨k, w, rfl, Nat.le_refl _, by rw [Nat.sub_self]; rfl⟩
    · obtain ⟨i, v, e, h1, h2⟩ := numF_mem h
      refine ⟨i, v, e, by omega, ?_⟩
      rw [show i - k = (i - (k + 1)) + 1 by omega]
      exact h2
theorem numF_len (ds : List Dat) : ∀ k, (numF k ds).length = ds.length := by
  induction ds with
  | nil => intro k; rfl
  | cons d ds ih => intro k; simp only [numF, List.length_cons, ih]
/-- what the law's reading gives -/
def lawIn (L : List Nat) : Dat := match prs L with
  | some d => .lst [d]
  | none => .lst []
structure LineS (L : List Nat) : Prop where
  ok : LineOk L
  ch : ∀ c ∈ L, c < 0x110000
  few : ∀ f : Fr, f.ok → L = f.line → ∀ w ∈ f.ws, w.length < 30
theorem split_sub (c : Nat) : ∀ (l : List Nat), ∀ p ∈ splitL c l, ∀ d ∈ p, d ∈ l
  | [], p, h, d, hd => by
    simp only [splitL, List.mem_singleton] at h
    rw [h] at hd
    cases hd
  | x :: l, p, h, d, hd => by
    have ih := split_sub c l
    by_cases hx : x = c
    · simp only [splitL, if_pos hx] at h
      rcases List.mem_cons.mp h with rfl | h
      · cases hd
      · exact .tail _ (ih p h d hd)
    · simp only [splitL, if_neg hx] at h
      cases e : splitL c l with
      | nil => exact (splitL_ne c l e).elim
      | cons q ps =>
        rw [e] at h ih
        rcases List.mem_cons.mp h with rfl | h
        · rcases List.mem_cons.mp hd with rfl | hd
          · exact .head _
          · exact .tail _ (ih q (.head _) d hd)
        · exact .tail _ (ih p (.tail _ h) d hd)
theorem items_mem {w0 : List Nat} : ∀ {ws : List (List Nat)} {k : Nat} {d : Dat}, d ∈ itemsD w0 k ws → ∃ i w, w ∈ ws ∧ d = itemAt w0 i w
  | [], _, _, h => by cases h
  | w :: ws, k, d, h => by
    rcases List.mem_cons.mp h with rfl | h
    · exact ⟨k, w, .head _, rfl⟩
    · obtain ⟨i, v, h1, h2⟩ := items_mem h
      exact ⟨i, v, .tail _ h1, h2⟩
theorem good_items {w0 : List Nat} {k : Nat} {ws : List (List Nat)} (h : ∀ w ∈ ws, w.length ≤ 44) (hc : ∀ w ∈ ws, ∀ c ∈ w, c < 0x110000) : GoodS (.tup (itemsD w0 k ws)) := by
  have sh : ∀ w : List Nat, (∀ c ∈ w, c < 0x110000) → ∀ n, shp (.str w) n = true := fun w q n => by
    simp only [shp, List.all_eq_true]
    exact fun c hm => decide_eq_true (q c hm)
  refine ⟨⟨fun d hd => ?_, fun vs hv => ?_⟩, ?_⟩
  · obtain ⟨i, w, hw, rfl⟩ := items_mem hd
    unfold itemAt
    split
    · rfl
    · split
      · rfl
      · exact ok_word (h w hw)
  · obtain ⟨i, w, hw, e⟩ := items_mem hv
    unfold itemAt at e
    split at e
    · cases e
      refine ⟨by rw [List.length_map]; have := split_len 44 w; have := h w hw; omega, fun v hv => ?_⟩
      obtain ⟨p, hp, rfl⟩ := List.mem_map.mp hv
      exact ok_word (Nat.le_trans (split_piece 44 w p hp) (h w hw))
    · split at e <;> cases e
  · simp only [shp, Bool.and_eq_true, decide_eq_true_eq]
    refine ⟨by decide, shps_all fun d hd => ?_⟩
    obtain ⟨i, w, hw, rfl⟩ := items_mem hd
    unfold itemAt
    split
    · simp only [shp, Bool.and_eq_true, decide_eq_true_eq]
      refine ⟨by decide, shps_all fun v hv => ?_⟩
      obtain ⟨p, hp, rfl⟩ := List.mem_map.mp hv
      exact sh p (fun c hm => hc w hw c (split_sub 44 w p hp c hm)) _
    · split
      · rfl
      · exact sh w (hc w hw) _
theorem fig_num {n : Nat} (h : (TL.numL n).length < 30) : fig (TL.numL n) = true := by
  unfold fig
  rw [decide_eq_false (TL.numL_ne n), decide_eq_true h, figs_all (TL.numL_digits n)]
  rfl
theorem fig_not {w : List Nat} {c : Nat} (h : c ∈ w) (hc : isFig c = false) : fig w = false := by
  have : w.all isFig = false := by
    rw [← Bool.not_eq_true, List.all_eq_true]
    intro z
    rw [z c h] at hc
    cases hc
  unfold fig
  rw [this]
  simp
theorem items_ws {f : Fr} (ok : f.ok) (few : ∀ w ∈ f.ws, w.length < 30) : ∀ w0 r, f.ws = w0 :: r → itemsD w0 0 f.ws = f.parts := by
  intro w0 r e
  have num : ∀ (n i : Nat), TL.numL n ∈ f.ws → 1 < i → ¬ (i = 3 ∧ w0 = sTell) → itemAt w0 i (TL.numL n) = .int (n : Nat) := fun n i hm hi h3 => by
    unfold itemAt
    rw [if_neg h3, if_pos ⟨fig_num (few _ hm), hi⟩, TL.numL_val]
  have str : ∀ (w : List Nat) (i : Nat), i ≤ 1 → itemAt w0 i w = .str w := fun w i hi => by
    unfold itemAt
    rw [if_neg (by omega), if_neg (by omega)]
  cases f with
  | tell k n vs =>
    cases e
    have h3 : itemAt sTell 3 (TL.joinL [44] vs) = .tup (vs.map Dat.str) := by
      unfold itemAt
      rw [if_pos ⟨rfl, rfl⟩, split_join (fun z => by rw [z] at ok; exact absurd ok.2.1 (by decide)) fun p hp => name_no (ok.2.2.2 p hp) (by decide)]
    simp only [Fr.ws, itemsD, Fr.parts, str _ 0 (by decide), str _ 1 (by decide), num n 2 (by simp [Fr.ws]) (by decide) (by simp), h3]
  | ask k n m r' p =>
    cases e
    have h3 : ∀ i : Nat, ¬ (i = 3 ∧ sAsk = sTell) := fun i z => tell_not.1 z.2
    simp only [Fr.ws, itemsD, Fr.parts, str _ 0 (by decide), str _ 1 (by decide), num n 2 (by simp [Fr.ws]) (by decide) (h3 _), num m 3 (by simp [Fr.ws]) (by decide) (h3 _), num r' 4 (by simp [Fr.ws]) (by decide) (h3 _), num p 5 (by simp [Fr.ws]) (by decide) (h3 _)]
  | told k n m x =>
    cases e
    have h3 : ∀ i : Nat, ¬ (i = 3 ∧ sTold = sTell) := fun i z => tell_not.2.1 z.2
    have hx : itemAt sTold 4 x = .str x := by
      have : fig x = false := by
        rcases ok.2.2.2 with rfl | rfl
        · exact fig_not (c := 108) (by decide) rfl
        · exact fig_not (c := 108) (by decide) rfl
      unfold itemAt
      rw [if_neg (h3 4), this]
      rfl
    simp only [Fr.ws, itemsD, Fr.parts, str _ 0 (by decide), str _ 1 (by decide), num n 2 (by simp [Fr.ws]) (by decide) (h3 _), num m 3 (by simp [Fr.ws]) (by decide) (h3 _), hx]
theorem items_small {w0 : List Nat} {k : Nat} {ws : List (List Nat)} {n : Nat} (h : Dat.int (n : Nat) ∈ itemsD w0 k ws) : (TL.numL n).length < 30 := by
  obtain ⟨i, w, hw, e⟩ := items_mem h
  unfold itemAt at e
  split at e
  · cases e
  · split at e
    · rename_i q
      have e : (n : Int) = (NumText.digitsVal w : Nat) := by injection e
      have hn : n = NumText.digitsVal w := by omega
      have q1 := q.1
      unfold fig at q1
      simp only [Bool.and_eq_true, decide_eq_true_eq] at q1
      have := digitsVal_lt w.length w rfl (all_figs q1.2.2)
      rw [← hn] at this
      have h29 : n < 10 ^ 29 := Nat.lt_of_lt_of_le this (Nat.pow_le_pow_right (by decide) (by omega))
      have := TL.numL_len (by decide) h29
      omega
    · cases e
theorem parts_few {f : Fr} (ok : f.ok) (h : ∀ n : Nat, Dat.int (n : Nat) ∈ f.parts → (TL.numL n).length < 30) : ∀ w ∈ f.ws, w.length < 30 := by
  have nm : ∀ {w : List Nat}, isName w = true → w.length < 30 := fun q => by
    have := (name_let q).2.2
    omega
  intro w hw
  cases f with
  | tell k n vs =>
    simp only [Fr.ws, List.mem_cons, List.not_mem_nil, or_false] at hw
    rcases hw with rfl | rfl | rfl | rfl
    · decide
    · exact nm ok.1
    · exact h n (by simp [Fr.parts])
    · obtain ⟨_, v1, v3, vn⟩ := ok
      have l6 : ∀ v ∈ vs, v.length ≤ 6 := fun v hv => (name_let (vn v hv)).2.2
      match vs, v1, v3, l6 with
      | [a], _, _, l6 =>
        have := l6 a (by simp)
        show a.length < 30
        omega
      | [a, b], _, _, l6 =>
        have := l6 a (by simp)
        have := l6 b (by simp)
        show (a ++ ([44] ++ b)).length < 30
        simp only [List.length_append, List.length_singleton]
        omega
      | [a, b, c], _, _, l6 =>
        have := l6 a (by simp)
        have := l6 b (by simp)
        have := l6 c (by simp)
        show (a ++ ([44] ++ (b ++ ([44] ++ c)))).length < 30
        simp only [List.length_append, List.length_singleton]
        omega
  | ask k n m r p =>
    simp only [Fr.ws, List.mem_cons, List.not_mem_nil, or_false] at hw
    rcases hw with rfl | rfl | rfl | rfl | rfl | rfl
    · decide
    · exact nm ok.1
    · exact h n (by simp [Fr.parts])
    · exact h m (by simp [Fr.parts])
    · exact h r (by simp [Fr.parts])
    · exact h p (by simp [Fr.parts])
  | told k n m x =>
    simp only [Fr.ws, List.mem_cons, List.not_mem_nil, or_false] at hw
    rcases hw with rfl | rfl | rfl | rfl | rfl
    · decide
    · exact nm ok.1
    · exact h n (by simp [Fr.parts])
    · exact h m (by simp [Fr.parts])
    · rcases ok.2.2.2 with e | e <;> rw [e] <;> decide
end K25
end
section
set_option Elab.async false
set_option linter.all false
set_option maxRecDepth 100000
set_option maxHeartbeats 4000000
namespace K25
open PySem PySem.Spec PyProof.Rows L2 LamX DL

theorem few_fit {f : Fr} (few : ∀ w ∈ f.ws, w.length < 30) : f.fit := fun w hw => by
  have := few w hw
  omega
theorem law_frame_in_eq (Z : Ad) (L : List Nat) (h : LineS L) : den_law_frame_in Z [.str L] () = .ok (lawIn L) () := by
  have hL := h.ok.len
  have big : ∀ k : Nat, k ≤ 2000000 → k ≤ line := fun k hk => Nat.le_trans hk (by decide)
  show retOf (fs_law_frame_in Z [some (.d (.str L)), none, none, none, none, none, none, none] ()) = _
  have sp : met1 (T := Unit) splitD (vName 0) (cst (.str [32])) [some (.d (.str L)), none, none, none, none, none, none, none] () = .ok (wsD (splitL 32 L)) () := v_met (v_name rfl) v_cst (if_pos ⟨by decide, big _ (by omega)⟩)
  have hws := h.ok.ws
  have hch : ∀ w ∈ splitL 32 L, ∀ c ∈ w, c < 0x110000 := fun w hw c hc => h.ch c (split_sub 32 L w hw c hc)
  have lws := split_len 32 L
  have hjoin := join_split 32 L
  obtain ⟨w0, r, ew⟩ : ∃ w0 r, splitL 32 L = w0 :: r := by
    cases e : splitL 32 L with
    | nil => exact (splitL_ne 32 L e).elim
    | cons a b => exact ⟨a, b, rfl⟩
  rw [ew] at sp hws hch lws hjoin
  let ws := w0 :: r
  let F0 : Dat := .lst (ws.map figD)
  -- the figures
  have fg : lcD (T := Unit) (putN 5) [5] (itmS itmL (vName 1)) (cst true) (ifV (andT (asB (op2 (eqD true) (vName 5) (cst (.str [])))) (andT (asB (op2 (cmpD fun i j => decide (i < j)) (callD lenD (aCons (vName 5) aNil)) (cst (.int 30)))) (asB (op2 (eqD false) (lcD (putN 6) [6] (itmS itmC (vName 5)) (asB (op2 (isInD true) (vName 6) (cst (.str [48, 49, 50, 51, 52, 53, 54, 55, 56, 57])))) (vName 6)) (mkLst aNil))))) (mkLst (aCons (callD intD (aCons (vName 5) aNil)) aNil)) (mkLst aNil)) [some (.d (.str L)), some (.d (wsD ws)), none, none, none, none, none, none] () = .ok F0 () := by
    have e := lcD_map (T := Unit) (t1 := ()) (put := putN 5) (vs := [5]) (I := itmS itmL (vName 1)) (F := ifV (andT (asB (op2 (eqD true) (vName 5) (cst (.str [])))) (andT (asB (op2 (cmpD fun i j => decide (i < j)) (callD lenD (aCons (vName 5) aNil)) (cst (.int 30)))) (asB (op2 (eqD false) (lcD (putN 6) [6] (itmS itmC (vName 5)) (asB (op2 (isInD true) (vName 6) (cst (.str [48, 49, 50, 51, 52, 53, 54, 55, 56, 57])))) (vName 6)) (mkLst aNil))))) (mkLst (aCons (callD intD (aCons (vName 5) aNil)) aNil)) (mkLst aNil)) (ρ := [some (.d (.str L)), some (.d (wsD ws)), none, none, none, none, none, none]) (t := ()) (ds := ws.map Dat.str) (fun d => [some (.d (.str L)), some (.d (wsD ws)), none, none, none, some (.d d), none, none]) (fun d => match d with | .str w => figD w | d => d) rfl (v_itm (v_name rfl) rfl) (fun d hd => ?_) (by rw [List.length_map]; exact big _ (by show (w0 :: r).length ≤ 2000000; omega))
    · rw [e, List.map_map]
      rfl
    · obtain ⟨w, hw, rfl⟩ := List.mem_map.mp hd
      refine ⟨rfl, ?_⟩
      have hl := hws w hw
      have nn := none_out (ls := figs) (i := 6) (ρ := [some (.d (.str L)), some (.d (wsD ws)), none, none, none, some (.d (.str w)), none, none]) (S := vName 5) (w := w) (pt := fun d => [some (.d (.str L)), some (.d (wsD ws)), none, none, none, some (.d (.str w)), some (.d d), none]) (ρ' := []) (big _ (by omega)) (hch w hw) rfl (v_name rfl) (fun _ => rfl) fun _ _ => rfl
      have ef : (w.all fun c => decide (c ∈ figs)) = w.all isFig := by
        congr 1
        funext c
        exact fig_mem c
      rw [ef] at nn
      refine (v_if (t1 := ()) (t2 := ()) (a := fig w) (x := .lst [.int (NumText.digitsVal w : Nat)]) (y := .lst []) ?_ (fun q => ?_) fun _ => v_lst v_nil (by decide)).trans ?_
      · unfold fig
        refine t_and (t_asb (v_op2 (v_name rfl) v_cst eqS)) fun _ => t_and (t_asb (v_op2 (v_callD (v_cons (v_name rfl) v_nil) (if_pos (big _ (by omega)))) v_cst ?_)) fun _ => t_asb nn
        show some (Dat.bl (decide ((w.length : Int) < 30))) = _
        congr 2
        simp
        omega
      · unfold fig at q
        simp only [Bool.and_eq_true, Bool.not_eq_true', decide_eq_false_iff_not] at q
        exact v_lst (v_cons (v_callD (v_cons (v_name rfl) v_nil) (if_pos ⟨q.2.2, q.1, by omega⟩)) v_nil) (show 1 ≤ line by decide)
      · show Out.ok (if fig w = true then _ else _) () = Out.ok (figD w) ()
        rfl
  -- the items
  have it : lcD (T := Unit) (putT (putC (putN 7) (putC (putN 5) putNil))) [7, 5] (itmE (aCons (vName 1) aNil)) (cst true) (ifV (andT (asB (op2 (eqD false) (vName 7) (cst (.int 3)))) (asB (op2 (eqD false) (op2 ixD (vName 1) (cst (.int 0))) (cst (.str [116, 101, 108, 108]))))) (callD tupleD (aCons (met1 splitD (vName 5) (cst (.str [44]))) aNil)) (ifV (andT (asB (op2 (eqD true) (op2 ixD (vName 2) (vName 7)) (mkLst aNil))) (asB (op2 (cmpD fun i j => decide (j < i)) (vName 7) (cst (.int 1))))) (op2 ixD (op2 ixD (vName 2) (vName 7)) (cst (.int 0))) (vName 5))) [some (.d (.str L)), some (.d (wsD ws)), some (.d F0), none, none, none, none, none] () = .ok (.lst (itemsD w0 0 ws)) () := by
    have e := lcD_map (T := Unit) (t1 := ()) (put := putT (putC (putN 7) (putC (putN 5) putNil))) (vs := [7, 5]) (I := itmE (aCons (vName 1) aNil)) (F := ifV (andT (asB (op2 (eqD false) (vName 7) (cst (.int 3)))) (asB (op2 (eqD false) (op2 ixD (vName 1) (cst (.int 0))) (cst (.str [116, 101, 108, 108]))))) (callD tupleD (aCons (met1 splitD (vName 5) (cst (.str [44]))) aNil)) (ifV (andT (asB (op2 (eqD true) (op2 ixD (vName 2) (vName 7)) (mkLst aNil))) (asB (op2 (cmpD fun i j => decide (j < i)) (vName 7) (cst (.int 1))))) (op2 ixD (op2 ixD (vName 2) (vName 7)) (cst (.int 0))) (vName 5))) (ρ := [some (.d (.str L)), some (.d (wsD ws)), some (.d F0), none, none, none, none, none]) (t := ()) (ds := numF 0 (ws.map Dat.str)) (fun d => match d with | .tup [a, b] => [some (.d (.str L)), some (.d (wsD ws)), some (.d F0), none, none, some (.d b), none, some (.d a)] | _ => []) (itemOf w0) rfl (by rw [← num_D]; exact v_enum (v_cons (v_name rfl) v_nil)) (fun d hd => ?_) (by rw [numF_len, List.length_map]; exact big _ (by show (w0 :: r).length ≤ 2000000; omega))
    · rw [e, items_map]
    · obtain ⟨i, w, rfl, _, hi⟩ := numF_mem hd
      rw [Nat.sub_zero] at hi
      have hw := List.mem_of_getElem? hi
      have hl := hws w hw
      have if_ : ixD F0 (.int (i : Nat)) = some (figD w) := ix_lst (j := i) (by rw [List.getElem?_map, hi]; rfl)
      have i0 : ixD (wsD ws) (.int 0) = some (.str w0) := ix_lst (j := 0) rfl
      have e3 : eqD false (.int (i : Nat)) (.int 3) = some (.bl (decide (i = 3))) := by
        rw [eqI]
        show some (Dat.bl ((i : Int) == 3)) = _
        by_cases q : i = 3
        · simp [q]
        · have : ¬ ((i : Int) = 3) := by omega
          simp [q, this]
      have ne : eqD true (figD w) (.lst []) = some (.bl (fig w)) := by
        unfold figD
        cases fig w <;> rfl
      have gt : cmpD (fun i j => decide (j < i)) (.int (i : Nat)) (.int 1) = some (.bl (decide (1 < i))) := by
        show some (Dat.bl (decide ((1 : Int) < (i : Int)))) = _
        congr 2
        simp
        omega
      refine ⟨rfl, ?_⟩
      refine (v_if (a := decide (i = 3) && decide (w0 = sTell)) (x := .tup ((splitL 44 w).map Dat.str)) (y := if fig w && decide (1 < i) then .int (NumText.digitsVal w : Nat) else .str w) (t_and (t_asb (v_op2 (v_name rfl) v_cst e3)) fun _ => t_asb (v_op2 (v_op2 (v_name rfl) v_cst i0) v_cst eqS)) (fun _ => v_callD (v_cons (v_met (v_name rfl) v_cst (if_pos ⟨by decide, big _ (by omega)⟩)) v_nil) rfl) fun _ => v_if (t_and (t_asb (v_op2 (v_op2 (v_name rfl) (v_name rfl) if_) (v_lst v_nil (by decide)) ne)) fun _ => t_asb (v_op2 (v_name rfl) v_cst gt)) (fun q => v_op2 (v_op2 (v_name rfl) (v_name rfl) if_) v_cst ?_) fun _ => v_name rfl).trans ?_
      · have q1 : fig w = true := by
          simp only [Bool.and_eq_true] at q
          exact q.1
        unfold figD
        rw [if_pos q1]
        rfl
      · show Out.ok _ () = Out.ok (itemAt w0 ((i : Nat) : Int).toNat w) ()
        rw [Int.toNat_natCast]
        unfold itemAt
        by_cases q1 : i = 3 ∧ w0 = sTell
        · rw [if_pos q1, if_pos (by simp [q1.1, q1.2])]
        · rw [if_neg q1, if_neg (by simpa using q1)]
          by_cases q2 : fig w = true ∧ 1 < i
          · rw [if_pos q2, if_pos (by simp [q2.1, q2.2])]
          · rw [if_neg q2, if_neg (by simpa using q2)]
  have gs := good_items (w0 := w0) (k := 0) hws hch
  have fin : ∀ (b : Bool) (x : Dat), andT (T := Unit) (truD (callP 1 (den_law_is_a_frame Z) (aCons (vName 4) aNil))) (asB (op2 (eqD false) (callP 1 (den_law_text_of Z) (aCons (vName 4) aNil)) (op2 addD (vName 0) (cst (.str [10]))))) [some (.d (.str L)), some (.d (wsD ws)), some (.d F0), some (.d (.lst (itemsD w0 0 ws))), some (.d (.tup (itemsD w0 0 ws))), none, none, none] () = .ok b () →
      retOf (fs_law_frame_in Z [some (.d (.str L)), none, none, none, none, none, none, none] ()) = .ok (if b then .lst [.tup (itemsD w0 0 ws)] else .lst []) () := fun b x hb =>
    r_ret (k_seq (k_set sp) (k_seq (k_set fg) (k_seq (k_set it) (k_seq (k_set (v_callD (v_cons (v_name rfl) v_nil) rfl)) (k_ret (v_if hb (fun _ => v_lst (v_cons (v_name rfl) v_nil) (show 1 ≤ line by decide)) fun _ => v_lst v_nil (by decide)))))))
  by_cases hf : frameB (.tup (itemsD w0 0 ws)) = true
  · obtain ⟨f, ok, ef⟩ := frame_of hf
    have ep : itemsD w0 0 ws = f.parts := by
      rw [d_parts] at ef
      injection ef
    have few : ∀ w ∈ f.ws, w.length < 30 := parts_few ok fun n hn => items_small (w0 := w0) (k := 0) (ws := ws) (by rw [ep]; exact hn)
    have tx : op2 (T := Unit) (eqD false) (callP 1 (den_law_text_of Z) (aCons (vName 4) aNil)) (op2 addD (vName 0) (cst (.str [10]))) [some (.d (.str L)), some (.d (wsD ws)), some (.d F0), some (.d (.lst (itemsD w0 0 ws))), some (.d (.tup (itemsD w0 0 ws))), none, none, none] () = .ok (.bl (decide (f.line ++ [10] = L ++ [10]))) () := by
      refine v_op2 (v_callP (v_cons (v_name rfl) v_nil) rfl (by rw [ef]; exact law_text_of_eq Z f ok (few_fit few))) (v_op2 (v_name rfl) v_cst (if_pos (big _ ?_))) eqS
      show L.length + 1 ≤ 2000000
      omega
    rw [fin _ .non (t_and (t_tru (v_callP (v_cons (v_name rfl) v_nil) rfl (law_is_a_frame_eq Z _ gs)) rfl) fun _ => t_asb tx), hf, Bool.true_and]
    by_cases el : f.line = L
    · rw [if_pos (by rw [el]; simp)]
      unfold lawIn
      rw [← el, prs_line ok, ef]
    · have nl : ¬ (f.line ++ [10] = L ++ [10]) := fun z => el (List.append_cancel_right z)
      rw [if_neg (by rw [decide_eq_false nl]; decide)]
      unfold lawIn
      cases e : prs L with
      | none => rfl
      | some d =>
        obtain ⟨g, gok, e1, e2⟩ := prs_ne e
        exfalso
        have gfew := h.few g gok e1
        have egw : g.ws = w0 :: r := by rw [← line_split gok, ← e1, ew]
        have := items_ws gok gfew w0 r egw
        rw [egw] at this
        have e5 : f.parts = g.parts := by rw [← ep, ← this]
        have e6 : f.d = g.d := by rw [d_parts, d_parts, e5]
        have e7 : f.line = g.line := by
          have h1 := frame_in_yes Z f ok (few_fit few)
          have h2 := congrArg foundD (rfl : f.ws = f.ws)
          have : f.ws = g.ws := by
            have p1 := parts_ws f
            have p2 := parts_ws g
            have ev : f.vs = g.vs := by
              cases f <;> cases g <;> simp only [Fr.parts, List.cons.injEq, reduceCtorEq, false_and, and_false, Dat.tup.injEq] at e5 <;> first | rfl | (exact str_inj e5.2.2.2.1)
            exact str_inj (by rw [← p1, ← p2, e5, ev])
          unfold Fr.line
          rw [this]
        exact el (by rw [e7, e1])
  · have hf : frameB (.tup (itemsD w0 0 ws)) = false := by simpa using hf
    rw [fin _ .non (t_and (b := false) (t_tru (v_callP (v_cons (v_name rfl) v_nil) rfl (law_is_a_frame_eq Z _ gs)) rfl) fun z => by rw [hf] at z; cases z), hf]
    unfold lawIn
    cases e : prs L with
    | none => rfl
    | some d =>
      obtain ⟨g, gok, e1, e2⟩ := prs_ne e
      exfalso
      have gfew := h.few g gok e1
      have egw : g.ws = w0 :: r := by rw [← line_split gok, ← e1, ew]
      have := items_ws gok gfew w0 r egw
      rw [egw] at this
      have q : frameB (.tup (itemsD w0 0 ws)) = true := by
        show frameB (.tup (itemsD w0 0 (w0 :: r))) = true
        rw [this, ← d_parts]
        exact frame_ok gok
      rw [q] at hf
      cases hf
end K25
end
section
set_option Elab.async false
set_option linter.all false
set_option maxRecDepth 100000
set_option maxHeartbeats 4000000
namespace K25
open PySem PySem.Spec PyProof.Rows L2 LamX DL

/-! ### what repr takes -/
theorem lets_small {c : Nat} (h : c ∈ lets) : c < 0x110000 := by
  have : ∀ c ∈ lets, c < 0x110000 := by decide
  exact this c h
theorem name_shp {w : List Nat} (h : isName w = true) (n : Nat) : shp (.str w) n = true := by
  simp only [shp, List.all_eq_true]
  exact fun c hc => decide_eq_true (lets_small ((name_let h).1 c hc))
theorem lit_shp {w : List Nat} (h : ∀ c ∈ w, c < 0x110000) (n : Nat) : shp (.str w) n = true := by
  simp only [shp, List.all_eq_true]
  exact fun c hc => decide_eq_true (h c hc)
theorem shp_frame {f : Fr} (ok : f.ok) (n : Nat) (hn : 2 ≤ n) : shp f.d n = true := by
  have l1 := lit_shp (w := sTell) (by decide)
  have l2 := lit_shp (w := sAsk) (by decide)
  have l3 := lit_shp (w := sTold) (by decide)
  have num : ∀ (i : Int) (m : Nat), shp (.int i) m = true := fun i m => by simp only [shp]
  rw [d_parts]
  simp only [shp, Bool.and_eq_true, decide_eq_true_eq]
  refine ⟨by omega, shps_all fun d hd => ?_⟩
  cases f with
  | tell k m vs =>
    simp only [Fr.parts, List.mem_cons, List.not_mem_nil, or_false] at hd
    rcases hd with rfl | rfl | rfl | rfl
    · exact l1 _
    · exact name_shp ok.1 _
    · exact num _ _
    · simp only [shp, Bool.and_eq_true, decide_eq_true_eq]
      refine ⟨by omega, shps_all fun v hv => ?_⟩
      obtain ⟨w, hw, rfl⟩ := List.mem_map.mp hv
      exact name_shp (ok.2.2.2 w hw) _
  | ask k m p q r =>
    simp only [Fr.parts, List.mem_cons, List.not_mem_nil, or_false] at hd
    rcases hd with rfl | rfl | rfl | rfl | rfl | rfl
    · exact l2 _
    · exact name_shp ok.1 _
    all_goals exact num _ _
  | told k m p x =>
    simp only [Fr.parts, List.mem_cons, List.not_mem_nil, or_false] at hd
    rcases hd with rfl | rfl | rfl | rfl | rfl
    · exact l3 _
    · exact name_shp ok.1 _
    · exact num _ _
    · exact num _ _
    · rcases ok.2.2.2 with rfl | rfl
      · exact lit_shp (by decide) _
      · exact lit_shp (by decide) _
theorem costs_map {ds : List Dat} {k : Nat} : (∀ d ∈ ds, cost d ≤ k) → costs ds ≤ ds.length * (k + 2) := by
  induction ds with
  | nil => intro _; simp [costs]
  | cons d ds ih =>
    intro h
    have h1 := h d (.head _)
    have h2 := ih fun x hx => h x (.tail _ hx)
    simp only [costs, List.length_cons, Nat.succ_mul]
    omega
theorem cost_num {n : Nat} (h : (TL.numL n).length < 30) : cost (.int (n : Nat)) ≤ 31 := by
  have : n < 10 ^ 30 := Nat.lt_of_lt_of_le (num_lt (k := 29) (by omega)) (by decide)
  unfold cost
  rw [if_pos (by simpa using this)]
  exact Nat.le_refl _
theorem cost_name {w : List Nat} (h : isName w = true) : cost (.str w) ≤ 62 := by
  have := (name_let h).2.2
  show 10 * w.length + 2 ≤ 62
  omega
theorem cost_frame {f : Fr} (ok : f.ok) (few : ∀ w ∈ f.ws, w.length < 30) : cost f.d ≤ 1000 := by
  cases f with
  | tell k n vs =>
    have h1 := cost_name ok.1
    have h2 := cost_num (few (TL.numL n) (by simp [Fr.ws]))
    have h3 := costs_map (ds := vs.map Dat.str) (k := 62) fun d hd => by
      obtain ⟨w, hw, rfl⟩ := List.mem_map.mp hd
      exact cost_name (ok.2.2.2 w hw)
    rw [List.length_map] at h3
    have h4 : vs.length * 64 ≤ 3 * 64 := Nat.mul_le_mul_right _ ok.2.2.1
    have h5 : cost (.str sTell) = 42 := rfl
    simp only [Fr.d, cost, costs] at h1 h2 h5 ⊢
    omega
  | ask k n m r p =>
    have h1 := cost_name ok.1
    have h2 := cost_num (few (TL.numL n) (by simp [Fr.ws]))
    have h3 := cost_num (few (TL.numL m) (by simp [Fr.ws]))
    have h4 := cost_num (few (TL.numL r) (by simp [Fr.ws]))
    have h5 := cost_num (few (TL.numL p) (by simp [Fr.ws]))
    have h6 : cost (.str sAsk) = 32 := rfl
    simp only [Fr.d, cost, costs] at h1 h2 h3 h4 h5 h6 ⊢
    omega
  | told k n m x =>
    have h1 := cost_name ok.1
    have h2 := cost_num (few (TL.numL n) (by simp [Fr.ws]))
    have h3 := cost_num (few (TL.numL m) (by simp [Fr.ws]))
    have h6 : cost (.str sTold) = 42 := rfl
    have h7 : cost (.str x) ≤ 62 := by
      rcases ok.2.2.2 with rfl | rfl <;> decide
    simp only [Fr.d, cost, costs] at h1 h2 h3 h6 h7 ⊢
    omega
/-- repr is defined and within its line -/
def Shown (d : Dat) : Prop := ∃ z, reprD [d] = some (.str z)
theorem shown_lst {ds : List Dat} (h : shps ds 59 = true) (c : costs ds ≤ 9000000) : Shown (.lst ds) := by
  have h1 : shp (.lst ds) 60 = true := by
    simp only [shp, Bool.and_eq_true, decide_eq_true_eq]
    exact ⟨by decide, h⟩
  refine ⟨_, if_pos ⟨h1, ?_⟩⟩
  show costs ds + 3 ≤ 10000000
  omega
theorem shown_tup {ds : List Dat} (h : shps ds 59 = true) (c : costs ds ≤ 9000000) : Shown (.tup ds) := by
  have h1 : shp (.tup ds) 60 = true := by
    simp only [shp, Bool.and_eq_true, decide_eq_true_eq]
    exact ⟨by decide, h⟩
  refine ⟨_, if_pos ⟨h1, ?_⟩⟩
  show costs ds + 3 ≤ 10000000
  omega
theorem shown_int {i : Int} (h : i.natAbs < 10 ^ 30) : Shown (.int i) := by
  refine ⟨_, if_pos ⟨rfl, ?_⟩⟩
  unfold cost
  rw [if_pos h]
  decide
theorem says_eq (Z : Ad) (d : Dat) (h : Shown d) : den_law_says Z [d, d] () = .ok (.bl true) () := by
  obtain ⟨z, e⟩ := h
  show retOf (fs_law_says Z [some (.d d), some (.d d)] ()) = _
  refine r_ret ((k_ret (v_op2 (v_callD (v_cons (v_name rfl) v_nil) e) (v_callD (v_cons (v_name rfl) v_nil) e) eqS)).trans ?_)
  simp
/-! ### texts read by the law -/
def readF : List (List Nat) → List Dat → List Dat
  | [], acc => acc
  | L :: ls, acc => match prs L with
    | some d => readF ls (acc ++ [d])
    | none => acc
theorem read_F : ∀ {ls : List (List Nat)} {k : Nat} {acc ds : List Dat}, readP ls k acc = .inl ds → readF ls acc = ds
  | [], k, acc, ds, h => by
    cases h
    rfl
  | L :: ls, k, acc, ds, h => by
    unfold readP at h
    unfold readF
    cases e : prs L with
    | none =>
      rw [e] at h
      cases h
    | some d =>
      rw [e] at h
      exact read_F h
theorem law_loop (Z : Ad) (x : List Nat) (ls0 : Dat) : ∀ (ls : List (List Nat)) (k : Nat) (acc : List Dat) (a3 a4 a5 : Option SV), (∀ L ∈ ls, LineS L) → notOwn [some (.d (.str x)), some (.d ls0), some (.d (.lst acc)), a3, a4, a5] 3 = true → notOwn [some (.d (.str x)), some (.d ls0), some (.d (.lst acc)), a3, a4, a5] 4 = true → acc.length + ls.length < line →
    ∃ b3 b4 b5, forS (putT (putC (putN 3) (putC (putN 4) putNil))) (seqS (asgS 5 (callP 1 (den_law_frame_in Z) (aCons (vName 4) aNil))) (seqS (ifS (asB (op2 (eqD false) (vName 5) (mkLst aNil))) (retS (mkTup (aCons (vName 2) (aCons (vName 3) aNil)))) skipS) (asgS 2 (op2 addD (vName 2) (vName 5))))) (numF k (ls.map Dat.str)) [some (.d (.str x)), some (.d ls0), some (.d (.lst acc)), a3, a4, a5] () =
      match readP ls k acc with
      | .inl ds => .nx [some (.d (.str x)), some (.d ls0), some (.d (.lst ds)), b3, b4, b5] ()
      | .inr i => .rt (.tup [.lst (readF ls acc), .int (i : Int)]) ()
  | [], k, acc, a3, a4, a5, _, _, _, _ => ⟨a3, a4, a5, rfl⟩
  | L :: ls, k, acc, a3, a4, a5, h, n3, n4, hl => by
    have hL := h L (.head _)
    rw [List.length_cons] at hl
    have put : putT (putC (putN 3) (putC (putN 4) putNil)) (.tup [.int (k : Int), .str L]) [some (.d (.str x)), some (.d ls0), some (.d (.lst acc)), a3, a4, a5] = some [some (.d (.str x)), some (.d ls0), some (.d (.lst acc)), some (.d (.int k)), some (.d (.str L)), a5] := by
      simp only [putT, putC, putN, putNil, n3, if_true]
      have n4' : notOwn [some (SV.d (.str x)), some (.d ls0), some (.d (.lst acc)), some (.d (.int k)), a4, a5] 4 = true := n4
      show Option.bind (if notOwn [some (SV.d (.str x)), some (.d ls0), some (.d (.lst acc)), some (.d (.int k)), a4, a5] 4 = true then some _ else none) _ = _
      rw [if_pos n4']
      rfl
    simp only [List.map_cons, numF, forS, put]
    have set : asgS (T := Unit) 5 (callP 1 (den_law_frame_in Z) (aCons (vName 4) aNil)) [some (.d (.str x)), some (.d ls0), some (.d (.lst acc)), some (.d (.int k)), some (.d (.str L)), a5] () = .nx [some (.d (.str x)), some (.d ls0), some (.d (.lst acc)), some (.d (.int k)), some (.d (.str L)), some (.d (lawIn L))] () :=
      k_set (v_callP (v_cons (v_name rfl) v_nil) rfl (law_frame_in_eq Z L hL))
    cases e : prs L with
    | none =>
      have el : lawIn L = .lst [] := by
        unfold lawIn
        rw [e]
      rw [el] at set
      refine ⟨none, none, none, ?_⟩
      have step : seqS (asgS 5 (callP 1 (den_law_frame_in Z) (aCons (vName 4) aNil))) (seqS (ifS (asB (op2 (eqD false) (vName 5) (mkLst aNil))) (retS (mkTup (aCons (vName 2) (aCons (vName 3) aNil)))) skipS) (asgS 2 (op2 addD (vName 2) (vName 5)))) [some (.d (.str x)), some (.d ls0), some (.d (.lst acc)), some (.d (.int k)), some (.d (.str L)), a5] () = .rt (.tup [.lst acc, .int (k : Int)]) () :=
        k_seq set (k_seqR ((k_ifT (t_asb (v_op2 (v_name rfl) (v_lst v_nil (by decide)) rfl))).trans (k_ret (v_tup (v_cons (v_name rfl) (v_cons (v_name rfl) v_nil)) (show 2 ≤ line by decide)))))
      rw [step]
      simp only [readP, readF, e]
    | some d =>
      have el : lawIn L = .lst [d] := by
        unfold lawIn
        rw [e]
      rw [el] at set
      obtain ⟨f, ok, e1, e2⟩ := prs_ne e
      have ne : eqD false (.lst [d]) (.lst []) = some (.bl false) := eq_empty (neg := false) (xs := [d]) fun y hy => by
        rw [List.mem_singleton.mp hy, e2]
        exact shp_frame ok 20 (by decide)
      have step : seqS (asgS 5 (callP 1 (den_law_frame_in Z) (aCons (vName 4) aNil))) (seqS (ifS (asB (op2 (eqD false) (vName 5) (mkLst aNil))) (retS (mkTup (aCons (vName 2) (aCons (vName 3) aNil)))) skipS) (asgS 2 (op2 addD (vName 2) (vName 5)))) [some (.d (.str x)), some (.d ls0), some (.d (.lst acc)), some (.d (.int k)), some (.d (.str L)), a5] () = .nx [some (.d (.str x)), some (.d ls0), some (.d (.lst (acc ++ [d]))), some (.d (.int k)), some (.d (.str L)), some (.d (.lst [d]))] () :=
        k_seq set (k_seq ((k_ifF (t_asb (v_op2 (v_name rfl) (v_lst v_nil (by decide)) ne))).trans rfl) (k_set (v_op2 (v_name rfl) (v_name rfl) (if_pos (by rw [List.length_singleton]; omega)))))
      rw [step]
      obtain ⟨b3, b4, b5, q⟩ := law_loop Z x ls0 ls (k + 1) (acc ++ [d]) (some (.d (.int k))) (some (.d (.str L))) (some (.d (.lst [d]))) (fun M hM => h M (.tail _ hM)) rfl rfl (by simp; omega)
      refine ⟨b3, b4, b5, ?_⟩
      simp only [readP, readF, e]
      exact q
structure TextS (x : List Nat) : Prop where
  len : x.length ≤ 2000
  ls : ∀ L ∈ splitL 10 x, LineS L
theorem TextS.ok {x : List Nat} (h : TextS x) : TextOk x := ⟨Nat.le_trans h.len (by decide), fun L hL => (h.ls L hL).ok⟩
theorem law_read_eq (Z : Ad) {x l : List Nat} {ls : List (List Nat)} (h : TextS x) (e : splitL 10 x = ls ++ [l]) : den_law_read Z [.str x] () = match readP ls 0 [] with
    | .inl ds => .ok (.tup [.lst ds, if l = [] then .non else .int (ls.length : Int)]) ()
    | .inr i => .ok (.tup [.lst (readF ls []), .int (i : Int)]) () := by
  have hx := h.len
  have big : ∀ k : Nat, k ≤ 2000000 → k ≤ line := fun k hk => Nat.le_trans hk (by decide)
  have hls : ls.length ≤ 2001 := by
    have := split_len 10 x
    rw [e, List.length_append, List.length_singleton] at this
    omega
  show retOf (fs_law_read Z [some (.d (.str x)), none, none, none, none, none] ()) = _
  have sp : met1 (T := Unit) splitD (vName 0) (cst (.str [10])) [some (.d (.str x)), none, none, none, none, none] () = .ok (wsD (ls ++ [l])) () := by
    rw [← e]
    exact v_met (v_name rfl) v_cst (if_pos ⟨by decide, big _ (by omega)⟩)
  have st : parS (T := Unit) 1 2 (aCons (met1 splitD (vName 0) (cst (.str [10]))) (aCons (mkLst aNil) aNil)) [some (.d (.str x)), none, none, none, none, none] () = .nx [some (.d (.str x)), some (.d (wsD (ls ++ [l]))), some (.d (.lst [])), none, none, none] () := by
    unfold parS bindS
    rw [v_cons sp (v_cons (v_lst v_nil (by decide)) v_nil)]
    rfl
  have it : itmE (T := Unit) (aCons (sl3 (vName 1) (cst none) (prt (negD (cst (.int 1))))) aNil) [some (.d (.str x)), some (.d (wsD (ls ++ [l]))), some (.d (.lst [])), none, none, none] () = .ok (numF 0 (ls.map Dat.str)) () := by
    rw [← num_D]
    refine v_enum (v_cons (v_sl (v_name rfl) v_cst (v_prt (v_neg v_cst)) ?_) v_nil)
    show some (Dat.lst (cutL ((ls ++ [l]).map Dat.str) none (some (-1)))) = _
    rw [List.map_append, List.map_singleton, cut_last]
  obtain ⟨b3, b4, b5, q⟩ := law_loop Z x (wsD (ls ++ [l])) ls 0 [] none none none (fun L hL => h.ls L (by rw [e]; exact List.mem_append_left _ hL)) rfl rfl (by simp; exact Nat.lt_of_le_of_lt hls (by decide))
  cases er : readP ls 0 [] with
  | inr i =>
    rw [er] at q
    exact r_ret (k_seq st (k_seqR (k_loop it q)))
  | inl ds =>
    rw [er] at q
    have la : ixD (wsD (ls ++ [l])) (.int (-1)) = some (.str l) := by
      show atI ((ls ++ [l]).map Dat.str) (-1) = _
      rw [List.map_append, List.map_singleton, at_last]
    have ln : lenD [wsD (ls ++ [l])] = some (.int ((ls.length : Int) + 1)) := by
      show some (Dat.int (((ls ++ [l]).map Dat.str).length : Nat)) = _
      simp
    refine r_ret (k_seq st (k_seq (k_loop it q) ((k_ret (v_tup (v_cons (v_name rfl) (v_cons (v_if (a := decide (l = [])) (x := .non) (y := .int (ls.length : Int)) (t_asb (v_op2 (v_op2 (v_name rfl) (v_neg v_cst) la) v_cst eqS)) (fun _ => v_cst) fun _ => v_op2 (v_callD (v_cons (v_name rfl) v_nil) ln) v_cst ?_) v_nil)) (show 2 ≤ line by decide))).trans ?_)))
    · show some (Dat.int ((ls.length : Int) + 1 - 1)) = _
      rw [Int.add_sub_cancel]
    · simp
end K25
end
section
set_option Elab.async false
set_option linter.all false
set_option maxRecDepth 100000
set_option maxHeartbeats 4000000
namespace K25
open PySem PySem.Spec PyProof.Rows L2 LamX DL

/-! ### the draws -/
theorem v_drI {i : Nat} {g : DrawSt → Int} {ρ : En} {t : DrawSt} (h : isHd i ρ = true) : drI i g ρ t = .ok (.int (g t)) t := if_pos h
theorem k_drPut {i : Nat} {g : Int → DrawSt → DrawSt} {E : Den DrawSt} {ρ : En} {t t1 : DrawSt} {n : Int} (h1 : E ρ t = .ok (.int n) t1) (h : isHd i ρ = true) : drPut i g E ρ t = .nx ρ (g n t1) := by
  unfold drPut bindS
  rw [h1]
  exact if_pos h
theorem mod_ok {i j : Int} (h : 0 < j) : modD (.int i) (.int j) = some (.int (i % j)) := if_pos h
theorem mulR {i j : Int} (h : -(2 ^ 64) < j ∧ j < 2 ^ 64) : mulD (.int i) (.int j) = some (.int (i * j)) := if_pos (.inr h)
theorem fdiv_ok {i j : Int} (h : 0 < j ∧ j < 1073741824) : fdivD (.int i) (.int j) = some (.int (i / j)) := if_pos h
abbrev rM (u f g : Int) (a4 a5 : Option SV) : En := [some (.d .hd), some (.d (.int u)), some (.d (.int f)), some (.d (.int g)), a4, a5]
theorem mix_in {u f g : Int} (hg : 0 < g ∧ g < 2 ^ 31) {t : DrawSt} (cs : List Int) (hc : t.cells = cs) : ∀ (ms : List Int) (b : Int) (a5 : Option SV), 0 ≤ b → b < g → notOwn (rM u f g (some (.d (.int b))) a5) 5 = true →
    ∃ (b' : Int) (a5' : Option SV), forC (putN 5) (asgS 4 (op2 modD (op2 addD (op2 addD (op2 mulD (vName 4) (cst (.int 69621))) (callD intD (aCons (vName 5) aNil))) (vName 1)) (vName 3))) cs (ms.map Dat.int) (rM u f g (some (.d (.int b))) a5) t = .nx (rM u f g (some (.d (.int b'))) a5') t ∧ 0 ≤ b' ∧ b' < g ∧ notOwn (rM u f g (some (.d (.int b'))) a5') 5 = true
  | [], b, a5, h0, h1, h2 => ⟨b, a5, rfl, h0, h1, h2⟩
  | m :: ms, b, a5, h0, h1, h2 => by
    have put : putN 5 (.int m) (rM u f g (some (.d (.int b))) a5) = some (rM u f g (some (.d (.int b))) (some (.d (.int m)))) := if_pos h2
    have step : asgS (T := DrawSt) 4 (op2 modD (op2 addD (op2 addD (op2 mulD (vName 4) (cst (.int 69621))) (callD intD (aCons (vName 5) aNil))) (vName 1)) (vName 3)) (rM u f g (some (.d (.int b))) (some (.d (.int m)))) t = .nx (rM u f g (some (.d (.int ((b * 69621 + m + u) % g)))) (some (.d (.int m)))) t :=
      k_set (v_op2 (v_op2 (v_op2 (v_op2 (v_name rfl) v_cst (mulR (by decide))) (v_callD (v_cons (v_name rfl) v_nil) rfl) rfl) (v_name rfl) rfl) (v_name rfl) (mod_ok hg.1))
    obtain ⟨b', a5', q1, q2⟩ := mix_in hg cs hc ms ((b * 69621 + m + u) % g) (some (.d (.int m))) (Int.emod_nonneg _ (by omega)) (Int.emod_lt_of_pos _ hg.1) rfl
    refine ⟨b', a5', ?_, q2⟩
    simp only [List.map_cons, forC, put, step]
    rw [if_pos hc]
    exact q1
theorem mixed_eq (Z : Ad) (t : DrawSt) : ∃ (n : Int) (t' : DrawSt), den_law_mixed Z [.hd] t = .ok (.int n) t' := by
  have body : ∀ (t : DrawSt) (u f g : Int) (a4 a5 : Option SV), 0 < g → g < 2 ^ 31 → notOwn (rM u f g a4 a5) 5 = true → ∃ (f' : Int) (a4' a5' : Option SV), seqS (asgS 4 (op2 modD (op2 addD (op2 mulD (vName 1) (cst (.int 48271))) (op2 fdivD (vName 3) (cst (.int 11)))) (vName 3))) (seqS (loopC 0 (putN 5) (asgS 4 (op2 modD (op2 addD (op2 addD (op2 mulD (vName 4) (cst (.int 69621))) (callD intD (aCons (vName 5) aNil))) (vName 1)) (vName 3)))) (asgS 2 (op2 addD (op2 mulD (vName 2) (cst (.int 2147483659))) (op2 modD (op2 powD (vName 4) (cst (.int 5))) (vName 3))))) (rM u f g a4 a5) t = .nx (rM u f' g a4' a5') t ∧ notOwn (rM u f' g a4' a5') 5 = true := by
    intro t u f g a4 a5 h1 h2 h3
    have s1 : asgS (T := DrawSt) 4 (op2 modD (op2 addD (op2 mulD (vName 1) (cst (.int 48271))) (op2 fdivD (vName 3) (cst (.int 11)))) (vName 3)) (rM u f g a4 a5) t = .nx (rM u f g (some (.d (.int ((u * 48271 + g / 11) % g)))) a5) t :=
      k_set (v_op2 (v_op2 (v_op2 (v_name rfl) v_cst (mulR (by decide))) (v_op2 (v_name rfl) v_cst (fdiv_ok (by decide))) rfl) (v_name rfl) (mod_ok h1))
    obtain ⟨b', a5', q1, q2, q3, q4⟩ := mix_in ⟨h1, h2⟩ t.cells rfl t.cells ((u * 48271 + g / 11) % g) a5 (Int.emod_nonneg _ (by omega)) (Int.emod_lt_of_pos _ h1) h3
    have s2 : loopC 0 (putN 5) (asgS 4 (op2 modD (op2 addD (op2 addD (op2 mulD (vName 4) (cst (.int 69621))) (callD intD (aCons (vName 5) aNil))) (vName 1)) (vName 3))) (rM u f g (some (.d (.int ((u * 48271 + g / 11) % g)))) a5) t = .nx (rM u f g (some (.d (.int b'))) a5') t := (if_pos rfl).trans q1
    refine ⟨f * 2147483659 + b' ^ 5 % g, some (.d (.int b')), a5', k_seq s1 (k_seq s2 (k_set (v_op2 (v_op2 (v_name rfl) v_cst (mulR (by decide))) (v_op2 (v_op2 (v_name rfl) v_cst (if_pos ⟨by decide, by decide, ?_⟩)) (v_name rfl) (mod_ok h1)) rfl))), q4⟩
    have : b' < 2 ^ 31 := by omega
    omega
  have put : ∀ (u f g : Int) (a3 a4 a5 : Option SV), (∀ xs, a3 ≠ some (.o xs)) → putN 3 (.int g) [some (.d .hd), some (.d (.int u)), some (.d (.int f)), a3, a4, a5] = some (rM u f g a4 a5) := fun u f g a3 a4 a5 h => by
    refine if_pos ?_
    unfold notOwn
    show (match (some a3 : Option (Option SV)) with | some (some (.o _)) => false | _ => true) = true
    match a3, h with
    | none, _ => rfl
    | some (.d _), _ => rfl
    | some (.o xs), h => exact (h xs rfl).elim
  show ∃ n t', retOf (fs_law_mixed Z [some (.d .hd), none, none, none, none, none] t) = _
  have s0 : drPut 0 setTurn (op2 addD (drI 0 DrawSt.turn) (cst (.int 1))) [some (.d .hd), none, none, none, none, none] t = .nx [some (.d .hd), none, none, none, none, none] (setTurn (t.turn + 1) t) := k_drPut (v_op2 (v_drI rfl) v_cst rfl) rfl
  let t1 := setTurn (t.turn + 1) t
  have s1 : parS (T := DrawSt) 1 2 (aCons (callD intD (aCons (drI 0 DrawSt.turn) aNil)) (aCons (cst (.int 0)) aNil)) [some (.d .hd), none, none, none, none, none] t1 = .nx [some (.d .hd), some (.d (.int t1.turn)), some (.d (.int 0)), none, none, none] t1 := by
    unfold parS bindS
    rw [v_cons (v_callD (v_cons (v_drI rfl) v_nil) (z := .int t1.turn) rfl) (v_cons v_cst v_nil)]
    rfl
  obtain ⟨f1, x4, x5, e1, n1⟩ := body t1 t1.turn 0 2147483647 none none (by decide) (by decide) rfl
  obtain ⟨f2, y4, y5, e2, n2⟩ := body t1 t1.turn f1 2147483629 x4 x5 (by decide) (by decide) n1
  obtain ⟨f3, z4, z5, e3, n3⟩ := body t1 t1.turn f2 2147483587 y4 y5 (by decide) (by decide) n2
  refine ⟨f3, t1, r_ret (k_seq s0 (k_seq s1 (k_seq (ρ1 := rM t1.turn f3 2147483587 z4 z5) (t1 := t1) (k_loop (ds := [.int 2147483647, .int 2147483629, .int 2147483587]) (v_itm (v_lst (v_cons v_cst (v_cons v_cst (v_cons v_cst v_nil))) (show 3 ≤ line by decide)) rfl) ?_) (k_ret (v_name rfl)))))⟩
  simp only [forS, put t1.turn 0 2147483647 none none none (fun _ => by simp), e1]
  rw [show putN 3 (.int 2147483629) (rM t1.turn f1 2147483647 x4 x5) = some (rM t1.turn f1 2147483629 x4 x5) from put _ _ _ _ _ _ (fun _ => by simp)]
  simp only [e2]
  rw [show putN 3 (.int 2147483587) (rM t1.turn f2 2147483629 y4 y5) = some (rM t1.turn f2 2147483587 y4 y5) from put _ _ _ _ _ _ (fun _ => by simp)]
  simp only [e3]
theorem take_eq (Z : Ad) (t : DrawSt) (a : Int) (h : 0 < a) (h2 : a < 1073741824) : ∃ (n : Int) (t' : DrawSt), den_law_take Z [.hd, .int a] t = .ok (.int n) t' ∧ 0 ≤ n ∧ n < a := by
  show ∃ n t', retOf (fs_law_take Z [some (.d .hd), some (.d (.int a)), none] t) = _ ∧ _
  have first : ∃ t1, ifS (asB (op2 (eqD false) (drI 0 DrawSt.rest) (cst (.int 0)))) (drPut 0 setRest (ifV (asB (drNe 0)) (drPop 0) (callG 1 (den_law_mixed Z) (aCons (vName 0) aNil)))) skipS [some (.d .hd), some (.d (.int a)), none] t = .nx [some (.d .hd), some (.d (.int a)), none] t1 := by
    have c : asB (op2 (eqD false) (drI 0 DrawSt.rest) (cst (.int 0))) [some (.d .hd), some (.d (.int a)), none] t = .ok (t.rest == 0) t := t_asb (v_op2 (v_drI rfl) v_cst eqI)
    cases hr : (t.rest == 0) with
    | false => exact ⟨t, (k_ifF (by rw [c, hr])).trans rfl⟩
    | true =>
      have ne : asB (drNe 0) [some (.d .hd), some (.d (.int a)), none] t = .ok (!t.large.isEmpty) t := t_asb (if_pos rfl)
      cases hl : t.large with
      | nil =>
        obtain ⟨n, t', e⟩ := mixed_eq Z t
        refine ⟨setRest n t', (k_ifT (by rw [c, hr])).trans (k_drPut ((v_ifF (by rw [ne, hl]; rfl)).trans (v_callG (v_cons (v_name rfl) v_nil) rfl e)) rfl)⟩
      | cons m ms =>
        refine ⟨setRest m { t with large := ms }, (k_ifT (by rw [c, hr])).trans (k_drPut ((v_ifT (by rw [ne, hl]; rfl)).trans ?_) rfl)⟩
        exact (if_pos (c := isHd 0 [some (.d .hd), some (.d (.int a)), none] = true) rfl).trans (by rw [hl])
  obtain ⟨t1, e1⟩ := first
  have m : ∀ ρ, isHd 0 ρ = true → callD (T := DrawSt) intD (aCons (drI 0 DrawSt.rest) aNil) ρ t1 = .ok (.int t1.rest) t1 := fun ρ h => v_callD (v_cons (v_drI h) v_nil) rfl
  refine ⟨t1.rest % a, setRest (t1.rest / a) t1, r_ret (k_seq e1 (k_seq (k_set (v_op2 (m _ rfl) (v_name rfl) (mod_ok h))) (k_seq (k_drPut (v_op2 (m _ rfl) (v_name rfl) (fdiv_ok ⟨h, h2⟩)) rfl) (k_ret (v_name rfl))))), Int.emod_nonneg _ (by omega), Int.emod_lt_of_pos _ h⟩
theorem pick_eq (Z : Ad) (t : DrawSt) (ds : List Dat) (h : ds ≠ []) (h2 : ds.length ≤ 100000) : ∃ (d : Dat) (t' : DrawSt), den_law_pick Z [.hd, .lst ds] t = .ok d t' ∧ d ∈ ds := by
  have pos : ds.length ≠ 0 := fun z => h (List.length_eq_zero_iff.mp z)
  obtain ⟨n, t', e, n0, n1⟩ := take_eq Z t (ds.length : Nat) (by omega) (by omega)
  obtain ⟨j, hj⟩ : ∃ j : Nat, n = j := ⟨n.toNat, by omega⟩
  subst hj
  have hlt : j < ds.length := by omega
  refine ⟨ds[j], t', ?_, List.getElem_mem hlt⟩
  show retOf (fs_law_pick Z [some (.d .hd), some (.d (.lst ds))] t) = _
  exact r_ret (k_ret (v_op2 (v_name rfl) (v_callG (v_cons (v_name rfl) (v_cons (v_callD (v_cons (v_name rfl) v_nil) rfl) v_nil)) rfl e) (ix_lst (List.getElem?_eq_getElem hlt))))
end K25
end
section
set_option Elab.async false
set_option linter.all false
set_option maxRecDepth 100000
set_option maxHeartbeats 4000000
namespace K25
open PySem PySem.Spec PyProof.Rows L2 LamX DL

/-! ### drawn frames -/
theorem word_eq (Z : Ad) (t : DrawSt) : ∃ (w : List Nat) (t' : DrawSt), den_law_word Z [.hd] t = .ok (.str w) t' ∧ isName w = true := by
  obtain ⟨d, t', e, m⟩ := pick_eq Z t [.str [107], .str [109], .str [103, 117, 97, 114, 100], .str [97, 98, 99, 100, 101, 102], .str [116, 101, 108, 108], .str [111, 110], .str [122]] (by simp) (by simp)
  obtain ⟨w, rfl, hw⟩ : ∃ w, d = .str w ∧ isName w = true := by
    simp only [List.mem_cons, List.not_mem_nil, or_false] at m
    rcases m with rfl | rfl | rfl | rfl | rfl | rfl | rfl <;> exact ⟨_, rfl, by decide⟩
  refine ⟨w, t', ?_, hw⟩
  show retOf (fs_law_word Z [some (.d .hd)] t) = _
  exact r_ret (k_ret (v_callG (v_cons (v_name rfl) (v_cons (v_lst (v_cons v_cst (v_cons v_cst (v_cons v_cst (v_cons v_cst (v_cons v_cst (v_cons v_cst (v_cons v_cst v_nil))))))) (show 7 ≤ line by decide)) v_nil)) rfl e))
theorem number_eq (Z : Ad) (t : DrawSt) (l : Nat) (hl : l ≤ 1) : ∃ (n : Nat) (t' : DrawSt), den_law_number Z [.hd, .int l] t = .ok (.int (n : Nat)) t' ∧ l ≤ n ∧ n < 10 ^ 16 := by
  obtain ⟨d, t', e, m⟩ := pick_eq Z t [.int 0, .int 0, .int 1, .int 2, .int 9, .int 10, .int 99, .int (10 ^ 15)] (by simp) (by simp)
  obtain ⟨v, rfl, hv⟩ : ∃ v : Nat, d = .int (v : Nat) ∧ v ≤ 10 ^ 15 := by
    simp only [List.mem_cons, List.not_mem_nil, or_false] at m
    rcases m with rfl | rfl | rfl | rfl | rfl | rfl | rfl | rfl
    · exact ⟨0, rfl, by decide⟩
    · exact ⟨0, rfl, by decide⟩
    · exact ⟨1, rfl, by decide⟩
    · exact ⟨2, rfl, by decide⟩
    · exact ⟨9, rfl, by decide⟩
    · exact ⟨10, rfl, by decide⟩
    · exact ⟨99, rfl, by decide⟩
    · exact ⟨10 ^ 15, rfl, by decide⟩
  refine ⟨l + v, t', ?_, by omega, by omega⟩
  show retOf (fs_law_number Z [some (.d .hd), some (.d (.int l))] t) = _
  exact r_ret (k_ret (v_op2 (v_name rfl) (v_callG (v_cons (v_name rfl) (v_cons (v_lst (v_cons v_cst (v_cons v_cst (v_cons v_cst (v_cons v_cst (v_cons v_cst (v_cons v_cst (v_cons v_cst (v_cons (v_op2 v_cst v_cst rfl) v_nil)))))))) (show 8 ≤ line by decide)) v_nil)) rfl e) rfl))
theorem num_small {n : Nat} (h : n < 10 ^ 16) : (TL.numL n).length ≤ 20 := Nat.le_trans (TL.numL_len (by decide) h) (by decide)
theorem name_small {w : List Nat} (h : isName w = true) : w.length ≤ 20 := Nat.le_trans (name_let h).2.2 (by decide)
theorem vals_small {vs : List (List Nat)} (h : vs.length ≤ 3) (hn : ∀ v ∈ vs, isName v = true) : (TL.joinL [44] vs).length ≤ 20 := by
  have l6 : ∀ v ∈ vs, v.length ≤ 6 := fun v hv => (name_let (hn v hv)).2.2
  match vs, h, l6 with
  | [], _, _ => exact Nat.zero_le _
  | [a], _, l6 =>
    have := l6 a (by simp)
    show a.length ≤ 20
    omega
  | [a, b], _, l6 =>
    have := l6 a (by simp)
    have := l6 b (by simp)
    show (a ++ ([44] ++ b)).length ≤ 20
    simp only [List.length_append, List.length_singleton]
    omega
  | [a, b, c], _, l6 =>
    have := l6 a (by simp)
    have := l6 b (by simp)
    have := l6 c (by simp)
    show (a ++ ([44] ++ (b ++ ([44] ++ c)))).length ≤ 20
    simp only [List.length_append, List.length_singleton]
    omega
theorem strs_of {xs : List Dat} (h : ∀ x ∈ xs, ∃ w, x = Dat.str w ∧ isName w = true) : ∃ vs : List (List Nat), xs = vs.map Dat.str ∧ ∀ v ∈ vs, isName v = true := by
  induction xs with
  | nil => exact ⟨[], rfl, fun _ h => by cases h⟩
  | cons x xs ih =>
    obtain ⟨w, rfl, hw⟩ := h _ (.head _)
    obtain ⟨vs, rfl, hv⟩ := ih fun y hy => h y (.tail _ hy)
    refine ⟨w :: vs, rfl, fun v m => ?_⟩
    rcases List.mem_cons.mp m with rfl | m
    · exact hw
    · exact hv v m
theorem rng_len (n : Nat) : (rngD 0 n).length = n := by simp [rngD]
theorem frame_eq (Z : Ad) (t : DrawSt) : ∃ (f : Fr) (t' : DrawSt), den_law_frame Z [.hd] t = .ok f.d t' ∧ f.ok ∧ f.small := by
  obtain ⟨wy, t1, e1, w0, w1⟩ := take_eq Z t 3 (by decide) (by decide)
  show ∃ f t', retOf (fs_law_frame Z [some (.d .hd), none, none] t) = _ ∧ _
  have s1 : asgS (T := DrawSt) 1 (callG 2 (den_law_take Z) (aCons (vName 0) (aCons (cst (.int 3)) aNil))) [some (.d .hd), none, none] t = .nx [some (.d .hd), some (.d (.int wy)), none] t1 := k_set (v_callG (v_cons (v_name rfl) (v_cons v_cst v_nil)) rfl e1)
  have word : ∀ t (ρ : En), ρ[0]? = some (some (.d .hd)) → ∃ w t', callG (T := DrawSt) 1 (den_law_word Z) (aCons (vName 0) aNil) ρ t = .ok (.str w) t' ∧ isName w = true := fun t ρ h => by
    obtain ⟨w, t', e, hw⟩ := word_eq Z t
    exact ⟨w, t', v_callG (v_cons (v_name h) v_nil) rfl e, hw⟩
  have numb : ∀ t (ρ : En) (l : Nat), l ≤ 1 → ρ[0]? = some (some (.d .hd)) → ∃ (n : Nat) (t' : DrawSt), callG (T := DrawSt) 2 (den_law_number Z) (aCons (vName 0) (aCons (cst (.int (l : Nat))) aNil)) ρ t = .ok (.int (n : Nat)) t' ∧ l ≤ n ∧ n < 10 ^ 16 := fun t ρ l hl h => by
    obtain ⟨n, t', e, h1, h2⟩ := number_eq Z t l hl
    exact ⟨n, t', v_callG (v_cons (v_name h) (v_cons v_cst v_nil)) rfl e, h1, h2⟩
  obtain ⟨k, t2, e2, hk⟩ := word t1 [some (.d .hd), some (.d (.int wy)), none] rfl
  by_cases q0 : wy = 0
  · obtain ⟨n, t3, e3, _, hn⟩ := numb t2 [some (.d .hd), some (.d (.int wy)), none] 0 (by decide) rfl
    obtain ⟨m, t4, e4, m0, m1⟩ := take_eq Z t3 3 (by decide) (by decide)
    have hr : itmR1 (T := DrawSt) (aCons (op2 addD (cst (.int 1)) (callG 2 (den_law_take Z) (aCons (vName 0) (aCons (cst (.int 3)) aNil)))) aNil) [some (.d .hd), some (.d (.int wy)), none] t3 = .ok (rngD 0 (1 + m).toNat) t4 := v_range (v_cons (v_op2 v_cst (v_callG (v_cons (v_name rfl) (v_cons v_cst v_nil)) rfl e4) rfl) v_nil) (by omega)
    obtain ⟨xs, t5, e5, h1, h2⟩ := lcD_some (T := DrawSt) (put := putN 2) (vs := [2]) (F := callG 1 (den_law_word Z) (aCons (vName 0) aNil)) (p := fun x => ∃ w, x = Dat.str w ∧ isName w = true) (fun d => [some (.d .hd), some (.d (.int wy)), some (.d d)]) rfl hr (fun d _ => ⟨rfl, fun t => by
      obtain ⟨w, t', e, hw⟩ := word t [some (.d .hd), some (.d (.int wy)), some (.d d)] rfl
      exact ⟨_, t', e, w, rfl, hw⟩⟩) (by rw [rng_len]; exact Nat.le_trans (show (1 + m).toNat ≤ 3 by omega) (by decide))
    obtain ⟨vs, rfl, hv⟩ := strs_of h2
    rw [List.length_map, rng_len] at h1
    refine ⟨.tell k n vs, t5, r_ret (k_seq s1 (k_seqR ((k_ifT (t_asb (v_op2 (v_name rfl) v_cst (by rw [eqI, q0]; rfl)))).trans (k_ret (v_tup (v_cons v_cst (v_cons e2 (v_cons e3 (v_cons (v_callD (v_cons e5 v_nil) rfl) v_nil)))) (show 4 ≤ line by decide)))))), ⟨hk, by omega, by omega, hv⟩, fun w hw => ?_⟩
    simp only [Fr.ws, List.mem_cons, List.not_mem_nil, or_false] at hw
    rcases hw with rfl | rfl | rfl | rfl
    · decide
    · exact name_small hk
    · exact num_small hn
    · exact vals_small (by omega) hv
  · have n0 : asB (T := DrawSt) (op2 (eqD false) (vName 1) (cst (.int 0))) [some (.d .hd), some (.d (.int wy)), none] t1 = .ok false t1 := t_asb (v_op2 (v_name rfl) v_cst (by rw [eqI]; simp [q0]))
    by_cases q1 : wy = 1
    · obtain ⟨n, t3, e3, n1, hn⟩ := numb t2 [some (.d .hd), some (.d (.int wy)), none] 1 (by decide) rfl
      obtain ⟨m, t4, e4, m1, hm⟩ := numb t3 [some (.d .hd), some (.d (.int wy)), none] 1 (by decide) rfl
      obtain ⟨r, t5, e5, r0, r1⟩ := take_eq Z t4 6 (by decide) (by decide)
      obtain ⟨r', hr'⟩ : ∃ r' : Nat, r = r' := ⟨r.toNat, by omega⟩
      subst hr'
      obtain ⟨p, t6, e6, _, hp⟩ := numb t5 [some (.d .hd), some (.d (.int wy)), none] 0 (by decide) rfl
      refine ⟨.ask k n m r' p, t6, r_ret (k_seq s1 (k_seq ((k_ifF n0).trans rfl) (k_seqR ((k_ifT (t_asb (v_op2 (v_name rfl) v_cst (by rw [eqI, q1]; rfl)))).trans (k_ret (v_tup (v_cons v_cst (v_cons e2 (v_cons e3 (v_cons e4 (v_cons (v_callG (v_cons (v_name rfl) (v_cons v_cst v_nil)) rfl e5) (v_cons e6 v_nil)))))) (show 6 ≤ line by decide))))))), ⟨hk, n1, m1, by omega⟩, fun w hw => ?_⟩
      simp only [Fr.ws, List.mem_cons, List.not_mem_nil, or_false] at hw
      rcases hw with rfl | rfl | rfl | rfl | rfl | rfl
      · decide
      · exact name_small hk
      · exact num_small hn
      · exact num_small hm
      · exact num_small (by omega)
      · exact num_small hp
    · have n1 : asB (T := DrawSt) (op2 (eqD false) (vName 1) (cst (.int 1))) [some (.d .hd), some (.d (.int wy)), none] t1 = .ok false t1 := t_asb (v_op2 (v_name rfl) v_cst (by rw [eqI]; simp [q1]))
      obtain ⟨n, t3, e3, n1', hn⟩ := numb t2 [some (.d .hd), some (.d (.int wy)), none] 1 (by decide) rfl
      obtain ⟨m, t4, e4, m1, hm⟩ := numb t3 [some (.d .hd), some (.d (.int wy)), none] 1 (by decide) rfl
      obtain ⟨d, t5, e5, hd⟩ := pick_eq Z t4 [.str [108, 97, 110, 100, 101, 100], .str [108, 101, 102, 116]] (by simp) (by simp)
      obtain ⟨x, rfl, hx⟩ : ∃ x, d = .str x ∧ (x = sLanded ∨ x = sLeft) := by
        simp only [List.mem_cons, List.not_mem_nil, or_false] at hd
        rcases hd with rfl | rfl
        · exact ⟨_, rfl, .inl rfl⟩
        · exact ⟨_, rfl, .inr rfl⟩
      refine ⟨.told k n m x, t5, r_ret (k_seq s1 (k_seq ((k_ifF n0).trans rfl) (k_seq ((k_ifF n1).trans rfl) (k_ret (v_tup (v_cons v_cst (v_cons e2 (v_cons e3 (v_cons e4 (v_cons (v_callG (v_cons (v_name rfl) (v_cons (v_lst (v_cons v_cst (v_cons v_cst v_nil)) (show 2 ≤ line by decide)) v_nil)) rfl e5) v_nil))))) (show 5 ≤ line by decide)))))), ⟨hk, n1', m1, hx⟩, fun w hw => ?_⟩
      simp only [Fr.ws, List.mem_cons, List.not_mem_nil, or_false] at hw
      rcases hw with rfl | rfl | rfl | rfl | rfl
      · decide
      · exact name_small hk
      · exact num_small hn
      · exact num_small hm
      · rcases hx with rfl | rfl <;> decide
end K25
end
section
set_option Elab.async false
set_option linter.all false
set_option maxRecDepth 100000
set_option maxHeartbeats 4000000
namespace K25
open PySem PySem.Spec PyProof.Rows L2 LamX DL

/-! ### near frames -/
structure El (e : Dat) : Prop where
  ok : okD e = true
  sh : shp e 21 = true
  tup : ∀ vs, e = .tup vs → vs.length ≤ 1000 ∧ ∀ v ∈ vs, okD v = true
  num : ∀ n : Nat, e = .int (n : Nat) → (TL.numL n).length < 30
structure NearOk (d : Dat) : Prop where
  g : GoodS d
  fit : ∀ f : Fr, f.ok → d = f.d → ∀ w ∈ f.ws, w.length < 30
theorem near_tup {ds : List Dat} (h : ∀ e ∈ ds, El e) : NearOk (.tup ds) := by
  refine ⟨⟨⟨fun d hd => (h d hd).ok, fun vs hv => (h _ hv).tup vs rfl⟩, ?_⟩, fun f ok e => ?_⟩
  · simp only [shp, Bool.and_eq_true, decide_eq_true_eq]
    exact ⟨by decide, shps_all fun d hd => (h d hd).sh⟩
  · rw [d_parts] at e
    injection e with e
    exact parts_few ok fun n hn => (h _ (by rw [e]; exact hn)).num n rfl
theorem el_parts {f : Fr} (ok : f.ok) (sm : f.small) : ∀ e ∈ f.parts, El e := by
  have str : ∀ w : List Nat, w ∈ f.ws → (∀ c ∈ w, c < 0x110000) → El (.str w) := fun w hw hc => ⟨ok_word (Nat.le_trans (sm w hw) (by decide)), lit_shp hc _, fun vs e => (by cases e), fun n e => (by cases e)⟩
  have num : ∀ n : Nat, TL.numL n ∈ f.ws → El (.int (n : Nat)) := fun n hn => ⟨rfl, (by simp only [shp]), fun vs e => (by cases e), fun m e => by
    have e : (n : Int) = (m : Nat) := by injection e
    have : n = m := by omega
    subst this
    have := sm _ hn
    omega⟩
  have nm : ∀ {w : List Nat}, isName w = true → ∀ c ∈ w, c < 0x110000 := fun h c hc => lets_small ((name_let h).1 c hc)
  intro e he
  cases f with
  | tell k n vs =>
    simp only [Fr.parts, List.mem_cons, List.not_mem_nil, or_false] at he
    rcases he with rfl | rfl | rfl | rfl
    · exact str _ (by simp [Fr.ws]) (by decide)
    · exact str _ (by simp [Fr.ws]) (nm ok.1)
    · exact num n (by simp [Fr.ws])
    · refine ⟨rfl, ?_, fun us e => ?_, fun m e => by cases e⟩
      · simp only [shp, Bool.and_eq_true, decide_eq_true_eq]
        refine ⟨by decide, shps_all fun v hv => ?_⟩
        obtain ⟨w, hw, rfl⟩ := List.mem_map.mp hv
        exact name_shp (ok.2.2.2 w hw) _
      · cases e
        refine ⟨by rw [List.length_map]; have := ok.2.2.1; omega, fun v hv => ?_⟩
        obtain ⟨w, hw, rfl⟩ := List.mem_map.mp hv
        exact ok_word (Nat.le_trans (name_small (ok.2.2.2 w hw)) (by decide))
  | ask k n m r p =>
    simp only [Fr.parts, List.mem_cons, List.not_mem_nil, or_false] at he
    rcases he with rfl | rfl | rfl | rfl | rfl | rfl
    · exact str _ (by simp [Fr.ws]) (by decide)
    · exact str _ (by simp [Fr.ws]) (nm ok.1)
    · exact num n (by simp [Fr.ws])
    · exact num m (by simp [Fr.ws])
    · exact num r (by simp [Fr.ws])
    · exact num p (by simp [Fr.ws])
  | told k n m x =>
    simp only [Fr.parts, List.mem_cons, List.not_mem_nil, or_false] at he
    rcases he with rfl | rfl | rfl | rfl | rfl
    · exact str _ (by simp [Fr.ws]) (by decide)
    · exact str _ (by simp [Fr.ws]) (nm ok.1)
    · exact num n (by simp [Fr.ws])
    · exact num m (by simp [Fr.ws])
    · exact str _ (by simp [Fr.ws]) (by rcases ok.2.2.2 with rfl | rfl <;> decide)
def odds : List Dat := [.non, .bl true, .int 0, .int (-1), .str [], .str [97, 98, 99, 100, 101, 102, 103], .str [65], .str [97, 49], .int 6, .tup [], .tup [.str [111, 110]], .lst [.str [111, 110]], .str [108, 101, 102, 116], .tup [.str [97], .str [98], .str [99], .str [100]]]
theorem el_odd : ∀ e ∈ odds, El e := by
  have str : ∀ w : List Nat, w.length ≤ 44 → (∀ c ∈ w, c < 0x110000) → El (.str w) := fun w hw hc => ⟨ok_word hw, lit_shp hc _, fun vs e => (by cases e), fun n e => (by cases e)⟩
  have sh : ∀ (w : List Nat) (n : Nat), (∀ c ∈ w, c < 0x110000) → shp (.str w) n = true := fun w n hc => lit_shp hc n
  intro e he
  simp only [odds, List.mem_cons, List.not_mem_nil, or_false] at he
  rcases he with rfl | rfl | rfl | rfl | rfl | rfl | rfl | rfl | rfl | rfl | rfl | rfl | rfl | rfl
  · exact ⟨rfl, by simp only [shp], fun vs e => (by cases e), fun n e => (by cases e)⟩
  · exact ⟨rfl, by simp only [shp], fun vs e => (by cases e), fun n e => (by cases e)⟩
  · exact ⟨rfl, by simp only [shp], fun vs e => (by cases e), fun n e => by
      have e : (0 : Int) = (n : Nat) := by injection e
      have : n = 0 := by omega
      subst this
      decide⟩
  · exact ⟨rfl, by simp only [shp], fun vs e => (by cases e), fun n e => by
      have e : (-1 : Int) = (n : Nat) := by injection e
      omega⟩
  · exact str _ (by decide) (by decide)
  · exact str _ (by decide) (by decide)
  · exact str _ (by decide) (by decide)
  · exact str _ (by decide) (by decide)
  · exact ⟨rfl, by simp only [shp], fun vs e => (by cases e), fun n e => by
      have e : (6 : Int) = (n : Nat) := by injection e
      have : n = 6 := by omega
      subst this
      decide⟩
  · exact ⟨rfl, by simp only [shp, shps]; decide, fun vs e => by
      cases e
      exact ⟨by decide, fun _ h => by cases h⟩, fun n e => (by cases e)⟩
  · exact ⟨rfl, by simp only [shp, shps]; decide, fun vs e => by
      cases e
      exact ⟨by decide, fun v hv => by
        rw [List.mem_singleton.mp hv]
        exact ok_word (by decide)⟩, fun n e => (by cases e)⟩
  · exact ⟨rfl, by simp only [shp, shps]; decide, fun vs e => (by cases e), fun n e => (by cases e)⟩
  · exact str _ (by decide) (by decide)
  · exact ⟨rfl, by simp only [shp, shps]; decide, fun vs e => by
      cases e
      refine ⟨by decide, fun v hv => ?_⟩
      simp only [List.mem_cons, List.not_mem_nil, or_false] at hv
      rcases hv with rfl | rfl | rfl | rfl <;> exact ok_word (by decide), fun n e => (by cases e)⟩
theorem cut_from' {α : Type} {xs : List α} {k : Nat} : cutL xs (some (k : Int)) none = xs.drop k := by
  unfold cutL
  rw [HT.sIx_nat, HT.sIx_none]
  by_cases h : k ≤ xs.length
  · rw [Nat.min_eq_left h]
    exact List.take_of_length_le (by rw [List.length_drop]; exact Nat.le_refl _)
  · rw [Nat.min_eq_right (by omega), Nat.sub_self, List.take_zero, List.drop_eq_nil_of_le (by omega)]
theorem near_frames_eq (Z : Ad) (t : DrawSt) (f : Fr) (ok : f.ok) (sm : f.small) : ∃ (ds : List Dat) (t' : DrawSt), den_law_near_frames Z [.hd, f.d] t = .ok (.lst ds) t' ∧ (∀ d ∈ ds, NearOk d) ∧ ds.length = 8 := by
  have hp := el_parts ok sm
  have pl : f.parts.length ≤ 6 ∧ 4 ≤ f.parts.length := by cases f <;> simp [Fr.parts]
  obtain ⟨a, t1, e1, a0, a1⟩ := take_eq Z t (f.parts.length : Nat) (by omega) (by omega)
  obtain ⟨j, hj⟩ : ∃ j : Nat, a = j := ⟨a.toNat, by omega⟩
  subst hj
  obtain ⟨o, t2, e2, ho⟩ := pick_eq Z t1 odds (by simp [odds]) (by simp [odds])
  have hj : j < f.parts.length := by omega
  have el := el_odd o ho
  let A := f.parts.take j
  let B := f.parts.drop (j + 1)
  have hA : ∀ e ∈ A, El e := fun e he => hp e (List.mem_of_mem_take he)
  have hB : ∀ e ∈ B, El e := fun e he => hp e (List.mem_of_mem_drop he)
  have lA : A.length ≤ 6 := Nat.le_trans (List.length_take_le' ..) pl.1
  have lB : B.length ≤ 6 := by
    show (f.parts.drop (j + 1)).length ≤ 6
    rw [List.length_drop]
    omega
  refine ⟨[.tup (A ++ [o] ++ B), .tup (A ++ B), .tup (f.parts ++ [o]), .lst f.parts, .tup f.parts.reverse, .non, .str sTell, .tup []], t2, ?_, ?_, rfl⟩
  · show retOf (fs_law_near_frames Z [some (.d .hd), some (.d f.d), none, none] t) = _
    rw [d_parts]
    let ρ : En := [some (.d .hd), some (.d (.tup f.parts)), some (.d (.int (j : Nat))), some (.d o)]
    have add : ∀ a b : List Dat, a.length ≤ 100 → b.length ≤ 100 → addD (.tup a) (.tup b) = some (.tup (a ++ b)) := fun a b ha hb => if_pos (Nat.le_trans (show a.length + b.length ≤ 200 by omega) (by decide))
    have sA : sl3 (T := DrawSt) (vName 1) (cst none) (prt (vName 2)) ρ t2 = .ok (.tup A) t2 := v_sl (v_name rfl) v_cst (v_prt (v_name rfl)) (congrArg (fun z => some (Dat.tup z)) (cut_to (k := j) (by omega)))
    have sB : sl3 (T := DrawSt) (vName 1) (prt (op2 addD (vName 2) (cst (.int 1)))) (cst none) ρ t2 = .ok (.tup B) t2 := v_sl (v_name rfl) (v_prt (v_op2 (v_name rfl) v_cst rfl)) v_cst (congrArg (fun z => some (Dat.tup z)) (cut_from' (k := j + 1)))
    have one : mkTup (T := DrawSt) (aCons (vName 3) aNil) ρ t2 = .ok (.tup [o]) t2 := v_tup (v_cons (v_name rfl) v_nil) (show 1 ≤ line by decide)
    refine r_ret (k_seq (k_set (v_callG (v_cons (v_name rfl) (v_cons (v_callD (v_cons (v_name rfl) v_nil) rfl) v_nil)) rfl e1)) (k_seq (k_set (v_callG (v_cons (v_name rfl) (v_cons (v_lst (ds := odds) (v_cons v_cst (v_cons v_cst (v_cons v_cst (v_cons (v_neg v_cst) (v_cons v_cst (v_cons v_cst (v_cons v_cst (v_cons v_cst (v_cons v_cst (v_cons (v_tup v_nil (by decide)) (v_cons (v_tup (v_cons v_cst v_nil) (by decide)) (v_cons (v_lst (v_cons v_cst v_nil) (by decide)) (v_cons v_cst (v_cons (v_tup (v_cons v_cst (v_cons v_cst (v_cons v_cst (v_cons v_cst v_nil)))) (by decide)) v_nil)))))))))))))) (show 14 ≤ line by decide)) v_nil)) rfl e2)) (k_ret (v_lst (v_cons (v_op2 (v_op2 sA one (add _ _ (by omega) (by simp))) sB (add _ _ (by simp; omega) (by omega))) (v_cons (v_op2 sA sB (add _ _ (by omega) (by omega))) (v_cons (v_op2 (v_name rfl) one (add _ _ (by omega) (by simp))) (v_cons (v_callD (v_cons (v_name rfl) v_nil) rfl) (v_cons (v_un1 (v_name rfl) rfl) (v_cons v_cst (v_cons v_cst (v_cons (v_tup v_nil (by decide)) v_nil)))))))) (show 8 ≤ line by decide)))))
  · intro d hd
    have noF : ∀ d, GoodS d → (∀ f : Fr, d ≠ f.d) → NearOk d := fun d g h => ⟨g, fun f _ e => (h f e).elim⟩
    simp only [List.mem_cons, List.not_mem_nil, or_false] at hd
    rcases hd with rfl | rfl | rfl | rfl | rfl | rfl | rfl | rfl
    · refine near_tup fun e he => ?_
      rcases List.mem_append.mp he with he | he
      · rcases List.mem_append.mp he with he | he
        · exact hA e he
        · rw [List.mem_singleton.mp he]
          exact el
      · exact hB e he
    · refine near_tup fun e he => ?_
      rcases List.mem_append.mp he with he | he
      · exact hA e he
      · exact hB e he
    · refine near_tup fun e he => ?_
      rcases List.mem_append.mp he with he | he
      · exact hp e he
      · rw [List.mem_singleton.mp he]
        exact el
    · refine noF _ ⟨rfl, ?_⟩ fun f e => by cases f <;> cases e
      simp only [shp, Bool.and_eq_true, decide_eq_true_eq]
      exact ⟨by decide, shps_all fun d hd => (hp d hd).sh⟩
    · exact near_tup fun e he => hp e (List.mem_reverse.mp he)
    · exact noF _ ⟨rfl, by simp only [shp]⟩ fun f e => by cases f <;> cases e
    · exact noF _ ⟨ok_word (by decide), lit_shp (by decide) _⟩ fun f e => by cases f <;> cases e
    · exact near_tup fun e he => by cases he
/-! ### bent texts -/
def signs : List (List Nat) := [[32], [10], [44], [48], [97], [45], [65], [116, 101, 108, 108], [49], [10, 10]]
theorem sign_of : ∀ s ∈ signs, Sign s ∧ ∀ c ∈ s, c < 0x110000 := by
  unfold Sign
  decide
theorem sign_nil : Sign [] := by
  unfold Sign
  decide
theorem bent_text_eq (Z : Ad) (t : DrawSt) (x : List Nat) (hx : Made x) (hl : x.length ≤ 1600) (hc : ∀ c ∈ x, c < 0x110000) : ∃ (y : List Nat) (t' : DrawSt), den_law_bent_text Z [.hd, .str x] t = .ok (.str y) t' ∧ y.length ≤ 1700 ∧ (∀ c ∈ y, c < 0x110000) ∧ ∀ L ∈ splitL 10 y, Few L := by
  have big : ∀ k : Nat, k ≤ 2000000 → k ≤ line := fun k hk => Nat.le_trans hk (by decide)
  obtain ⟨a, t1, e1, a0, a1⟩ := take_eq Z t ((x.length : Int) + 1) (by omega) (by omega)
  obtain ⟨j, hj⟩ : ∃ j : Nat, a = j := ⟨a.toNat, by omega⟩
  subst hj
  obtain ⟨sd, t2, e2, hsm⟩ := pick_eq Z t1 (signs.map Dat.str) (by simp [signs]) (by simp [signs])
  obtain ⟨s, hs, rfl⟩ := List.mem_map.mp hsm
  obtain ⟨sg, sc⟩ := sign_of s hs
  let A := x.take j
  let B := x.drop j
  let B' := x.drop (j + 1)
  let c := (x.drop j).take 1
  have eAB : A ++ B = x := List.take_append_drop j x
  have eB : B = c ++ B' := by
    show x.drop j = (x.drop j).take 1 ++ x.drop (j + 1)
    rw [← List.drop_drop]
    exact (List.take_append_drop 1 (x.drop j)).symm
  have lc : c.length ≤ 1 := List.length_take_le ..
  have cA : ∀ d ∈ A, d < 0x110000 := fun d hd => hc d (List.mem_of_mem_take hd)
  have cB : ∀ d ∈ B, d < 0x110000 := fun d hd => hc d (List.mem_of_mem_drop hd)
  have cB' : ∀ d ∈ B', d < 0x110000 := fun d hd => hc d (List.mem_of_mem_drop hd)
  have lA : A.length ≤ 1600 := Nat.le_trans (List.length_take_le' ..) hl
  have lB : B.length ≤ 1600 := by
    show (x.drop j).length ≤ 1600
    rw [List.length_drop]
    omega
  have lB' : B'.length ≤ 1600 := by
    show (x.drop (j + 1)).length ≤ 1600
    rw [List.length_drop]
    omega
  have lAB : A.length + B.length ≤ 1600 := by
    rw [← List.length_append, eAB]
    exact hl
  have lAB' : A.length + B'.length ≤ 1600 := by
    have : B.length = c.length + B'.length := by rw [eB, List.length_append]
    omega
  have ls := sg.1
  let opts : List (List Nat) := [A ++ s ++ B, A ++ B', A ++ s ++ B', A, x ++ s, x]
  obtain ⟨yd, t3, e3, hym⟩ := pick_eq Z t2 (opts.map Dat.str) (by simp [opts]) (by simp [opts])
  obtain ⟨y, hy, rfl⟩ := List.mem_map.mp hym
  refine ⟨y, t3, ?_, ?_⟩
  · show retOf (fs_law_bent_text Z [some (.d .hd), some (.d (.str x)), none, none] t) = _
    let ρ : En := [some (.d .hd), some (.d (.str x)), some (.d (.int (j : Nat))), some (.d (.str s))]
    have add : ∀ a b : List Nat, a.length ≤ 10000 → b.length ≤ 10000 → addD (.str a) (.str b) = some (.str (a ++ b)) := fun a b ha hb => if_pos (big _ (by omega))
    have sA : sl3 (T := DrawSt) (vName 1) (cst none) (prt (vName 2)) ρ t2 = .ok (.str A) t2 := v_sl (v_name rfl) v_cst (v_prt (v_name rfl)) ((if_pos (big _ (by omega))).trans (congrArg (fun z => some (Dat.str z)) (cut_to (k := j) (by omega))))
    have sB : sl3 (T := DrawSt) (vName 1) (prt (vName 2)) (cst none) ρ t2 = .ok (.str B) t2 := v_sl (v_name rfl) (v_prt (v_name rfl)) v_cst ((if_pos (big _ (by omega))).trans (congrArg (fun z => some (Dat.str z)) (cut_from' (k := j))))
    have sB' : sl3 (T := DrawSt) (vName 1) (prt (op2 addD (vName 2) (cst (.int 1)))) (cst none) ρ t2 = .ok (.str B') t2 := v_sl (v_name rfl) (v_prt (v_op2 (v_name rfl) v_cst rfl)) v_cst ((if_pos (big _ (by omega))).trans (congrArg (fun z => some (Dat.str z)) (cut_from' (k := j + 1))))
    have lAs : (A ++ s).length ≤ 10000 := by
      rw [List.length_append]
      omega
    refine r_ret (k_seq (k_set (v_callG (v_cons (v_name rfl) (v_cons (v_op2 (v_callD (v_cons (v_name rfl) v_nil) (if_pos (big _ (by omega)))) v_cst rfl) v_nil)) rfl e1)) (k_seq (k_set (v_callG (v_cons (v_name rfl) (v_cons (v_lst (ds := signs.map Dat.str) (v_cons v_cst (v_cons v_cst (v_cons v_cst (v_cons v_cst (v_cons v_cst (v_cons v_cst (v_cons v_cst (v_cons v_cst (v_cons v_cst (v_cons v_cst v_nil)))))))))) (show 10 ≤ line by decide)) v_nil)) rfl e2)) (k_ret (v_callG (v_cons (v_name rfl) (v_cons (v_lst (ds := opts.map Dat.str) (v_cons (v_op2 (v_op2 sA (v_name rfl) (add _ _ (by omega) (by omega))) sB (add _ _ lAs (by omega))) (v_cons (v_op2 sA sB' (add _ _ (by omega) (by omega))) (v_cons (v_op2 (v_op2 sA (v_name rfl) (add _ _ (by omega) (by omega))) sB' (add _ _ lAs (by omega))) (v_cons sA (v_cons (v_op2 (v_name rfl) (v_name rfl) (add _ _ (by omega) (by omega))) (v_cons (v_name rfl) v_nil)))))) (show 6 ≤ line by decide)) v_nil)) rfl e3))))
  · have fAB : Made (A ++ ([] ++ B)) := by
      rw [List.nil_append, eAB]
      exact hx
    have fAB' : Made (A ++ (c ++ B')) := by
      rw [← eB, eAB]
      exact hx
    have ch : ∀ (u v : List Nat), (∀ d ∈ u, d < 0x110000) → (∀ d ∈ v, d < 0x110000) → ∀ d ∈ u ++ v, d < 0x110000 := fun u v h1 h2 d hd => (List.mem_append.mp hd).elim (h1 d) (h2 d)
    simp only [opts, List.mem_cons, List.not_mem_nil, or_false] at hy
    rcases hy with rfl | rfl | rfl | rfl | rfl | rfl
    · refine ⟨by simp only [List.length_append]; omega, ch _ _ (ch _ _ cA sc) cB, ?_⟩
      rw [List.append_assoc]
      exact bent sg (by decide) fAB
    · refine ⟨by simp only [List.length_append]; omega, ch _ _ cA cB', ?_⟩
      have := bent sign_nil lc fAB'
      rw [List.nil_append] at this
      exact this
    · refine ⟨by simp only [List.length_append]; omega, ch _ _ (ch _ _ cA sc) cB', ?_⟩
      rw [List.append_assoc]
      exact bent sg lc fAB'
    · refine ⟨by omega, cA, made_take (B := B) ?_⟩
      rw [eAB]
      exact hx
    · refine ⟨by simp only [List.length_append]; omega, ch _ _ hc sc, ?_⟩
      have := bent (A := x) (B := []) (c := []) sg (by decide) (by simpa using hx)
      rw [List.append_nil] at this
      exact this
    · refine ⟨by omega, hc, fun L hL => few_sm (made_sm (hx L hL))⟩
end K25
end
section
set_option Elab.async false
set_option linter.all false
set_option maxRecDepth 100000
set_option maxHeartbeats 4000000
namespace K25
open PySem PySem.Spec PyProof.Rows L2 LamX DL
/-! ### a text in pieces -/
def gotD (L : List Nat) : Dat := (prs L).getD .non
theorem read_all : ∀ {ls : List (List Nat)} {k : Nat} {acc : List Dat}, (∀ L ∈ ls, (prs L).isSome = true) → readP ls k acc = .inl (acc ++ ls.map gotD)
  | [], k, acc, _ => by simp [readP]
  | L :: ls, k, acc, h => by
    have h1 := h L (.head _)
    unfold readP
    cases e : prs L with
    | none =>
      rw [e] at h1
      cases h1
    | some d =>
      show readP ls (k + 1) (acc ++ [d]) = _
      rw [read_all fun M hM => h M (.tail _ hM)]
      simp [gotD, e]
theorem split_step {C r : List Nat} {as : List (List Nat)} (p : List Nat) (h : splitL 10 C = as ++ [r]) : splitL 10 (C ++ p) = as ++ splitL 10 (r ++ p) := by
  obtain ⟨cs, a, b, bs, h1, h2, h3⟩ := split_app 10 p C
  rw [h] at h1
  obtain ⟨rfl, q⟩ := List.append_inj' h1 rfl
  cases q
  have nr : 10 ∉ r := split_free 10 C r (h ▸ List.mem_append_right _ (.head _))
  obtain ⟨ds, a', b', bs', q1, q2, q3⟩ := split_app 10 p r
  rw [split_no nr] at q1
  cases ds with
  | nil =>
    cases q1
    rw [h2] at q2
    cases q2
    rw [h3, q3]
    rfl
  | cons _ _ =>
    have := congrArg List.length q1
    simp at this
structure PieceX (x : List Nat) (ls : List (List Nat)) (l : List Nat) : Prop where
  e : splitL 10 x = ls ++ [l]
  all : ∀ L ∈ ls, (prs L).isSome = true
  wl : Wl 44 x
  len : x.length ≤ 1000000
theorem piece_at (Z : Ad) {x l : List Nat} {ls : List (List Nat)} (X : PieceX x ls l) {C p D r : List Nat} {as : List (List Nat)} (ex : C ++ p ++ D = x) (h : splitL 10 C = as ++ [r]) :
    ∃ bs r', splitL 10 (C ++ p) = as ++ bs ++ [r'] ∧ den_cut_text Z [.str (r ++ p)] () = .ok (.tup [.lst (bs.map gotD), .str r']) () := by
  obtain ⟨bs, r', e1⟩ := split_last 10 (r ++ p)
  have e2 := split_step p h
  rw [e1, ← List.append_assoc] at e2
  have e3 := split_step D e2
  rw [ex, X.e] at e3
  obtain ⟨es, l', e4⟩ := split_last 10 (r' ++ D)
  rw [e4, ← List.append_assoc] at e3
  obtain ⟨q1, q2⟩ := List.append_inj' e3 rfl
  have wx := X.wl
  rw [← ex] at wx
  have w1 := wl_left wx
  have lr : r.length ≤ C.length := split_piece 10 C r (h ▸ List.mem_append_right _ (.head _))
  have lx : (C ++ p).length ≤ 1000000 := by
    have := X.len
    rw [← ex, List.length_append] at this
    omega
  rw [List.length_append] at lx
  have tx : TextOk (r ++ p) := by
    refine ⟨by rw [List.length_append]; omega, fun L hL => ⟨?_, fun w hw => ?_⟩⟩
    · have := split_piece 10 (r ++ p) L hL
      rw [List.length_append] at this
      omega
    · refine w1 L ?_ w hw
      rw [split_step p h]
      exact List.mem_append_right _ hL
  refine ⟨bs, r', e2, ?_⟩
  rw [cut_text_eq Z tx e1, read_all fun L hL => X.all L (by rw [q1]; exact List.mem_append_left _ (List.mem_append_right _ hL))]
  rfl
theorem cut_two {α : Type} {xs : List α} {j k : Nat} : cutL xs (some (j : Int)) (some ((j + k : Nat) : Int)) = (xs.drop j).take k := by
  unfold cutL
  rw [HT.sIx_nat, HT.sIx_nat]
  by_cases h : j ≤ xs.length
  · rw [Nat.min_eq_left h]
    by_cases h2 : j + k ≤ xs.length
    · rw [Nat.min_eq_left h2, Nat.add_sub_cancel_left]
    · rw [Nat.min_eq_right (by omega), List.take_of_length_le (by rw [List.length_drop]; exact Nat.le_refl _), List.take_of_length_le (by rw [List.length_drop]; omega)]
  · rw [List.drop_eq_nil_of_le (by omega), List.drop_eq_nil_of_le (by omega)]
    simp
def bodyP (Z : Ad) : DenS DrawSt := (ifS (asB (op2 (cmpD fun i j => decide (i < j)) (vName 5) (callD lenD (aCons (vName 1) aNil)))) (seqS (asgS 7 (op2 addD (cst (.int 1)) (callG 2 (den_law_take Z) (aCons (vName 0) (aCons (cst (.int 20)) aNil))))) (seqS (asgT (putT (putC (putN 8) (putC (putN 3) putNil))) (callP 1 (den_cut_text Z) (aCons (op2 addD (vName 3) (sl3 (vName 1) (prt (vName 5)) (prt (op2 addD (vName 5) (vName 7))))) aNil))) (parS 4 5 (aCons (op2 addD (vName 4) (vName 8)) (aCons (op2 addD (vName 5) (vName 7)) aNil))))) skipS)
theorem piece_loop (Z : Ad) {x l : List Nat} {ls : List (List Nat)} (X : PieceX x ls l) (fd : Dat) : ∀ (es : List Dat) (j : Nat) (as : List (List Nat)) (r : List Nat) (a6 a7 a8 : Option SV) (t : DrawSt), (notOwn [some (.d .hd), some (.d (.str x)), some (.d fd), some (.d (.str r)), some (.d (.lst (as.map gotD))), some (.d (.int (j : Nat))), a6, a7, a8, none, none] 6 = true) → notOwn [some (.d .hd), some (.d (.str x)), some (.d fd), some (.d (.str r)), some (.d (.lst (as.map gotD))), some (.d (.int (j : Nat))), a6, a7, a8, none, none] 8 = true → splitL 10 (x.take j) = as ++ [r] →
    ∃ (k : Nat) (as' : List (List Nat)) (r' : List Nat) (b6 b7 b8 : Option SV) (t' : DrawSt), forS (putN 6) (bodyP Z) es [some (.d .hd), some (.d (.str x)), some (.d fd), some (.d (.str r)), some (.d (.lst (as.map gotD))), some (.d (.int (j : Nat))), a6, a7, a8, none, none] t = .nx [some (.d .hd), some (.d (.str x)), some (.d fd), some (.d (.str r')), some (.d (.lst (as'.map gotD))), some (.d (.int (k : Nat))), b6, b7, b8, none, none] t' ∧ splitL 10 (x.take k) = as' ++ [r'] ∧ (x.length ≤ k ∨ j + es.length ≤ k)
  | [], j, as, r, a6, a7, a8, t, _, _, h => ⟨j, as, r, a6, a7, a8, t, rfl, h, .inr (Nat.le_refl _)⟩
  | d :: es, j, as, r, a6, a7, a8, t, n6, n8, h => by
    have big : ∀ k : Nat, k ≤ 2000010 → k ≤ line := fun k hk => Nat.le_trans hk (by decide)
    have hx := X.len
    have put : putN 6 d [some (.d .hd), some (.d (.str x)), some (.d fd), some (.d (.str r)), some (.d (.lst (as.map gotD))), some (.d (.int (j : Nat))), a6, a7, a8, none, none] = some [some (.d .hd), some (.d (.str x)), some (.d fd), some (.d (.str r)), some (.d (.lst (as.map gotD))), some (.d (.int (j : Nat))), some (.d d), a7, a8, none, none] := if_pos n6
    have n8' : notOwn [some (.d .hd), some (.d (.str x)), some (.d fd), some (.d (.str r)), some (.d (.lst (as.map gotD))), some (.d (.int (j : Nat))), some (.d d), a7, a8, none, none] 8 = true := n8
    simp only [forS, put]
    have test : asB (T := DrawSt) (op2 (cmpD fun i j => decide (i < j)) (vName 5) (callD lenD (aCons (vName 1) aNil))) [some (.d .hd), some (.d (.str x)), some (.d fd), some (.d (.str r)), some (.d (.lst (as.map gotD))), some (.d (.int (j : Nat))), some (.d d), a7, a8, none, none] t = .ok (decide ((j : Int) < (x.length : Int))) t := t_asb (v_op2 (v_name rfl) (v_callD (v_cons (v_name rfl) v_nil) (if_pos (big _ (by omega)))) rfl)
    by_cases hj : j < x.length
    · obtain ⟨n, t1, e1, n0, n1⟩ := take_eq Z t 20 (by decide) (by decide)
      obtain ⟨m, hm⟩ : ∃ m : Nat, 1 + n = (m : Nat) := ⟨(1 + n).toNat, by omega⟩
      have hm1 : 1 ≤ m := by omega
      have ex : x.take j ++ (x.drop j).take m ++ x.drop (j + m) = x := by
        rw [List.append_assoc, ← List.drop_drop, List.take_append_drop, List.take_append_drop]
      obtain ⟨bs, r', q1, q2⟩ := piece_at Z X ex h
      rw [← List.take_add] at q1
      have lr : r.length ≤ x.length := by
        have := split_piece 10 (x.take j) r (h ▸ List.mem_append_right _ (.head _))
        rw [List.length_take] at this
        omega
      have lp : ((x.drop j).take m).length ≤ x.length := by
        rw [List.length_take, List.length_drop]
        omega
      have la : as.length + bs.length ≤ x.length + 1 := by
        have := split_len 10 (x.take (j + m))
        rw [q1, List.length_append, List.length_append, List.length_singleton, List.length_take] at this
        omega
      have step : bodyP Z [some (.d .hd), some (.d (.str x)), some (.d fd), some (.d (.str r)), some (.d (.lst (as.map gotD))), some (.d (.int (j : Nat))), some (.d d), a7, a8, none, none] t = .nx [some (.d .hd), some (.d (.str x)), some (.d fd), some (.d (.str r')), some (.d (.lst ((as ++ bs).map gotD))), some (.d (.int ((j + m : Nat) : Int))), some (.d d), some (.d (.int (m : Nat))), some (.d (.lst (bs.map gotD))), none, none] t1 := by
        unfold bodyP
        rw [k_ifT (test.trans (by rw [decide_eq_true (by omega)]))]
        refine k_seq (k_set (D := .int (m : Nat)) (v_op2 v_cst (v_callG (v_cons (v_name rfl) (v_cons v_cst v_nil)) rfl e1) (by rw [← hm]; rfl))) ?_
        refine k_seq (ρ1 := [some (.d .hd), some (.d (.str x)), some (.d fd), some (.d (.str r')), some (.d (.lst (as.map gotD))), some (.d (.int (j : Nat))), some (.d d), some (.d (.int (m : Nat))), some (.d (.lst (bs.map gotD))), none, none]) (t1 := t1) (k_asg (D := .tup [.lst (bs.map gotD), .str r']) (v_callP (v_cons (v_op2 (v_name rfl) (v_sl (v_name rfl) (v_prt (v_name rfl)) (v_prt (v_op2 (v_name rfl) (v_name rfl) rfl)) ((if_pos (big _ (by omega))).trans (congrArg (fun z => some (Dat.str z)) (cut_two (j := j) (k := m))))) (if_pos (big _ (by omega)))) v_nil) rfl q2) ?_) ?_
        · simp only [putT, putC, putN, putNil]
          have : notOwn [some (.d .hd), some (.d (.str x)), some (.d fd), some (.d (.str r)), some (.d (.lst (as.map gotD))), some (.d (.int (j : Nat))), some (.d d), some (.d (.int (m : Nat))), a8, none, none] 8 = true := n8
          show Option.bind (if notOwn [some (.d .hd), some (.d (.str x)), some (.d fd), some (.d (.str r)), some (.d (.lst (as.map gotD))), some (.d (.int (j : Nat))), some (.d d), some (.d (.int (m : Nat))), a8, none, none] 8 = true then some _ else none) _ = _
          rw [if_pos this]
          rfl
        · unfold parS bindS
          rw [v_cons (v_op2 (v_name rfl) (v_name rfl) (if_pos (big _ (by simp only [List.length_map]; omega)))) (v_cons (v_op2 (v_name rfl) (v_name rfl) rfl) v_nil)]
          simp only [List.map_append]
          rfl
      rw [step]
      obtain ⟨k, as', r2, b6, b7, b8, t', z1, z2, z3⟩ := piece_loop Z X fd es (j + m) (as ++ bs) r' (some (.d d)) (some (.d (.int (m : Nat)))) (some (.d (.lst (bs.map gotD)))) t1 rfl rfl q1
      refine ⟨k, as', r2, b6, b7, b8, t', z1, z2, ?_⟩
      rw [List.length_cons]
      omega
    · have step : bodyP Z [some (.d .hd), some (.d (.str x)), some (.d fd), some (.d (.str r)), some (.d (.lst (as.map gotD))), some (.d (.int (j : Nat))), some (.d d), a7, a8, none, none] t = .nx [some (.d .hd), some (.d (.str x)), some (.d fd), some (.d (.str r)), some (.d (.lst (as.map gotD))), some (.d (.int (j : Nat))), some (.d d), a7, a8, none, none] t := by
        unfold bodyP
        rw [k_ifF (test.trans (by rw [decide_eq_false (by omega)]))]
        rfl
      rw [step]
      obtain ⟨k, as', r2, b6, b7, b8, t', z1, z2, z3⟩ := piece_loop Z X fd es j as r (some (.d d)) a7 a8 t rfl n8' h
      refine ⟨k, as', r2, b6, b7, b8, t', z1, z2, ?_⟩
      rw [List.length_cons]
      -- the place stays beyond the end
      rcases z3 with z3 | z3
      · exact .inl z3
      · exact .inl (by omega)
theorem pieces_eq (Z : Ad) (t : DrawSt) {x l : List Nat} {ls : List (List Nat)} (X : PieceX x ls l) (s1 : Shown (.lst [.lst (ls.map gotD), .str l])) (s2 : Shown (.tup [.lst (ls.map gotD), .str l])) : ∃ t', den_law_pieces_right Z [.hd, .str x, .lst (ls.map gotD)] t = .ok (.bl true) t' := by
  have big : ∀ k : Nat, k ≤ 2000010 → k ≤ line := fun k hk => Nat.le_trans hk (by decide)
  have hx := X.len
  have e0 : splitL 10 (x.take 0) = [] ++ [[]] := by rw [List.take_zero]; rfl
  obtain ⟨k, as, r, b6, b7, b8, t', z1, z2, z3⟩ := piece_loop Z X (.lst (ls.map gotD)) (rngD 0 (x.length + 1)) 0 [] [] none none none t rfl rfl e0
  have hk : x.length ≤ k := by
    rw [rng_len] at z3
    omega
  rw [List.take_of_length_le hk, X.e] at z2
  obtain ⟨rfl, q⟩ := List.append_inj' z2 rfl
  cases q
  refine ⟨t', ?_⟩
  have tx : TextOk x := ⟨X.len, fun L hL => ⟨Nat.le_trans (split_piece 10 x L hL) X.len, fun w hw => X.wl L hL w hw⟩⟩
  have c := cut_text_eq Z tx X.e
  rw [read_all X.all] at c
  have hls : ls.length ≤ 1000001 := by
    have := split_len 10 x
    rw [X.e, List.length_append, List.length_singleton] at this
    omega
  show retOf (fs_law_pieces_right Z [some (.d .hd), some (.d (.str x)), some (.d (.lst (ls.map gotD))), none, none, none, none, none, none, none, none] t) = _
  refine r_ret (k_seq (ρ1 := [some (.d .hd), some (.d (.str x)), some (.d (.lst (ls.map gotD))), some (.d (.str [])), some (.d (.lst [])), some (.d (.int 0)), none, none, none, none, none]) (t1 := t) rfl (k_seq (k_loop (ds := rngD 0 (x.length + 1)) (t1 := t) (v_range (n := (x.length : Int) + 1) (v_cons (v_op2 (v_callD (v_cons (v_name rfl) v_nil) (if_pos (big _ (by omega)))) v_cst rfl) v_nil) (by omega)) z1) ?_))
  have sp : splitD (.str x) (.str [10]) = some (wsD (ls ++ [l])) := by
    rw [← X.e]
    exact if_pos ⟨by decide, big _ (by omega)⟩
  have la : ixD (wsD (ls ++ [l])) (.int (-1)) = some (.str l) := by
    show atI ((ls ++ [l]).map Dat.str) (-1) = _
    rw [List.map_append, List.map_singleton, at_last]
  refine k_seq (k_set (v_callP (v_cons (v_name rfl) v_nil) rfl c)) (k_seq (k_set (D := wsD (ls ++ [l])) (v_met (v_name rfl) v_cst sp)) (k_ret (v_and (a := true) (b := true) ?_ fun _ => ?_)))
  · exact v_callP (v_cons (v_lst (v_cons (v_name rfl) (v_cons (v_name rfl) v_nil)) (show 2 ≤ line by decide)) (v_cons (v_lst (v_cons (v_name rfl) (v_cons (v_op2 (v_name rfl) (v_neg v_cst) la) v_nil)) (show 2 ≤ line by decide)) v_nil)) rfl (says_eq Z _ s1)
  · exact v_callP (v_cons (v_name rfl) (v_cons (v_tup (v_cons (v_name rfl) (v_cons (v_op2 (v_name rfl) (v_neg v_cst) la) v_nil)) (show 2 ≤ line by decide)) v_nil)) rfl (says_eq Z _ s2)
end K25
end
section
set_option Elab.async false
set_option linter.all false
set_option maxRecDepth 100000
set_option maxHeartbeats 4000000
namespace K25
open PySem PySem.Spec PyProof.Rows L2 LamX DL
/-! ### the law's own texts -/
theorem high_not {f : Fr} (h : f.ok) {d : Nat} (hd : 0x110000 ≤ d) : ∀ w ∈ f.ws, d ∉ w := by
  have hl : d ∉ lets := fun z => Nat.lt_irrefl _ (Nat.lt_of_lt_of_le (lets_small z) hd)
  have hn : ∀ n, d ∉ TL.numL n := fun n => TL.numL_free (.inr (by omega))
  have hc : d ≠ 44 := by omega
  have lit : ∀ s ∈ [sTell, sAsk, sTold, sLanded, sLeft], d ∉ s := by
    have all : ∀ s ∈ [sTell, sAsk, sTold, sLanded, sLeft], ∀ c ∈ s, c < 0x110000 := by decide
    exact fun s hs z => Nat.lt_irrefl _ (Nat.lt_of_lt_of_le (all s hs d z) hd)
  intro w hw
  cases f with
  | tell k n vs =>
    simp only [Fr.ws, List.mem_cons, List.not_mem_nil, or_false] at hw
    rcases hw with rfl | rfl | rfl | rfl
    · exact lit sTell (by simp)
    · exact name_no h.1 hl
    · exact hn n
    · exact join_no hc fun p hp => name_no (h.2.2.2 p hp) hl
  | ask k n m r p =>
    simp only [Fr.ws, List.mem_cons, List.not_mem_nil, or_false] at hw
    rcases hw with rfl | rfl | rfl | rfl | rfl | rfl
    · exact lit sAsk (by simp)
    · exact name_no h.1 hl
    all_goals exact hn _
  | told k n m x =>
    simp only [Fr.ws, List.mem_cons, List.not_mem_nil, or_false] at hw
    rcases hw with rfl | rfl | rfl | rfl | rfl
    · exact lit sTold (by simp)
    · exact name_no h.1 hl
    · exact hn n
    · exact hn m
    · rcases h.2.2.2 with e | e
      · exact e ▸ lit sLanded (by simp)
      · exact e ▸ lit sLeft (by simp)
theorem line_low {f : Fr} (h : f.ok) : ∀ c ∈ f.line, c < 0x110000 := fun c hc => by
  rcases Nat.lt_or_ge c 0x110000 with q | q
  · exact q
  · exact (join_no (c := 32) (by omega) (high_not h q) hc).elim
theorem join_le (k : Nat) : ∀ (ws : List (List Nat)), (∀ w ∈ ws, w.length ≤ k) → (TL.joinL [32] ws).length ≤ ws.length * (k + 1)
  | [], _ => by simp [TL.joinL]
  | [w], h => by
    have := h w (.head _)
    show w.length ≤ 1 * (k + 1)
    omega
  | w :: v :: r, h => by
    have ih := join_le k (v :: r) fun x hx => h x (.tail _ hx)
    have h1 := h w (.head _)
    show (w ++ ([32] ++ TL.joinL [32] (v :: r))).length ≤ _
    rw [List.length_append, List.length_append]
    simp only [List.length_cons, List.length_nil, Nat.add_mul, Nat.one_mul] at ih ⊢
    omega
theorem ws_six (f : Fr) : f.ws.length ≤ 6 := by cases f <;> simp [Fr.ws]
theorem small_line {f : Fr} (sm : f.small) : f.line.length ≤ 126 := by
  have h := join_le 20 f.ws sm
  have := ws_six f
  exact Nat.le_trans h (Nat.le_trans (Nat.mul_le_mul_right 21 this) (by decide))
def textF (fs : List Fr) : List Nat := (fs.map fun f => f.line ++ [10]).flatten
structure Drawn (fs : List Fr) : Prop where
  ok : ∀ f ∈ fs, f.ok
  sm : ∀ f ∈ fs, f.small
  len : fs.length ≤ 12
theorem text_split {fs : List Fr} (h : ∀ f ∈ fs, f.ok) : splitL 10 (textF fs) = fs.map Fr.line ++ [[]] := by
  have := split_lines (fs.map Fr.line) fun l hl => by
    obtain ⟨f, hf, rfl⟩ := List.mem_map.mp hl
    exact line_no (h f hf)
  rw [List.map_map] at this
  exact this
theorem text_len : ∀ {fs : List Fr}, (∀ f ∈ fs, f.small) → (textF fs).length ≤ fs.length * 127
  | [], _ => by simp [textF]
  | f :: fs, h => by
    have h1 := small_line (h f (.head _))
    have h2 := text_len fun g hg => h g (.tail _ hg)
    show ((f.line ++ [10]) ++ textF fs).length ≤ _
    simp only [List.length_append, List.length_cons, List.length_nil, Nat.add_mul]
    omega
theorem text_low {fs : List Fr} (h : ∀ f ∈ fs, f.ok) : ∀ c ∈ textF fs, c < 0x110000 := fun c hc => by
  obtain ⟨l, hl, hc⟩ := List.mem_flatten.mp hc
  obtain ⟨f, hf, rfl⟩ := List.mem_map.mp hl
  rcases List.mem_append.mp hc with q | q
  · exact line_low (h f hf) c q
  · rw [List.mem_singleton.mp q]
    decide
theorem text_made {fs : List Fr} (D : Drawn fs) : Made (textF fs) := fun L hL => by
  rw [text_split D.ok] at hL
  rcases List.mem_append.mp hL with q | q
  · obtain ⟨f, hf, rfl⟩ := List.mem_map.mp q
    exact .inr ⟨f, D.ok f hf, D.sm f hf, rfl⟩
  · exact .inl (List.mem_singleton.mp q)
theorem small_few {f : Fr} (sm : f.small) : ∀ w ∈ f.ws, w.length < 30 := fun w hw => Nat.lt_of_le_of_lt (sm w hw) (by decide)
theorem few_piece {x : List Nat} (hl : x.length ≤ 2000) (hc : ∀ c ∈ x, c < 0x110000) (h : ∀ L ∈ splitL 10 x, Few L) : TextS x :=
  ⟨hl, fun L hL => ⟨⟨Nat.le_trans (split_piece 10 x L hL) (Nat.le_trans hl (by decide)), (h L hL).1⟩, fun c hc' => hc c (split_sub 10 x L hL c hc'), (h L hL).2⟩⟩
theorem text_S {fs : List Fr} (D : Drawn fs) : TextS (textF fs) := by
  have h1 := text_len D.sm
  have h2 := D.len
  have h3 : fs.length * 127 ≤ 12 * 127 := Nat.mul_le_mul_right 127 h2
  exact few_piece (by omega) (text_low D.ok) fun L hL => few_sm (made_sm (text_made D L hL))
theorem got_line {f : Fr} (ok : f.ok) : gotD f.line = f.d := by
  unfold gotD
  rw [prs_line ok]
  rfl
theorem got_all {fs : List Fr} (h : ∀ f ∈ fs, f.ok) : (fs.map Fr.line).map gotD = fs.map Fr.d := by
  rw [List.map_map]
  exact List.map_congr_left fun f hf => got_line (h f hf)
theorem all_line {fs : List Fr} (h : ∀ f ∈ fs, f.ok) : ∀ L ∈ fs.map Fr.line, (prs L).isSome = true := fun L hL => by
  obtain ⟨f, hf, rfl⟩ := List.mem_map.mp hL
  rw [prs_line (h f hf)]
  rfl
theorem read_text (Z : Ad) {fs : List Fr} (D : Drawn fs) : den_read_frames Z [.str (textF fs)] () = .ok (.lst (fs.map Fr.d)) () := by
  have h := read_frames_eq Z (text_S D).ok (text_split D.ok)
  rw [read_all (all_line D.ok), got_all D.ok] at h
  exact h
theorem strs_mapG {α : Type} (g : α → List Nat) : ∀ xs : List α, strsOf (xs.map fun a => Dat.str (g a)) = some (xs.map g)
  | [] => rfl
  | a :: xs => by
    show (strsOf (xs.map fun a => Dat.str (g a))).map (g a :: ·) = _
    rw [strs_mapG g xs]
    rfl
theorem join_nil : ∀ ps : List (List Nat), TL.joinL [] ps = ps.flatten
  | [] => rfl
  | [p] => by simp [TL.joinL]
  | p :: q :: r => by
    show p ++ ([] ++ TL.joinL [] (q :: r)) = _
    rw [join_nil (q :: r)]
    rfl
theorem sum_flat (ps : List (List Nat)) : (ps.map List.length).sum = ps.flatten.length := by
  rw [List.length_flatten]
theorem join_text {fs : List Fr} (D : Drawn fs) : joinD (.str []) (.lst (fs.map fun f => Dat.str (f.line ++ [10]))) = some (.str (textF fs)) := by
  show (strsOf _).bind _ = _
  rw [strs_mapG]
  show (if _ then _ else _) = _
  have h := (text_S D).len
  rw [if_pos (by rw [sum_flat]; show (textF fs).length + _ * 0 ≤ _; omega), join_nil]
  rfl
/-- what a def gives -/
def valD (o : Out Dat Unit) : Dat := match o with
  | .ok z _ => z
  | _ => .non
theorem map_texts {fs : List Fr} {den : List Dat → Unit → Out Dat Unit} (h : ∀ f ∈ fs, den [f.d] () = .ok (.str (f.line ++ [10])) ()) : (fs.map Fr.d).map (fun d => valD (den [d] ())) = fs.map fun f => Dat.str (f.line ++ [10]) := by
  rw [List.map_map]
  refine List.map_congr_left fun f hf => ?_
  show valD (den [f.d] ()) = _
  rw [h f hf]
  rfl
theorem shps_frames {fs : List Fr} (h : ∀ f ∈ fs, f.ok) (n : Nat) (hn : 2 ≤ n) : shps (fs.map Fr.d) n = true := shps_all fun d hd => by
  obtain ⟨f, hf, rfl⟩ := List.mem_map.mp hd
  exact shp_frame (h f hf) n hn
theorem costs_frames {fs : List Fr} (D : Drawn fs) : costs (fs.map Fr.d) ≤ 12024 := by
  have h := costs_map (ds := fs.map Fr.d) (k := 1000) fun d hd => by
    obtain ⟨f, hf, rfl⟩ := List.mem_map.mp hd
    exact cost_frame (D.ok f hf) (small_few (D.sm f hf))
  rw [List.length_map] at h
  exact Nat.le_trans h (Nat.mul_le_mul_right 1002 D.len)
theorem cost_str (x : List Nat) : cost (.str x) = 10 * x.length + 2 := rfl
theorem shown_pair {fs : List Fr} (D : Drawn fs) {y : List Nat} (hl : y.length ≤ 2000) (hc : ∀ c ∈ y, c < 0x110000) : Shown (.lst [.str y, .lst (fs.map Fr.d)]) ∧ Shown (.lst [.lst (fs.map Fr.d), .str y]) ∧ Shown (.tup [.lst (fs.map Fr.d), .str y]) := by
  have a1 := fun n => lit_shp hc n
  have a2 : shp (.lst (fs.map Fr.d)) 59 = true := by
    simp only [shp, Bool.and_eq_true, decide_eq_true_eq]
    exact ⟨by decide, shps_frames D.ok 58 (by decide)⟩
  have c1 := costs_frames D
  have c2 := cost_str y
  have c3 : cost (.lst (fs.map Fr.d)) ≤ 12030 := by
    simp only [cost]
    omega
  refine ⟨shown_lst (by simp only [shps, a1, a2, Bool.and_self]) ?_, shown_lst (by simp only [shps, a1, a2, Bool.and_self]) ?_, shown_tup (by simp only [shps, a1, a2, Bool.and_self]) ?_⟩
  all_goals
    simp only [costs]
    omega
end K25
end
section
set_option Elab.async false
set_option linter.all false
set_option maxRecDepth 100000
set_option maxHeartbeats 4000000
namespace K25
open PySem PySem.Spec PyProof.Rows L2 LamX DL
def bodyR (Z : Ad) : DenS DrawSt := (seqS (asgS 4 (callP 1 (den_law_is_a_frame Z) (aCons (vName 3) aNil))) (ifS (orT (notT (truD (callP 2 (den_law_says Z) (aCons (mkLst (aCons (callP 1 (den_is_frame Z) (aCons (vName 3) aNil)) (aCons (callP 1 (den_is_frame Z) (aCons (vName 3) aNil)) aNil))) (aCons (mkLst (aCons (vName 4) (aCons (vName 4) aNil))) aNil))))) (asB (op2 (eqD true) (op2 (isND false) (catchD [Z.cBF, Z.cBT] (callP 1 (den_frame_text Z) (aCons (vName 3) aNil))) (cst .non)) (vName 4)))) (retS (cst (.bl false))) skipS))
def lap1 (Z : Ad) : DenS DrawSt := (parN 6 7 (callG 2 (den_law_bent_text Z) (aCons (vName 0) (aCons (vName 2) aNil))))
def lap2 (Z : Ad) : DenS DrawSt := (asgT (putT (putC (putN 8) (putC (putN 9) putNil))) (callP 1 (den_law_read Z) (aCons (vName 6) aNil)))
def lap3 (Z : Ad) : DenS DrawSt := (catchA 10 7 [Z.cBF, Z.cBT] (callP 1 (den_read_frames Z) (aCons (vName 6) aNil)))
def lap4 (Z : Ad) : DenS DrawSt := (ifS (orT (andT (asB (op2 (isND false) (vName 9) (cst .non))) (notT (truD (callP 2 (den_law_says Z) (aCons (vName 7) (aCons (mkLst (aCons (vName 8) aNil)) aNil)))))) (andT (asB (op2 (isND true) (vName 9) (cst .non))) (orT (notT (truD (un1 (isXD Z.cBT) (vName 10)))) (notT (truD (callP 2 (den_law_says Z) (aCons (un1 (fldD Z.cBT "line") (vName 10)) (aCons (vName 9) aNil)))))))) (retS (cst (.bl false))) skipS)
def lap5 (Z : Ad) : DenS DrawSt := (parN 11 12 (sl3 (met1 splitD (vName 6) (cst (.str [10]))) (cst none) (prt (negD (cst (.int 1))))))
def lap6 (Z : Ad) : DenS DrawSt := (asgS 13 (lcD (putT (putC (putN 15) (putC (putN 16) putNil))) [15, 16] (itmE (aCons (vName 11) aNil)) (asB (op2 (eqD false) (callP 1 (den_law_frame_in Z) (aCons (vName 16) aNil)) (mkLst aNil))) (vName 15)))
def lap7 (Z : Ad) : DenS DrawSt := (catchA 10 12 [Z.cBF, Z.cBT] (callP 1 (den_cut_text Z) (aCons (vName 6) aNil)))
def lap8 (Z : Ad) : DenS DrawSt := (ifS (orT (andT (asB (op2 (eqD true) (vName 13) (mkLst aNil))) (orT (notT (truD (un1 (isXD Z.cBT) (vName 10)))) (notT (truD (callP 2 (den_law_says Z) (aCons (un1 (fldD Z.cBT "line") (vName 10)) (aCons (op2 ixD (vName 13) (cst (.int 0))) aNil))))))) (andT (asB (op2 (eqD false) (vName 13) (mkLst aNil))) (notT (truD (callP 2 (den_law_says Z) (aCons (vName 12) (aCons (mkLst (aCons (mkTup (aCons (vName 8) (aCons (op2 ixD (met1 splitD (vName 6) (cst (.str [10]))) (negD (cst (.int 1)))) aNil))) aNil)) aNil))))))) (retS (cst (.bl false))) skipS)
def bodyQ (Z : Ad) : DenS DrawSt := seqS (lap1 Z) (seqS (lap2 Z) (seqS (lap3 Z) (frzS 7 (seqS (lap4 Z) (seqS (lap5 Z) (seqS (lap6 Z) (seqS (lap7 Z) (frzS 12 (lap8 Z)))))))))
theorem bodyQ_is (Z : Ad) : bodyQ Z = (seqS (parN 6 7 (callG 2 (den_law_bent_text Z) (aCons (vName 0) (aCons (vName 2) aNil)))) (seqS (asgT (putT (putC (putN 8) (putC (putN 9) putNil))) (callP 1 (den_law_read Z) (aCons (vName 6) aNil))) (seqS (catchA 10 7 [Z.cBF, Z.cBT] (callP 1 (den_read_frames Z) (aCons (vName 6) aNil))) (frzS 7 (seqS (ifS (orT (andT (asB (op2 (isND false) (vName 9) (cst .non))) (notT (truD (callP 2 (den_law_says Z) (aCons (vName 7) (aCons (mkLst (aCons (vName 8) aNil)) aNil)))))) (andT (asB (op2 (isND true) (vName 9) (cst .non))) (orT (notT (truD (un1 (isXD Z.cBT) (vName 10)))) (notT (truD (callP 2 (den_law_says Z) (aCons (un1 (fldD Z.cBT "line") (vName 10)) (aCons (vName 9) aNil)))))))) (retS (cst (.bl false))) skipS) (seqS (parN 11 12 (sl3 (met1 splitD (vName 6) (cst (.str [10]))) (cst none) (prt (negD (cst (.int 1)))))) (seqS (asgS 13 (lcD (putT (putC (putN 15) (putC (putN 16) putNil))) [15, 16] (itmE (aCons (vName 11) aNil)) (asB (op2 (eqD false) (callP 1 (den_law_frame_in Z) (aCons (vName 16) aNil)) (mkLst aNil))) (vName 15))) (seqS (catchA 10 12 [Z.cBF, Z.cBT] (callP 1 (den_cut_text Z) (aCons (vName 6) aNil))) (frzS 12 (ifS (orT (andT (asB (op2 (eqD true) (vName 13) (mkLst aNil))) (orT (notT (truD (un1 (isXD Z.cBT) (vName 10)))) (notT (truD (callP 2 (den_law_says Z) (aCons (un1 (fldD Z.cBT "line") (vName 10)) (aCons (op2 ixD (vName 13) (cst (.int 0))) aNil))))))) (andT (asB (op2 (eqD false) (vName 13) (mkLst aNil))) (notT (truD (callP 2 (den_law_says Z) (aCons (vName 12) (aCons (mkLst (aCons (mkTup (aCons (vName 8) (aCons (op2 ixD (met1 splitD (vName 6) (cst (.str [10]))) (negD (cst (.int 1)))) aNil))) aNil)) aNil))))))) (retS (cst (.bl false))) skipS)))))))))) := rfl
section
variable {T : Type} {ρ : En} {t t1 : T} {F : Den T} {L : List Addr} {C : Addr} {fs : List Str} {ds xs : List Dat} {d : Dat} {i il : Nat}
theorem v_catch (h : F ρ t = .ok d t1) : catchD L F ρ t = .ok .non t1 := by
  unfold catchD
  rw [h]
theorem v_catchX (h : F ρ t = .ex C fs ds t1) (hC : C ∈ L) : catchD L F ρ t = .ok (.exc C fs ds) t1 := by
  unfold catchD
  rw [h]
  exact if_pos hC
theorem k_catch (h0 : ρ[il]? = some (some (.o xs))) (h : F ρ t = .ok d t1) (h2 : xs.length < line) : catchA i il L F ρ t = .nx ((ρ.set il (some (.o (xs ++ [d])))).set i (some (.d .non))) t1 := by
  unfold catchA
  rw [h0]
  show (match F ρ t with | .ok d t1 => if xs.length < line then _ else _ | .ex C fs ds t1 => _ | .no => _) = _
  rw [h]
  exact if_pos h2
theorem k_catchX (h0 : ρ[il]? = some (some (.o xs))) (h : F ρ t = .ex C fs ds t1) (hC : C ∈ L) : catchA i il L F ρ t = .nx (ρ.set i (some (.d (.exc C fs ds)))) t1 := by
  unfold catchA
  rw [h0]
  show (match F ρ t with | .ok d t1 => _ | .ex C fs ds t1 => if C ∈ L then _ else _ | .no => _) = _
  rw [h]
  exact if_pos hC
theorem k_parN {j : Nat} (h : F ρ t = .ok d t1) : parN i j F ρ t = .nx ((ρ.set i (some (.d d))).set j (some (.o []))) t1 := by
  unfold parN bindS
  rw [h]
theorem no_own {a : Option Dat} (h : ρ[i]? = some (a.map SV.d)) : notOwn ρ i = true := by
  unfold notOwn
  rw [h]
  cases a <;> rfl
theorem put_two {j : Nat} {e : Dat} (h1 : notOwn ρ i = true) (h2 : notOwn (ρ.set i (some (.d d))) j = true) : putT (putC (putN i) (putC (putN j) putNil)) (.tup [d, e]) ρ = some ((ρ.set i (some (.d d))).set j (some (.d e))) := by
  simp only [putT, putC, putN, putNil, h1, if_true, Option.bind, h2]
end
/-! the first loop -/
theorem shown_two (b : Bool) : Shown (.lst [.bl b, .bl b]) := by
  cases b
  · exact shown_lst (by decide) (by decide)
  · exact shown_lst (by decide) (by decide)
def envR (ds : Dat) (x : Dat) (a3 a4 : Option Dat) : En := [some (.d .hd), some (.d ds), some (.d x), a3.map SV.d, a4.map SV.d, none, none, none, none, none, none, none, none, none, none, none, none]
theorem near_lap (Z : Ad) (ds x d : Dat) (a4 : Option Dat) (t : DrawSt) (n : NearOk d) : bodyR Z (envR ds x (some d) a4) t = .nx (envR ds x (some d) (some (.bl (frameB d)))) t := by
  unfold bodyR
  have two : (2 : Nat) ≤ line := by decide
  refine k_seq (k_set (v_callP (v_cons (v_name rfl) v_nil) rfl (law_is_a_frame_eq Z d n.g))) ?_
  have fr := is_frame_eq Z d n.g.g
  have test : ∀ b : Bool, isND false (valD (.ok (if frameB d then Dat.non else .exc Z.cBF [] []) ())) .non = some (.bl (frameB d)) := fun _ => by
    cases frameB d <;> rfl
  have ct : catchD (T := DrawSt) [Z.cBF, Z.cBT] (callP 1 (den_frame_text Z) (aCons (vName 3) aNil)) (envR ds x (some d) (some (.bl (frameB d)))) t = .ok (if frameB d then Dat.non else .exc Z.cBF [] []) t := by
    cases q : frameB d with
    | true =>
      obtain ⟨f, ok, e⟩ := frame_of q
      have h := frame_text_eq Z f ok (few_fit (n.fit f ok e))
      rw [← e] at h
      exact v_catch (v_callP (v_cons (v_name rfl) v_nil) rfl h)
    | false => exact v_catchX (v_callX (v_cons (v_name rfl) v_nil) rfl (frame_text_no Z d n.g.g q)) (.head _)
  refine (k_ifF (t_or (a := false) (b := false) (t_not (a := true) (t_tru (v_callP (v_cons (v_lst (v_cons (v_callP (v_cons (v_name rfl) v_nil) rfl fr) (v_cons (v_callP (v_cons (v_name rfl) v_nil) rfl fr) v_nil)) two) (v_cons (v_lst (v_cons (v_name rfl) (v_cons (v_name rfl) v_nil)) two) v_nil)) rfl (says_eq Z _ (shown_two _))) rfl)) fun _ => t_asb (v_op2 (v_op2 ct v_cst (test true)) (v_name rfl) ?_))).trans rfl
  cases frameB d <;> rfl
theorem near_loop (Z : Ad) (ds x : Dat) (t : DrawSt) : ∀ (es : List Dat) (a3 a4 : Option Dat), (∀ d ∈ es, NearOk d) → ∃ b3 b4, forS (putN 3) (bodyR Z) es (envR ds x a3 a4) t = .nx (envR ds x b3 b4) t
  | [], a3, a4, _ => ⟨a3, a4, rfl⟩
  | d :: es, a3, a4, h => by
    have put : putN 3 d (envR ds x a3 a4) = some (envR ds x (some d) a4) := if_pos (no_own (a := a3) rfl)
    obtain ⟨b3, b4, q⟩ := near_loop Z ds x t es (some d) (some (.bl (frameB d))) fun e he => h e (.tail _ he)
    refine ⟨b3, b4, ?_⟩
    simp only [forS, put, near_lap Z ds x d a4 t (h d (.head _))]
    exact q
/-! the wrong lines -/
def wrongs : Nat → List (List Nat) → List Dat
  | _, [] => []
  | k, L :: ls => match prs L with
    | some _ => wrongs (k + 1) ls
    | none => .int (k : Int) :: wrongs (k + 1) ls
def isWrong : Dat → Bool
  | .tup [_, .str L] => (prs L).isNone
  | _ => false
def theAt : Dat → Dat
  | .tup [i, _] => i
  | _ => .non
theorem wrong_map : ∀ (ls : List (List Nat)) (k : Nat), ((numF k (ls.map Dat.str)).filter isWrong).map theAt = wrongs k ls
  | [], _ => rfl
  | L :: ls, k => by
    have ih := wrong_map ls (k + 1)
    show ((Dat.tup [.int (k : Int), .str L] :: numF (k + 1) (ls.map Dat.str)).filter isWrong).map theAt = _
    unfold wrongs
    cases e : prs L with
    | some d =>
      rw [List.filter_cons_of_neg (by simp [isWrong, e]), ih]
    | none =>
      rw [List.filter_cons_of_pos (by simp [isWrong, e]), List.map_cons, ih]
      rfl
theorem wrong_inl : ∀ {ls : List (List Nat)} {k : Nat} {acc F : List Dat}, readP ls k acc = .inl F → wrongs k ls = []
  | [], _, _, _, _ => rfl
  | L :: ls, k, acc, F, h => by
    unfold readP at h
    unfold wrongs
    cases e : prs L with
    | some d =>
      rw [e] at h
      exact wrong_inl h
    | none =>
      rw [e] at h
      cases h
theorem wrong_inr : ∀ {ls : List (List Nat)} {k i : Nat} {acc : List Dat}, readP ls k acc = .inr i → (∃ r, wrongs k ls = .int (i : Int) :: r) ∧ i < k + ls.length
  | [], _, _, _, h => by cases h
  | L :: ls, k, i, acc, h => by
    unfold readP at h
    unfold wrongs
    rw [List.length_cons]
    cases e : prs L with
    | some d =>
      rw [e] at h
      obtain ⟨h1, h2⟩ := wrong_inr h
      exact ⟨h1, by omega⟩
    | none =>
      rw [e] at h
      cases h
      exact ⟨⟨_, rfl⟩, by omega⟩
theorem wrong_shp : ∀ {ls : List (List Nat)} {k : Nat}, ∀ d ∈ wrongs k ls, shp d 20 = true
  | L :: ls, k, d, h => by
    unfold wrongs at h
    split at h
    · exact wrong_shp d h
    · rcases List.mem_cons.mp h with rfl | h
      · rfl
      · exact wrong_shp d h
end K25
end
section
set_option Elab.async false
set_option linter.all false
set_option maxRecDepth 100000
set_option maxHeartbeats 4000000
namespace K25
open PySem PySem.Spec PyProof.Rows L2 LamX DL
/-! ### a lap over a bent text -/
def envL (ds x : Dat) (a3 a4 a5 a6 a7 a8 a9 a10 a11 a12 a13 : Option Dat) : En := [some (.d .hd), some (.d ds), some (.d x), a3.map SV.d, a4.map SV.d, a5.map SV.d, a6.map SV.d, a7.map SV.d, a8.map SV.d, a9.map SV.d, a10.map SV.d, a11.map SV.d, a12.map SV.d, a13.map SV.d, none, none, none]
theorem shown_nat {n : Nat} (h : n ≤ 3000) : Shown (.int (n : Int)) := shown_int (by
  have : (3000 : Nat) < 10 ^ 30 := by decide
  rw [Int.natAbs_natCast]
  omega)
section
variable {Z : Ad} {ds x : Dat} {a3 a4 a5 a6 a7 a8 a9 a10 a11 a12 a13 : Option Dat} {y : List Nat} {t : DrawSt} {Q : DenS DrawSt}
/-- the text is whole, or it is not -/
theorem lap_34 (d8 d9 : Dat) (h : (d9 = .non ∧ den_read_frames Z [.str y] () = .ok d8 () ∧ Shown (.lst [d8])) ∨ ∃ n : Nat, n ≤ 3000 ∧ d9 = .int (n : Int) ∧ den_read_frames Z [.str y] () = .ex Z.cBT ["line"] [.int (n : Int)] ()) :
    ∃ d7 d10 : Dat, seqS (lap3 Z) (frzS 7 (seqS (lap4 Z) Q)) [some (.d .hd), some (.d ds), some (.d x), a3.map SV.d, a4.map SV.d, a5.map SV.d, some (.d (.str y)), some (.o []), some (.d d8), some (.d d9), a10.map SV.d, a11.map SV.d, a12.map SV.d, a13.map SV.d, none, none, none] t =
      Q (envL ds x a3 a4 a5 (some (.str y)) (some d7) (some d8) (some d9) (some d10) a11 a12 a13) t := by
  have one : (1 : Nat) ≤ line := by decide
  rcases h with ⟨rfl, h, s⟩ | ⟨n, hn, rfl, h⟩
  · refine ⟨.lst [d8], .non, ?_⟩
    refine k_seq (k_catch (xs := []) rfl (v_callP (v_cons (v_name rfl) v_nil) rfl h) (by decide)) (k_frz (xs := [d8]) rfl ?_)
    refine k_seq (ρ1 := envL ds x a3 a4 a5 (some (.str y)) (some (.lst [d8])) (some d8) (some .non) (some .non) a11 a12 a13) (t1 := t) ?_ rfl
    refine (k_ifF (t_or (a := false) (b := false) (t_and (a := true) (b := false) (t_asb (v_op2 (v_name rfl) v_cst rfl)) fun _ => t_not (a := true) (t_tru (v_callP (v_cons (v_name rfl) (v_cons (v_lst (v_cons (v_name rfl) v_nil) one) v_nil)) rfl (says_eq Z _ s)) rfl)) fun _ => t_and (a := false) (b := false) (t_asb (v_op2 (v_name rfl) v_cst rfl)) fun z => by cases z)).trans rfl
  · refine ⟨.lst [], .exc Z.cBT ["line"] [.int (n : Int)], ?_⟩
    refine k_seq (k_catchX (xs := []) rfl (v_callX (v_cons (v_name rfl) v_nil) rfl h) (.tail _ (.head _))) (k_frz (xs := []) rfl ?_)
    refine k_seq (ρ1 := envL ds x a3 a4 a5 (some (.str y)) (some (.lst [])) (some d8) (some (.int (n : Int))) (some (.exc Z.cBT ["line"] [.int (n : Int)])) a11 a12 a13) (t1 := t) ?_ rfl
    refine (k_ifF (t_or (a := false) (b := false) (t_and (a := false) (b := false) (t_asb (v_op2 (v_name rfl) v_cst rfl)) fun z => by cases z) fun _ => t_and (a := true) (b := false) (t_asb (v_op2 (v_name rfl) v_cst rfl)) fun _ => t_or (a := false) (b := false) (t_not (a := true) (t_tru (v_un1 (v_name rfl) (if_pos rfl)) rfl)) fun _ => t_not (a := true) (t_tru (v_callP (v_cons (v_un1 (z := .int (n : Int)) (v_name rfl) (if_pos rfl)) (v_cons (v_name rfl) v_nil)) rfl (says_eq Z _ (shown_nat hn))) rfl))).trans rfl
theorem lap_78 {d7 d8 d9 d10 d11 d12 : Dat} {W : List Dat} {ls : List (List Nat)} {l : List Nat} (hy : y.length ≤ 2000) (e : splitL 10 y = ls ++ [l]) (sW : ∀ d ∈ W, shp d 20 = true)
    (h : (W = [] ∧ den_cut_text Z [.str y] () = .ok (.tup [d8, .str l]) () ∧ Shown (.lst [.tup [d8, .str l]])) ∨ ∃ (n : Nat) (r : List Dat), n ≤ 3000 ∧ W = .int (n : Int) :: r ∧ den_cut_text Z [.str y] () = .ex Z.cBT ["line"] [.int (n : Int)] ()) :
    ∃ e10 e12 : Dat, seqS (lap7 Z) (frzS 12 (lap8 Z)) [some (.d .hd), some (.d ds), some (.d x), a3.map SV.d, a4.map SV.d, a5.map SV.d, some (.d (.str y)), some (.d d7), some (.d d8), some (.d d9), some (.d d10), some (.d d11), some (.o []), some (.d (.lst W)), none, none, none] t =
      .nx (envL ds x a3 a4 a5 (some (.str y)) (some d7) (some d8) (some d9) (some e10) (some d11) (some e12) (some (.lst W))) t := by
  have big : ∀ k : Nat, k ≤ 2000010 → k ≤ line := fun k hk => Nat.le_trans hk (by decide)
  have one : (1 : Nat) ≤ line := by decide
  have two : (2 : Nat) ≤ line := by decide
  have q1 := eq_empty (neg := true) sW
  have q2 := eq_empty (neg := false) sW
  rcases h with ⟨rfl, h, s⟩ | ⟨n, r, hn, rfl, h⟩
  · refine ⟨.non, .lst [.tup [d8, .str l]], ?_⟩
    refine k_seq (k_catch (xs := []) rfl (v_callP (v_cons (v_name rfl) v_nil) rfl h) (by decide)) (k_frz (xs := [.tup [d8, .str l]]) rfl ?_)
    have sp : splitD (.str y) (.str [10]) = some (wsD (ls ++ [l])) := by
      rw [← e]
      exact if_pos ⟨by decide, big _ (by omega)⟩
    have la : ixD (wsD (ls ++ [l])) (.int (-1)) = some (.str l) := by
      show atI ((ls ++ [l]).map Dat.str) (-1) = _
      rw [List.map_append, List.map_singleton, at_last]
    refine (k_ifF (t_or (a := false) (b := false) (t_and (a := false) (b := false) (t_asb (v_op2 (v_name rfl) (v_lst v_nil (by decide)) q1)) fun z => by cases z) fun _ => t_and (a := true) (b := false) (t_asb (v_op2 (v_name rfl) (v_lst v_nil (by decide)) q2)) fun _ => t_not (a := true) (t_tru (v_callP (v_cons (v_name rfl) (v_cons (v_lst (v_cons (v_tup (v_cons (v_name rfl) (v_cons (v_op2 (v_met (v_name rfl) v_cst sp) (v_neg v_cst) la) v_nil)) two) v_nil) one) v_nil)) rfl (says_eq Z _ s)) rfl))).trans rfl
  · refine ⟨.exc Z.cBT ["line"] [.int (n : Int)], .lst [], ?_⟩
    refine k_seq (k_catchX (xs := []) rfl (v_callX (v_cons (v_name rfl) v_nil) rfl h) (.tail _ (.head _))) (k_frz (xs := []) rfl ?_)
    refine (k_ifF (t_or (a := false) (b := false) (t_and (a := true) (b := false) (t_asb (v_op2 (v_name rfl) (v_lst v_nil (by decide)) q1)) fun _ => t_or (a := false) (b := false) (t_not (a := true) (t_tru (v_un1 (v_name rfl) (if_pos rfl)) rfl)) fun _ => t_not (a := true) (t_tru (v_callP (v_cons (v_un1 (z := .int (n : Int)) (v_name rfl) (if_pos rfl)) (v_cons (v_op2 (v_name rfl) v_cst (ix_lst (j := 0) rfl)) v_nil)) rfl (says_eq Z _ (shown_nat hn))) rfl)) fun _ => t_and (a := false) (b := false) (t_asb (v_op2 (v_name rfl) (v_lst v_nil (by decide)) q2)) fun z => by cases z)).trans rfl
end
end K25
end
section
set_option Elab.async false
set_option linter.all false
set_option maxRecDepth 100000
set_option maxHeartbeats 4000000
namespace K25
open PySem PySem.Spec PyProof.Rows L2 LamX DL
theorem read_mem : ∀ {ls : List (List Nat)} {k : Nat} {acc F : List Dat}, readP ls k acc = .inl F → ∀ d ∈ F, d ∈ acc ∨ ∃ L ∈ ls, prs L = some d
  | [], k, acc, F, h, d, hd => by
    cases h
    exact .inl hd
  | L :: ls, k, acc, F, h, d, hd => by
    unfold readP at h
    cases e : prs L with
    | none =>
      rw [e] at h
      cases h
    | some z =>
      rw [e] at h
      rcases read_mem h d hd with q | ⟨M, hM, q⟩
      · rcases List.mem_append.mp q with q | q
        · exact .inl q
        · exact .inr ⟨L, .head _, by rw [e, List.mem_singleton.mp q]⟩
      · exact .inr ⟨M, .tail _ hM, q⟩
theorem frames_shown {ls : List (List Nat)} {F : List Dat} (h : readP ls 0 [] = .inl F) (hl : ls.length ≤ 2001) (hS : ∀ L ∈ ls, LineS L) : (∀ n, 2 ≤ n → shps F n = true) ∧ costs F ≤ 2010000 := by
  have hF : ∀ d ∈ F, ∃ f : Fr, f.ok ∧ d = f.d ∧ ∀ w ∈ f.ws, w.length < 30 := fun d hd => by
    rcases read_mem h d hd with q | ⟨L, hL, q⟩
    · cases q
    · obtain ⟨f, ok, e1, e2⟩ := prs_ne q
      exact ⟨f, ok, e2, (hS L hL).few f ok e1⟩
  refine ⟨fun n hn => shps_all fun d hd => ?_, ?_⟩
  · obtain ⟨f, ok, rfl, _⟩ := hF d hd
    exact shp_frame ok n hn
  · have c := costs_map (ds := F) (k := 1000) fun d hd => by
      obtain ⟨f, ok, rfl, few⟩ := hF d hd
      exact cost_frame ok few
    have len := read_len h
    rw [List.length_nil, Nat.zero_add] at len
    rw [len] at c
    exact Nat.le_trans c (Nat.le_trans (Nat.mul_le_mul_right 1002 hl) (by decide))
section
variable {Z : Ad} {ds x : Dat} {a3 a4 a5 a6 a7 a8 a9 a10 a11 a12 a13 : Option Dat} {y : List Nat} {t : DrawSt}
theorem law_empty {L : List Nat} : eqD false (lawIn L) (.lst []) = some (.bl (prs L).isNone) := by
  unfold lawIn
  cases e : prs L with
  | none => rfl
  | some d =>
    obtain ⟨f, ok, _, rfl⟩ := prs_ne e
    exact eq_empty (neg := false) (xs := [f.d]) fun d hd => by
      rw [List.mem_singleton.mp hd]
      exact shp_frame ok 20 (by decide)
theorem lap_6 {d7 d8 d9 d10 : Dat} {ls : List (List Nat)} (hl : ls.length ≤ 2001) (hS : ∀ L ∈ ls, LineS L) :
    lap6 Z [some (.d .hd), some (.d ds), some (.d x), a3.map SV.d, a4.map SV.d, a5.map SV.d, some (.d (.str y)), some (.d d7), some (.d d8), some (.d d9), some (.d d10), some (.d (wsD ls)), some (.o []), a13.map SV.d, none, none, none] t =
      .nx [some (.d .hd), some (.d ds), some (.d x), a3.map SV.d, a4.map SV.d, a5.map SV.d, some (.d (.str y)), some (.d d7), some (.d d8), some (.d d9), some (.d d10), some (.d (wsD ls)), some (.o []), some (.d (.lst (wrongs 0 ls))), none, none, none] t := by
  let ρ : Dat → Dat → En := fun i w => [some (.d .hd), some (.d ds), some (.d x), a3.map SV.d, a4.map SV.d, a5.map SV.d, some (.d (.str y)), some (.d d7), some (.d d8), some (.d d9), some (.d d10), some (.d (wsD ls)), some (.o []), a13.map SV.d, none, some (.d i), some (.d w)]
  let pt : Dat → En := fun d => match d with
    | .tup [i, w] => ρ i w
    | _ => []
  have h := lcD_pure (T := DrawSt) (put := putT (putC (putN 15) (putC (putN 16) putNil))) (vs := [15, 16]) (I := itmE (aCons (vName 11) aNil)) (B := asB (op2 (eqD false) (callP 1 (den_law_frame_in Z) (aCons (vName 16) aNil)) (mkLst aNil))) (F := vName 15) (ρ := [some (.d .hd), some (.d ds), some (.d x), a3.map SV.d, a4.map SV.d, a5.map SV.d, some (.d (.str y)), some (.d d7), some (.d d8), some (.d d9), some (.d d10), some (.d (wsD ls)), some (.o []), a13.map SV.d, none, none, none]) (t := t) (t1 := t) (ds := numF 0 (ls.map Dat.str)) pt isWrong theAt rfl
    (by
      rw [← num_D]
      exact v_enum (v_cons (v_name rfl) v_nil))
    (fun d hd => by
      obtain ⟨i, w, rfl, _, hw⟩ := numF_mem hd
      refine ⟨rfl, ?_, fun _ => v_name rfl⟩
      have hm : w ∈ ls := List.mem_of_getElem? hw
      exact t_asb (v_op2 (v_callP (v_cons (v_name rfl) v_nil) rfl (law_frame_in_eq Z w (hS w hm))) (v_lst v_nil (by decide)) law_empty))
    (by
      rw [numF_len, List.length_map]
      exact Nat.le_trans hl (by decide))
  rw [wrong_map] at h
  exact k_set h
theorem lap_5 {d7 d8 d9 d10 : Dat} {a12 : Option Dat} {ls : List (List Nat)} {l : List Nat} (hy : y.length ≤ 2000) (e : splitL 10 y = ls ++ [l]) :
    lap5 Z (envL ds x a3 a4 a5 (some (.str y)) (some d7) (some d8) (some d9) (some d10) a11 a12 a13) t =
      .nx [some (.d .hd), some (.d ds), some (.d x), a3.map SV.d, a4.map SV.d, a5.map SV.d, some (.d (.str y)), some (.d d7), some (.d d8), some (.d d9), some (.d d10), some (.d (wsD ls)), some (.o []), a13.map SV.d, none, none, none] t := by
  have big : ∀ k : Nat, k ≤ 2000010 → k ≤ line := fun k hk => Nat.le_trans hk (by decide)
  have sp : splitD (.str y) (.str [10]) = some (wsD (ls ++ [l])) := by
    rw [← e]
    exact if_pos ⟨by decide, big _ (by omega)⟩
  refine k_parN (v_sl (v_met (v_name rfl) v_cst sp) v_cst (v_prt (v_neg v_cst)) ?_)
  show some (Dat.lst (cutL ((ls ++ [l]).map Dat.str) none (some (-1)))) = _
  rw [List.map_append, List.map_singleton, cut_last]
theorem bent_lap {fs : List Fr} (D : Drawn fs) (d5 : Dat) : ∃ (b6 b7 b8 b9 b10 b11 b12 b13 : Option Dat) (t' : DrawSt), bodyQ Z (envL ds (.str (textF fs)) a3 a4 (some d5) a6 a7 a8 a9 a10 a11 a12 a13) t = .nx (envL ds (.str (textF fs)) a3 a4 (some d5) b6 b7 b8 b9 b10 b11 b12 b13) t' := by
  obtain ⟨y, t', ey, hl, hc, hf⟩ := bent_text_eq Z t (textF fs) (text_made D) (by
    have h1 := text_len D.sm
    have h3 : fs.length * 127 ≤ 12 * 127 := Nat.mul_le_mul_right 127 D.len
    omega) (text_low D.ok)
  have TS : TextS y := few_piece (by omega) hc hf
  obtain ⟨ls, l, e⟩ := split_last 10 y
  have hS : ∀ L ∈ ls, LineS L := fun L hL => TS.ls L (by rw [e]; exact List.mem_append_left _ hL)
  have hls : ls.length ≤ 1701 := by
    have := split_len 10 y
    rw [e, List.length_append, List.length_singleton] at this
    omega
  have hll : l.length ≤ 1700 := Nat.le_trans (split_piece 10 y l (by rw [e]; exact List.mem_append_right _ (.head _))) hl
  have hcl : ∀ c ∈ l, c < 0x110000 := (TS.ls l (by rw [e]; exact List.mem_append_right _ (.head _))).ch
  have rd := law_read_eq Z TS e
  have rf := read_frames_eq Z TS.ok e
  have ct := cut_text_eq Z TS.ok e
  -- both stages
  have main : ∀ (d8 d9 : Dat), den_law_read Z [.str y] () = .ok (.tup [d8, d9]) () →
      ((d9 = .non ∧ den_read_frames Z [.str y] () = .ok d8 () ∧ Shown (.lst [d8])) ∨ ∃ n : Nat, n ≤ 3000 ∧ d9 = .int (n : Int) ∧ den_read_frames Z [.str y] () = .ex Z.cBT ["line"] [.int (n : Int)] ()) →
      ((wrongs 0 ls = [] ∧ den_cut_text Z [.str y] () = .ok (.tup [d8, .str l]) () ∧ Shown (.lst [.tup [d8, .str l]])) ∨ ∃ (n : Nat) (r : List Dat), n ≤ 3000 ∧ wrongs 0 ls = .int (n : Int) :: r ∧ den_cut_text Z [.str y] () = .ex Z.cBT ["line"] [.int (n : Int)] ()) →
      ∃ (b6 b7 b8 b9 b10 b11 b12 b13 : Option Dat) (t' : DrawSt), bodyQ Z (envL ds (.str (textF fs)) a3 a4 (some d5) a6 a7 a8 a9 a10 a11 a12 a13) t = .nx (envL ds (.str (textF fs)) a3 a4 (some d5) b6 b7 b8 b9 b10 b11 b12 b13) t' := by
    intro d8 d9 h1 h2 h3
    obtain ⟨d7, d10, q1⟩ := lap_34 (Z := Z) (ds := ds) (x := .str (textF fs)) (a3 := a3) (a4 := a4) (a5 := some d5) (a10 := a10) (a11 := a11) (a12 := a12) (a13 := a13) (y := y) (t := t') (Q := seqS (lap5 Z) (seqS (lap6 Z) (seqS (lap7 Z) (frzS 12 (lap8 Z))))) d8 d9 h2
    obtain ⟨e10, e12, q2⟩ := lap_78 (Z := Z) (ds := ds) (x := .str (textF fs)) (a3 := a3) (a4 := a4) (a5 := some d5) (t := t') (d7 := d7) (d8 := d8) (d9 := d9) (d10 := d10) (d11 := wsD ls) (d12 := .non) (by omega) e (fun d hd => wrong_shp d hd) h3
    refine ⟨some (.str y), some d7, some d8, some d9, some e10, some (wsD ls), some e12, some (.lst (wrongs 0 ls)), t', ?_⟩
    refine k_seq (k_parN (v_callG (v_cons (v_name rfl) (v_cons (v_name rfl) v_nil)) rfl ey)) ?_
    refine k_seq (k_asg (v_callP (v_cons (v_name rfl) v_nil) rfl h1) (put_two (no_own (a := a8) rfl) (no_own (a := a9) rfl))) ?_
    refine Eq.trans q1 ?_
    refine k_seq (lap_5 (by omega) e) ?_
    refine k_seq (lap_6 (by omega) hS) ?_
    exact q2
  cases er : readP ls 0 [] with
  | inl F =>
    rw [er] at rd rf ct
    obtain ⟨s1, s2⟩ := frames_shown er (by omega) hS
    have sF : ∀ n, 2 ≤ n → shp (.lst F) (n + 1) = true := fun n hn => by
      simp only [shp, Bool.and_eq_true, decide_eq_true_eq]
      exact ⟨by omega, s1 n hn⟩
    have cF : cost (.lst F) ≤ 2010010 := by
      simp only [cost]
      omega
    refine main _ _ rd ?_ (.inl ⟨wrong_inl er, ct, ?_⟩)
    · by_cases hlz : l = []
      · refine .inl ⟨if_pos hlz, by rw [rf]; exact if_pos hlz, shown_lst ?_ ?_⟩
        · simp only [shps, sF 58 (by decide), Bool.and_self]
        · simp only [costs]
          omega
      · exact .inr ⟨ls.length, by omega, if_neg hlz, by rw [rf]; exact if_neg hlz⟩
    · refine shown_lst ?_ ?_
      · simp only [shps, shp, Bool.and_eq_true, decide_eq_true_eq, and_true]
        refine ⟨by decide, ⟨by decide, s1 _ (by decide)⟩, ?_⟩
        have := lit_shp hcl 58
        simpa only [shp] using this
      · have c2 := cost_str l
        simp only [costs, cost] at c2 ⊢
        simp only [cost] at cF
        omega
  | inr i =>
    rw [er] at rd rf ct
    obtain ⟨⟨r, w1⟩, w2⟩ := wrong_inr er
    exact main _ _ rd (.inr ⟨i, by omega, rfl, rf⟩) (.inr ⟨i, r, by omega, w1, ct⟩)
theorem bent_loop {fs : List Fr} (D : Drawn fs) : ∀ (es : List Dat) (a5 a6 a7 a8 a9 a10 a11 a12 a13 : Option Dat) (t : DrawSt), ∃ (b5 b6 b7 b8 b9 b10 b11 b12 b13 : Option Dat) (t' : DrawSt), forS (putN 5) (bodyQ Z) es (envL ds (.str (textF fs)) a3 a4 a5 a6 a7 a8 a9 a10 a11 a12 a13) t = .nx (envL ds (.str (textF fs)) a3 a4 b5 b6 b7 b8 b9 b10 b11 b12 b13) t'
  | [], _, _, _, _, _, _, _, _, _, t => ⟨_, _, _, _, _, _, _, _, _, t, rfl⟩
  | d :: es, a5, a6, a7, a8, a9, a10, a11, a12, a13, t => by
    have put : putN 5 d (envL ds (.str (textF fs)) a3 a4 a5 a6 a7 a8 a9 a10 a11 a12 a13) = some (envL ds (.str (textF fs)) a3 a4 (some d) a6 a7 a8 a9 a10 a11 a12 a13) := if_pos (no_own (a := a5) rfl)
    obtain ⟨b6, b7, b8, b9, b10, b11, b12, b13, t1, q⟩ := bent_lap (Z := Z) (ds := ds) (a3 := a3) (a4 := a4) (a6 := a6) (a7 := a7) (a8 := a8) (a9 := a9) (a10 := a10) (a11 := a11) (a12 := a12) (a13 := a13) (t := t) D d
    obtain ⟨c5, c6, c7, c8, c9, c10, c11, c12, c13, t2, q2⟩ := bent_loop D es (some d) b6 b7 b8 b9 b10 b11 b12 b13 t1
    refine ⟨c5, c6, c7, c8, c9, c10, c11, c12, c13, t2, ?_⟩
    simp only [forS, put, q]
    exact q2
end
end K25
end
section
set_option Elab.async false
set_option linter.all false
set_option maxRecDepth 100000
set_option maxHeartbeats 4000000
namespace K25
open PySem PySem.Spec PyProof.Rows L2 LamX DL
/-! ### one lap of the law -/
theorem near_frame {f : Fr} (ok : f.ok) (sm : f.small) : NearOk f.d := by
  rw [d_parts]
  exact near_tup (el_parts ok sm)
theorem near_non : NearOk .non := ⟨⟨rfl, rfl⟩, fun f _ e => by cases f <;> cases e⟩
theorem frames_of : ∀ {xs : List Dat}, (∀ d ∈ xs, ∃ f : Fr, f.ok ∧ f.small ∧ d = f.d) → ∃ fs : List Fr, xs = fs.map Fr.d ∧ (∀ f ∈ fs, f.ok) ∧ ∀ f ∈ fs, f.small
  | [], _ => ⟨[], rfl, (fun _ h => by cases h), (fun _ h => by cases h)⟩
  | d :: xs, h => by
    obtain ⟨f, ok, sm, e⟩ := h d (.head _)
    obtain ⟨fs, e2, h1, h2⟩ := frames_of fun x hx => h x (.tail _ hx)
    refine ⟨f :: fs, by rw [e, e2]; rfl, fun g hg => ?_, fun g hg => ?_⟩
    · rcases List.mem_cons.mp hg with rfl | hg
      · exact ok
      · exact h1 g hg
    · rcases List.mem_cons.mp hg with rfl | hg
      · exact sm
      · exact h2 g hg
theorem cut_sub {α : Type} {xs : List α} {lo hi : Option Int} : (∀ d ∈ cutL xs lo hi, d ∈ xs) ∧ (cutL xs lo hi).length ≤ xs.length := by
  unfold cutL
  refine ⟨fun d hd => List.mem_of_mem_drop (List.mem_of_mem_take hd), ?_⟩
  rw [List.length_take, List.length_drop]
  omega
theorem mem_frame {fs : List Fr} (D : Drawn fs) : ∀ d ∈ fs.map Fr.d, NearOk d := fun d hd => by
  obtain ⟨f, hf, rfl⟩ := List.mem_map.mp hd
  exact near_frame (D.ok f hf) (D.sm f hf)
theorem add_lst {a b : List Dat} (h : a.length + b.length ≤ line) : addD (.lst a) (.lst b) = some (.lst (a ++ b)) := if_pos h
theorem near_items (Z : Ad) {fs : List Fr} (D : Drawn fs) (x : Dat) (t : DrawSt) : ∃ es t', itmS itmL (op2 addD (sl3 (vName 1) (cst none) (prt (cst (.int 3)))) (ifV (asB (op2 (eqD true) (vName 1) (mkLst aNil))) (callG 2 (den_law_near_frames Z) (aCons (vName 0) (aCons (op2 ixD (vName 1) (cst (.int 0))) aNil))) (mkLst (aCons (cst .non) aNil)))) (envR (.lst (fs.map Fr.d)) x none none) t = .ok es t' ∧ ∀ d ∈ es, NearOk d := by
  have big : ∀ k : Nat, k ≤ 2000010 → k ≤ line := fun k hk => Nat.le_trans hk (by decide)
  have c := cut_sub (xs := fs.map Fr.d) (lo := none) (hi := some 3)
  have cl := c.2
  rw [List.length_map] at cl
  have dl := D.len
  have q := eq_empty (neg := true) (xs := fs.map Fr.d) (shps_mem (shps_frames D.ok 20 (by decide)))
  have hd : ∀ ns : List Dat, (∀ d ∈ ns, NearOk d) → ∀ d ∈ cutL (fs.map Fr.d) none (some 3) ++ ns, NearOk d := fun ns hn d hd => by
    rcases List.mem_append.mp hd with h | h
    · exact mem_frame D d (c.1 d h)
    · exact hn d h
  have fst : sl3 (T := DrawSt) (vName 1) (cst none) (prt (cst (.int 3))) (envR (.lst (fs.map Fr.d)) x none none) t = .ok (.lst (cutL (fs.map Fr.d) none (some 3))) t := v_sl (v_name rfl) v_cst (v_prt v_cst) rfl
  cases fs with
  | nil =>
    refine ⟨_, t, v_itm (v_op2 fst ((v_ifF (t_asb (v_op2 (v_name rfl) (v_lst v_nil (by decide)) q))).trans (v_lst (v_cons v_cst v_nil) (show 1 ≤ line by decide))) (add_lst (big _ (by simp only [List.length_singleton]; omega)))) rfl, hd _ fun d h => ?_⟩
    rw [List.mem_singleton.mp h]
    exact near_non
  | cons f fs =>
    obtain ⟨ns, t', e, hn, hl⟩ := near_frames_eq Z t f (D.ok f (.head _)) (D.sm f (.head _))
    exact ⟨_, t', v_itm (v_op2 fst ((v_ifT (t_asb (v_op2 (v_name rfl) (v_lst v_nil (by decide)) q))).trans (v_callG (v_cons (v_name rfl) (v_cons (v_op2 (v_name rfl) v_cst (ix_lst (j := 0) rfl)) v_nil)) rfl e)) (add_lst (big _ (by omega)))) rfl, hd _ hn⟩
def tails : List (List Nat) := [[], [116, 101, 108, 108, 32, 107], [97, 115, 107], [120, 32, 121, 32, 122]]
theorem tail_ok : ∀ e ∈ tails, 10 ∉ e ∧ e.length ≤ 6 ∧ (∀ c ∈ e, c < 0x110000) ∧ ∀ w ∈ splitL 32 e, w.length ≤ 44 := by decide
theorem piece_x {fs : List Fr} (D : Drawn fs) {e : List Nat} (he : e ∈ tails) : PieceX (textF fs ++ e) (fs.map Fr.line) e := by
  obtain ⟨h1, h2, h3, h4⟩ := tail_ok e he
  have sp : splitL 10 (textF fs ++ e) = fs.map Fr.line ++ [e] := by
    rw [split_step e (text_split D.ok), List.nil_append, split_no h1]
  refine ⟨sp, all_line D.ok, fun L hL w hw => ?_, ?_⟩
  · rw [sp] at hL
    rcases List.mem_append.mp hL with q | q
    · obtain ⟨f, hf, rfl⟩ := List.mem_map.mp q
      rw [line_split (D.ok f hf)] at hw
      exact Nat.le_trans (D.sm f hf w hw) (by decide)
    · rw [List.mem_singleton.mp q] at hw
      exact h4 w hw
  · have := (text_S D).len
    rw [List.length_append]
    omega
theorem law_right_eq (Z : Ad) (t : DrawSt) : ∃ t', den_law_right Z [.hd] t = .ok (.bl true) t' := by
  have big : ∀ k : Nat, k ≤ 2000010 → k ≤ line := fun k hk => Nat.le_trans hk (by decide)
  have two : (2 : Nat) ≤ line := by decide
  obtain ⟨n, t1, e1, n0, n1⟩ := take_eq Z t 13 (by decide) (by decide)
  let ρ0 : En := [some (.d .hd), none, none, none, none, none, none, none, none, none, none, none, none, none, none, none, none]
  obtain ⟨xs, t2, e2, l2, h2⟩ := lcD_some (T := DrawSt) (put := putN 5) (vs := [5]) (I := itmR1 (aCons (callG 2 (den_law_take Z) (aCons (vName 0) (aCons (cst (.int 13)) aNil))) aNil)) (F := callG 1 (den_law_frame Z) (aCons (vName 0) aNil)) (ρ := ρ0) (t := t) (t1 := t1) (ds := rngD 0 n.toNat) (p := fun d => ∃ f : Fr, f.ok ∧ f.small ∧ d = f.d) (fun d => ρ0.set 5 (some (.d d))) rfl (v_range (v_cons (v_callG (v_cons (v_name rfl) (v_cons v_cst v_nil)) rfl e1) v_nil) (by omega)) (fun d _ => ⟨rfl, fun t => by
    obtain ⟨f, t', q, ok, sm⟩ := frame_eq Z t
    exact ⟨f.d, t', v_callG (v_cons (v_name rfl) v_nil) rfl q, f, ok, sm, rfl⟩⟩) (by rw [rng_len]; exact big _ (by omega))
  obtain ⟨fs, rfl, ok, sm⟩ := frames_of h2
  rw [rng_len, List.length_map] at l2
  have D : Drawn fs := ⟨ok, sm, by omega⟩
  have TS := text_S D
  have tl := TS.len
  have s := shown_pair D tl (text_low ok)
  have fit : ∀ f ∈ fs, f.fit := fun f hf => few_fit (small_few (sm f hf))
  -- the two ways to the text
  have way : ∀ (den : List Dat → Unit → Out Dat Unit), (∀ f ∈ fs, den [f.d] () = .ok (.str (f.line ++ [10])) ()) → ∀ x : Option SV, met1 (T := DrawSt) joinD (cst (.str [])) (lcD (putN 14) [14] (itmS itmL (vName 1)) (cst true) (callP 1 den (aCons (vName 14) aNil))) [some (.d .hd), some (.d (.lst (fs.map Fr.d))), x, none, none, none, none, none, none, none, none, none, none, none, none, none, none] t2 = .ok (.str (textF fs)) t2 := by
    intro den hden x
    refine v_met (y := .lst (fs.map fun f => Dat.str (f.line ++ [10]))) v_cst ?_ (join_text D)
    rw [← map_texts hden]
    refine lcD_map (ds := fs.map Fr.d) (fun d => [some (.d .hd), some (.d (.lst (fs.map Fr.d))), x, none, none, none, none, none, none, none, none, none, none, none, some (.d d), none, none]) (fun d => valD (den [d] ())) rfl (v_itm (v_name rfl) rfl) (fun d hd => ⟨rfl, ?_⟩) (by rw [List.length_map]; exact big _ (by omega))
    obtain ⟨f, hf, rfl⟩ := List.mem_map.mp hd
    have q := hden f hf
    have q2 : den [f.d] () = .ok (valD (den [f.d] ())) () := by
      rw [q]
      rfl
    exact v_callP (v_cons (v_name rfl) v_nil) rfl q2
  have w1 := way (den_law_text_of Z) (fun f hf => law_text_of_eq Z f (ok f hf) (fit f hf)) none
  have w2 := way (den_frame_text Z) (fun f hf => frame_text_eq Z f (ok f hf) (fit f hf)) (some (.d (.str (textF fs))))
  obtain ⟨es, t3, e3, h3⟩ := near_items Z D (.str (textF fs)) t2
  obtain ⟨b3, b4, e4⟩ := near_loop Z (.lst (fs.map Fr.d)) (.str (textF fs)) t3 es none none h3
  obtain ⟨c5, c6, c7, c8, c9, c10, c11, c12, c13, t5, e5⟩ := bent_loop (Z := Z) (ds := .lst (fs.map Fr.d)) (a3 := b3) (a4 := b4) D (rngD 0 4) none none none none none none none none none t3
  obtain ⟨yd, t6, e6, hm⟩ := pick_eq Z t5 (tails.map Dat.str) (by simp [tails]) (by simp [tails])
  obtain ⟨y, hy, rfl⟩ := List.mem_map.mp hm
  have ty := tail_ok y hy
  have sy := shown_pair D (y := y) (by omega) ty.2.2.1
  obtain ⟨t7, e7⟩ := pieces_eq Z t6 (piece_x D hy) (by rw [got_all ok]; exact sy.2.1) (by rw [got_all ok]; exact sy.2.2)
  rw [got_all ok] at e7
  refine ⟨t7, ?_⟩
  show retOf (fs_law_right Z ρ0 t) = _
  refine r_ret (k_seq (k_set e2) (k_seq (k_set w1) (k_seq (ρ1 := envR (.lst (fs.map Fr.d)) (.str (textF fs)) none none) (t1 := t2) ?_ (k_seq (k_loop e3 e4) (k_seq (k_loop (v_range (v_cons v_cst v_nil) (by decide)) e5) (k_ret (v_callG (v_cons (v_name rfl) (v_cons (v_op2 (v_name rfl) (v_callG (v_cons (v_name rfl) (v_cons (v_lst (ds := tails.map Dat.str) (v_cons v_cst (v_cons v_cst (v_cons v_cst (v_cons v_cst v_nil)))) (show 4 ≤ line by decide)) v_nil)) rfl e6) (if_pos (big _ (by omega)))) (v_cons (v_name rfl) v_nil))) rfl e7)))))))
  exact (k_ifF (t_not (a := true) (t_tru (v_callP (v_cons (v_lst (v_cons w2 (v_cons (v_callP (v_cons (v_name rfl) v_nil) rfl (read_text Z D)) v_nil)) two) (v_cons (v_lst (v_cons (v_name rfl) (v_cons (v_name rfl) v_nil)) two) v_nil)) rfl (says_eq Z _ s.1)) rfl))).trans rfl
end K25
end
section
set_option Elab.async false
set_option linter.all false
set_option maxRecDepth 100000
set_option maxHeartbeats 4000000
namespace K25
open PySem PySem.Spec PyProof.Rows L2 LamX DL
/-! ### the whole law -/
theorem ints_filter (p : Int → Bool) (g : Int → Int) : ∀ ns : List Int, ∃ ls, intsOf (((ns.map Dat.int).filter fun d => match d with | .int z => p z | _ => false).map fun d => match d with | .int z => .int (g z) | d => d) = some ls
  | [] => ⟨[], rfl⟩
  | n :: ns => by
    obtain ⟨ls, h⟩ := ints_filter p g ns
    cases q : p n with
    | true =>
      refine ⟨g n :: ls, ?_⟩
      rw [List.map_cons, List.filter_cons_of_pos (by simpa using q), List.map_cons]
      simp only [intsOf, h]
      rfl
    | false =>
      refine ⟨ls, ?_⟩
      rw [List.map_cons, List.filter_cons_of_neg (by simp [q])]
      exact h
def mag (z : Int) : Int := if z < 0 then -z else z
theorem large_eq (Z : Ad) (ns : List Int) (h : ns.length ≤ 63) : ∃ ls, listOf (fsA_law_begun Z (startE n_law_begun [.rol (ns.map Dat.int)]) ()) = some ls := by
  obtain ⟨ls, e⟩ := ints_filter (fun z => decide (10 ^ 18 ≤ mag z)) (fun z => mag z - 10 ^ 18) ns
  refine ⟨ls, ?_⟩
  have q : fsA_law_begun Z (startE n_law_begun [.rol (ns.map Dat.int)]) () = .ok (.lst _) () := lcD_pure (T := Unit) (t := ()) (t1 := ()) (ds := ns.map Dat.int) (fun d => [some (.d (.rol (ns.map Dat.int))), none, some (.d d)]) (fun d => match d with | .int z => decide (10 ^ 18 ≤ mag z) | _ => false) (fun d => match d with | .int z => .int (mag z - 10 ^ 18) | d => d) rfl (v_itm (v_name rfl) rfl) (fun d hd => by
    obtain ⟨z, _, rfl⟩ := List.mem_map.mp hd
    have a : callD (T := Unit) absD (aCons (vName 2) aNil) [some (.d (.rol (ns.map Dat.int))), none, some (.d (.int z))] () = .ok (.int (mag z)) () := v_callD (v_cons (v_name rfl) v_nil) rfl
    have b : op2 (T := Unit) powD (cst (.int 10)) (cst (.int 18)) [some (.d (.rol (ns.map Dat.int))), none, some (.d (.int z))] () = .ok (.int (10 ^ 18)) () := v_op2 v_cst v_cst rfl
    exact ⟨rfl, t_asb (v_op2 a b rfl), fun _ => v_op2 a b rfl⟩) (by rw [List.length_map]; exact Nat.le_trans h (by decide))
  rw [q]
  exact e
theorem cells_eq (Z : Ad) (ns : List Int) (h : ns.length ≤ 63) : ∃ ls, listOf (fsB_law_begun Z (startE n_law_begun [.rol (ns.map Dat.int)]) ()) = some ls := by
  obtain ⟨ls, e⟩ := ints_filter (fun _ => true) mag ns
  refine ⟨ls, ?_⟩
  have q : fsB_law_begun Z (startE n_law_begun [.rol (ns.map Dat.int)]) () = .ok (.lst _) () := lcD_pure (T := Unit) (t := ()) (t1 := ()) (ds := ns.map Dat.int) (fun d => [some (.d (.rol (ns.map Dat.int))), none, some (.d d)]) (fun d => match d with | .int z => true | _ => false) (fun d => match d with | .int z => .int (mag z) | d => d) rfl (v_itm (v_name rfl) rfl) (fun d hd => by
    obtain ⟨z, _, rfl⟩ := List.mem_map.mp hd
    exact ⟨rfl, rfl, fun _ => v_callD (v_cons (v_name rfl) v_nil) rfl⟩) (by rw [List.length_map]; exact Nat.le_trans h (by decide))
  rw [q]
  exact e
def envW (ns : Dat) (a2 : Option Dat) : En := [some (.d ns), some (.d .hd), a2.map SV.d, none, none, none]
theorem law_loop_eq (Z : Ad) (ns : Dat) : ∀ (es : List Dat) (a2 : Option Dat) (t : DrawSt), ∃ b2 t', forS (putN 2) (ifS (notT (truD (callG 1 (den_law_right Z) (aCons (vName 1) aNil)))) (retS (cst (.bl false))) skipS) es (envW ns a2) t = .nx (envW ns b2) t'
  | [], a2, t => ⟨a2, t, rfl⟩
  | d :: es, a2, t => by
    have put : putN 2 d (envW ns a2) = some (envW ns (some d)) := if_pos (no_own (a := a2) rfl)
    obtain ⟨t1, e⟩ := law_right_eq Z t
    have step : ifS (notT (truD (callG 1 (den_law_right Z) (aCons (vName 1) aNil)))) (retS (cst (.bl false))) skipS (envW ns (some d)) t = .nx (envW ns (some d)) t1 := (k_ifF (t_not (a := true) (t_tru (v_callG (v_cons (v_name rfl) v_nil) rfl e) rfl))).trans rfl
    obtain ⟨b2, t', q⟩ := law_loop_eq Z ns es (some d) t1
    refine ⟨b2, t', ?_⟩
    simp only [forS, put, step]
    exact q
def three : List Fr := [.tell [107] 0 [[111, 110], [111, 102, 102]], .ask [107] 1 1 0 0, .told [107] 1 1 sLeft]
theorem three_ok : Drawn three := by
  refine ⟨?_, ?_, by decide⟩
  · intro f hf
    simp only [three, List.mem_cons, List.not_mem_nil, or_false] at hf
    rcases hf with rfl | rfl | rfl
    · exact ⟨by decide, by decide, by decide, by decide⟩
    · exact ⟨by decide, by decide, by decide, by decide⟩
    · exact ⟨by decide, by decide, by decide, .inr rfl⟩
  · intro f hf
    simp only [three, List.mem_cons, List.not_mem_nil, or_false] at hf
    have z : (TL.numL 0).length ≤ 20 := num_small (by decide)
    have u : (TL.numL 1).length ≤ 20 := num_small (by decide)
    rcases hf with rfl | rfl | rfl <;> intro w hw <;> simp only [Fr.ws, List.mem_cons, List.not_mem_nil, or_false] at hw
    · rcases hw with rfl | rfl | rfl | rfl
      · decide
      · decide
      · exact z
      · decide
    · rcases hw with rfl | rfl | rfl | rfl | rfl | rfl
      · decide
      · decide
      · exact u
      · exact u
      · exact z
      · exact z
    · rcases hw with rfl | rfl | rfl | rfl | rfl
      · decide
      · decide
      · exact u
      · exact u
      · decide
theorem three_text : textF three = [116, 101, 108, 108, 32, 107, 32, 48, 32, 111, 110, 44, 111, 102, 102, 10, 97, 115, 107, 32, 107, 32, 49, 32, 49, 32, 48, 32, 48, 10, 116, 111, 108, 100, 32, 107, 32, 49, 32, 49, 32, 108, 101, 102, 116, 10] := by
  have z : TL.numL 0 = [48] := TL.numL_lt (by decide)
  have u : TL.numL 1 = [49] := TL.numL_lt (by decide)
  simp only [textF, three, List.map_cons, List.map_nil, Fr.line, Fr.ws, z, u]
  decide
theorem min_in (k : Nat) : 0 ≤ (if (10 : Int) < (k : Int) then (10 : Int) else (k : Int)) ∧ (if (10 : Int) < (k : Int) then (10 : Int) else (k : Int)) ≤ 10 := by split <;> omega
theorem plain (Z : Ad) : Plain Z := by
  intro ns hl _
  obtain ⟨ls, e1⟩ := large_eq Z ns hl
  obtain ⟨cs, e2⟩ := cells_eq Z ns hl
  have big : ∀ k : Nat, k ≤ 2000010 → k ≤ line := fun k hk => Nat.le_trans hk (by decide)
  let T0 : DrawSt := ⟨ls, 0, cs, 0⟩
  let S : Dat := .rol (ns.map Dat.int)
  let m : Int := if (10 : Int) < (((ns.map Dat.int).length : Nat) : Int) then 10 else (((ns.map Dat.int).length : Nat) : Int)
  have hm : 0 ≤ m ∧ m ≤ 10 := min_in _
  obtain ⟨b2, t, e3⟩ := law_loop_eq Z S (rngD 0 (4 + m).toNat) none T0
  refine ⟨ls, cs, t, e1, e2, ?_⟩
  show fs_law Z (envW S none) T0 = _
  let E : Dat := .exc Z.cBT ["line"] [.int 0]
  have x1 : ∀ ρ : En, catchD (T := DrawSt) [Z.cBF, Z.cBT] (callP 1 (den_read_frames Z) (aCons (cst .non) aNil)) ρ t = .ok E t := fun ρ => v_catchX (v_callX (v_cons v_cst v_nil) rfl rfl) (.tail _ (.head _))
  have x2 : ∀ ρ : En, catchD (T := DrawSt) [Z.cBF, Z.cBT] (callP 1 (den_cut_text Z) (aCons (cst (.int 5)) aNil)) ρ t = .ok E t := fun ρ => v_catchX (v_callX (v_cons v_cst v_nil) rfl rfl) (.tail _ (.head _))
  have x3 : ∀ ρ : En, catchD (T := DrawSt) [Z.cBF, Z.cBT] (callP 1 (den_frame_text Z) (aCons (cst .non) aNil)) ρ t = .ok (.exc Z.cBF [] []) t := fun ρ => v_catchX (v_callX (v_cons v_cst v_nil) rfl rfl) (.head _)
  have iT : isXD Z.cBT E = some (.bl true) := if_pos rfl
  have iF : isXD Z.cBF (.exc Z.cBF [] []) = some (.bl true) := if_pos rfl
  have fl : fldD Z.cBT "line" E = some (.int 0) := if_pos rfl
  have r1 := read_text Z three_ok
  rw [three_text] at r1
  have r2 : den_read_frames Z [.str []] () = .ok (.lst []) () := read_text Z (fs := []) ⟨(fun _ h => by cases h), (fun _ h => by cases h), (show 0 ≤ 12 by decide)⟩
  have r3 : den_cut_text Z [.str [116, 101, 108, 108, 32, 107]] () = .ok (.tup [.lst [], .str [116, 101, 108, 108, 32, 107]]) () := cut_text_eq Z (ls := []) (l := [116, 101, 108, 108, 32, 107]) ⟨by decide, fun L hL => by
    rw [List.mem_singleton.mp hL]
    exact ⟨by decide, by decide⟩⟩ rfl
  refine k_seq (k_loop (v_range (n := 4 + m) (v_cons (v_op2 v_cst (v_callD (v_cons (v_callD (v_cons (v_name rfl) v_nil) rfl) (v_cons v_cst v_nil)) rfl) rfl) v_nil) (by omega)) e3) ?_
  refine k_seq (k_new (v_cons (x1 _) v_nil) (show 1 ≤ line by decide)) (k_seq (k_app (xs := [E]) rfl (x2 _) (show 1 < line by decide)) (k_frz (xs := [E, E]) rfl ?_))
  have lc : lcD (T := DrawSt) (putN 5) [5] (itmS itmL (vName 3)) (cst true) (andV (un1 (isXD Z.cBT) (vName 5)) (op2 (eqD false) (un1 (fldD Z.cBT "line") (vName 5)) (cst (.int 0)))) [some (.d S), some (.d .hd), b2.map SV.d, some (.d (.lst [E, E])), none, none] t = .ok (.lst [.bl true, .bl true]) t := by
    refine lcD_map (T := DrawSt) (ds := [E, E]) (fun d => [some (.d S), some (.d .hd), b2.map SV.d, some (.d (.lst [E, E])), none, some (.d d)]) (fun _ => .bl true) rfl (v_itm (v_name rfl) rfl) (fun d hd => ⟨rfl, ?_⟩) (show 2 ≤ line by decide)
    have : d = E := by
      simp only [List.mem_cons, List.not_mem_nil, or_false, or_self] at hd
      exact hd
    subst this
    exact v_and (a := true) (b := true) (v_un1 (v_name rfl) iT) fun _ => v_op2 (v_un1 (v_name rfl) fl) v_cst rfl
  refine k_seq (ρ1 := [some (.d S), some (.d .hd), b2.map SV.d, some (.d (.lst [E, E])), none, none]) (t1 := t) ?_ (k_seq (k_set v_cst) (k_ret (v_and (a := true) (b := true) (v_op2 (v_callP (v_cons (v_name rfl) v_nil) rfl r1) (v_lst (ds := three.map Fr.d) ?_ (by decide)) ?_) fun _ => v_and (a := true) (b := true) (v_op2 (v_callP (v_cons v_cst v_nil) rfl r3) (v_tup (v_cons (v_lst v_nil (by decide)) (v_cons v_cst v_nil)) (show 2 ≤ line by decide)) ?_) fun _ => v_op2 (v_callP (v_cons v_cst v_nil) rfl r2) (v_lst v_nil (by decide)) rfl)))
  · exact (k_ifF (t_or (a := false) (b := false) (t_asb (v_op2 lc (v_lst (v_cons v_cst (v_cons v_cst v_nil)) (show 2 ≤ line by decide)) rfl)) fun _ => t_not (a := true) (t_tru (v_un1 (x3 _) iF) rfl))).trans rfl
  · rfl
  · rfl
  · rfl
end K25
end
section
set_option Elab.async false
set_option maxRecDepth 100000
open PySem PySem.W PyProof.Rows
set_option maxRecDepth 100000 in
set_option maxHeartbeats 0 in
theorem PySem.Challenge.cw_leasedkeepers_k25_whole_frames_and_texts_holds : PySem.Challenge.rw_leasedkeepers_k25_whole_frames_and_texts.Holds := by
  w_on; o_law; k_head; (case hw => w_witness2)
  k_fill
  refine DL.walk_ofD (l := PySem.Challenge.rw_leasedkeepers_k25_whole_frames_and_texts) (n := 63) (k := 11) (x := "script") rfl (by decide) rfl ⟨rfl, by decide, by decide⟩ (fun w h Y => PySem.W.km_in_of Y) ?F
  case F =>
    intro w mg fa h Y KX G hmg
    have tabs := PySem.W.km_tabs_of Y
    refine' K25.all_mk2 (zP1 := 256) (zP2 := 261) K25.plain KX G hmg (tabs _ (by simp)) (tabs _ (by simp)) ?xcFE ?xcBF ?xcBT ?mlen ?mabs ?mint ?mstr ?mtuple ?mlist ?mall ?mmin ?mbool ?misinstance ?mrepr ?mrange ?menumerate ?hgcBF ?hkcBF ?hscBF ?hdcBF ?hacBF ?hmcBF ?sucBF ?tycBF ?kccBF ?hgcBT ?hkcBT ?hscBT ?hdcBT ?hacBT ?hmcBT ?sucBT ?tycBT ?kccBT ?s1 ?s2 ?s3 ?hn ?ht ?no ?sa ?qB ?xL ?bg ?br ?bf ?g1 ?g2 ?g3 ?g4 ?g5 ?a0 ?l0 ?c0 ?k0 ?a1 ?l1 ?c1 ?k1 ?a2 ?l2 ?c2 ?k2 ?a3 ?l3 ?c3 ?k3 ?a4 ?l4 ?c4 ?k4 ?a5 ?l5 ?c5 ?k5 ?a6 ?l6 ?c6 ?k6 ?a7 ?l7 ?c7 ?k7 ?a8 ?l8 ?c8 ?k8 ?a9 ?l9 ?c9 ?k9 ?a10 ?l10 ?c10 ?k10 ?a11 ?l11 ?c11 ?k11 ?a12 ?l12 ?c12 ?k12 ?a13 ?l13 ?c13 ?k13 ?a14 ?l14 ?c14 ?k14 ?a15 ?l15 ?c15 ?k15 ?a16 ?l16 ?c16 ?k16 ?a17 ?l17 ?c17 ?k17 ?a18 ?l18 ?c18 ?k18 ?a19 ?l19 ?c19 ?k19 ?a20 ?l20 ?c20 ?k20 ?a21 ?l21 ?c21 ?k21 ?a22 ?l22 ?c22 ?k22 ?a23 ?l23 ?c23 ?k23 ?a24 ?l24 ?c24 ?k24 ?a25 ?l25 ?c25 ?k25 ?a26 ?l26 ?c26 ?k26 ?a27 ?l27 ?c27 ?k27 ?a28 ?l28 ?c28 ?k28 ?a29 ?l29 ?c29 ?k29 ?a30 ?l30 ?c30 ?k30 ?a31 ?l31 ?c31 ?k31 ?a32 ?l32 ?c32 ?k32 ?ai ?li ?ci ?ki ?ti ?e1 ?e2 ?h1 ?h2 ?n1 ?n2 ?hP
    (case xcFE => k_is)
    (case xcBF => k_is)
    (case xcBT => k_is)
    (case mlen => k_is)
    (case mabs => k_is)
    (case mint => k_is)
    (case mstr => k_is)
    (case mtuple => k_is)
    (case mlist => k_is)
    (case mall => k_is)
    (case mmin => k_is)
    (case mbool => k_is)
    (case misinstance => k_is)
    (case mrepr => k_is)
    (case mrange => k_is)
    (case menumerate => k_is)
    (case hgcBF => k_is)
    (case hkcBF => k_is)
    (case hscBF => k_is)
    (case hdcBF => k_is)
    (case hacBF => k_is)
    (case hmcBF => k_is)
    (case sucBF => k_is)
    (case tycBF => k_is)
    (case kccBF => k_is)
    (case hgcBT => k_is)
    (case hkcBT => k_is)
    (case hscBT => k_is)
    (case hdcBT => k_is)
    (case hacBT => k_is)
    (case hmcBT => k_is)
    (case sucBT => k_is)
    (case tycBT => k_is)
    (case kccBT => k_is)
    (case s1 => k_is)
    (case s2 => k_is)
    (case s3 => k_is)
    (case hn => k_is)
    (case ht => k_is)
    (case no => k_is)
    (case sa => k_is)
    (case qB => kernel_rfl)
    (case xL => k_is)
    (case bg => k_is)
    (case br => k_is)
    (case bf => k_is)
    (case g1 => k_is)
    (case g2 => k_is)
    (case g3 => k_is)
    (case g4 => k_is)
    (case g5 => kernel_rfl)
    (case a0 => k_is)
    (case l0 => k_is)
    (case c0 => k_is)
    (case k0 => k_is)
    (case a1 => k_is)
    (case l1 => k_is)
    (case c1 => k_is)
    (case k1 => k_is)
    (case a2 => k_is)
    (case l2 => k_is)
    (case c2 => k_is)
    (case k2 => k_is)
    (case a3 => k_is)
    (case l3 => k_is)
    (case c3 => k_is)
    (case k3 => k_is)
    (case a4 => k_is)
    (case l4 => k_is)
    (case c4 => k_is)
    (case k4 => k_is)
    (case a5 => k_is)
    (case l5 => k_is)
    (case c5 => k_is)
    (case k5 => k_is)
    (case a6 => k_is)
    (case l6 => k_is)
    (case c6 => k_is)
    (case k6 => k_is)
    (case a7 => k_is)
    (case l7 => k_is)
    (case c7 => k_is)
    (case k7 => k_is)
    (case a8 => k_is)
    (case l8 => k_is)
    (case c8 => k_is)
    (case k8 => k_is)
    (case a9 => k_is)
    (case l9 => k_is)
    (case c9 => k_is)
    (case k9 => k_is)
    (case a10 => k_is)
    (case l10 => k_is)
    (case c10 => k_is)
    (case k10 => k_is)
    (case a11 => k_is)
    (case l11 => k_is)
    (case c11 => k_is)
    (case k11 => k_is)
    (case a12 => k_is)
    (case l12 => k_is)
    (case c12 => k_is)
    (case k12 => k_is)
    (case a13 => k_is)
    (case l13 => k_is)
    (case c13 => k_is)
    (case k13 => k_is)
    (case a14 => k_is)
    (case l14 => k_is)
    (case c14 => k_is)
    (case k14 => k_is)
    (case a15 => k_is)
    (case l15 => k_is)
    (case c15 => k_is)
    (case k15 => k_is)
    (case a16 => k_is)
    (case l16 => k_is)
    (case c16 => k_is)
    (case k16 => k_is)
    (case a17 => k_is)
    (case l17 => k_is)
    (case c17 => k_is)
    (case k17 => k_is)
    (case a18 => k_is)
    (case l18 => k_is)
    (case c18 => k_is)
    (case k18 => k_is)
    (case a19 => k_is)
    (case l19 => k_is)
    (case c19 => k_is)
    (case k19 => k_is)
    (case a20 => k_is)
    (case l20 => k_is)
    (case c20 => k_is)
    (case k20 => k_is)
    (case a21 => k_is)
    (case l21 => k_is)
    (case c21 => k_is)
    (case k21 => k_is)
    (case a22 => k_is)
    (case l22 => k_is)
    (case c22 => k_is)
    (case k22 => k_is)
    (case a23 => k_is)
    (case l23 => k_is)
    (case c23 => k_is)
    (case k23 => k_is)
    (case a24 => k_is)
    (case l24 => k_is)
    (case c24 => k_is)
    (case k24 => k_is)
    (case a25 => k_is)
    (case l25 => k_is)
    (case c25 => k_is)
    (case k25 => k_is)
    (case a26 => k_is)
    (case l26 => k_is)
    (case c26 => k_is)
    (case k26 => k_is)
    (case a27 => k_is)
    (case l27 => k_is)
    (case c27 => k_is)
    (case k27 => k_is)
    (case a28 => k_is)
    (case l28 => k_is)
    (case c28 => k_is)
    (case k28 => k_is)
    (case a29 => k_is)
    (case l29 => k_is)
    (case c29 => k_is)
    (case k29 => k_is)
    (case a30 => k_is)
    (case l30 => k_is)
    (case c30 => k_is)
    (case k30 => k_is)
    (case a31 => k_is)
    (case l31 => k_is)
    (case c31 => k_is)
    (case k31 => k_is)
    (case a32 => k_is)
    (case l32 => k_is)
    (case c32 => k_is)
    (case k32 => k_is)
    (case ai => k_is)
    (case li => k_is)
    (case ci => k_is)
    (case ki => k_is)
    (case ti => k_is)
    (case e1 => rfl)
    (case e2 => rfl)
    (case h1 => kernel_rfl)
    (case h2 => kernel_rfl)
    (case n1 => exact K25.look_none Y (by decide))
    (case n2 => exact K25.look_none Y (by decide))
    (case hP => decide)
end
