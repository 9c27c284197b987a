import PyProof.Rows.All
import PySem.Challenge.RW_lightmark_k08_whole_filled
import Wide.All
import OpenK.AllK
import Wide.FinOn
import KE.KStateDown
import Lean
import HandS.ForMost
import HandS.StrMore
import HandS.Style
import HandS.IsInst
import HandS.Replace
import HandS.Wide
import HandS.Defaults
import HandS.HeadHook1
import HandS.HeadHook2
import HandS.HeadEnd
import HandS.Head0
import HandS.Head1
import HandS.Head2
import HandS.MapJoin
import HandS.Deep
import HandS.CallLocal
import HandS.EndTab
import HandS.HeadHook4
import HandS.HeadWalk
import HandS.Nested
set_option Elab.async false
set_option linter.all false
set_option maxRecDepth 100000
set_option maxHeartbeats 4000000
/-! Lm: readings over a frozen heap F and owned lists O. -/
namespace Lm
open PySem PySem.Spec L2

/-! ### heaps -/
theorem free_of {F H : Hp} (e : Same F H) {p : Addr} (h : H p = none) : F p = none := e.free h
theorem same_new {H : Hp} {p : Addr} {o : HO} (h : H p = none) : Same H (upd H p o) := fun b x e => by
  rw [upd_ne (ne_of_none e h)]
  exact e
theorem same_mut {F H : Hp} {p : Addr} {o : HO} (e : Same F H) (h : F p = none) : Same F (upd H p o) := fun a u ha => by
  rw [upd_ne (ne_of_none ha h)]
  exact e a u ha

/-- F grew to F', H to H': nothing of H changed, what is new in F' is new in H -/
structure Gr (F H F' H' : Hp) : Prop where
  f : Same F F'
  h : Same H H'
  fh : Same F' H'
  nw : ∀ a, F a = none → H a ≠ none → F' a = none
theorem Gr.refl {F H : Hp} (e : Same F H) : Gr F H F H := ⟨Same.refl F, Same.refl H, e, fun _ h _ => h⟩
theorem Gr.trans {F H F1 H1 F2 H2 : Hp} (a : Gr F H F1 H1) (b : Gr F1 H1 F2 H2) : Gr F H F2 H2 :=
  ⟨a.f.trans b.f, a.h.trans b.h, b.fh, fun x h1 h2 => b.nw x (a.nw x h1 h2) (by
    cases e : H x with
    | none => exact absurd e h2
    | some o => rw [a.h x o e]; exact fun z => by cases z)⟩
/-- a new object that is frozen at once -/
theorem Gr.frz {F H : Hp} {p : Addr} {o : HO} (e : Same F H) (h : H p = none) : Gr F H (upd F p o) (upd H p o) := by
  have hf := free_of e h
  refine ⟨same_new hf, same_new h, fun a u ha => ?_, fun a h1 h2 => ?_⟩
  · by_cases q : a = p
    · subst q; rw [upd_same] at ha ⊢; exact ha
    · rw [upd_ne q] at ha ⊢; exact e a u ha
  · rw [upd_ne (fun q => h2 (by rw [q]; exact h))]
    exact h1
/-- a new object that is not kept in F -/
theorem Gr.gar {F H : Hp} {p : Addr} {o : HO} (e : Same F H) (h : H p = none) : Gr F H F (upd H p o) :=
  ⟨Same.refl F, same_new h, e.trans (same_new h), fun _ q _ => q⟩

/-- owned objects -/
abbrev Own := List (Addr × HO)
structure Ok (F : Hp) (O : Own) (H : Hp) : Prop where
  ex : Same F H
  own : ∀ q ∈ O, F q.1 = none ∧ H q.1 = some q.2
theorem Ok.gr {F H F' H' : Hp} {O : Own} (k : Ok F O H) (g : Gr F H F' H') : Ok F' O H' :=
  ⟨g.fh, fun q m => ⟨g.nw _ (k.own q m).1 (by rw [(k.own q m).2]; exact fun z => by cases z), g.h _ _ (k.own q m).2⟩⟩

/-! ### what a value stands for -/
structure Rep (α : Type) where
  rp : α → V → Hp → Prop
  mono : ∀ {a v F F'}, Same F F' → rp a v F → rp a v F'
abbrev mk (l : List Nat) : Str := ⟨l.toArray⟩
def rInt : Rep Int := ⟨fun i v _ => v = .int i, fun _ h => h⟩
def rB : Rep Bool := ⟨fun i v _ => v = .bl i, fun _ h => h⟩
/-- texts are of signs below 128, and no longer than a million -/
abbrev lim : Nat := 1000000
/-- lists are no longer than this -/
abbrev limL : Nat := 4000000
def OkS (l : List Nat) : Prop := l.length ≤ lim ∧ ∀ c ∈ l, c < 128
def okS (l : List Nat) : Bool := decide (l.length ≤ lim) && l.all fun c => decide (c < 128)
theorem okS_iff {l : List Nat} : okS l = true ↔ OkS l := by
  unfold okS OkS
  rw [Bool.and_eq_true, decide_eq_true_eq, List.all_eq_true]
  simp only [decide_eq_true_eq]
def rS : Rep (List Nat) := ⟨fun l v _ => v = .str (mk l) ∧ OkS l, fun _ h => h⟩
/-- one sign -/
def rC : Rep Nat := ⟨fun c v _ => v = .str (mk [c]) ∧ c < 128, fun _ h => h⟩
def rN : Rep Unit := ⟨fun _ v _ => v = .non, fun _ h => h⟩
def rV (v : V) : Rep Unit := ⟨fun _ w _ => w = v, fun _ h => h⟩
def All2 {α : Type} (R : Rep α) : List α → List V → Hp → Prop
  | [], [], _ => True
  | a :: as, v :: vs, F => R.rp a v F ∧ All2 R as vs F
  | _, _, _ => False
section
variable {α β γ : Type} {R : Rep α} {R' : Rep β}
theorem All2.mono {F F' : Hp} (e : Same F F') : ∀ {as : List α} {vs : List V}, All2 R as vs F → All2 R as vs F'
  | [], [], _ => trivial
  | _ :: _, _ :: _, h => ⟨R.mono e h.1, All2.mono e h.2⟩
  | [], _ :: _, h => h.elim
  | _ :: _, [], h => h.elim
theorem All2.len {F : Hp} : ∀ {as : List α} {vs : List V}, All2 R as vs F → as.length = vs.length
  | [], [], _ => rfl
  | _ :: _, _ :: _, h => by rw [List.length_cons, List.length_cons, All2.len h.2]
  | [], _ :: _, h => h.elim
  | _ :: _, [], h => h.elim
theorem All2.get {F : Hp} : ∀ {as : List α} {vs : List V} {i : Nat} {a : α}, All2 R as vs F → as[i]? = some a → ∃ v, vs[i]? = some v ∧ R.rp a v F
  | [], _, _, _, _, e => by simp at e
  | a :: as, [], _, _, h, _ => h.elim
  | a :: as, v :: vs, 0, b, h, e => by
    have e1 : a = b := Option.some.inj e
    subst e1
    exact ⟨v, rfl, h.1⟩
  | a :: as, v :: vs, i + 1, b, h, e => All2.get (i := i) h.2 e
theorem All2.getv {F : Hp} : ∀ {as : List α} {vs : List V} {i : Nat} {v : V}, All2 R as vs F → vs[i]? = some v → ∃ a, as[i]? = some a ∧ R.rp a v F
  | [], [], _, _, _, e => by simp at e
  | [], _ :: _, _, _, h, _ => h.elim
  | a :: as, [], _, _, h, _ => h.elim
  | a :: as, v :: vs, 0, b, h, e => by
    have e1 : v = b := Option.some.inj e
    subst e1
    exact ⟨a, rfl, h.1⟩
  | a :: as, v :: vs, i + 1, b, h, e => All2.getv (i := i) h.2 e
theorem All2.app {F : Hp} : ∀ {as bs : List α} {vs ws : List V}, All2 R as vs F → All2 R bs ws F → All2 R (as ++ bs) (vs ++ ws) F
  | [], _, [], _, _, h => h
  | _ :: _, _, _ :: _, _, h1, h2 => ⟨h1.1, All2.app h1.2 h2⟩
  | [], _, _ :: _, _, h, _ => h.elim
  | _ :: _, _, [], _, h, _ => h.elim
theorem All2.one {F : Hp} {a : α} {v : V} (h : R.rp a v F) : All2 R [a] [v] F := ⟨h, trivial⟩
theorem All2.take {F : Hp} : ∀ (n : Nat) {as : List α} {vs : List V}, All2 R as vs F → All2 R (as.take n) (vs.take n) F
  | 0, _, _, _ => trivial
  | _ + 1, [], [], _ => trivial
  | n + 1, _ :: _, _ :: _, h => ⟨h.1, All2.take n h.2⟩
  | _ + 1, [], _ :: _, h => h.elim
  | _ + 1, _ :: _, [], h => h.elim
theorem All2.drop {F : Hp} : ∀ (n : Nat) {as : List α} {vs : List V}, All2 R as vs F → All2 R (as.drop n) (vs.drop n) F
  | 0, _, _, h => h
  | _ + 1, [], [], _ => trivial
  | n + 1, _ :: _, _ :: _, h => All2.drop n h.2
  | _ + 1, [], _ :: _, h => h.elim
  | _ + 1, _ :: _, [], h => h.elim
theorem All2.set {F : Hp} {a : α} {v : V} (hr : R.rp a v F) : ∀ (n : Nat) {as : List α} {vs : List V}, All2 R as vs F → All2 R (as.set n a) (vs.set n v) F
  | _, [], [], _ => trivial
  | 0, _ :: _, _ :: _, h => ⟨hr, h.2⟩
  | n + 1, _ :: _, _ :: _, h => ⟨h.1, All2.set hr n h.2⟩
  | _, [], _ :: _, h => h.elim
  | _, _ :: _, [], h => h.elim
theorem All2.rev {F : Hp} : ∀ {as : List α} {vs : List V}, All2 R as vs F → All2 R as.reverse vs.reverse F
  | [], [], _ => trivial
  | a :: as, v :: vs, h => by
    rw [List.reverse_cons, List.reverse_cons]
    exact All2.app (All2.rev h.2) (All2.one h.1)
  | [], _ :: _, h => h.elim
  | _ :: _, [], h => h.elim
/-- a kind whose values are told by a function -/
structure Fl (R : Rep α) (f : α → V) : Prop where
  to : ∀ {a v F}, R.rp a v F → v = f a
  of : ∀ a F, R.rp a (f a) F
theorem flI : Fl rInt V.int := ⟨fun h => h, fun _ _ => rfl⟩
theorem flB : Fl rB V.bl := ⟨fun h => h, fun _ _ => rfl⟩
theorem All2.strs {F : Hp} : ∀ {as : List (List Nat)} {vs : List V}, All2 rS as vs F → vs = (as.map mk).map V.str
  | [], [], _ => rfl
  | _ :: _, _ :: _, q => by
    have e := q.1.1
    rw [List.map_cons, List.map_cons, ← All2.strs q.2, e]
  | [], _ :: _, q => q.elim
  | _ :: _, [], q => q.elim
theorem All2.of_strs {F : Hp} : ∀ (as : List (List Nat)), (∀ a ∈ as, OkS a) → All2 rS as ((as.map mk).map V.str) F
  | [], _ => trivial
  | a :: as, h => ⟨⟨rfl, h a (List.mem_cons_self ..)⟩, All2.of_strs as fun b m => h b (List.mem_cons_of_mem _ m)⟩
theorem All2.oks {F : Hp} : ∀ {as : List (List Nat)} {vs : List V}, All2 rS as vs F → ∀ a ∈ as, OkS a
  | [], _, _, _, m => by cases m
  | b :: bs, [], h, _, _ => h.elim
  | b :: bs, v :: vs, h, a, m => by
    rcases List.mem_cons.mp m with e | m
    · subst e; exact h.1.2
    · exact All2.oks h.2 a m
theorem All2.map {f : α → V} (h : Fl R f) {F : Hp} : ∀ {as : List α} {vs : List V}, All2 R as vs F → vs = as.map f
  | [], [], _ => rfl
  | _ :: _, _ :: _, q => by rw [List.map_cons, h.to q.1, All2.map h q.2]
  | [], _ :: _, q => q.elim
  | _ :: _, [], q => q.elim
theorem All2.of_map {f : α → V} (h : Fl R f) {F : Hp} : ∀ (as : List α), All2 R as (as.map f) F
  | [] => trivial
  | a :: as => ⟨h.of a F, All2.of_map h as⟩
/-- .. and not too many -/
structure AllB (R : Rep α) (as : List α) (xs : List V) (F : Hp) : Prop where
  all : All2 R as xs F
  len : as.length ≤ limL
theorem AllB.mono {F F' : Hp} {as : List α} {xs : List V} (e : Same F F') (h : AllB R as xs F) : AllB R as xs F' := ⟨h.all.mono e, h.len⟩
theorem AllB.sz {F : Hp} {as : List α} {xs : List V} (h : AllB R as xs F) : xs.length ≤ limL := by
  rw [← h.all.len]
  exact h.len
theorem sz_lim {n : Nat} (h : n ≤ lim) : n ≤ limL := Nat.le_trans h (by decide)
theorem sz_line {n : Nat} (h : n ≤ limL) : n ≤ sizeLine := Nat.le_trans h (by decide)
theorem sz_lt {n : Nat} (h : n ≤ limL) : n < sizeLine := Nat.lt_of_le_of_lt h (by decide)
/-- a frozen list, tuples -/
def rL (R : Rep α) : Rep (List α) := ⟨fun as v F => ∃ p xs, v = .ref p ∧ F p = some (.lst xs) ∧ AllB R as xs F,
  fun e ⟨p, xs, h1, h2, h3⟩ => ⟨p, xs, h1, e _ _ h2, h3.mono e⟩⟩
/-- a tuple of things of one kind -/
def rTL (R : Rep α) : Rep (List α) := ⟨fun as v F => ∃ p xs, v = .ref p ∧ F p = some (.tup xs) ∧ AllB R as xs F,
  fun e ⟨p, xs, h1, h2, h3⟩ => ⟨p, xs, h1, e _ _ h2, h3.mono e⟩⟩
def rT2 (R : Rep α) (R' : Rep β) : Rep (α × β) := ⟨fun t v F => ∃ p x y, v = .ref p ∧ F p = some (.tup [x, y]) ∧ R.rp t.1 x F ∧ R'.rp t.2 y F,
  fun e ⟨p, x, y, h1, h2, h3, h4⟩ => ⟨p, x, y, h1, e _ _ h2, R.mono e h3, R'.mono e h4⟩⟩
def rT3 (R : Rep α) (R' : Rep β) (R'' : Rep γ) : Rep (α × β × γ) := ⟨fun t v F => ∃ p x y z, v = .ref p ∧ F p = some (.tup [x, y, z]) ∧ R.rp t.1 x F ∧ R'.rp t.2.1 y F ∧ R''.rp t.2.2 z F,
  fun e ⟨p, x, y, z, h1, h2, h3, h4, h5⟩ => ⟨p, x, y, z, h1, e _ _ h2, R.mono e h3, R'.mono e h4, R''.mono e h5⟩⟩
/-- the script: a list of ints that is only read -/
def rScr (K : PySem.W.Frag) : Rep (List Int) := ⟨fun ns v F => ∃ p, v = .ref p ∧ SqL K F p (ns.map V.int) ∧ ns.length ≤ limL, fun e ⟨p, h1, h2, h3⟩ => ⟨p, h1, e.seq h2, h3⟩⟩
/-- None or another thing -/
def rO (R : Rep α) : Rep (Option α) := ⟨fun o v F => match o with | none => v = .non | some a => R.rp a v F ∧ v ≠ .non, fun {o} {_} {_} {_} e h => by
  cases o with
  | none => exact h
  | some a => exact ⟨R.mono e h.1, h.2⟩⟩
end

/-! ### what an expression evaluates to -/
structure Ar where
  p : V → Hp → Hp → Prop
  mono : ∀ {v F H F' H'}, Same F F' → Same H H' → p v F H → p v F' H'
def val {α : Type} (R : Rep α) (a : α) : Ar := ⟨fun v F _ => R.rp a v F, fun e _ h => R.mono e h⟩
/-- a list whose spine is read: frozen, owned or just made -/
def spn {α : Type} (R : Rep α) (as : List α) : Ar := ⟨fun v F H => ∃ p xs, v = .ref p ∧ H p = some (.lst xs) ∧ AllB R as xs F,
  fun e e' ⟨p, xs, h1, h2, h3⟩ => ⟨p, xs, h1, e' _ _ h2, h3.mono e⟩⟩

def Ev (te : TE) (σ : L2.St) (F : Hp) (O : Own) (A : Ar) : Prop := ∀ H, Ok F O H → ∀ Q : VK, (∀ v F' H', Gr F H F' H' → A.p v F' H' → Q v H') → te σ H Q
def EvT (tt : TT) (σ : L2.St) (F : Hp) (O : Own) (b : Bool) : Prop := ∀ H, Ok F O H → ∀ Q : Bool → Hp → Prop, (∀ F' H', Gr F H F' H' → Q b H') → tt σ H Q
/-- a new list -/
def EvN {α : Type} (te : TE) (σ : L2.St) (F : Hp) (O : Own) (R : Rep α) (as : List α) : Prop := ∀ H, Ok F O H → ∀ Q : VK,
  (∀ p xs F' H', Gr F H F' H' → H p = none → F' p = none → H' p = some (.lst xs) → AllB R as xs F' → Q (.ref p) H') → te σ H Q
def AllA : List Ar → List V → Hp → Hp → Prop
  | [], [], _, _ => True
  | A :: as, v :: vs, F, H => A.p v F H ∧ AllA as vs F H
  | _, _, _, _ => False
theorem AllA.mono {F H F' H' : Hp} (e : Same F F') (e' : Same H H') : ∀ {as : List Ar} {vs : List V}, AllA as vs F H → AllA as vs F' H'
  | [], [], _ => trivial
  | A :: _, _ :: _, h => ⟨A.mono e e' h.1, AllA.mono e e' h.2⟩
  | [], _ :: _, h => h.elim
  | _ :: _, [], h => h.elim
def EvA (ta : TA) (σ : L2.St) (F : Hp) (O : Own) (as : List Ar) : Prop := ∀ H, Ok F O H → ∀ Q : List V → Hp → Prop, (∀ vs F' H', Gr F H F' H' → AllA as vs F' H' → Q vs H') → ta σ H Q

/-- two heaps laid one over the other -/
def un (F G : Hp) : Hp := fun a => match F a with | some o => some o | none => G a
theorem un_l {F G : Hp} : Same F (un F G) := fun a o e => by unfold un; rw [e]
theorem un_r {F G H : Hp} (e : Same F H) (e' : Same G H) : Same G (un F G) := fun a o h => by
  unfold un
  cases q : F a with
  | none => exact h
  | some u =>
    have h1 := e a u q
    have h2 := e' a o h
    rw [h1] at h2
    exact h2
theorem un_h {F G H : Hp} (e : Same F H) (e' : Same G H) : Same (un F G) H := fun a o h => by
  unfold un at h
  cases q : F a with
  | none => rw [q] at h; exact e' a o h
  | some u => rw [q] at h; cases h; exact e a o q
/-- known at F, known at more -/
theorem gr_un {F F1 H F' H' : Hp} (e : Same F F1) (k : Same F1 H) (g : Gr F H F' H') : Gr F1 H (un F1 F') H' := by
  have k' : Same F1 H' := k.trans g.h
  refine ⟨un_l, g.h, un_h k' g.fh, fun a h1 h2 => ?_⟩
  unfold un
  rw [h1]
  exact g.nw a (e.free h1) h2
theorem Ok.less {F F1 : Hp} {O : Own} {H : Hp} (e : Same F F1) (k : Ok F1 O H) : Ok F O H := ⟨e.trans k.ex, fun q m => ⟨e.free (k.own q m).1, (k.own q m).2⟩⟩

section
variable {α β γ δ : Type} {R : Rep α} {R' : Rep β} {σ : L2.St} {F F1 : Hp} {O : Own} {ta tb tc te : TE} {A B C : Ar} {K : PySem.W.Frag}
theorem Ev.mono (h : Ev te σ F O A) (e : Same F F1) : Ev te σ F1 O A := fun H k Q q =>
  h H (k.less e) Q fun v F' H' g a => q v (un F1 F') H' (gr_un e k.ex g) (A.mono (un_r (k.ex.trans g.h) g.fh) (Same.refl _) a)
theorem EvN.mono {as : List α} (h : EvN te σ F O R as) (e : Same F F1) : EvN te σ F1 O R as := fun H k Q q =>
  h H (k.less e) Q fun p xs F' H' g n f x a => q p xs (un F1 F') H' (gr_un e k.ex g) n (by
    unfold un
    rw [k.ex.free n]
    exact f) x (a.mono (un_r (k.ex.trans g.h) g.fh))
theorem EvT.mono {tt : TT} {b : Bool} (h : EvT tt σ F O b) (e : Same F F1) : EvT tt σ F1 O b := fun H k Q q =>
  h H (k.less e) Q fun F' H' g => q (un F1 F') H' (gr_un e k.ex g)
theorem EvA.mono {ta : TA} {as : List Ar} (h : EvA ta σ F O as) (e : Same F F1) : EvA ta σ F1 O as := fun H k Q q =>
  h H (k.less e) Q fun v F' H' g a => q v (un F1 F') H' (gr_un e k.ex g) (a.mono (un_r (k.ex.trans g.h) g.fh) (Same.refl _))
/-- fewer owned lists are asked -/
theorem Ev.sub {O' : Own} (h : Ev te σ F O A) (s : ∀ q ∈ O, q ∈ O') : Ev te σ F O' A := fun H k Q q => h H ⟨k.ex, fun p m => k.own p (s p m)⟩ Q q

/-! ### names, constants -/
theorem ev_v {i : Nat} {v : V} {a : α} (h : σ[i]? = some (some v)) (r : R.rp a v F) : Ev (tVar i) σ F O (val R a) := fun H k _ q => ⟨v, h, q v F H (Gr.refl k.ex) r⟩
theorem ev_o {i : Nat} {p : Addr} {xs : List V} {as : List α} (h : σ[i]? = some (some (.ref p))) (m : (p, HO.lst xs) ∈ O) (r : AllB R as xs F) : Ev (tVar i) σ F O (spn R as) := fun H k _ q =>
  ⟨.ref p, h, q _ F H (Gr.refl k.ex) ⟨p, xs, rfl, (k.own _ m).2, r⟩⟩
theorem ev_c {v : V} {a : α} (r : ∀ F, R.rp a v F) : Ev (tC v) σ F O (val R a) := fun H k _ q => q v F H (Gr.refl k.ex) (r F)
theorem ev_i {i : Int} : Ev (tC (.int i)) σ F O (val rInt i) := ev_c fun _ => rfl
theorem ev_b {i : Bool} : Ev (tC (.bl i)) σ F O (val rB i) := ev_c fun _ => rfl
theorem ev_n : Ev (tC .non) σ F O (val rN ()) := ev_c fun _ => rfl
theorem ev_s {x : Str} {l : List Nat} (h : x = mk l) (k : okS l = true) : Ev (tC (.str x)) σ F O (val rS l) := ev_c fun _ => ⟨by rw [h], okS_iff.mp k⟩
theorem ev_ch {x : Str} {c : Nat} (h : x = mk [c]) (k : c < 128) : Ev (tC (.str x)) σ F O (val rC c) := ev_c fun _ => ⟨by rw [h], k⟩
theorem ev_cs {c : Nat} (h : Ev te σ F O (val rC c)) : Ev te σ F O (val rS [c]) := fun H k Q q => h H k Q fun v F' H' g a => q v F' H' g ⟨a.1, by
  refine ⟨by show 1 ≤ lim; decide, fun d m => ?_⟩
  rw [List.mem_singleton.mp m]
  exact a.2⟩
/-- other forms of the same -/
theorem ev_is {a b : α} (h : Ev te σ F O (val R a)) (e : a = b) : Ev te σ F O (val R b) := e ▸ h
theorem ev_spn {as : List α} (h : Ev te σ F O (val (rL R) as)) : Ev te σ F O (spn R as) := fun H k Q q =>
  h H k Q fun v F' H' g ⟨p, xs, h1, h2, h3⟩ => q v F' H' g ⟨p, xs, h1, g.fh _ _ h2, h3⟩
theorem ev_nspn {as : List α} (h : EvN te σ F O R as) : Ev te σ F O (spn R as) := fun H k Q q =>
  h H k Q fun p xs F' H' g _ _ h2 h3 => q _ F' H' g ⟨p, xs, rfl, h2, h3⟩
theorem ev_frz {as : List α} (h : EvN te σ F O R as) : Ev te σ F O (val (rL R) as) := fun H k Q q =>
  h H k Q fun p xs F' H' g n f h2 h3 => q _ (upd F' p (.lst xs)) H' ⟨g.f.trans (same_new f), g.h, fun a u e => by
    by_cases z : a = p
    · subst z; rw [upd_same] at e; cases e; exact h2
    · rw [upd_ne z] at e; exact g.fh a u e, fun a h1 h4 => by
    rw [upd_ne (fun z => h4 (by rw [z]; exact n))]
    exact g.nw a h1 h4⟩ ⟨p, xs, rfl, upd_same, h3.mono (same_new f)⟩

/-! ### operators -/
theorem two (ha : Ev ta σ F O A) (hb : Ev tb σ F O B) {H : Hp} (k : Ok F O H) {Q : V → V → Hp → Prop} (q : ∀ v w F' H', Gr F H F' H' → Same F' H' → A.p v F' H' → B.p w F' H' → Q v w H') : ta σ H fun x H1 => tb σ H1 fun y H2 => Q x y H2 :=
  ha H k _ fun v F1 H1 g1 a => (hb.mono g1.f) H1 (k.gr g1) _ fun w F2 H2 g2 b => q v w F2 H2 (g1.trans g2) g2.fh (A.mono g2.f g2.h a) b
def Op2 (r : R2) (A B C : Ar) : Prop := ∀ v w F H (Q : VK), Same F H → A.p v F H → B.p w F H → (∀ u F' H', Gr F H F' H' → C.p u F' H' → Q u H') → r v w H Q
def Op2N {α : Type} (r : R2) (A B : Ar) (R : Rep α) (as : List α) : Prop := ∀ v w F H (Q : VK), Same F H → A.p v F H → B.p w F H →
  (∀ p xs F' H', Gr F H F' H' → H p = none → F' p = none → H' p = some (.lst xs) → AllB R as xs F' → Q (.ref p) H') → r v w H Q
theorem ev_op {r : R2} (ha : Ev ta σ F O A) (hb : Ev tb σ F O B) (ho : Op2 r A B C) : Ev (tOp r ta tb) σ F O C := fun H k Q q =>
  two ha hb k fun v w F1 H1 g e a b => ho v w F1 H1 Q e a b fun u F2 H2 g2 c => q u F2 H2 (g.trans g2) c
theorem gr_none {F H F' H' : Hp} (g : Gr F H F' H') {p : Addr} (h : H' p = none) : H p = none := g.h.free h
theorem ev_opN {r : R2} {as : List α} (ha : Ev ta σ F O A) (hb : Ev tb σ F O B) (ho : Op2N r A B R as) : EvN (tOp r ta tb) σ F O R as := fun H k Q q =>
  two ha hb k fun v w F1 H1 g e a b => ho v w F1 H1 Q e a b fun p xs F2 H2 g2 n f x c => q p xs F2 H2 (g.trans g2) (gr_none g n) f x c
/-- where the answer is a scalar -/
theorem op_sc {r : R2} {c : γ} {Rc : Rep γ} {f : γ → V} (hf : Fl Rc f) (h : ∀ v w F H (Q : VK), Same F H → A.p v F H → B.p w F H → Q (f c) H → r v w H Q) : Op2 r A B (val Rc c) := fun v w F H Q e a b q =>
  h v w F H Q e a b (q _ F H (Gr.refl e) (hf.of c F))
theorem o_ii {g : Int → Int → V} {Rc : Rep γ} {f : γ → V} {c : Int → Int → γ} (hf : Fl Rc f) (e : ∀ i j, g i j = f (c i j)) {i j : Int} : Op2 (rI0 g) (val rInt i) (val rInt j) (val Rc (c i j)) :=
  op_sc hf fun _ _ _ _ Q _ a b q => ⟨i, j, a, b, by rw [e]; exact q⟩
theorem o_iic {P : Int → Int → Prop} {g : Int → Int → V} {Rc : Rep γ} {f : γ → V} {c : Int → Int → γ} (hf : Fl Rc f) (e : ∀ i j, g i j = f (c i j)) {i j : Int} (h : P i j) : Op2 (rI P g) (val rInt i) (val rInt j) (val Rc (c i j)) :=
  op_sc hf fun _ _ _ _ Q _ a b q => ⟨i, j, a, b, h, by rw [e]; exact q⟩
end
end Lm
/-! Lm: statements, loops, calls. -/
namespace Lm
open PySem PySem.Spec L2

/-- the code objects of the table ps lie in F -/
def TabF (F : Hp) (nm : Nat → Nat → Str) (ps : Array Value) : Prop := TriplesOk ps.toList ∧ ∀ (pos : Pos) (cv : Value), codeAmong pos ps.toList = some cv → ∃ c, cv = .ref c ∧ F c = some (LamX.CodeO c (nm pos.line pos.col))
theorem TabF.mono {F F' : Hp} {nm : Nat → Nat → Str} {ps : Array Value} (e : Same F F') (h : TabF F nm ps) : TabF F' nm ps :=
  ⟨h.1, fun pos cv hc => (h.2 pos cv hc).elim fun c q => ⟨c, q.1, e _ _ q.2⟩⟩
/-- what a def began with: the frozen heap, all that must stand, the table of code objects (where nested defs are made) -/
structure Bs where
  F0 : Hp
  B : Hp
  T : Option (Addr × (Nat → Nat → Str))
/-- the table stands, nobody's, as it is now -/
def TabAt (Z : Bs) (F : Hp) (O : Own) (H : Hp) : Prop := ∀ P nm, Z.T = some (P, nm) → ∃ ps, H P = some (.tbl ps) ∧ TabF F nm ps ∧ F P = none ∧ (∀ q ∈ O, q.1 ≠ P) ∧ Z.B P = none
structure At (Z : Bs) (F : Hp) (O : Own) (H : Hp) : Prop where
  ok : Ok F O H
  b : Same Z.B H
  f0 : Same Z.F0 F
  sep : ∀ a, Z.F0 a = none → Z.B a ≠ none → F a = none
  ob : ∀ q ∈ O, Z.B q.1 = none
  nd : (O.map (·.1)).Nodup
  tab : TabAt Z F O H
section
variable {Z : Bs} {F H F' H' : Hp} {O : Own} {p : Addr} {o o' : HO}
theorem TabAt.gr (k : TabAt Z F O H) (g : Gr F H F' H') : TabAt Z F' O H' := fun P nm e => by
  obtain ⟨ps, h1, h2, h3, h4, h5⟩ := k P nm e
  exact ⟨ps, g.h _ _ h1, h2.mono g.f, g.nw P h3 (by rw [h1]; exact fun z => by cases z), h4, h5⟩
theorem TabAt.less {O' : Own} (k : TabAt Z F O H) (h : ∀ q ∈ O', ∃ u ∈ O, u.1 = q.1) : TabAt Z F O' H := fun P nm e => by
  obtain ⟨ps, h1, h2, h3, h4, h5⟩ := k P nm e
  exact ⟨ps, h1, h2, h3, fun q m => (h q m).elim fun u z => by rw [← z.2]; exact h4 u z.1, h5⟩
theorem At.gr (k : At Z F O H) (g : Gr F H F' H') : At Z F' O H' :=
  ⟨k.ok.gr g, k.b.trans g.h, k.f0.trans g.f, fun a h1 h2 => g.nw a (k.sep a h1 h2) (by
    cases e : Z.B a with
    | none => exact absurd e h2
    | some u => rw [k.b a u e]; exact fun z => by cases z), k.ob, k.nd, k.tab.gr g⟩
theorem At.new (k : At Z F O H) (g : Gr F H F' H') (hn : H p = none) (hf : F' p = none) (hx : H' p = some o) : At Z F' ((p, o) :: O) H' := by
  have k' := k.gr g
  refine ⟨⟨k'.ok.ex, fun q m => ?_⟩, k'.b, k'.f0, k'.sep, fun q m => ?_, ?_, fun P nm e => ?_⟩
  · rcases List.mem_cons.mp m with e | m
    · subst e; exact ⟨hf, hx⟩
    · exact k'.ok.own q m
  · rcases List.mem_cons.mp m with e | m
    · subst e; exact k.b.free hn
    · exact k.ob q m
  · rw [List.map_cons, List.nodup_cons]
    refine ⟨fun m => ?_, k.nd⟩
    obtain ⟨q, m, e⟩ := List.mem_map.mp m
    have e2 := (k.ok.own q m).2
    rw [e, hn] at e2
    cases e2
  · obtain ⟨ps, h1, h2, h3, h4, h5⟩ := k'.tab P nm e
    refine ⟨ps, h1, h2, h3, fun q m => ?_, h5⟩
    rcases List.mem_cons.mp m with z | m
    · rw [z]
      obtain ⟨_, g1, _⟩ := k.tab P nm e
      exact fun z2 => by
        have z2 : p = P := z2
        rw [z2, g1] at hn; cases hn
    · exact h4 q m
theorem At.frz (k : At Z F ((p, o) :: O) H) : At Z (upd F p o) O H := by
  have hp := k.ok.own (p, o) (List.mem_cons_self ..)
  have nd := List.nodup_cons.mp (show ((p, o) :: O |>.map (·.1)).Nodup from k.nd)
  refine ⟨⟨fun a u e => ?_, fun q m => ?_⟩, k.b, k.f0.trans (same_new hp.1), fun a h1 h2 => ?_, fun q m => k.ob q (List.mem_cons_of_mem _ m), nd.2, fun P nm e => ?_⟩
  · by_cases z : a = p
    · subst z; rw [upd_same] at e; cases e; exact hp.2
    · rw [upd_ne z] at e; exact k.ok.ex a u e
  · have h1 := k.ok.own q (List.mem_cons_of_mem _ m)
    refine ⟨?_, h1.2⟩
    rw [upd_ne (fun z => nd.1 (List.mem_map.mpr ⟨q, m, z⟩))]
    exact h1.1
  · rw [upd_ne (fun z => h2 (by rw [z]; exact k.ob (p, o) (List.mem_cons_self ..)))]
    exact k.sep a h1 h2
  · obtain ⟨ps, h1, h2, h3, h4, h5⟩ := k.tab P nm e
    have ne : p ≠ P := h4 (p, o) (List.mem_cons_self ..)
    exact ⟨ps, h1, h2.mono (same_new hp.1), by rw [upd_ne (Ne.symm ne)]; exact h3, fun q m => h4 q (List.mem_cons_of_mem _ m), h5⟩
theorem At.drop (k : At Z F ((p, o) :: O) H) : At Z F O H :=
  ⟨⟨k.ok.ex, fun q m => k.ok.own q (List.mem_cons_of_mem _ m)⟩, k.b, k.f0, k.sep, fun q m => k.ob q (List.mem_cons_of_mem _ m), (List.nodup_cons.mp (show ((p, o) :: O |>.map (·.1)).Nodup from k.nd)).2, k.tab.less fun q m => ⟨q, List.mem_cons_of_mem _ m, rfl⟩⟩
theorem At.write {n : Nat} (k : At Z F O H) (h : O[n]? = some (p, o)) : At Z F (O.set n (p, o')) (upd H p o') := by
  have hp := k.ok.own (p, o) (List.mem_of_getElem? h)
  have em : (O.set n (p, o')).map (·.1) = O.map (·.1) := by
    rw [List.map_set]
    apply List.ext_getElem?
    intro i
    rw [List.getElem?_set]
    split
    · next e =>
      subst e
      rw [List.length_map]
      have hn := (List.getElem?_eq_some_iff.mp h).1
      rw [if_pos hn, List.getElem?_map, h]
      rfl
    · rfl
  refine ⟨⟨same_mut k.ok.ex hp.1, fun q m => ?_⟩, same_mut k.b (k.ob _ (List.mem_of_getElem? h)), k.f0, k.sep, fun q m => ?_, by rw [em]; exact k.nd, fun P nm e => ?_⟩
  · obtain ⟨i, hi⟩ := List.getElem?_of_mem m
    rw [List.getElem?_set] at hi
    by_cases e : n = i
    · rw [if_pos e] at hi
      split at hi
      · cases hi
        exact ⟨hp.1, upd_same⟩
      · cases hi
    · rw [if_neg e] at hi
      have h1 := k.ok.own q (List.mem_of_getElem? hi)
      refine ⟨h1.1, ?_⟩
      rw [upd_ne]
      · exact h1.2
      · intro z
        have a1 : (O.map (·.1))[n]? = some p := by rw [List.getElem?_map, h]; rfl
        have a2 : (O.map (·.1))[i]? = some p := by rw [List.getElem?_map, hi, ← z]; rfl
        have l1 := (List.getElem?_eq_some_iff.mp a1)
        have l2 := (List.getElem?_eq_some_iff.mp a2)
        exact e ((List.getElem_inj k.nd).mp (l1.2.trans l2.2.symm))
  · obtain ⟨u, e⟩ : ∃ u, u ∈ O ∧ u.1 = q.1 := by
      have : q.1 ∈ (O.set n (p, o')).map (·.1) := List.mem_map.mpr ⟨q, m, rfl⟩
      rw [em] at this
      obtain ⟨u, a, b⟩ := List.mem_map.mp this
      exact ⟨u, a, b⟩
    rw [← e.2]
    exact k.ob u e.1
  · obtain ⟨ps, h1, h2, h3, h4, h5⟩ := k.tab P nm e
    refine ⟨ps, ?_, h2, h3, fun q m => ?_, h5⟩
    · rw [upd_ne (Ne.symm (h4 (p, o) (List.mem_of_getElem? h)))]; exact h1
    · have : q.1 ∈ (O.set n (p, o')).map (·.1) := List.mem_map.mpr ⟨q, m, rfl⟩
      rw [em] at this
      obtain ⟨u, a, b⟩ := List.mem_map.mp this
      rw [← b]; exact h4 u a
/-- at a def's entry -/
theorem At.start (e : Same F H) : At ⟨F, H, none⟩ F [] H := ⟨⟨e, fun _ m => (by cases m)⟩, Same.refl _, Same.refl _, fun _ h _ => h, fun _ m => (by cases m), List.nodup_nil, fun _ _ e => (by cases e)⟩
/-- at its end -/
theorem At.done (k : At ⟨F, H, none⟩ F' O H') : Gr F H F' H' := ⟨k.f0, k.b, k.ok.ex, k.sep⟩
end

def Sx (Z : Bs) (ts : TS) (D : Ends) (σ : L2.St) (F : Hp) (O : Own) : Prop := ∀ H, At Z F O H → ts D σ H
def Nx (Z : Bs) (D : Ends) (σ : L2.St) (F : Hp) (O : Own) : Prop := ∀ H, At Z F O H → D.nx σ H
def Ct (Z : Bs) (D : Ends) (σ : L2.St) (F : Hp) (O : Own) : Prop := ∀ H, At Z F O H → D.ct σ H
def Bk (Z : Bs) (D : Ends) (σ : L2.St) (F : Hp) (O : Own) : Prop := ∀ H, At Z F O H → D.bk σ H
def Rt (Z : Bs) (D : Ends) (v : V) (F : Hp) (O : Own) : Prop := ∀ H, At Z F O H → D.rt v H

section
variable {α β γ : Type} {R : Rep α} {R' : Rep β} {Z : Bs} {D : Ends} {σ : L2.St} {F : Hp} {O : Own} {t u : TS} {te ta tb : TE} {tt : TT} {A B C : Ar} {K : PySem.W.Frag} {i : Nat} {p : Addr} {o : HO}
theorem sx_seq (h : Sx Z t { D with nx := u D } σ F O) : Sx Z (tSeq t u) D σ F O := h
theorem sx_so {σ2 : L2.St} {O2 : Own} (e : σ = σ2) (e2 : O = O2) (h : Sx Z t D σ2 F O2) : Sx Z t D σ F O := e ▸ e2 ▸ h
theorem nx_of (h : Sx Z u D σ F O) : Nx Z { D with nx := u D } σ F O := h
theorem sx_next (h : Nx Z D σ F O) : Sx Z tNext D σ F O := h
theorem sx_brk (h : Bk Z D σ F O) : Sx Z tBreak D σ F O := h
theorem sx_cont (h : Ct Z D σ F O) : Sx Z tCont D σ F O := h
theorem sx_asg {a : α} (h : Ev te σ F O (val R a)) (k : ∀ v F', Same F F' → R.rp a v F' → Nx Z D (σ.set i (some v)) F' O) : Sx Z (tAsg te (gName i)) D σ F O := fun H at0 =>
  h H at0.ok _ fun v F' H' g r => k v F' g.f r H' (at0.gr g)
theorem sx_asgN {as : List α} (h : EvN te σ F O R as) (k : ∀ p xs F', Same F F' → AllB R as xs F' → Nx Z D (σ.set i (some (.ref p))) F' ((p, .lst xs) :: O)) : Sx Z (tAsg te (gName i)) D σ F O := fun H at0 =>
  h H at0.ok _ fun p xs F' H' g n f x r => k p xs F' g.f r H' (at0.new g n f x)
theorem sx_drop (h : Ev te σ F O A) (k : ∀ F', Same F F' → Nx Z D σ F' O) : Sx Z (tDrop te) D σ F O := fun H at0 =>
  h H at0.ok _ fun v F' H' g _ => k F' g.f H' (at0.gr g)
theorem sx_ret {a : α} (h : Ev te σ F O (val R a)) (k : ∀ v F', Same F F' → R.rp a v F' → Rt Z D v F' O) : Sx Z (tRet te) D σ F O := fun H at0 =>
  h H at0.ok _ fun v F' H' g r => k v F' g.f r H' (at0.gr g)
theorem sx_retN {as : List α} (h : EvN te σ F O R as) (k : ∀ p xs F', Same F F' → AllB R as xs F' → Rt Z D (.ref p) F' ((p, .lst xs) :: O)) : Sx Z (tRet te) D σ F O := fun H at0 =>
  h H at0.ok _ fun p xs F' H' g n f x r => k p xs F' g.f r H' (at0.new g n f x)
/-- return of an owned list's name -/
theorem sx_retO {j : Nat} {v : V} (h : σ[j]? = some (some v)) (k : Rt Z D v F O) : Sx Z (tRet (tVar j)) D σ F O := fun H at0 => ⟨v, h, k H at0⟩
theorem sx_retn (k : Rt Z D .non F O) : Sx Z tRetN D σ F O := fun H at0 => k H at0
theorem sx_if {b : Bool} (h : EvT tt σ F O b) (h1 : b = true → ∀ F', Same F F' → Sx Z t D σ F' O) (h2 : b = false → ∀ F', Same F F' → Sx Z u D σ F' O) : Sx Z (tIfS tt t u) D σ F O := fun H at0 =>
  h H at0.ok _ fun F' H' g => by
    cases b with
    | true =>
      show t D σ H'
      exact h1 rfl F' g.f H' (at0.gr g)
    | false =>
      show u D σ H'
      exact h2 rfl F' g.f H' (at0.gr g)
/-- an owned list is frozen, forgotten -/
theorem sx_frz (h : Sx Z t D σ (upd F p o) O) : Sx Z t D σ F ((p, o) :: O) := fun H at0 => h H at0.frz
theorem nx_frz (h : Nx Z D σ (upd F p o) O) : Nx Z D σ F ((p, o) :: O) := fun H at0 => h H at0.frz
theorem sx_forget (h : Sx Z t D σ F O) : Sx Z t D σ F ((p, o) :: O) := fun H at0 => h H at0.drop
/-- a frozen owned list as a value -/
theorem rp_frz {as : List α} {xs : List V} (hf : F p = none) (h : AllB R as xs F) : (rL R).rp as (.ref p) (upd F p (.lst xs)) := ⟨p, xs, rfl, upd_same, h.mono (same_new hf)⟩
theorem sx_own (h : (∀ q ∈ O, F q.1 = none) → Sx Z t D σ F O) : Sx Z t D σ F O := fun H at0 => h (fun q m => (at0.ok.own q m).1) H at0
/-- xs.append(e) -/
theorem sx_app {n : Nat} {xs : List V} {as : List α} {a : α} {j : Nat} (hj : σ[j]? = some (some (.ref p))) (hO : O[n]? = some (p, .lst xs)) (hx : AllB R as xs F) (h : Ev te σ F O (val R a)) (hz : (as ++ [a]).length ≤ limL)
    (k : ∀ v F', Same F F' → AllB R (as ++ [a]) (xs ++ [v]) F' → Nx Z D σ F' (O.set n (p, .lst (xs ++ [v])))) : Sx Z (tDrop (tBM K "list" rAppend (tVar j) (tCons te tNil))) D σ F O := fun H at0 => by
  have hp := at0.ok.own (p, .lst xs) (List.mem_of_getElem? hO)
  refine ⟨.ref p, hj, Or.inl ⟨rfl, xs, Or.inl (Or.inl hp.2)⟩, h H at0.ok _ fun v F' H' g r => ?_⟩
  refine ⟨p, xs, v, rfl, rfl, g.h _ _ hp.2, sz_lt hx.sz, k v F' g.f ⟨All2.app (hx.all.mono g.f) (All2.one r), hz⟩ _ (At.write (at0.gr g) hO)⟩
/-- xs[i] = e -/
theorem sx_setL {n m : Nat} {xs : List V} {as : List α} {a : α} {j : Nat} {z : Int} (hj : σ[j]? = some (some (.ref p))) (hO : O[n]? = some (p, .lst xs)) (hx : AllB R as xs F) (h : Ev te σ F O (val R a)) (hi : Ev tb σ F O (val rInt z))
    (hm : ixN as.length z = some m) (k : ∀ v F', Same F F' → AllB R (as.set m a) (xs.set m v) F' → Nx Z D σ F' (O.set n (p, .lst (xs.set m v)))) : Sx Z (tAsg te (gSub (tVar j) tb rSetL)) D σ F O := fun H at0 => by
  have hp := at0.ok.own (p, .lst xs) (List.mem_of_getElem? hO)
  refine h H at0.ok _ fun v F1 H1 g1 r => ⟨.ref p, hj, (hi.mono g1.f) H1 (at0.ok.gr g1) _ fun w F2 H2 g2 e => ?_⟩
  have g := g1.trans g2
  have e' : w = .int z := e
  subst e'
  refine ⟨p, xs, z, m, rfl, rfl, g.h _ _ hp.2, by rw [← hx.all.len]; exact hm, k v F2 g.f ⟨All2.set (R.mono g2.f r) m (hx.all.mono g.f), by rw [List.length_set]; exact hx.len⟩ _ (At.write (at0.gr g) hO)⟩

/-! ### loops -/
inductive Fw (ρ S : Type) where
  | nx (s : S) | rt (r : ρ) | bk (s : S)
def loop {α ρ S : Type} (f : S → α → Option (Fw ρ S)) : List α → S → Option (Fw ρ S)
  | [], s => some (.nx s)
  | a :: as, s => match f s a with
    | some (.nx s') => loop f as s'
    | some (.rt r) => some (.rt r)
    | some (.bk s') => some (.nx s')
    | none => none
/-- what a turn may end with -/
structure Acc {ρ S : Type} (Z : Bs) (D : Ends) (J : S → L2.St → Hp → Own → Prop) (Ro : ρ → V → Hp → Own → Prop) (F : Hp) (o : Fw ρ S) : Prop where
  nx : ∀ s, o = .nx s → ∀ σ F' O', Same F F' → J s σ F' O' → Nx Z D σ F' O' ∧ Ct Z D σ F' O'
  bk : ∀ s, o = .bk s → ∀ σ F' O', Same F F' → J s σ F' O' → Bk Z D σ F' O'
  rt : ∀ r, o = .rt r → ∀ v F' O', Same F F' → Ro r v F' O' → Rt Z D v F' O'
/-- what a loop may end with -/
structure AccL {ρ S : Type} (Z : Bs) (D : Ends) (J : S → L2.St → Hp → Own → Prop) (Ro : ρ → V → Hp → Own → Prop) (F : Hp) (o : Fw ρ S) : Prop where
  nx : ∀ s, o = .nx s → ∀ σ F' O', Same F F' → J s σ F' O' → Nx Z D σ F' O'
  rt : ∀ r, o = .rt r → ∀ v F' O', Same F F' → Ro r v F' O' → Rt Z D v F' O'
section
variable {ρ S : Type} {f : S → α → Option (Fw ρ S)} {s0 : S} {out : Fw ρ S} {J : S → L2.St → Hp → Own → Prop} {Ro : ρ → V → Hp → Own → Prop} {g : TG} {body : TS}
/-- the word of a loop: what is left to do -/
def Lw (Z : Bs) (f : S → α → Option (Fw ρ S)) (J : S → L2.St → Hp → Own → Prop) (out : Fw ρ S) (as : List α) (F : Hp) (i : Nat) (σ : L2.St) (H : Hp) : Prop :=
  ∃ s F' O', Same F F' ∧ J s σ F' O' ∧ At Z F' O' H ∧ loop f (as.drop i) s = some out
theorem lw_turn {as : List α} {a : α} (acc : AccL Z D J Ro F out) {k : Nat} (ha : as[k]? = some a) {σ' : L2.St} {H' : Hp} (w : Lw Z f J out as F k σ' H') {P : Prop}
    (h : ∀ s F' O' o, Same F F' → J s σ' F' O' → At Z F' O' H' → f s a = some o → Acc Z { D with nx := Lw Z f J out as F (k + 1), ct := Lw Z f J out as F (k + 1), bk := D.nx } J Ro F' o → P) : P := by
  obtain ⟨s, F', O', e, j, at0, hl⟩ := w
  have hk := (List.getElem?_eq_some_iff.mp ha)
  have ed : as.drop k = a :: as.drop (k + 1) := by
    rw [List.drop_eq_getElem_cons hk.1, hk.2]
  rw [ed] at hl
  cases hf : f s a with
  | none =>
    simp only [loop, hf] at hl
    cases hl
  | some o =>
    refine h s F' O' o e j at0 hf ⟨fun s' eo σ2 F2 O2 e2 j2 => ?_, fun s' eo σ2 F2 O2 e2 j2 H2 at2 => ?_, fun r eo v F2 O2 e2 r2 H2 at2 => ?_⟩
    · subst eo
      have hl' : loop f (as.drop (k + 1)) s' = some out := by
        simp only [loop, hf] at hl
        exact hl
      exact ⟨fun H2 at2 => ⟨s', F2, O2, e.trans e2, j2, at2, hl'⟩, fun H2 at2 => ⟨s', F2, O2, e.trans e2, j2, at2, hl'⟩⟩
    · subst eo
      have hl' : Fw.nx s' = out := by
        simp only [loop, hf] at hl
        exact Option.some.inj hl
      exact acc.nx s' hl'.symm σ2 F2 O2 (e.trans e2) j2 H2 at2
    · subst eo
      have hl' : Fw.rt r = out := by
        simp only [loop, hf] at hl
        exact Option.some.inj hl
      exact acc.rt r hl'.symm v F2 O2 (e.trans e2) r2 H2 at2
theorem lw_end {as : List α} {n : Nat} (hn : n = as.length) (acc : AccL Z D J Ro F out) {σ' : L2.St} {H' : Hp} (w : Lw Z f J out as F n σ' H') : D.nx σ' H' := by
  obtain ⟨s, F', O', e, j, at0, hl⟩ := w
  rw [hn, List.drop_length] at hl
  exact acc.nx s (Option.some.inj hl).symm σ' F' O' e j H' at0
end
end
end Lm
/-! Lm: operators, built-ins, lists, calls. -/
namespace Lm
open PySem PySem.Spec L2

/-! ### operators by names -/
def xAdd : R2 := rI0 fun i j => .int (i + j)
def xSub : R2 := rI0 fun i j => .int (i - j)
/-- * of numbers of together less than four million bits -/
def MulC (i j : Int) : Prop := i.natAbs.log2 + j.natAbs.log2 < 4000000
theorem MulC.ok {i j : Int} (h : MulC i j) : IntMulOk i j := by
  have b : ∀ x : Int, Builtin.Int.intBits x ≤ x.natAbs.log2 + 1 := fun x => by
    unfold Builtin.Int.intBits
    split <;> omega
  have h1 := b i
  have h2 := b j
  have h3 : i.natAbs.log2 + j.natAbs.log2 < 4000000 := h
  have e : bitsLine = 134217728 := by decide
  unfold IntMulOk
  intro z
  rw [Bool.and_eq_true] at z
  have z2 := z.2
  unfold Builtin.Int.intTooBig at z2
  have z3 := of_decide_eq_true z2
  rw [e] at z3
  omega
def xMul : R2 := rI MulC fun i j => .int (i * j)
def xDiv : R2 := rI CDiv fun i j => .int (i / j)
def xMod : R2 := rI (fun _ j => 0 < j) fun i j => .int (i % j)
def xLt : R2 := rI0 fun i j => .bl (decide (i < j))
def xLe : R2 := rI0 fun i j => .bl (decide (i ≤ j))
def xGt : R2 := rI0 fun i j => .bl (decide (j < i))
def xGe : R2 := rI0 fun i j => .bl (decide (j ≤ i))
def xIsN : R2 := fun x y H Q => y = .non ∧ Q (.bl (decide (x = .non))) H
def xNotN : R2 := fun x y H Q => y = .non ∧ Q (.bl (!decide (x = .non))) H
section
variable {X : Cx}
theorem op_xAdd : OpR X (binaryOp .Add) xAdd := op_add
theorem op_xSub : OpR X (binaryOp .Sub) xSub := op_sub
theorem op_xMul : OpR X (binaryOp .Mult) xMul := opI fun _ _ _ _ _ _ _ hc q => PyProof.Rows.mul_int q hc.ok
theorem op_xDiv : OpR X (binaryOp .FloorDiv) xDiv := op_fdiv
theorem op_xMod : OpR X (binaryOp .Mod) xMod := op_mod
theorem op_xLt : OpR X (compareOp .Lt) xLt := op_lt
theorem op_xLe : OpR X (compareOp .LtE) xLe := op_le
theorem op_xGt : OpR X (compareOp .Gt) xGt := op_gt
theorem op_xGe : OpR X (compareOp .GtE) xGe := op_ge
theorem op_xIsN : OpR X (compareOp .Is) xIsN := op_isN
theorem op_xNotN : OpR X (compareOp .IsNot) xNotN := op_notN
end
section
variable {α β γ : Type} {R : Rep α} {R' : Rep β} {σ : L2.St} {F F1 : Hp} {O : Own} {ta tb tc te : TE} {tt tu : TT} {A B C : Ar} {K : PySem.W.Frag} {i j : Int}
theorem o_add : Op2 xAdd (val rInt i) (val rInt j) (val rInt (i + j)) := o_ii (c := fun i j => i + j) flI fun _ _ => rfl
theorem o_sub : Op2 xSub (val rInt i) (val rInt j) (val rInt (i - j)) := o_ii (c := fun i j => i - j) flI fun _ _ => rfl
theorem o_mul (h : MulC i j) : Op2 xMul (val rInt i) (val rInt j) (val rInt (i * j)) := o_iic (c := fun i j => i * j) flI (fun _ _ => rfl) h
theorem o_div (h : CDiv i j) : Op2 xDiv (val rInt i) (val rInt j) (val rInt (i / j)) := o_iic (c := fun i j => i / j) flI (fun _ _ => rfl) h
theorem o_mod (h : 0 < j) : Op2 xMod (val rInt i) (val rInt j) (val rInt (i % j)) := o_iic (c := fun i j => i % j) flI (fun _ _ => rfl) h
theorem o_lt : Op2 xLt (val rInt i) (val rInt j) (val rB (decide (i < j))) := o_ii (c := fun i j => decide (i < j)) flB fun _ _ => rfl
theorem o_le : Op2 xLe (val rInt i) (val rInt j) (val rB (decide (i ≤ j))) := o_ii (c := fun i j => decide (i ≤ j)) flB fun _ _ => rfl
theorem o_gt : Op2 xGt (val rInt i) (val rInt j) (val rB (decide (j < i))) := o_ii (c := fun i j => decide (j < i)) flB fun _ _ => rfl
theorem o_ge : Op2 xGe (val rInt i) (val rInt j) (val rB (decide (j ≤ i))) := o_ii (c := fun i j => decide (j ≤ i)) flB fun _ _ => rfl
theorem vint_dec (i j : Int) : decide (V.int i = V.int j) = decide (i = j) := by
  by_cases e : i = j
  · subst e; simp
  · rw [decide_eq_false e, decide_eq_false (fun h => e (V.int.inj h))]
theorem vbl_dec (i j : Bool) : decide (V.bl i = V.bl j) = decide (i = j) := by
  by_cases e : i = j
  · subst e; simp
  · rw [decide_eq_false e, decide_eq_false (fun h => e (V.bl.inj h))]
theorem mk_inj {l m : List Nat} (h : mk l = mk m) : l = m := by
  have := congrArg (fun s : Str => s.cps.toList) h
  simpa using this
theorem vstr_dec (l m : List Nat) : decide (V.str (mk l) = V.str (mk m)) = decide (l = m) := by
  by_cases e : l = m
  · subst e; simp
  · rw [decide_eq_false e, decide_eq_false (fun h => e (mk_inj (V.str.inj h)))]
theorem o_eqI : Op2 rEq (val rInt i) (val rInt j) (val rB (decide (i = j))) := op_sc flB fun v w _ _ Q _ a b q => by
  have a' : v = .int i := a
  have b' : w = .int j := b
  subst a' b'
  exact ⟨rfl, by rw [vint_dec]; exact q⟩
theorem o_neI : Op2 rNe (val rInt i) (val rInt j) (val rB (!decide (i = j))) := op_sc flB fun v w _ _ Q _ a b q => by
  have a' : v = .int i := a
  have b' : w = .int j := b
  subst a' b'
  exact ⟨rfl, by rw [vint_dec]; exact q⟩
theorem o_eqB {i j : Bool} : Op2 rEq (val rB i) (val rB j) (val rB (decide (i = j))) := op_sc flB fun v w _ _ Q _ a b q => by
  have a' : v = .bl i := a
  have b' : w = .bl j := b
  subst a' b'
  exact ⟨rfl, by rw [vbl_dec]; exact q⟩
theorem o_eqS {l m : List Nat} : Op2 rEq (val rS l) (val rS m) (val rB (decide (l = m))) := op_sc flB fun v w _ _ Q _ a b q => by
  rw [a.1, b.1]
  exact ⟨rfl, by rw [vstr_dec]; exact q⟩
theorem o_neS {l m : List Nat} : Op2 rNe (val rS l) (val rS m) (val rB (!decide (l = m))) := op_sc flB fun v w _ _ Q _ a b q => by
  rw [a.1, b.1]
  exact ⟨rfl, by rw [vstr_dec]; exact q⟩
theorem one_dec (c d : Nat) : decide (([c] : List Nat) = [d]) = decide (c = d) := by
  by_cases e : c = d
  · subst e; simp
  · rw [decide_eq_false e, decide_eq_false (fun h => e (List.cons.inj h).1)]
theorem o_eqC {c d : Nat} : Op2 rEq (val rC c) (val rC d) (val rB (decide (c = d))) := op_sc flB fun v w _ _ Q _ a b q => by
  rw [a.1, b.1]
  exact ⟨rfl, by rw [vstr_dec, one_dec]; exact q⟩
theorem o_neC {c d : Nat} : Op2 rNe (val rC c) (val rC d) (val rB (!decide (c = d))) := op_sc flB fun v w _ _ Q _ a b q => by
  rw [a.1, b.1]
  exact ⟨rfl, by rw [vstr_dec, one_dec]; exact q⟩
theorem o_isN {o : Option α} : Op2 xIsN (val (rO R) o) (val rN ()) (val rB o.isNone) := op_sc flB fun v w _ _ Q _ a b q => by
  refine ⟨b, ?_⟩
  cases o with
  | none =>
    have e : v = .non := a
    rw [decide_eq_true e]
    exact q
  | some x => rw [decide_eq_false a.2]; exact q
theorem o_notN {o : Option α} : Op2 xNotN (val (rO R) o) (val rN ()) (val rB o.isSome) := op_sc flB fun v w _ _ Q _ a b q => by
  refine ⟨b, ?_⟩
  cases o with
  | none =>
    have e : v = .non := a
    rw [decide_eq_true e]
    exact q
  | some x => rw [decide_eq_false a.2]; exact q

/-! ### tests -/
theorem et_b {b : Bool} (h : Ev te σ F O (val rB b)) : EvT (tTest te) σ F O b := fun H k Q q => h H k _ fun v F' H' g e => ⟨b, e, q F' H' g⟩
theorem et_B {b : Bool} (h : Ev te σ F O (val rB b)) : EvT (tB te) σ F O b := fun H k Q q => h H k _ fun v F' H' g e => ⟨b, e, q F' H' g⟩
theorem et_not {b : Bool} (h : EvT tt σ F O b) : EvT (tNot tt) σ F O (!b) := fun H k Q q => h H k _ fun F' H' g => q F' H' g
theorem Ok.at {F H F' H' : Hp} {O : Own} (k : Ok F O H) (g : Gr F H F' H') : Ok F' O H' := k.gr g
theorem et_and {a b : Bool} (h1 : EvT tt σ F O a) (h2 : a = true → EvT tu σ F O b) (h3 : a = false → b = false) : EvT (tAnd tt tu) σ F O b := fun H k Q q => h1 H k _ fun F' H' g => by
  cases a with
  | true =>
    show tu σ H' Q
    exact (h2 rfl).mono g.f H' (k.gr g) Q fun F2 H2 g2 => q F2 H2 (g.trans g2)
  | false =>
    show Q false H'
    rw [← h3 rfl]
    exact q F' H' g
theorem et_or {a b : Bool} (h1 : EvT tt σ F O a) (h2 : a = false → EvT tu σ F O b) (h3 : a = true → b = true) : EvT (tOr tt tu) σ F O b := fun H k Q q => h1 H k _ fun F' H' g => by
  cases a with
  | false =>
    show tu σ H' Q
    exact (h2 rfl).mono g.f H' (k.gr g) Q fun F2 H2 g2 => q F2 H2 (g.trans g2)
  | true =>
    show Q true H'
    rw [← h3 rfl]
    exact q F' H' g
theorem ev_and {a b : Bool} (h1 : Ev ta σ F O (val rB a)) (h2 : a = true → Ev tb σ F O (val rB b)) (h3 : a = false → b = false) : Ev (tAndV ta tb) σ F O (val rB b) := fun H k Q q => h1 H k _ fun v F' H' g e => ⟨a, e, by
  cases a with
  | true =>
    show tb σ H' Q
    exact (h2 rfl).mono g.f H' (k.gr g) Q fun v F2 H2 g2 => q v F2 H2 (g.trans g2)
  | false =>
    show Q (.bl false) H'
    exact q _ F' H' g (by rw [h3 rfl]; rfl)⟩
theorem ev_or {a b : Bool} (h1 : Ev ta σ F O (val rB a)) (h2 : a = false → Ev tb σ F O (val rB b)) (h3 : a = true → b = true) : Ev (tOrV ta tb) σ F O (val rB b) := fun H k Q q => h1 H k _ fun v F' H' g e => ⟨a, e, by
  cases a with
  | false =>
    show tb σ H' Q
    exact (h2 rfl).mono g.f H' (k.gr g) Q fun v F2 H2 g2 => q v F2 H2 (g.trans g2)
  | true =>
    show Q (.bl true) H'
    exact q _ F' H' g (by rw [h3 rfl]; rfl)⟩
theorem ev_not {b : Bool} (h : Ev te σ F O (val rB b)) : Ev (tNotV te) σ F O (val rB (!b)) := fun H k Q q => h H k _ fun v F' H' g e => ⟨b, e, q _ F' H' g rfl⟩
theorem ev_if {b : Bool} (h : EvT tt σ F O b) (h1 : b = true → Ev ta σ F O A) (h2 : b = false → Ev tb σ F O A) : Ev (tIf tt ta tb) σ F O A := fun H k Q q => h H k _ fun F' H' g => by
  cases b with
  | true =>
    show ta σ H' Q
    exact (h1 rfl).mono g.f H' (k.gr g) Q fun v F2 H2 g2 => q v F2 H2 (g.trans g2)
  | false =>
    show tb σ H' Q
    exact (h2 rfl).mono g.f H' (k.gr g) Q fun v F2 H2 g2 => q v F2 H2 (g.trans g2)
/-- a < b < c -/
theorem ev_chain {r r' : R2} {b1 b2 : Bool} (ha : Ev ta σ F O A) (hb : Ev tb σ F O B) (ho : Op2 r A B (val rB b1)) (hc : b1 = true → Ev tc σ F O C) (ho2 : b1 = true → Op2 r' B C (val rB b2)) (h3 : b1 = false → b2 = false) : Ev (tChain r r' ta tb tc) σ F O (val rB b2) := fun H k Q q =>
  two ha hb k fun v w F1 H1 g e a b => ho v w F1 H1 _ e a b fun u F2 H2 g2 c => ⟨b1, c, by
    cases b1 with
    | true =>
      show tc σ H2 _
      exact (hc rfl).mono (g.trans g2).f H2 (k.gr (g.trans g2)) _ fun z F3 H3 g3 cz => ho2 rfl w z F3 H3 Q g3.fh (B.mono (g2.trans g3).f (g2.trans g3).h b) cz fun x F4 H4 g4 cx => q x F4 H4 ((g.trans g2).trans (g3.trans g4)) cx
    | false =>
      show Q (.bl false) H2
      exact q _ F2 H2 (g.trans g2) (by rw [h3 rfl]; rfl)⟩

/-! ### arguments, built-ins, calls -/
theorem ea_nil : EvA tNil σ F O [] := fun H k Q q => q [] F H (Gr.refl k.ex) trivial
theorem ea_cons {tr : TA} {as : List Ar} (h : Ev te σ F O A) (hr : EvA tr σ F O as) : EvA (tCons te tr) σ F O (A :: as) := fun H k Q q =>
  h H k _ fun v F1 H1 g1 a => hr.mono g1.f H1 (k.gr g1) _ fun vs F2 H2 g2 b => q (v :: vs) F2 H2 (g1.trans g2) ⟨A.mono g2.f g2.h a, b⟩
def Cb (r : List V → Hp → VK → Prop) (as : List Ar) (C : Ar) : Prop := ∀ vs F H (Q : VK), Same F H → AllA as vs F H → (∀ u F' H', Gr F H F' H' → C.p u F' H' → Q u H') → r vs H Q
def CbN {α : Type} (r : List V → Hp → VK → Prop) (as : List Ar) (R : Rep α) (bs : List α) : Prop := ∀ vs F H (Q : VK), Same F H → AllA as vs F H →
  (∀ p xs F' H', Gr F H F' H' → H p = none → F' p = none → H' p = some (.lst xs) → AllB R bs xs F' → Q (.ref p) H') → r vs H Q
theorem ev_cb {r : List V → Hp → VK → Prop} {ta : TA} {as : List Ar} (h : EvA ta σ F O as) (hr : Cb r as C) : Ev (tCB r ta) σ F O C := fun H k Q q =>
  h H k _ fun vs F1 H1 g1 a => hr vs F1 H1 Q g1.fh a fun u F2 H2 g2 c => q u F2 H2 (g1.trans g2) c
theorem ev_cbN {r : List V → Hp → VK → Prop} {ta : TA} {as : List Ar} {bs : List α} (h : EvA ta σ F O as) (hr : CbN r as R bs) : EvN (tCB r ta) σ F O R bs := fun H k Q q =>
  h H k _ fun vs F1 H1 g1 a => hr vs F1 H1 Q g1.fh a fun p xs F2 H2 g2 n f x c => q p xs F2 H2 (g1.trans g2) (gr_none g1 n) f x c
theorem cb_sc {r : List V → Hp → VK → Prop} {as : List Ar} {c : γ} {Rc : Rep γ} {f : γ → V} (hf : Fl Rc f) (h : ∀ vs F H (Q : VK), Same F H → AllA as vs F H → Q (f c) H → r vs H Q) : Cb r as (val Rc c) := fun vs F H Q e a q =>
  h vs F H Q e a (q _ F H (Gr.refl e) (hf.of c F))
/-- what one, two arguments are -/
theorem alla1 {F H : Hp} {vs : List V} {A : Ar} (h : AllA [A] vs F H) : ∃ v, vs = [v] ∧ A.p v F H := by
  match vs, h with
  | [v], h => exact ⟨v, rfl, h.1⟩
theorem alla2 {F H : Hp} {vs : List V} {A B : Ar} (h : AllA [A, B] vs F H) : ∃ v w, vs = [v, w] ∧ A.p v F H ∧ B.p w F H := by
  match vs, h with
  | [v, w], h => exact ⟨v, w, rfl, h.1, h.2.1⟩
theorem alla3 {F H : Hp} {vs : List V} {A B C : Ar} (h : AllA [A, B, C] vs F H) : ∃ v w x, vs = [v, w, x] ∧ A.p v F H ∧ B.p w F H ∧ C.p x F H := by
  match vs, h with
  | [v, w, x], h => exact ⟨v, w, x, rfl, h.1, h.2.1, h.2.2.1⟩
theorem sq_of {H : Hp} {p : Addr} {xs : List V} (h : H p = some (.lst xs)) : SqL K H p xs := Or.inl (Or.inl h)
theorem st_of {H : Hp} {p : Addr} {xs : List V} (h : H p = some (.tup xs)) : SqT K H p xs := Or.inl (Or.inl h)

def cLen (K : PySem.W.Frag) : List V → Hp → VK → Prop := fun xs H Q => ∃ x n, xs = [x] ∧ LenV K x H n ∧ Q (.int n) H
theorem call_cLen {X : Cx} : CallR X (.builtin "len") (cLen X.K) := call_len
theorem mk_len (l : List Nat) : (mk l).length = l.length := by
  show l.toArray.size = l.length
  simp
theorem b_lenS {l : List Nat} : Cb (cLen K) [val rS l] (val rInt (l.length : Int)) := cb_sc flI fun vs F H Q e a q => by
  obtain ⟨v, rfl, a2⟩ := alla1 a
  have a3 : v = .str (mk l) ∧ OkS l := a2
  refine ⟨v, l.length, rfl, ?_, q⟩
  rw [a3.1]
  exact ⟨by rw [mk_len]; exact sz_line (sz_lim a3.2.1), (mk_len l).symm⟩
theorem b_lenL {as : List α} : Cb (cLen K) [spn R as] (val rInt (as.length : Int)) := cb_sc flI fun vs F H Q e a q => by
  obtain ⟨v, rfl, p, xs, rfl, h, hx⟩ := alla1 a
  exact ⟨_, as.length, rfl, Or.inl ⟨xs, sq_of h, hx.all.len⟩, q⟩
theorem b_lenT {as : List α} : Cb (cLen K) [val (rTL R) as] (val rInt (as.length : Int)) := cb_sc flI fun vs F H Q e a q => by
  obtain ⟨v, rfl, p, xs, rfl, h, hx⟩ := alla1 a
  exact ⟨_, as.length, rfl, Or.inr ⟨xs, st_of (e _ _ h), hx.all.len⟩, q⟩
theorem b_lenK {ns : List Int} : Cb (cLen K) [val (rScr K) ns] (val rInt (ns.length : Int)) := cb_sc flI fun vs F H Q e a q => by
  obtain ⟨v, rfl, p, rfl, h, hz⟩ := alla1 a
  exact ⟨_, ns.length, rfl, Or.inl ⟨_, e.seq h, by rw [List.length_map]⟩, q⟩
/-- an int list's sum, greatest -/
theorem b_sum {ns : List Int} : Cb (rSum K) [spn rInt ns] (val rInt ns.sum) := cb_sc flI fun vs F H Q e a q => by
  obtain ⟨v, rfl, p, xs, rfl, h, hx⟩ := alla1 a
  refine ⟨p, ns, rfl, ?_, q⟩
  rw [← hx.all.map flI]
  exact sq_of h
theorem b_max {ns : List Int} {m : Int} (hm : m ∈ ns) (hle : ∀ y ∈ ns, y ≤ m) : Cb (rMax K) [spn rInt ns] (val rInt m) := cb_sc flI fun vs F H Q e a q => by
  obtain ⟨v, rfl, p, xs, rfl, h, hx⟩ := alla1 a
  refine ⟨p, ns, rfl, ?_, List.length_pos_of_mem hm, fun m' h1 h2 => ?_⟩
  · rw [← hx.all.map flI]
    exact sq_of h
  · rw [Int.le_antisymm (hle _ h1) (h2 _ hm)]
    exact q
theorem b_min {ns : List Int} {m : Int} (hm : m ∈ ns) (hle : ∀ y ∈ ns, m ≤ y) : Cb (rMin K) [spn rInt ns] (val rInt m) := cb_sc flI fun vs F H Q e a q => by
  obtain ⟨v, rfl, p, xs, rfl, h, hx⟩ := alla1 a
  refine ⟨p, ns, rfl, ?_, List.length_pos_of_mem hm, fun m' h1 h2 => ?_⟩
  · rw [← hx.all.map flI]
    exact sq_of h
  · rw [Int.le_antisymm (h2 _ hm) (hle _ h1)]
    exact q
theorem b_all {bs : List Bool} : Cb (rAll K) [spn rB bs] (val rB (bs.all id)) := cb_sc flB fun vs F H Q e a q => by
  obtain ⟨v, rfl, p, xs, rfl, h, hx⟩ := alla1 a
  refine ⟨p, bs, rfl, ?_, q⟩
  rw [← hx.all.map flB]
  exact sq_of h
theorem b_any {bs : List Bool} : Cb (rAny K) [spn rB bs] (val rB (bs.any id)) := cb_sc flB fun vs F H Q e a q => by
  obtain ⟨v, rfl, p, xs, rfl, h, hx⟩ := alla1 a
  refine ⟨p, bs, rfl, ?_, q⟩
  rw [← hx.all.map flB]
  exact sq_of h
def cMax2 : List V → Hp → VK → Prop := fun xs H Q => ∃ i j, xs = [.int i, .int j] ∧ Q (.int (if j > i then j else i)) H
def cMin2 : List V → Hp → VK → Prop := fun xs H Q => ∃ i j, xs = [.int i, .int j] ∧ Q (.int (if j < i then j else i)) H
theorem call_cMax2 {X : Cx} (hc : X.calm = true) : CallR X (.builtin "max") cMax2 := call_max2 hc
theorem call_cMin2 {X : Cx} (hc : X.calm = true) : CallR X (.builtin "min") cMin2 := call_min2 hc
theorem b_max2 : Cb cMax2 [val rInt i, val rInt j] (val rInt (max i j)) := cb_sc flI fun vs F H Q e a q => by
  obtain ⟨v, w, rfl, a, b⟩ := alla2 a
  have a' : v = .int i := a
  have b' : w = .int j := b
  subst a' b'
  refine ⟨i, j, rfl, ?_⟩
  have e : (if j > i then j else i) = max i j := by
    by_cases h : j > i
    · rw [if_pos h]; omega
    · rw [if_neg h]; omega
  rw [e]
  exact q
theorem b_min2 : Cb cMin2 [val rInt i, val rInt j] (val rInt (min i j)) := cb_sc flI fun vs F H Q e a q => by
  obtain ⟨v, w, rfl, a, b⟩ := alla2 a
  have a' : v = .int i := a
  have b' : w = .int j := b
  subst a' b'
  refine ⟨i, j, rfl, ?_⟩
  have e : (if j < i then j else i) = min i j := by
    by_cases h : j < i
    · rw [if_pos h]; omega
    · rw [if_neg h]; omega
  rw [e]
  exact q
def cInt : List V → Hp → VK → Prop := fun xs H Q => (∃ i, xs = [.int i] ∧ Q (.int i) H) ∨ ∃ k, xs = [.bl k] ∧ Q (.int (if k then 1 else 0)) H
theorem call_cInt {X : Cx} : CallR X (.type "int") cInt := call_int1
theorem b_intB {b : Bool} : Cb cInt [val rB b] (val rInt (if b then 1 else 0)) := cb_sc flI fun vs F H Q e a q => by
  obtain ⟨v, rfl, a2⟩ := alla1 a
  have a3 : v = .bl b := a2
  subst a3
  exact Or.inr ⟨b, rfl, q⟩
/-- a list that was there is made new -/
def cList (K : PySem.W.Frag) : List V → Hp → VK → Prop := fun xs H Q => ∃ p ys, xs = [.ref p] ∧ (SqL K H p ys ∨ SqT K H p ys) ∧ ∀ l, H l = none → Q (.ref l) (upd H l (.lst ys))
theorem call_cList {X : Cx} : CallR X (.type "list") (cList X.K) := call_list_of
theorem new_post {F H : Hp} {Q : VK} {xs : List V} {as : List α} (e : Same F H) (hx : AllB R as xs F) (q : ∀ p xs F' H', Gr F H F' H' → H p = none → F' p = none → H' p = some (.lst xs) → AllB R as xs F' → Q (.ref p) H') :
    ∀ l, H l = none → Q (.ref l) (upd H l (.lst xs)) := fun l hl => q l xs F _ (Gr.gar e hl) hl (free_of e hl) upd_same hx
theorem b_list {as : List α} : CbN (cList K) [spn R as] R as := fun vs F H Q e a q => by
  obtain ⟨v, rfl, p, xs, rfl, h, hx⟩ := alla1 a
  exact ⟨p, xs, rfl, Or.inl (sq_of h), new_post e hx q⟩
theorem b_listT {as : List α} : CbN (cList K) [val (rTL R) as] R as := fun vs F H Q e a q => by
  obtain ⟨v, rfl, p, xs, rfl, h, hx⟩ := alla1 a
  exact ⟨p, xs, rfl, Or.inr (st_of (e _ _ h)), new_post e hx q⟩

/-! ### displays, slices, subscripts -/
def AllV (R : Rep α) : List α → List Ar := fun as => as.map (val R)
theorem alla_all {F H : Hp} : ∀ {as : List α} {vs : List V}, AllA (AllV R as) vs F H → All2 R as vs F
  | [], [], _ => trivial
  | _ :: _, _ :: _, h => ⟨h.1, alla_all h.2⟩
  | [], _ :: _, h => h.elim
  | _ :: _, [], h => h.elim
theorem ev_lst {ta : TA} {as : List α} (h : EvA ta σ F O (AllV R as)) (hl : as.length ≤ limL) : EvN (tLst ta) σ F O R as := fun H k Q q =>
  h H k _ fun vs F1 H1 g1 a => by
    have b : AllB R as vs F1 := ⟨alla_all a, hl⟩
    exact ⟨sz_line b.sz, fun p hp => q p vs F1 _ (g1.trans (Gr.gar g1.fh hp)) (gr_none g1 hp) (free_of g1.fh hp) upd_same b⟩
theorem ev_tupL {ta : TA} {as : List α} (h : EvA ta σ F O (AllV R as)) (hl : as.length ≤ limL) : Ev (tTup ta) σ F O (val (rTL R) as) := fun H k Q q =>
  h H k _ fun vs F1 H1 g1 a => by
    have b : AllB R as vs F1 := ⟨alla_all a, hl⟩
    exact ⟨sz_line b.sz, fun p hp => q (.ref p) (upd F1 p (.tup vs)) _ (g1.trans (Gr.frz g1.fh hp)) ⟨p, vs, rfl, upd_same, b.mono (same_new (free_of g1.fh hp))⟩⟩
theorem ev_tup2 {ta : TA} {a : α} {b : β} (h : EvA ta σ F O [val R a, val R' b]) : Ev (tTup ta) σ F O (val (rT2 R R') (a, b)) := fun H k Q q =>
  h H k _ fun vs F1 H1 g1 a => by
    obtain ⟨v, w, rfl, h1, h2⟩ := alla2 a
    refine ⟨by show 2 ≤ sizeLine; decide, fun p hp => q (.ref p) (upd F1 p (.tup [v, w])) _ (g1.trans (Gr.frz g1.fh hp)) ⟨p, v, w, rfl, upd_same, R.mono (same_new (free_of g1.fh hp)) h1, R'.mono (same_new (free_of g1.fh hp)) h2⟩⟩
theorem ev_tup3 {δ : Type} {R'' : Rep δ} {ta : TA} {a : α} {b : β} {c : δ} (h : EvA ta σ F O [val R a, val R' b, val R'' c]) : Ev (tTup ta) σ F O (val (rT3 R R' R'') (a, b, c)) := fun H k Q q =>
  h H k _ fun vs F1 H1 g1 a => by
    obtain ⟨v, w, x, rfl, h1, h2, h3⟩ := alla3 a
    refine ⟨by show 3 ≤ sizeLine; decide, fun p hp => q (.ref p) (upd F1 p (.tup [v, w, x])) _ (g1.trans (Gr.frz g1.fh hp)) ⟨p, v, w, x, rfl, upd_same, R.mono (same_new (free_of g1.fh hp)) h1, R'.mono (same_new (free_of g1.fh hp)) h2, R''.mono (same_new (free_of g1.fh hp)) h3⟩⟩
/-- a slice -/
def cutL {α : Type} (as : List α) (lo hi : Option Int) : List α := (as.drop (HT.sIx as.length 0 lo)).take (HT.sIx as.length as.length hi - HT.sIx as.length 0 lo)
theorem cutL_len {α : Type} (as : List α) (lo hi : Option Int) : (cutL as lo hi).length ≤ as.length := by
  unfold cutL
  rw [List.length_take, List.length_drop]
  omega
theorem cut_all {F : Hp} {as : List α} {xs : List V} (h : AllB R as xs F) (lo hi : Option Int) : AllB R (cutL as lo hi) (cutV xs lo hi) F := by
  refine ⟨?_, Nat.le_trans (cutL_len _ _ _) h.len⟩
  unfold cutL cutV
  rw [h.all.len]
  exact (h.all.drop _).take _
def EvO (to : TO) (σ : L2.St) (F : Hp) (O : Own) (o : Option Int) : Prop := ∀ H, Ok F O H → ∀ Q : Option Int → Hp → Prop, (∀ F' H', Gr F H F' H' → Q o H') → to σ H Q
theorem EvO.mono {to : TO} {o : Option Int} (h : EvO to σ F O o) (e : Same F F1) : EvO to σ F1 O o := fun H k Q q =>
  h H (k.less e) Q fun F' H' g => q (un F1 F') H' (gr_un e k.ex g)
theorem ep_none : EvO tNoPart σ F O none := fun H k Q q => q F H (Gr.refl k.ex)
theorem ep_some (h : Ev te σ F O (val rInt i)) : EvO (tPart te) σ F O (some i) := fun H k Q q => h H k _ fun v F' H' g e => ⟨i, e, q F' H' g⟩
theorem three {to th : TO} {lo hi : Option Int} (h : Ev te σ F O A) (h1 : EvO to σ F O lo) (h2 : EvO th σ F O hi) {H : Hp} (k : Ok F O H) {Q : V → Option Int → Option Int → Hp → Prop}
    (q : ∀ v F' H', Gr F H F' H' → Same F' H' → A.p v F' H' → Q v lo hi H') : te σ H fun x H1 => to σ H1 fun l H2 => th σ H2 fun u H3 => Q x l u H3 :=
  h H k _ fun v F1 H1 g1 a => (h1.mono g1.f) H1 (k.gr g1) _ fun F2 H2 g2 => (h2.mono (g1.trans g2).f) H2 (k.gr (g1.trans g2)) _ fun F3 H3 g3 => q v F3 H3 ((g1.trans g2).trans g3) g3.fh (A.mono (g2.trans g3).f (g2.trans g3).h a)
theorem ev_slL {to th : TO} {lo hi : Option Int} {as : List α} (h : Ev te σ F O (spn R as)) (h1 : EvO to σ F O lo) (h2 : EvO th σ F O hi) : EvN (tSl (rSlL K) te to th) σ F O R (cutL as lo hi) := fun H k Q q =>
  three h h1 h2 k fun v F1 H1 g e ⟨p, xs, ev, hp, hx⟩ => ⟨p, xs, ev, sq_of hp, fun l hl => q l _ F1 _ (g.trans (Gr.gar e hl)) (gr_none g hl) (free_of e hl) upd_same (cut_all hx lo hi)⟩
theorem ev_slK {to th : TO} {lo hi : Option Int} {ns : List Int} (h : Ev te σ F O (val (rScr K) ns)) (h1 : EvO to σ F O lo) (h2 : EvO th σ F O hi) : EvN (tSl (rSlL K) te to th) σ F O rInt (cutL ns lo hi) := fun H k Q q =>
  three h h1 h2 k fun v F1 H1 g e ⟨p, ev, hp, hz⟩ => ⟨p, _, ev, e.seq hp, fun l hl => q l _ F1 _ (g.trans (Gr.gar e hl)) (gr_none g hl) (free_of e hl) upd_same (cut_all ⟨All2.of_map flI ns, hz⟩ lo hi)⟩
theorem ev_slS {to th : TO} {lo hi : Option Int} {l : List Nat} (h : Ev te σ F O (val rS l)) (h1 : EvO to σ F O lo) (h2 : EvO th σ F O hi) : Ev (tSl rSlS te to th) σ F O (val rS (cutL l lo hi)) := fun H k Q q =>
  three h h1 h2 k fun v F1 H1 g e a => by
    refine ⟨mk l, a.1, by rw [mk_len]; exact sz_line (sz_lim a.2.1), q _ F1 H1 g ⟨?_, Nat.le_trans (cutL_len _ _ _) a.2.1, fun c m => ?_⟩⟩
    · unfold cutS cutL
      rw [mk_len]
    · exact a.2.2 c (List.mem_of_mem_drop (List.mem_of_mem_take m))
/-- xs[::-1] -/
theorem ev_rev {as : List α} (h : Ev te σ F O (spn R as)) : EvN (tRevL K te) σ F O R as.reverse := fun H k Q q =>
  h H k _ fun v F1 H1 g ⟨p, xs, ev, hp, hx⟩ => ⟨p, xs, ev, sq_of hp, fun l hl => q l _ F1 _ (g.trans (Gr.gar g.fh hl)) (gr_none g hl) (free_of g.fh hl) upd_same ⟨hx.all.rev, by rw [List.length_reverse]; exact hx.len⟩⟩
theorem atI_get {F : Hp} {as : List α} {xs : List V} {a : α} (h : All2 R as xs F) (e : atI as i = some a) : ∃ v, atI xs i = some v ∧ R.rp a v F := by
  unfold atI at e ⊢
  rw [← h.len]
  cases q : ixN as.length i with
  | none => rw [q] at e; cases e
  | some j =>
    rw [q] at e
    exact h.get e
theorem o_ixL {as : List α} {a : α} (e : atI as i = some a) : Op2 (rIxL K) (spn R as) (val rInt i) (val R a) := fun v w F H Q k ⟨p, xs, ev, hp, hx⟩ b q => by
  obtain ⟨y, e1, r⟩ := atI_get hx.all e
  exact ⟨p, xs, i, y, ev, b, sq_of hp, e1, q y F H (Gr.refl k) r⟩
theorem o_ixTL {as : List α} {a : α} (e : atI as i = some a) : Op2 (rIxT K) (val (rTL R) as) (val rInt i) (val R a) := fun v w F H Q k ⟨p, xs, ev, hp, hx⟩ b q => by
  obtain ⟨y, e1, r⟩ := atI_get hx.all e
  exact ⟨p, xs, i, y, ev, b, st_of (k _ _ hp), e1, q y F H (Gr.refl k) r⟩
theorem o_ixK {ns : List Int} {a : Int} (e : atI ns i = some a) : Op2 (rIxL K) (val (rScr K) ns) (val rInt i) (val rInt a) := fun v w F H Q k ⟨p, ev, hp, hz⟩ b q => by
  obtain ⟨y, e1, r⟩ := atI_get (All2.of_map flI (F := F) ns) e
  exact ⟨p, _, i, y, ev, b, k.seq hp, e1, q y F H (Gr.refl k) r⟩
theorem o_ixS {l : List Nat} {c : Nat} (e : atI l i = some c) : Op2 rIxS (val rS l) (val rInt i) (val rC c) := fun v w F H Q k a b q => by
  have hc : c < 128 := a.2.2 c (by
    unfold atI at e
    cases z : ixN l.length i with
    | none => rw [z] at e; cases e
    | some j =>
      rw [z] at e
      exact List.mem_of_getElem? e)
  exact ⟨mk l, i, c, a.1, b, by rw [mk_len]; exact sz_line (sz_lim a.2.1), e, q _ F H (Gr.refl k) ⟨rfl, hc⟩⟩
theorem o_ixA {a : α} {b : β} : Op2 (rIxT K) (val (rT2 R R') (a, b)) (val rInt 0) (val R a) := fun v w F H Q k ⟨p, x, y, ev, hp, h1, h2⟩ e q =>
  ⟨p, _, 0, x, ev, e, st_of (k _ _ hp), rfl, q x F H (Gr.refl k) h1⟩
theorem o_ixB {a : α} {b : β} : Op2 (rIxT K) (val (rT2 R R') (a, b)) (val rInt 1) (val R' b) := fun v w F H Q k ⟨p, x, y, ev, hp, h1, h2⟩ e q =>
  ⟨p, _, 1, y, ev, e, st_of (k _ _ hp), rfl, q y F H (Gr.refl k) h2⟩
/-- list + list, list * n -/
theorem o_catL {as bs : List α} (hz : (as ++ bs).length ≤ limL) : Op2N rCat (spn R as) (spn R bs) R (as ++ bs) := fun v w F H Q e ⟨p, xs, ev, hp, hx⟩ ⟨r, ys, ew, hr, hy⟩ q => by
  have b : AllB R (as ++ bs) (xs ++ ys) F := ⟨hx.all.app hy.all, hz⟩
  exact ⟨p, r, xs, ys, ev, ew, hp, hr, by have := b.sz; rw [List.length_append] at this; exact sz_line this, new_post e b q⟩
theorem all_rep {F : Hp} {as : List α} {xs : List V} (h : All2 R as xs F) : ∀ n : Nat, All2 R (List.replicate n as).flatten (List.replicate n xs).flatten F
  | 0 => trivial
  | n + 1 => by
    rw [List.replicate_succ, List.replicate_succ, List.flatten_cons, List.flatten_cons]
    exact h.app (all_rep h n)
theorem sum_rep (k : Nat) : ∀ n : Nat, (List.replicate n k).sum = n * k
  | 0 => by simp
  | n + 1 => by rw [List.replicate_succ, List.sum_cons, sum_rep k n, Nat.succ_mul, Nat.add_comm]
theorem o_repL {as : List α} {n : Int} (h0 : -(2 ^ 63) ≤ n) (h1 : n < 2 ^ 63) (hz : ((List.replicate n.toNat as).flatten).length ≤ limL) : Op2N rRep (spn R as) (val rInt n) R (List.replicate n.toNat as).flatten := fun v w F H Q e ⟨p, xs, ev, hp, hx⟩ ew q => by
  have b : AllB R (List.replicate n.toNat as).flatten (List.replicate n.toNat xs).flatten F := ⟨all_rep hx.all _, hz⟩
  refine ⟨p, n, xs, ev, ew, hp, h0, h1, ?_, new_post e b q⟩
  have := b.sz
  rw [List.length_flatten, List.map_replicate, sum_rep] at this
  exact sz_line (by rw [Nat.mul_comm]; exact this)

/-! ### calls of the text's defs -/
/-- what a def is worth: by what its arguments stand for -/
def spG (P : List Ar → Ar → Prop) : Sp := fun vs H Q _ => ∃ F As C, P As C ∧ Same F H ∧ AllA As vs F H ∧ ∀ v F' H', Gr F H F' H' → C.p v F' H' → Q v H'
def spN {α : Type} (R : Rep α) (P : List Ar → List α → Prop) : Sp := fun vs H Q _ => ∃ F As bs, P As bs ∧ Same F H ∧ AllA As vs F H ∧
  ∀ p xs F' H', Gr F H F' H' → H p = none → F' p = none → H' p = some (.lst xs) → AllB R bs xs F' → Q (.ref p) H'
theorem ev_call {P : List Ar → Ar → Prop} {E : XK} {ta : TA} {as : List Ar} (h : EvA ta σ F O as) (hp : P as C) : Ev (tCall (spG P) [] E ta) σ F O C := fun H k Q q =>
  h H k _ fun vs F1 H1 g1 a => ⟨F1, as, C, hp, g1.fh, by rw [List.append_nil]; exact a, fun v F2 H2 g2 c => q v F2 H2 (g1.trans g2) c⟩
theorem ev_callN {P : List Ar → List α → Prop} {E : XK} {ta : TA} {as : List Ar} {bs : List α} (h : EvA ta σ F O as) (hp : P as bs) : EvN (tCall (spN R P) [] E ta) σ F O R bs := fun H k Q q =>
  h H k _ fun vs F1 H1 g1 a => ⟨F1, as, bs, hp, g1.fh, by rw [List.append_nil]; exact a, fun p xs F2 H2 g2 n f x c => q p xs F2 H2 (g1.trans g2) (gr_none g1 n) f x c⟩
/-- a list's arguments are as many as the values -/
theorem alla_len {F H : Hp} : ∀ {as : List Ar} {vs : List V}, AllA as vs F H → vs.length = as.length
  | [], [], _ => rfl
  | _ :: _, _ :: _, h => by rw [List.length_cons, List.length_cons, alla_len h.2]
  | [], _ :: _, h => h.elim
  | _ :: _, [], h => h.elim
/-- with all owned things frozen for a while: where the answer is a scalar -/
def frzA (F : Hp) : Own → Hp
  | [] => F
  | q :: O => upd (frzA F O) q.1 q.2
theorem frz_same : ∀ {O : Own} {H : Hp}, Ok F O H → Same (frzA F O) H
  | [], _, k => k.ex
  | q :: O, H, k => fun a u e => by
    have ih := frz_same (O := O) ⟨k.ex, fun r m => k.own r (List.mem_cons_of_mem _ m)⟩
    by_cases z : a = q.1
    · subst z
      have e2 : upd (frzA F O) q.1 q.2 q.1 = some u := e
      rw [upd_same] at e2
      cases e2
      exact (k.own q (List.mem_cons_self ..)).2
    · have e2 : upd (frzA F O) q.1 q.2 a = some u := e
      rw [upd_ne z] at e2
      exact ih a u e2
theorem ev_peek {c : γ} {Rc : Rep γ} {f : γ → V} (hf : Fl Rc f) (h : Ev te σ (frzA F O) [] (val Rc c)) : Ev te σ F O (val Rc c) := fun H k Q q =>
  h H ⟨frz_same k, fun _ m => (by cases m)⟩ Q fun v F' H' g a => by
    rw [hf.to a]
    exact q _ F H' ⟨Same.refl _, g.h, k.ex.trans g.h, fun _ n _ => n⟩ (hf.of c F)
theorem et_peek {b : Bool} (h : EvT tt σ (frzA F O) [] b) : EvT tt σ F O b := fun H k Q q =>
  h H ⟨frz_same k, fun _ m => (by cases m)⟩ Q fun F' H' g => q F H' ⟨Same.refl _, g.h, k.ex.trans g.h, fun _ n _ => n⟩
end
end Lm
/-! Lm: what is walked, for, comprehensions, while. -/
namespace Lm
open PySem PySem.Spec L2

/-- an iterator yields the things as, one by one -/
def Wk {α : Type} (J : It) (F : Hp) (R : Rep α) (as : List α) : Prop := as.length ≤ limL ∧ ∀ i F' H', Same F F' → Same F' H' →
  (∀ a, as[i]? = some a → J.go i H' ∧ ∀ x H2, J.yld i H' x H2 → ∃ F2, Gr F' H' F2 H2 ∧ R.rp a x F2) ∧ (as.length ≤ i → J.stop i H')
def EvI {α : Type} (wi : TI) (σ : L2.St) (F : Hp) (O : Own) (R : Rep α) (as : List α) : Prop := ∀ H, Ok F O H → ∀ Q : It → Hp → Prop, (∀ J F' H', Gr F H F' H' → Wk J F' R as → Q J H') → wi σ H Q
/-- a target takes a thing -/
def Tg {α : Type} (g : TG) (R : Rep α) (P : α → L2.St → L2.St → Hp → Prop) : Prop := ∀ a x σ F H (Q : L2.St → Hp → Prop), R.rp a x F → Same F H → (∀ σ', P a σ σ' F → Q σ' H) → g x σ H Q
section
variable {α β γ ρ S : Type} {R : Rep α} {R' : Rep β} {Z : Bs} {D : Ends} {σ : L2.St} {F : Hp} {O : Own} {te tl ta tb : TE} {tt : TT} {K : PySem.W.Frag} {i j : Nat}
theorem tg_n : Tg (gName j) R fun a σ σ' F => ∃ v, σ' = σ.set j (some v) ∧ R.rp a v F := fun a x σ F H Q r _ q => q _ ⟨x, rfl, r⟩
theorem tg_2 : Tg (gTup K 2 (gCons (gName i) (gCons (gName j) gNil))) (rT2 R R') fun a σ σ' F => ∃ v w, σ' = (σ.set i (some v)).set j (some w) ∧ R.rp a.1 v F ∧ R'.rp a.2 w F := fun a x σ F H Q ⟨p, v, w, ev, hp, h1, h2⟩ e q =>
  ⟨p, [v, w], ev, st_of (e _ _ hp), rfl, v, [w], rfl, w, [], rfl, rfl, q _ ⟨v, w, rfl, h1, h2⟩⟩
theorem tg_3 {δ : Type} {R'' : Rep δ} {k : Nat} : Tg (gTup K 3 (gCons (gName i) (gCons (gName j) (gCons (gName k) gNil)))) (rT3 R R' R'') fun a σ σ' F => ∃ v w x, σ' = ((σ.set i (some v)).set j (some w)).set k (some x) ∧ R.rp a.1 v F ∧ R'.rp a.2.1 w F ∧ R''.rp a.2.2 x F := fun a x σ F H Q ⟨p, v, w, y, ev, hp, h1, h2, h3⟩ e q =>
  ⟨p, [v, w, y], ev, st_of (e _ _ hp), rfl, v, [w, y], rfl, w, [y], rfl, y, [], rfl, rfl, q _ ⟨v, w, y, rfl, h1, h2, h3⟩⟩

/-! ### what is walked -/
theorem ei_list {as : List α} (h : Ev tl σ F O (val (rL R) as)) : EvI (iList K tl) σ F O R as := fun H k Q q =>
  h H k _ fun v F1 H1 g ⟨p, xs, ev, hp, hx⟩ => by
    refine ⟨p, ev, ⟨xs, sq_of (g.fh _ _ hp)⟩, q _ F1 H1 g ⟨hx.len, fun i F' H' e e' => ⟨fun a ha => ?_, fun hi => ?_⟩⟩⟩
    · have hq : SqL K H' p xs := sq_of (e' _ _ (e _ _ hp))
      obtain ⟨y, hy, r⟩ := hx.all.get ha
      refine ⟨⟨xs, y, hq, hy⟩, fun x H2 ⟨e1, f⟩ => ?_⟩
      subst e1
      have ex : x = y := Option.some.inj ((f xs hq).symm.trans hy)
      subst ex
      exact ⟨F', Gr.refl e', R.mono e r⟩
    · exact ⟨xs, sq_of (e' _ _ (e _ _ hp)), by rw [← hx.all.len]; exact hi⟩
theorem ei_tup {as : List α} (h : Ev tl σ F O (val (rTL R) as)) : EvI (iTup K tl) σ F O R as := fun H k Q q =>
  h H k _ fun v F1 H1 g ⟨p, xs, ev, hp, hx⟩ => by
    refine ⟨p, ev, ⟨xs, st_of (g.fh _ _ hp)⟩, q _ F1 H1 g ⟨hx.len, fun i F' H' e e' => ⟨fun a ha => ?_, fun hi => ?_⟩⟩⟩
    · have hq : SqT K H' p xs := st_of (e' _ _ (e _ _ hp))
      obtain ⟨y, hy, r⟩ := hx.all.get ha
      refine ⟨⟨xs, y, hq, hy⟩, fun x H2 ⟨e1, f⟩ => ?_⟩
      subst e1
      have ex : x = y := Option.some.inj ((f xs hq).symm.trans hy)
      subst ex
      exact ⟨F', Gr.refl e', R.mono e r⟩
    · exact ⟨xs, st_of (e' _ _ (e _ _ hp)), by rw [← hx.all.len]; exact hi⟩
/-- the script itself -/
theorem ei_scr {ns : List Int} (h : Ev tl σ F O (val (rScr K) ns)) : EvI (iList K tl) σ F O rInt ns := fun H k Q q =>
  h H k _ fun v F1 H1 g ⟨p, ev, hp, hz⟩ => by
    refine ⟨p, ev, ⟨_, g.fh.seq hp⟩, q _ F1 H1 g ⟨hz, fun i F' H' e e' => ⟨fun a ha => ?_, fun hi => ?_⟩⟩⟩
    · have hq : SqL K H' p (ns.map V.int) := e'.seq (e.seq hp)
      have hy : (ns.map V.int)[i]? = some (.int a) := by rw [List.getElem?_map, ha]; rfl
      refine ⟨⟨_, _, hq, hy⟩, fun x H2 ⟨e1, f⟩ => ?_⟩
      subst e1
      have ex : x = .int a := Option.some.inj ((f _ hq).symm.trans hy)
      subst ex
      exact ⟨F', Gr.refl e', rfl⟩
    · exact ⟨_, e'.seq (e.seq hp), by rw [List.length_map]; exact hi⟩
/-- lo, lo + 1, .. below hi -/
def rng (lo hi : Int) : List Int := (List.range (hi - lo).toNat).map fun (i : Nat) => lo + (i : Int)
theorem rng_get {lo hi : Int} {i : Nat} {a : Int} (h : (rng lo hi)[i]? = some a) : i < (hi - lo).toNat ∧ a = lo + (i : Int) := by
  unfold rng at h
  rw [List.getElem?_map] at h
  cases e : (List.range (hi - lo).toNat)[i]? with
  | none => rw [e] at h; cases h
  | some j =>
    rw [e] at h
    obtain ⟨h1, h2⟩ := List.getElem?_eq_some_iff.mp e
    rw [List.getElem_range] at h2
    rw [List.length_range] at h1
    subst h2
    exact ⟨h1, (Option.some.inj h).symm⟩
theorem rng_len (lo hi : Int) : (rng lo hi).length = (hi - lo).toNat := by
  unfold rng
  rw [List.length_map, List.length_range]
theorem wk_rng {F : Hp} {lo hi : Int} (hz : (hi - lo).toNat ≤ limL) : Wk (Itr lo (hi - lo).toNat) F rInt (rng lo hi) := ⟨by rw [rng_len]; exact hz, fun i F' H' e e' => ⟨fun a ha => by
  obtain ⟨h1, h2⟩ := rng_get ha
  refine ⟨h1, fun x H2 ⟨e1, f⟩ => ?_⟩
  subst e1 f h2
  exact ⟨F', Gr.refl e', rfl⟩, fun hi => by
  unfold rng at hi
  rw [List.length_map, List.length_range] at hi
  exact hi⟩⟩
theorem ei_rng1 {ta : TA} {n : Int} (h : EvA ta σ F O [val rInt n]) (h1 : -(2 ^ 62) ≤ n) (h2 : n ≤ (limL : Int)) : EvI (iRng1 ta) σ F O rInt (rng 0 n) := fun H k Q q =>
  h H k _ fun vs F1 H1 g a => by
    obtain ⟨v, rfl, a2⟩ := alla1 a
    have a3 : v = .int n := a2
    subst a3
    refine ⟨n, rfl, h1, by have e9 : (limL : Int) = 4000000 := rfl; omega, ?_⟩
    have e : n.toNat = (n - 0).toNat := by omega
    rw [e]
    exact q _ F1 H1 g (wk_rng (by omega))
theorem ei_rng2 {ta : TA} {lo n : Int} (h : EvA ta σ F O [val rInt lo, val rInt n]) (h1 : -(2 ^ 61) ≤ lo ∧ lo < 2 ^ 61 ∧ -(2 ^ 61) ≤ n ∧ n < 2 ^ 61) (hz : (n - lo).toNat ≤ limL) : EvI (iRng2 ta) σ F O rInt (rng lo n) := fun H k Q q =>
  h H k _ fun vs F1 H1 g a => by
    obtain ⟨v, w, rfl, a2, b2⟩ := alla2 a
    have a3 : v = .int lo := a2
    have b3 : w = .int n := b2
    subst a3 b3
    exact ⟨lo, n, rfl, ⟨by omega, by omega, by omega, by omega⟩, q _ F1 H1 g (wk_rng hz)⟩
theorem ei_str {l : List Nat} (h : Ev tl σ F O (val rS l)) : EvI (iStr tl) σ F O rC l := fun H k Q q =>
  h H k _ fun v F1 H1 g a => by
    refine ⟨mk l, a.1, q _ F1 H1 g ⟨sz_lim a.2.1, fun i F' H' e e' => ⟨fun c hc => ?_, fun hi => ?_⟩⟩⟩
    · have hs : i < (mk l).cps.size := by
        show i < l.toArray.size
        rw [List.size_toArray]
        exact (List.getElem?_eq_some_iff.mp hc).1
      refine ⟨hs, fun x H2 ⟨e1, c', h1, h2⟩ => ?_⟩
      subst e1
      have h3 : l[i]? = some c' := by simpa using h1
      rw [hc] at h3
      cases h3
      exact ⟨F', Gr.refl e', h2, a.2.2 c (List.mem_of_getElem? hc)⟩
    · show l.toArray.size ≤ i
      rw [List.size_toArray]
      exact hi
/-- each with its place -/
def enumL (as : List α) : List (Int × α) := (List.range as.length).zipWith (fun (i : Nat) a => ((i : Int), a)) as
theorem enumL_get {as : List α} {i : Nat} {t : Int × α} (h : (enumL as)[i]? = some t) : as[i]? = some t.2 ∧ t.1 = (i : Int) := by
  unfold enumL at h
  rw [List.getElem?_zipWith] at h
  cases e : as[i]? with
  | none =>
    rw [e] at h
    cases e2 : (List.range as.length)[i]? <;> rw [e2] at h <;> cases h
  | some a =>
    rw [e] at h
    have h1 := (List.getElem?_eq_some_iff.mp e).1
    rw [List.getElem?_range h1] at h
    cases h
    exact ⟨rfl, rfl⟩
theorem enumL_len (as : List α) : (enumL as).length = as.length := by
  unfold enumL
  rw [List.length_zipWith, List.length_range, Nat.min_self]
theorem ei_enum {ta : TA} {as : List α} (h : EvA ta σ F O [val (rL R) as]) : EvI (iEnum K ta) σ F O (rT2 rInt R) (enumL as) := fun H k Q q =>
  h H k _ fun vs F1 H1 g a => by
    obtain ⟨v, rfl, p, xs, ev, hp, hx⟩ := alla1 a
    subst ev
    refine ⟨p, xs, rfl, sq_of (g.fh _ _ hp), q _ F1 H1 g ⟨by rw [enumL_len]; exact hx.len, fun i F' H' e e' => ⟨fun t ht => ?_, fun hi => ?_⟩⟩⟩
    · have hq : SqL K H' p xs := sq_of (e' _ _ (e _ _ hp))
      obtain ⟨ht1, ht2⟩ := enumL_get ht
      obtain ⟨y, hy, r⟩ := hx.all.get ht1
      refine ⟨⟨xs, y, hq, hy⟩, fun x H2 ⟨T, z, ex, hT, e1, f⟩ => ?_⟩
      have ez : z = y := Option.some.inj ((f xs hq).symm.trans hy)
      subst ez ex e1
      refine ⟨upd F' T (.tup [.int (i : Nat), z]), Gr.frz e' hT, T, _, _, rfl, upd_same, ?_, R.mono (e.trans (same_new (free_of e' hT))) r⟩
      show V.int (i : Nat) = V.int t.1
      rw [ht2]
    · rw [enumL_len] at hi
      exact ⟨xs, sq_of (e' _ _ (e _ _ hp)), by rw [← hx.all.len]; exact hi⟩
theorem zip_get {as : List α} {bs : List β} {i : Nat} {t : α × β} (h : (as.zip bs)[i]? = some t) : as[i]? = some t.1 ∧ bs[i]? = some t.2 := by
  rw [List.zip, List.getElem?_zipWith] at h
  cases e : as[i]? with
  | none =>
    rw [e] at h
    cases h
  | some a =>
    cases e2 : bs[i]? with
    | none => rw [e, e2] at h; cases h
    | some b =>
      rw [e, e2] at h
      cases h
      exact ⟨rfl, rfl⟩
theorem ei_zip {ta : TA} {as : List α} {bs : List β} (h : EvA ta σ F O [val (rL R) as, val (rL R') bs]) : EvI (iZip K ta) σ F O (rT2 R R') (as.zip bs) := fun H k Q q =>
  h H k _ fun vs F1 H1 g a => by
    obtain ⟨v, w, rfl, ⟨p, xs, ev, hp, hx⟩, r, ys, ew, hr, hy⟩ := alla2 a
    subst ev ew
    refine ⟨p, r, xs, ys, rfl, sq_of (g.fh _ _ hp), sq_of (g.fh _ _ hr), q _ F1 H1 g ⟨by rw [List.zip, List.length_zipWith]; exact Nat.le_trans (Nat.min_le_left _ _) hx.len, fun i F' H' e e' => ⟨fun t ht => ?_, fun hi => ?_⟩⟩⟩
    · have hq1 : SqL K H' p xs := sq_of (e' _ _ (e _ _ hp))
      have hq2 : SqL K H' r ys := sq_of (e' _ _ (e _ _ hr))
      obtain ⟨ht1, ht2⟩ := zip_get ht
      obtain ⟨y1, hy1, r1⟩ := hx.all.get ht1
      obtain ⟨y2, hy2, r2⟩ := hy.all.get ht2
      refine ⟨⟨xs, ys, y1, y2, hq1, hq2, hy1, hy2⟩, fun x H2 ⟨T, z1, z2, ex, hT, e1, f1, f2⟩ => ?_⟩
      have ez1 : z1 = y1 := Option.some.inj ((f1 xs hq1).symm.trans hy1)
      have ez2 : z2 = y2 := Option.some.inj ((f2 ys hq2).symm.trans hy2)
      subst ez1 ez2 ex e1
      have em := e.trans (same_new (o := .tup [z1, z2]) (free_of e' hT))
      exact ⟨upd F' T (.tup [z1, z2]), Gr.frz e' hT, T, _, _, rfl, upd_same, R.mono em r1, R'.mono em r2⟩
    · rw [List.zip, List.length_zipWith] at hi
      refine ⟨xs, ys, sq_of (e' _ _ (e _ _ hp)), sq_of (e' _ _ (e _ _ hr)), ?_⟩
      rw [← hx.all.len, ← hy.all.len]
      omega

/-! ### for -/
theorem sx_for {f : S → α → Option (Fw ρ S)} {s0 : S} {out : Fw ρ S} {J : S → L2.St → Hp → Own → Prop} {Ro : ρ → V → Hp → Own → Prop} {g : TG} {body : TS} {wi : TI} {as : List α} {P : α → L2.St → L2.St → Hp → Prop}
    (hm : loop f as s0 = some out) (hi : EvI wi σ F O R as) (hg : Tg g R P) (h0 : ∀ F', Same F F' → J s0 σ F' O) (acc : AccL Z D J Ro F out)
    (turn : ∀ s a σ' σ2 F' F2 O' o D', a ∈ as → Same F F' → Same F' F2 → J s σ' F' O' → P a σ' σ2 F2 → f s a = some o → Acc Z D' J Ro F2 o → Sx Z body D' σ2 F2 O') : Sx Z (tFor wi g body) D σ F O := fun H at0 => by
  refine hi H at0.ok _ fun J' F1 H1 g1 wk => ?_
  have acc1 : AccL Z D J Ro F1 out := ⟨fun s e σ2 F2 O2 e2 => acc.nx s e σ2 F2 O2 (g1.f.trans e2), fun r e v F2 O2 e2 => acc.rt r e v F2 O2 (g1.f.trans e2)⟩
  refine ⟨fun k m σ' H' => m = as.length - k ∧ k ≤ as.length ∧ Lw Z f J out as F1 k σ' H', ⟨as.length, by simp, Nat.zero_le _, s0, F1, O, Same.refl _, h0 F1 g1.f, at0.gr g1, hm⟩, fun k m σ' H' ⟨em, hk, w⟩ => ?_⟩
  subst em
  have w' := w
  obtain ⟨_, F', O', e, _, at', _⟩ := w'
  by_cases hlt : k < as.length
  · have ha : as[k]? = some as[k] := List.getElem?_eq_getElem hlt
    obtain ⟨hgo, hy⟩ := (wk.2 k F' H' e at'.ok.ex).1 _ ha
    refine Or.inr ⟨hgo, Lw Z f J out as F1 (k + 1), fun σ2 H2 w2 => ⟨as.length - (k + 1), by omega, rfl, hlt, w2⟩, fun x H2 y => ?_⟩
    refine lw_turn acc1 ha w fun s F' O' o e j2 at' hf ac => ?_
    obtain ⟨F2, g2, r⟩ := ((wk.2 k F' H' e at'.ok.ex).1 _ ha).2 x H2 y
    refine hg _ x σ' F2 H2 _ r g2.fh fun σ2 p => ?_
    refine turn s _ σ' σ2 F' F2 O' o _ (List.mem_of_getElem? ha) (g1.f.trans e) g2.f j2 p hf ?_ H2 (at'.gr g2)
    exact ⟨fun s e σ3 F3 O3 e3 => ac.nx s e σ3 F3 O3 (g2.f.trans e3), fun s e σ3 F3 O3 e3 => ac.bk s e σ3 F3 O3 (g2.f.trans e3), fun r e v F3 O3 e3 => ac.rt r e v F3 O3 (g2.f.trans e3)⟩
  · have e2 : k = as.length := by omega
    exact Or.inl ⟨(wk.2 k F' H' e at'.ok.ex).2 (by omega), lw_end e2 acc1 w⟩

/-! ### while -/
def whileN (c : S → Option Bool) (f : S → Option (Fw ρ S)) : Nat → S → Option (Fw ρ S)
  | 0, _ => none
  | n + 1, s => match c s with
    | some true => (match f s with
      | some (.nx s') => whileN c f n s'
      | some (.rt r) => some (.rt r)
      | some (.bk s') => some (.nx s')
      | none => none)
    | some false => some (.nx s)
    | none => none
theorem sx_while {c : S → Option Bool} {f : S → Option (Fw ρ S)} {n : Nat} {s0 : S} {out : Fw ρ S} {J : S → L2.St → Hp → Own → Prop} {Ro : ρ → V → Hp → Own → Prop} {body : TS}
    (hm : whileN c f n s0 = some out) (h0 : J s0 σ F O) (acc : AccL Z D J Ro F out)
    (test : ∀ s σ' F' O' b, Same F F' → J s σ' F' O' → c s = some b → EvT tt σ' F' O' b)
    (turn : ∀ s σ' F' F2 O' o D', Same F F' → Same F' F2 → J s σ' F' O' → c s = some true → f s = some o → Acc Z D' J Ro F2 o → Sx Z body D' σ' F2 O')
    (same : ∀ s σ' F' F2 O', J s σ' F' O' → Same F' F2 → J s σ' F2 O') : Sx Z (tWhile tt body) D σ F O := fun H at0 => by
  refine ⟨fun m σ' H' => ∃ s F' O', Same F F' ∧ J s σ' F' O' ∧ At Z F' O' H' ∧ whileN c f m s = some out, ⟨n, s0, F, O, Same.refl _, h0, at0, hm⟩, fun m σ' H' ⟨s, F', O', e, j2, at', hw⟩ => ?_⟩
  cases m with
  | zero => simp only [whileN] at hw; cases hw
  | succ m =>
    cases hc : c s with
    | none => simp only [whileN, hc] at hw; cases hw
    | some b =>
      refine test s σ' F' O' b e j2 hc H' at'.ok _ fun F2 H2 g2 => ?_
      cases b with
      | false =>
        simp only [whileN, hc] at hw
        exact acc.nx s (Option.some.inj hw).symm σ' F2 O' (e.trans g2.f) (same _ _ _ _ _ j2 g2.f) H2 (at'.gr g2)
      | true =>
        cases hf : f s with
        | none => simp only [whileN, hc, hf] at hw; cases hw
        | some o =>
          refine ⟨fun σ3 H3 => ∃ s F3 O3, Same F F3 ∧ J s σ3 F3 O3 ∧ At Z F3 O3 H3 ∧ whileN c f m s = some out, fun σ3 H3 w => ⟨m, by omega, w⟩, ?_⟩
          refine turn s σ' F' F2 O' o _ e g2.f j2 hc hf ⟨fun s' eo σ3 F3 O3 e3 j3 => ?_, fun s' eo σ3 F3 O3 e3 j3 H3 at3 => ?_, fun r eo v F3 O3 e3 r3 H3 at3 => ?_⟩ H2 (at'.gr g2)
          · subst eo
            simp only [whileN, hc, hf] at hw
            exact ⟨fun H3 at3 => ⟨s', F3, O3, (e.trans g2.f).trans e3, j3, at3, hw⟩, fun H3 at3 => ⟨s', F3, O3, (e.trans g2.f).trans e3, j3, at3, hw⟩⟩
          · subst eo
            simp only [whileN, hc, hf] at hw
            exact acc.nx s' (Option.some.inj hw).symm σ3 F3 O3 ((e.trans g2.f).trans e3) j3 H3 at3
          · subst eo
            simp only [whileN, hc, hf] at hw
            exact acc.rt r (Option.some.inj hw).symm v F3 O3 ((e.trans g2.f).trans e3) r3 H3 at3

/-! ### comprehensions -/
/-- f tells what an item gives: nothing known; left out; a thing -/
def mapF (f : α → Option (Option β)) : List α → Option (List β)
  | [] => some []
  | a :: as => match f a with
    | none => none
    | some o => match mapF f as with
      | none => none
      | some bs => some (match o with | some b => b :: bs | none => bs)
theorem mapF_len {f : α → Option (Option β)} : ∀ {as : List α} {bs : List β}, mapF f as = some bs → bs.length ≤ as.length
  | [], _, h => by cases h; exact Nat.le_refl _
  | a :: as, bs, h => by
    unfold mapF at h
    cases e : f a with
    | none => rw [e] at h; cases h
    | some o =>
      rw [e] at h
      cases e2 : mapF f as with
      | none => rw [e2] at h; cases h
      | some cs =>
        rw [e2] at h
        have ih := mapF_len e2
        cases o with
        | none => cases h; exact Nat.le_succ_of_le ih
        | some b => cases h; exact Nat.succ_le_succ ih
theorem mapF_cons {f : α → Option (Option β)} {a : α} {as : List α} {bs : List β} (h : mapF f (a :: as) = some bs) : ∃ o cs, f a = some o ∧ mapF f as = some cs ∧ bs = (match o with | some b => b :: cs | none => cs) := by
  unfold mapF at h
  cases e : f a with
  | none => rw [e] at h; cases h
  | some o =>
    rw [e] at h
    cases e2 : mapF f as with
    | none => rw [e2] at h; cases h
    | some cs =>
      rw [e2] at h
      exact ⟨o, cs, rfl, rfl, (Option.some.inj h).symm⟩
theorem ev_lc {f : α → Option (Option β)} {wi : TI} {g : TG} {vs : List Nat} {as : List α} {bs : List β} {P : α → L2.St → L2.St → Hp → Prop}
    (hm : mapF f as = some bs) (hi : EvI wi σ F O R as) (hg : Tg g R P)
    (turn : ∀ a σ2 F' F2 ob, a ∈ as → Same F F' → Same F' F2 → P a (wipe σ vs) σ2 F2 → f a = some ob → wipe σ2 vs = wipe σ vs ∧ EvT tt σ2 F2 O ob.isSome ∧ ∀ b, ob = some b → Ev te σ2 F2 O (val R' b)) :
    EvN (tLc wi g tt te vs) σ F O R' bs := fun H k Q q => by
  refine hi H k _ fun J F1 H1 g1 wk L hL => ?_
  have k1 := k.gr g1
  let W : Nat → Hp → Prop := fun i H' => ∃ F' acc done rest, Gr F1 H1 F' H' ∧ F' L = none ∧ H' L = some (.lst acc) ∧ All2 R' done acc F' ∧ mapF f (as.drop i) = some rest ∧ done ++ rest = bs ∧ done.length ≤ i
  have okL : ∀ {F' H'}, Gr F1 H1 F' H' → Ok F' O H' := fun gg => k1.gr gg
  refine ⟨fun i m H' => m = as.length - i ∧ i ≤ as.length ∧ W i H', ⟨as.length, by simp, Nat.zero_le _, F1, [], [], bs, ⟨Same.refl _, same_new hL, g1.fh.trans (same_new hL), fun _ h _ => h⟩, free_of g1.fh hL, upd_same, trivial, hm, rfl, Nat.le_refl _⟩, fun i m H' ⟨em, hile, F', acc, done, rest, gg, fL, hacc, ha2, hrest, hbs, hdl⟩ => ?_⟩
  subst em
  by_cases hlt : i < as.length
  · have ha : as[i]? = some as[i] := List.getElem?_eq_getElem hlt
    obtain ⟨hgo, hy⟩ := (wk.2 i F' H' gg.f gg.fh).1 _ ha
    refine Or.inr ⟨hgo, W (i + 1), fun H2 w => ⟨as.length - (i + 1), by omega, rfl, hlt, w⟩, fun x H2 y => ?_⟩
    obtain ⟨F2, g2, r⟩ := hy x H2 y
    rw [List.drop_eq_getElem_cons hlt] at hrest
    obtain ⟨o, cs, e1, e2, e3⟩ := mapF_cons hrest
    refine hg _ x (wipe σ vs) F2 H2 _ r g2.fh fun σ2 p => ?_
    obtain ⟨hw, ht, he⟩ := turn as[i] σ2 F' F2 o (List.mem_of_getElem? ha) (g1.f.trans gg.f) g2.f p e1
    have gg2 := gg.trans g2
    refine ⟨hw, ht H2 (okL gg2) _ fun F3 H3 g3 => ?_⟩
    have gg3 := gg2.trans g3
    have fL3 : F3 L = none := (g2.trans g3).nw L fL (by rw [hacc]; exact fun z => by cases z)
    have hacc3 : H3 L = some (.lst acc) := (g2.trans g3).h _ _ hacc
    cases o with
    | none =>
      show W (i + 1) H3
      exact ⟨F3, acc, done, cs, gg3, fL3, hacc3, ha2.mono (g2.trans g3).f, e2, by rw [← hbs, e3], by omega⟩
    | some b =>
      show te σ2 H3 _
      refine ((he b rfl).mono g3.f) H3 (okL gg3) _ fun v F4 H4 g4 r4 => ?_
      have fL4 : F4 L = none := g4.nw L fL3 (by rw [hacc3]; exact fun z => by cases z)
      have gg4 := gg3.trans g4
      have lacc : acc.length ≤ limL := by
        rw [← ha2.len]
        have := wk.1
        omega
      refine ⟨acc, g4.h _ _ hacc3, sz_lt lacc, F4, acc ++ [v], done ++ [b], cs, ⟨gg4.f, fun a u hu => ?_, same_mut gg4.fh fL4, gg4.nw⟩, fL4, upd_same, (ha2.mono ((g2.trans g3).trans g4).f).app (All2.one r4), e2, by rw [← hbs, e3, List.append_assoc]; rfl, by rw [List.length_append]; simp; omega⟩
      rw [upd_ne (ne_of_none hu hL)]
      exact gg4.h a u hu
  · refine Or.inl ⟨(wk.2 i F' H' gg.f gg.fh).2 (by omega), ?_⟩
    rw [List.drop_eq_nil_of_le (by omega)] at hrest
    have er : rest = [] := (Option.some.inj hrest).symm
    rw [er, List.append_nil] at hbs
    subst hbs
    exact q L acc F' H' (g1.trans gg) (gr_none g1 hL) fL hacc ⟨ha2, Nat.le_trans (by omega) wk.1⟩
theorem et_yes : EvT tYes σ F O true := fun H k Q q => q F H (Gr.refl k.ex)
end
end Lm
/-! Lm: texts. -/
namespace Lm
open PySem PySem.Spec L2 PySem.Builtin.Str

/-! ### texts as lists of signs -/
theorem tl_of (l : List Nat) : (mk l).cps.toList = l := rfl
theorem mk_of {x : Str} {l : List Nat} (h : x.cps.toList = l) : x = mk l := by
  apply TL.ext_tl
  exact h
def startsS (l p : List Nat) : Bool := p.isPrefixOf l
def endsS (l p : List Nat) : Bool := p.isSuffixOf l
/-- p stands somewhere in l -/
def inS (p : List Nat) : List Nat → Bool
  | [] => p.isEmpty
  | c :: r => p.isPrefixOf (c :: r) || inS p r
/-- the first place from i on, counted -/
def findL (p : List Nat) : Nat → List Nat → Option Nat
  | i, [] => if p.isEmpty then some i else none
  | i, c :: r => if p.isPrefixOf (c :: r) then some i else findL p (i + 1) r
def optI : Option Nat → Int
  | some i => (i : Int)
  | none => -1
def splitC (c : Nat) : List Nat → List Nat → List (List Nat)
  | acc, [] => [acc]
  | acc, x :: r => if x = c then acc :: splitC c [] r else splitC c (acc ++ [x]) r
abbrev joinS (s : List Nat) (ps : List (List Nat)) : List Nat := TL.joinL s ps
def lstripS (l cs : List Nat) : List Nat := l.dropWhile cs.contains
def rstripS (l cs : List Nat) : List Nat := (l.reverse.dropWhile cs.contains).reverse
def stripS (l cs : List Nat) : List Nat := rstripS (lstripS l cs) cs
def lowC (c : Nat) : Nat := if 65 ≤ c ∧ c ≤ 90 then c + 32 else c
def lowerS (l : List Nat) : List Nat := l.map lowC
def partS (l s : List Nat) : List Nat × List Nat × List Nat := match TL.par s [] l with
  | some (a, b) => (a, s, b)
  | none => (l, [], [])
/-! Options -/
def catS (a b : List Nat) : Option (List Nat) := if (a ++ b).length ≤ lim then some (a ++ b) else none
def repS (a : List Nat) (n : Int) : Option (List Nat) := if (List.replicate n.toNat a).flatten.length ≤ lim ∧ n < 2 ^ 61 ∧ -(2 ^ 61) ≤ n then some (List.replicate n.toNat a).flatten else none
def joinO (s : List Nat) (ps : List (List Nat)) : Option (List Nat) := if (joinS s ps).length ≤ lim then some (joinS s ps) else none
/-- does not fail -/
theorem iteo {α : Type} {p : Prop} [Decidable p] {a b : α} (h : (if p then some a else none) = some b) : p ∧ a = b := by
  by_cases hp : p
  · rw [if_pos hp] at h
    exact ⟨hp, Option.some.inj h⟩
  · rw [if_neg hp] at h
    cases h

section
variable {x y : List Nat}
theorem pref_take {p l : List Nat} : p.isPrefixOf l = (l.take p.length == p) := by
  rw [Bool.eq_iff_iff, List.isPrefixOf_iff_prefix, beq_iff_eq, List.prefix_iff_eq_take]
  exact ⟨fun h => h.symm, fun h => h.symm⟩
theorem starts_mk : Txt.startswith (mk x) (mk y) = startsS x y := by
  unfold Txt.startswith startsS
  rw [PySem.StrLaws.subAt_eq, mk_len, mk_len, pref_take, tl_of, tl_of, List.drop_zero]
  by_cases h : 0 + y.length ≤ x.length
  · rw [decide_eq_true h, Bool.true_and]
  · rw [decide_eq_false h, Bool.false_and]
    symm
    rw [beq_eq_false_iff_ne]
    intro e
    have := congrArg List.length e
    rw [List.length_take] at this
    omega
theorem suff_drop {p l : List Nat} (h : p.length ≤ l.length) : p.isSuffixOf l = (l.drop (l.length - p.length) == p) := by
  rw [Bool.eq_iff_iff, List.isSuffixOf_iff_suffix, beq_iff_eq, List.suffix_iff_eq_drop]
  exact ⟨fun h => h.symm, fun h => h.symm⟩
theorem ends_mk : Txt.endswith (mk x) (mk y) = endsS x y := by
  unfold Txt.endswith endsS
  rw [PySem.StrLaws.subAt_eq, mk_len, mk_len, tl_of, tl_of]
  by_cases h : 0 + y.length ≤ x.length
  · rw [decide_eq_true h, Bool.true_and, suff_drop (by omega), List.take_of_length_le]
    rw [List.length_drop]
    omega
  · rw [decide_eq_false h, Bool.false_and]
    symm
    rw [Bool.eq_false_iff]
    intro e
    have := (List.isSuffixOf_iff_suffix.mp e).length_le
    omega
theorem lower_mk (h : ∀ c ∈ x, c < 128) : Txt.lower (mk x) = mk (lowerS x) := by
  rw [PyProof.Rows.lower_ascii h]
  apply mk_of
  show (Array.map _ x.toArray).toList = _
  simp [lowerS]
  intro a _
  rfl
theorem okS_lower (h : OkS x) : OkS (lowerS x) := by
  refine ⟨by unfold lowerS; rw [List.length_map]; exact h.1, fun c m => ?_⟩
  obtain ⟨d, md, e⟩ := List.mem_map.mp m
  have := h.2 d md
  subst e
  unfold lowC
  split <;> omega
theorem contains_mk (l : List Nat) : (mk l).cps.contains = l.contains := by
  funext c
  show l.toArray.contains c = l.contains c
  simp
theorem takeWhile_drop (p : Nat → Bool) (l : List Nat) : l.drop (l.takeWhile p).length = l.dropWhile p := by
  induction l with
  | nil => rfl
  | cons a r ih =>
    rw [List.takeWhile_cons, List.dropWhile_cons]
    split
    · exact ih
    · rfl
theorem lstrip_mk : Txt.lstripChars (mk x) (mk y) = mk (lstripS x y) := by
  unfold Txt.lstripChars
  rw [PyProof.Rows.stripBy_eq]
  apply mk_of
  rw [PySem.StrLaws.strSub_toList, tl_of, contains_mk]
  have e1 : stripHi y.contains false (mk x) (stripLo y.contains true (mk x)) = x.length := by
    show (mk x).length = x.length
    exact mk_len x
  have e2 : stripLo y.contains true (mk x) = (x.takeWhile y.contains).length := rfl
  rw [e1, e2, takeWhile_drop]
  unfold lstripS
  rw [List.take_of_length_le]
  have h1 : (x.takeWhile y.contains).length + (x.dropWhile y.contains).length = x.length := by
    rw [← List.length_append, List.takeWhile_append_dropWhile]
  omega
theorem rev_take (l : List Nat) (n : Nat) : (l.reverse.drop n).reverse = l.take (l.length - n) := by
  rw [List.drop_reverse, List.reverse_reverse]
theorem rstrip_mk : Txt.rstripChars (mk x) (mk y) = mk (rstripS x y) := by
  unfold Txt.rstripChars
  rw [PyProof.Rows.stripBy_eq]
  apply mk_of
  rw [PySem.StrLaws.strSub_toList, tl_of, contains_mk]
  have e2 : stripLo y.contains false (mk x) = 0 := rfl
  have e1 : stripHi y.contains true (mk x) 0 = x.length - (x.reverse.takeWhile y.contains).length := by
    show (mk x).length - _ = _
    rw [mk_len]
    first | done | rfl
  rw [e2, e1, List.drop_zero, Nat.sub_zero]
  unfold rstripS
  rw [← takeWhile_drop, rev_take]
theorem strip_mk : Txt.stripChars (mk x) (mk y) = mk (stripS x y) := by
  unfold Txt.stripChars
  rw [PyProof.Rows.stripBy_eq]
  apply mk_of
  rw [PySem.StrLaws.strSub_toList, tl_of, contains_mk]
  have e2 : stripLo y.contains true (mk x) = (x.takeWhile y.contains).length := rfl
  have e1 : ∀ k, stripHi y.contains true (mk x) k = x.length - ((x.drop k).reverse.takeWhile y.contains).length := fun k => by
    show (mk x).length - _ = _
    rw [mk_len]
    first | done | rfl
  rw [e2, e1, takeWhile_drop]
  unfold stripS rstripS lstripS
  rw [← takeWhile_drop y.contains (x.dropWhile y.contains).reverse, rev_take]
  have h1 : (x.takeWhile y.contains).length + (x.dropWhile y.contains).length = x.length := by
    rw [← List.length_append, List.takeWhile_append_dropWhile]
  congr 1
  omega
theorem mem_dropWhile {p : Nat → Bool} {l : List Nat} {c : Nat} (h : c ∈ l.dropWhile p) : c ∈ l := (List.dropWhile_sublist p).subset h
theorem okS_lstrip (h : OkS x) : OkS (lstripS x y) := ⟨Nat.le_trans (List.dropWhile_sublist _).length_le h.1, fun c m => h.2 c (mem_dropWhile m)⟩
theorem okS_rstrip (h : OkS x) : OkS (rstripS x y) := by
  unfold rstripS
  refine ⟨?_, fun c m => ?_⟩
  · rw [List.length_reverse]
    have := (List.dropWhile_sublist (y.contains) (l := x.reverse)).length_le
    rw [List.length_reverse] at this
    exact Nat.le_trans this h.1
  · exact h.2 c (List.mem_reverse.mp (mem_dropWhile (List.mem_reverse.mp m)))
theorem okS_strip (h : OkS x) : OkS (stripS x y) := okS_rstrip (okS_lstrip h)
theorem spl_one (c : Nat) : ∀ (l acc : List Nat), TL.spl [c] 0 acc l = splitC c acc l
  | [], acc => rfl
  | a :: r, acc => by
    unfold splitC
    by_cases e : a = c
    · rw [if_pos e, TL.spl_hit (by subst e; exact TL.pre_self [a] r), ← spl_one c r []]
      rfl
    · rw [if_neg e, TL.spl_miss (TL.pre_of_head [] r e), spl_one c r]
theorem mk_tl (z : Str) : mk (TL.tl z) = z := TL.mk_tl z
theorem map_mk_tl : ∀ (l : List Str), (l.map TL.tl).map mk = l
  | [] => rfl
  | z :: r => by rw [List.map_cons, List.map_cons, mk_tl, map_mk_tl r]
theorem all_256 {l : List Nat} (h : ∀ c ∈ l, c < 128) : (mk l).cps.all (· < 256) = true := by
  show l.toArray.all (· < 256) = true
  rw [List.all_toArray, List.all_eq_true]
  intro c m
  exact decide_eq_true (Nat.lt_trans (h c m) (by decide))
theorem split_mk {c : Nat} (hc : c < 128) : Txt.split (mk x) (mk [c]) = (splitC c [] x).map mk := by
  have h := TL.split_spl (mk x) (mk [c]) (by show [c] ≠ []; simp) (TL.kind_ok (all_256 fun d m => by rw [List.mem_singleton.mp m]; exact hc))
  rw [← map_mk_tl (Txt.split (mk x) (mk [c])), h]
  show (TL.spl [c] 0 [] x).map mk = _
  rw [spl_one]
theorem splitC_len (c : Nat) : ∀ (l acc : List Nat), (splitC c acc l).length ≤ l.length + 1
  | [], acc => by simp [splitC]
  | a :: r, acc => by
    unfold splitC
    have h1 := splitC_len c r []
    have h2 := splitC_len c r (acc ++ [a])
    split
    · rw [List.length_cons, List.length_cons]; omega
    · rw [List.length_cons]; omega
theorem splitC_mem (c : Nat) : ∀ (l acc : List Nat), ∀ p ∈ splitC c acc l, p.length ≤ acc.length + l.length ∧ ∀ d ∈ p, d ∈ acc ∨ d ∈ l
  | [], acc, p, m => by
    have e : p = acc := by simpa [splitC] using m
    subst e
    exact ⟨by simp, fun d md => Or.inl md⟩
  | a :: r, acc, p, m => by
    unfold splitC at m
    split at m
    · rcases List.mem_cons.mp m with e | m
      · subst e
        exact ⟨by omega, fun d md => Or.inl md⟩
      · have := splitC_mem c r [] p m
        refine ⟨by have := this.1; rw [List.length_nil] at this; rw [List.length_cons]; omega, fun d md => Or.inr ?_⟩
        rcases this.2 d md with z | z
        · cases z
        · exact List.mem_cons_of_mem _ z
    · have := splitC_mem c r (acc ++ [a]) p m
      refine ⟨by have := this.1; rw [List.length_append, List.length_singleton] at this; rw [List.length_cons]; omega, fun d md => ?_⟩
      rcases this.2 d md with z | z
      · rcases List.mem_append.mp z with z | z
        · exact Or.inl z
        · rw [List.mem_singleton.mp z]; exact Or.inr (List.mem_cons_self ..)
      · exact Or.inr (List.mem_cons_of_mem _ z)
theorem okS_split {c : Nat} (h : OkS x) : ∀ p ∈ splitC c [] x, OkS p := fun p m => by
  have := splitC_mem c x [] p m
  refine ⟨by have h1 := this.1; rw [List.length_nil] at h1; exact Nat.le_trans (by omega) h.1, fun d md => ?_⟩
  rcases this.2 d md with z | z
  · cases z
  · exact h.2 d z
theorem join_mk (s : List Nat) (ps : List (List Nat)) : Txt.join (mk s) (ps.map mk) = mk (joinS s ps) := by
  rw [TL.join_eq]
  apply mk_of
  rw [show (Str.join (mk s) (ps.map mk)).cps.toList = TL.tl (Str.join (mk s) (ps.map mk)) from rfl, TL.tl_join]
  congr 1
  rw [List.map_map]
  exact List.map_id'' (fun l => rfl) ps
theorem joinS_nil (s : List Nat) : joinS s [] = [] := rfl
theorem joinS_one (s p : List Nat) : joinS s [p] = p := rfl
theorem joinS_cons (s p q : List Nat) (r : List (List Nat)) : joinS s (p :: q :: r) = p ++ s ++ joinS s (q :: r) := by
  first
    | rfl
    | (rw [List.append_assoc]; rfl)
theorem joinS_len (s : List Nat) : ∀ ps : List (List Nat), (ps.map List.length).sum + ps.length * s.length ≤ (joinS s ps).length + s.length
  | [] => by simp
  | [p] => by rw [joinS_one]; simp
  | p :: q :: r => by
    rw [joinS_cons, List.length_append, List.length_append]
    have ih := joinS_len s (q :: r)
    simp only [List.map_cons, List.sum_cons, List.length_cons, Nat.succ_mul] at ih ⊢
    omega
theorem joinS_mem (s : List Nat) : ∀ ps : List (List Nat), ∀ c ∈ joinS s ps, c ∈ s ∨ ∃ p ∈ ps, c ∈ p
  | [], c, m => by cases m
  | [p], c, m => Or.inr ⟨p, List.mem_cons_self .., m⟩
  | p :: q :: r, c, m => by
    rw [joinS_cons, List.mem_append, List.mem_append] at m
    rcases m with (m | m) | m
    · exact Or.inr ⟨p, List.mem_cons_self .., m⟩
    · exact Or.inl m
    · rcases joinS_mem s (q :: r) c m with h | ⟨p', h1, h2⟩
      · exact Or.inl h
      · exact Or.inr ⟨p', List.mem_cons_of_mem _ h1, h2⟩
theorem par_mem (S : List Nat) : ∀ (l acc a b : List Nat), TL.par S acc l = some (a, b) → (∀ c ∈ a, c ∈ acc ∨ c ∈ l) ∧ (∀ c ∈ b, c ∈ l) ∧ a.length ≤ acc.length + l.length ∧ b.length ≤ l.length
  | [], acc, a, b, h => by cases h
  | c :: r, acc, a, b, h => by
    cases hp : TL.pre S (c :: r) with
    | true =>
      rw [TL.par_hit hp] at h
      cases h
      exact ⟨fun d m => Or.inl m, fun d m => List.mem_of_mem_drop m, by omega, by rw [List.length_drop]; omega⟩
    | false =>
      rw [TL.par_miss hp] at h
      obtain ⟨h1, h2, h3, h4⟩ := par_mem S r _ a b h
      refine ⟨fun d m => ?_, fun d m => List.mem_cons_of_mem _ (h2 d m), by rw [List.length_append, List.length_singleton] at h3; rw [List.length_cons]; omega, by rw [List.length_cons]; omega⟩
      rcases h1 d m with z | z
      · rcases List.mem_append.mp z with z | z
        · exact Or.inl z
        · rw [List.mem_singleton.mp z]; exact Or.inr (List.mem_cons_self ..)
      · exact Or.inr (List.mem_cons_of_mem _ z)
theorem okS_part (h : OkS x) (hy : OkS y) : OkS (partS x y).1 ∧ OkS (partS x y).2.1 ∧ OkS (partS x y).2.2 := by
  unfold partS
  cases e : TL.par y [] x with
  | none => exact ⟨h, ⟨Nat.zero_le _, fun c m => by cases m⟩, ⟨Nat.zero_le _, fun c m => by cases m⟩⟩
  | some ab =>
    obtain ⟨a, b⟩ := ab
    obtain ⟨h1, h2, h3, h4⟩ := par_mem y x [] a b e
    rw [List.length_nil, Nat.zero_add] at h3
    exact ⟨⟨Nat.le_trans h3 h.1, fun c m => (h1 c m).elim (fun z => by cases z) (h.2 c)⟩, hy, ⟨Nat.le_trans h4 h.1, fun c m => h.2 c (h2 c m)⟩⟩
theorem part_mk (hy : y ≠ []) : Txt.partition (mk x) (mk y) = (mk (partS x y).1, mk (partS x y).2.1, mk (partS x y).2.2) := by
  rw [TL.partition_par (mk x) (mk y) hy]
  unfold partS
  show (match TL.par y [] x with | some (a, b) => _ | none => _) = _
  cases e : TL.par y [] x with
  | none => rfl
  | some ab => rfl
/-- a text within a text -/
theorem inS_iff (p : List Nat) : ∀ l : List Nat, inS p l = true ↔ ∃ i, i + p.length ≤ l.length ∧ (l.drop i).take p.length = p
  | [] => by
    unfold inS
    rw [List.isEmpty_iff]
    constructor
    · intro e; subst e; exact ⟨0, by simp, by simp⟩
    · rintro ⟨i, h1, h2⟩
      cases p with
      | nil => rfl
      | cons a r => simp at h1
  | c :: r => by
    unfold inS
    rw [Bool.or_eq_true, inS_iff p r, List.isPrefixOf_iff_prefix, List.prefix_iff_eq_take]
    constructor
    · rintro (h | ⟨i, h1, h2⟩)
      · refine ⟨0, ?_, by rw [List.drop_zero]; exact h.symm⟩
        have := congrArg List.length h
        rw [List.length_take] at this
        omega
      · exact ⟨i + 1, by rw [List.length_cons]; omega, by rw [List.drop_succ_cons]; exact h2⟩
    · rintro ⟨i, h1, h2⟩
      cases i with
      | zero => exact Or.inl (by rw [List.drop_zero] at h2; exact h2.symm)
      | succ i => exact Or.inr ⟨i, by rw [List.length_cons] at h1; omega, by rw [List.drop_succ_cons] at h2; exact h2⟩
theorem in_mk : (!(occurrences (mk x) (mk y) 0 (mk x).length 1).isEmpty) = inS y x := by
  rw [Bool.eq_iff_iff, PySem.StrLaws.found_iff, inS_iff]
  constructor
  · rintro ⟨i, h1, h2⟩
    rw [mk_len, mk_len] at h1
    rw [PySem.StrLaws.subAt_eq, mk_len, tl_of, tl_of, beq_iff_eq] at h2
    exact ⟨i, h1, h2⟩
  · rintro ⟨i, h1, h2⟩
    refine ⟨i, by rw [mk_len, mk_len]; exact h1, ?_⟩
    rw [PySem.StrLaws.subAt_eq, mk_len, tl_of, tl_of, beq_iff_eq]
    exact h2
/-- where a text first stands -/
theorem at_mk {i : Nat} : PySem.StrLaws.At (mk x) (mk y) (mk x).length i ↔ i + y.length ≤ x.length ∧ (x.drop i).take y.length = y := by
  unfold PySem.StrLaws.At
  rw [mk_len, mk_len, PySem.StrLaws.subAt_eq, mk_len, tl_of, tl_of, beq_iff_eq]
theorem pref_iff {p l : List Nat} : p.isPrefixOf l = true ↔ p.length ≤ l.length ∧ l.take p.length = p := by
  rw [pref_take, beq_iff_eq]
  constructor
  · intro h
    refine ⟨?_, h⟩
    have := congrArg List.length h
    rw [List.length_take] at this
    omega
  · exact fun h => h.2
theorem findL_some (p : List Nat) : ∀ (l : List Nat) (i j : Nat), findL p i l = some j → i ≤ j ∧ (j - i) + p.length ≤ l.length ∧ (l.drop (j - i)).take p.length = p ∧ ∀ k, k < j - i → ¬ (k + p.length ≤ l.length ∧ (l.drop k).take p.length = p)
  | [], i, j, h => by
    unfold findL at h
    split at h
    · next e =>
      cases h
      rw [List.isEmpty_iff.mp e]
      exact ⟨Nat.le_refl _, by simp, by simp, fun k hk => by omega⟩
    · cases h
  | c :: r, i, j, h => by
    unfold findL at h
    split at h
    · next e =>
      cases h
      obtain ⟨h1, h2⟩ := pref_iff.mp e
      rw [Nat.sub_self]
      exact ⟨Nat.le_refl _, by omega, by rw [List.drop_zero]; exact h2, fun k hk => by omega⟩
    · next e =>
      obtain ⟨h1, h2, h3, h4⟩ := findL_some p r (i + 1) j h
      have e1 : j - i = (j - (i + 1)) + 1 := by omega
      rw [e1]
      refine ⟨by omega, by rw [List.length_cons]; omega, by rw [List.drop_succ_cons]; exact h3, fun k hk => ?_⟩
      cases k with
      | zero =>
        rintro ⟨z1, z2⟩
        exact e (pref_iff.mpr ⟨by omega, by rw [List.drop_zero] at z2; exact z2⟩)
      | succ k =>
        rintro ⟨z1, z2⟩
        exact h4 k (by omega) ⟨by rw [List.length_cons] at z1; omega, by rw [List.drop_succ_cons] at z2; exact z2⟩
theorem findL_none (p : List Nat) : ∀ (l : List Nat) (i : Nat), findL p i l = none → ∀ k, ¬ (k + p.length ≤ l.length ∧ (l.drop k).take p.length = p)
  | [], i, h, k => by
    unfold findL at h
    split at h
    · cases h
    · next e =>
      rintro ⟨h1, h2⟩
      rw [List.length_nil] at h1
      exact e (List.isEmpty_iff.mpr (List.eq_nil_of_length_eq_zero (by omega)))
  | c :: r, i, h, k => by
    unfold findL at h
    split at h
    · cases h
    · next e =>
      cases k with
      | zero =>
        rintro ⟨z1, z2⟩
        exact e (pref_iff.mpr ⟨by omega, by rw [List.drop_zero] at z2; exact z2⟩)
      | succ k =>
        rintro ⟨z1, z2⟩
        exact findL_none p r (i + 1) h k ⟨by rw [List.length_cons] at z1; omega, by rw [List.drop_succ_cons] at z2; exact z2⟩
/-- find from a place -/
def findS (l p : List Nat) (i : Int) : Int := if (fromIndex l.length i) ≤ l.length then optI (findL p (fromIndex l.length i) (l.drop (fromIndex l.length i))) else -1
theorem find3_mk (i : Int) : Txt.find3 (mk x) (mk y) i = findS x y i := by
  unfold Txt.find3 findS
  have hl := mk_len x
  have e0 : fromIndex (mk x).length i = fromIndex x.length i := by rw [hl]
  rw [e0]
  generalize fromIndex x.length i = lo
  rcases PySem.StrLaws.occ_head_from (mk x) (mk y) lo 1 (Nat.le_refl _) with ⟨h1, h2⟩ | ⟨j, r, h1, h2, h3, h4⟩
  · rw [h1]
    show (-1 : Int) = _
    by_cases hle : lo ≤ x.length
    · rw [if_pos hle]
      cases e : findL y lo (x.drop lo) with
      | none => rfl
      | some j =>
        obtain ⟨a1, a2, a3, _⟩ := findL_some y _ _ _ e
        rw [List.length_drop] at a2
        rw [List.drop_drop] at a3
        have e3 : lo + (j - lo) = j := by omega
        rw [e3] at a3
        exact absurd (at_mk.mpr ⟨by omega, a3⟩) (h2 j a1)
    · rw [if_neg hle]
  · rw [h1]
    obtain ⟨a1, a2⟩ := at_mk.mp h3
    rw [if_pos (by omega)]
    cases e : findL y lo (x.drop lo) with
    | none =>
      have := findL_none y _ _ e (j - lo)
      rw [List.length_drop, List.drop_drop] at this
      have e3 : lo + (j - lo) = j := by omega
      rw [e3] at this
      exact absurd ⟨by omega, a2⟩ this
    | some m =>
      obtain ⟨b1, b2, b3, b4⟩ := findL_some y _ _ _ e
      rw [List.length_drop] at b2 b4
      rw [List.drop_drop] at b3
      have e3 : lo + (m - lo) = m := by omega
      rw [e3] at b3
      have : m = j := by
        rcases Nat.lt_trichotomy m j with hlt | heq | hgt
        · exact absurd (at_mk.mpr ⟨by omega, b3⟩) (h4 m b1 hlt)
        · exact heq
        · refine absurd ?_ (b4 (j - lo) (by omega))
          rw [List.drop_drop]
          have e4 : lo + (j - lo) = j := by omega
          rw [e4]
          exact ⟨by omega, a2⟩
      subst this
      rfl
theorem find_mk : Txt.find (mk x) (mk y) = optI (findL y 0 x) := by
  have h := find3_mk (x := x) (y := y) 0
  unfold Txt.find3 findS at h
  unfold Txt.find
  have e : ∀ n : Nat, fromIndex n 0 = 0 := fun n => by
    unfold fromIndex
    simp
  rw [e, e, if_pos (Nat.zero_le _), List.drop_zero] at h
  exact h
end
end Lm
/-! Lm: the methods of texts, what joins ways, how mirrors fail. -/
namespace Lm
open PySem PySem.Spec L2 PySem.Builtin.Str

/-! ### mirrors -/
theorem bsome {α β : Type} {o : Option α} {f : α → Option β} {b : β} (h : o.bind f = some b) : ∃ a, o = some a ∧ f a = some b := by
  cases o with
  | none => cases h
  | some a => exact ⟨a, rfl, h⟩
def lt {α β : Type} (a : α) (f : α → Option β) : Option β := f a
theorem lt_e {α β : Type} {a : α} {f : α → Option β} {b : β} (h : lt a f = some b) : ∃ x, a = x ∧ f x = some b := ⟨a, rfl, h⟩
def cnd {α : Type} (c : Bool) (a b : Option α) : Option α := match c with | true => a | false => b
theorem cnd_t {α : Type} {c : Bool} {a b : Option α} {x : α} (h : cnd c a b = some x) (e : c = true) : a = some x := by subst e; exact h
theorem cnd_f {α : Type} {c : Bool} {a b : Option α} {x : α} (h : cnd c a b = some x) (e : c = false) : b = some x := by subst e; exact h
def fwd {ρ S γ : Type} (o : Option (Fw ρ S)) (k : S → Option γ) (kr : ρ → Option γ) : Option γ := match o with
  | some (.nx s) => k s
  | some (.rt r) => kr r
  | some (.bk _) => none
  | none => none
theorem fwd_o {ρ S γ : Type} {o : Option (Fw ρ S)} {k : S → Option γ} {kr : ρ → Option γ} {x : γ} (h : fwd o k kr = some x) : ∃ w, o = some w ∧ (∀ s, w = .nx s → k s = some x) ∧ (∀ r, w = .rt r → kr r = some x) := by
  cases o with
  | none => cases h
  | some w =>
    refine ⟨w, rfl, fun s e => ?_, fun r e => ?_⟩
    · subst e; exact h
    · subst e; exact h
def grd (p : Prop) [Decidable p] : Option Unit := if p then some () else none
theorem grd_e {p : Prop} [Decidable p] {u : Unit} (h : grd p = some u) : p := by
  unfold grd at h
  by_cases hp : p
  · exact hp
  · rw [if_neg hp] at h; cases h
def appO {α : Type} (as : List α) (a : α) : Option (List α) := if (as ++ [a]).length ≤ limL then some (as ++ [a]) else none
def catO {α : Type} (as bs : List α) : Option (List α) := if (as ++ bs).length ≤ limL then some (as ++ bs) else none
def repO {α : Type} (as : List α) (n : Int) : Option (List α) := if ((List.replicate n.toNat as).flatten).length ≤ limL ∧ n < 2 ^ 61 ∧ -(2 ^ 61) ≤ n then some (List.replicate n.toNat as).flatten else none
def ixO {α : Type} (as : List α) (i : Int) : Option α := atI as i
def setO {α : Type} (as : List α) (i : Int) (a : α) : Option (List α) := (ixN as.length i).map fun m => as.set m a
theorem setO_e {α : Type} {as bs : List α} {i : Int} {a : α} (h : setO as i a = some bs) : ∃ m, ixN as.length i = some m ∧ as.set m a = bs := by
  unfold setO at h
  cases e : ixN as.length i with
  | none => rw [e] at h; cases h
  | some m => rw [e] at h; exact ⟨m, rfl, Option.some.inj h⟩
def mulO (i j : Int) : Option Int := if i.natAbs.log2 + j.natAbs.log2 < 4000000 then some (i * j) else none
def divO (i j : Int) : Option Int := if 0 < j ∧ j < 1073741824 then some (i / j) else none
def modO (i j : Int) : Option Int := if 0 < j then some (i % j) else none
def rngO (lo hi : Int) : Option (List Int) := if (-(2 ^ 61) ≤ lo ∧ lo < 2 ^ 61 ∧ -(2 ^ 61) ≤ hi ∧ hi < 2 ^ 61) ∧ (hi - lo).toNat ≤ limL then some (rng lo hi) else none

section
variable {α β γ : Type} {R : Rep α} {R' : Rep β} {Z : Bs} {D : Ends} {σ : L2.St} {F F1 : Hp} {O : Own} {ta tb tc te to : TE} {ts tt tu : TS} {A B C : Ar} {K : PySem.W.Frag} {i j : Int} {l m p : List Nat}
theorem o_mulO {c : Int} (h : mulO i j = some c) : Op2 xMul (val rInt i) (val rInt j) (val rInt c) := by
  obtain ⟨h1, h2⟩ := iteo h
  subst h2
  exact o_mul h1
theorem o_divO {c : Int} (h : divO i j = some c) : Op2 xDiv (val rInt i) (val rInt j) (val rInt c) := by
  obtain ⟨h1, h2⟩ := iteo h
  subst h2
  exact o_div h1
theorem o_modO {c : Int} (h : modO i j = some c) : Op2 xMod (val rInt i) (val rInt j) (val rInt c) := by
  obtain ⟨h1, h2⟩ := iteo h
  subst h2
  exact o_mod h1
theorem ei_rng1O {ta : TA} {n : Int} {as : List Int} (h : EvA ta σ F O [val rInt n]) (e : rngO 0 n = some as) : EvI (iRng1 ta) σ F O rInt as := by
  obtain ⟨h1, h2⟩ := iteo e
  subst h2
  refine ei_rng1 h (by omega) ?_
  have e9 : (limL : Int) = 4000000 := rfl
  have e8 : limL = 4000000 := rfl
  rw [e8] at h1
  omega
theorem ei_rng2O {ta : TA} {lo n : Int} {as : List Int} (h : EvA ta σ F O [val rInt lo, val rInt n]) (e : rngO lo n = some as) : EvI (iRng2 ta) σ F O rInt as := by
  obtain ⟨h1, h2⟩ := iteo e
  subst h2
  exact ei_rng2 h h1.1 h1.2

/-! ### text operators -/
def xCatS : R2 := fun x y H Q => ∃ i j, x = .str i ∧ y = .str j ∧ i.length + j.length ≤ sizeLine ∧ Q (.str (i ++ j)) H
def xRepS : R2 := fun x y H Q => ∃ a n, x = .str a ∧ y = .int n ∧ MulOk a n ∧ Q (.str (Txt.mul a n)) H
def xIn1 : R2 := fun x y H Q => ∃ (c : Nat) (z : Str), x = .str ⟨#[c]⟩ ∧ y = .str z ∧ Q (.bl (decide (c ∈ z.cps.toList))) H
def xNin1 : R2 := fun x y H Q => ∃ (c : Nat) (z : Str), x = .str ⟨#[c]⟩ ∧ y = .str z ∧ Q (.bl (!decide (c ∈ z.cps.toList))) H
def xInS : R2 := fun x y H Q => ∃ i j, x = .str i ∧ y = .str j ∧ Q (.bl (!(occurrences j i 0 j.length 1).isEmpty)) H
def xNinS : R2 := fun x y H Q => ∃ i j, x = .str i ∧ y = .str j ∧ Q (.bl (!(!(occurrences j i 0 j.length 1).isEmpty))) H
theorem op_xCatS {X : Cx} : OpR X (binaryOp .Add) xCatS := op_add_str
theorem op_xRepS {X : Cx} : OpR X (binaryOp .Mult) xRepS := by
  intro pins s σ H x y v u Q I rx ry h
  obtain ⟨a, n, rfl, rfl, hm, q⟩ := h
  obtain ⟨t, rfl⟩ := rx
  obtain ⟨t', rfl⟩ := ry
  exact SB.mul hm fun t2 k => ⟨.str _, H, I.tok k, ⟨t2, rfl⟩, q⟩
theorem op_xIn1 {X : Cx} : OpR X (compareOp .In) xIn1 := op_in_sign
theorem op_xNin1 {X : Cx} : OpR X (compareOp .NotIn) xNin1 := op_notIn_sign
theorem op_xInS {X : Cx} : OpR X (compareOp .In) xInS := op_in_str
theorem op_xNinS {X : Cx} : OpR X (compareOp .NotIn) xNinS := op_notIn_str
theorem cat_mk : (mk l ++ mk m) = mk (l ++ m) := by
  apply mk_of
  rw [Str.cps_append, Array.toList_append]
theorem okS_cat (h : OkS l) (k : OkS m) (e : (l ++ m).length ≤ lim) : OkS (l ++ m) := ⟨e, fun c z => (List.mem_append.mp z).elim (h.2 c) (k.2 c)⟩
theorem o_catS {c : List Nat} (h : catS l m = some c) : Op2 xCatS (val rS l) (val rS m) (val rS c) := fun v w F H Q e a b q => by
  obtain ⟨h1, h2⟩ := iteo h
  subst h2
  refine ⟨mk l, mk m, a.1, b.1, ?_, q _ F H (Gr.refl e) ⟨by rw [cat_mk], okS_cat a.2 b.2 h1⟩⟩
  rw [mk_len, mk_len]
  rw [List.length_append] at h1
  exact sz_line (sz_lim h1)
theorem foldl_app (a : Array Nat) : ∀ (n : Nat) (b : Array Nat), ((List.replicate n a).foldl (· ++ ·) b).toList = b.toList ++ (List.replicate n a.toList).flatten
  | 0, b => by simp
  | n + 1, b => by
    rw [List.replicate_succ, List.foldl_cons, foldl_app a n, List.replicate_succ, List.flatten_cons, Array.toList_append, List.append_assoc]
theorem mul_mk (n : Int) : Txt.mul (mk l) n = mk (List.replicate n.toNat l).flatten := by
  apply mk_of
  unfold Txt.mul
  by_cases h : n < 1
  · rw [if_pos h]
    have e : n.toNat = 0 := by omega
    rw [e]
    rfl
  · rw [if_neg h]
    by_cases h2 : (n == 1 || (mk l).length == 0) = true
    · rw [if_pos h2]
      rw [Bool.or_eq_true, beq_iff_eq, beq_iff_eq, mk_len] at h2
      rcases h2 with h2 | h2
      · subst h2
        simp
      · have e : l = [] := List.eq_nil_of_length_eq_zero h2
        subst e
        simp
    · rw [if_neg h2]
      show ((List.replicate n.toNat l.toArray).foldl (· ++ ·) #[]).toList = _
      rw [foldl_app]
      simp
theorem rep_len (n : Nat) : (List.replicate n l).flatten.length = n * l.length := by
  rw [List.length_flatten, List.map_replicate, sum_rep]
theorem mulOk_mk {n : Int} (h : (List.replicate n.toNat l).flatten.length ≤ lim ∧ n < 2 ^ 61 ∧ -(2 ^ 61) ≤ n) : MulOk (mk l) n := by
  obtain ⟨h1, h2, h3⟩ := h
  rw [rep_len] at h1
  refine ⟨?_, fun hn _ => ?_, fun hn _ => ?_⟩
  · rw [Bool.or_eq_false_iff]
    exact ⟨decide_eq_false (by omega), decide_eq_false (by omega)⟩
  · rw [mk_len]
    intro z
    have hp : (0 : Int) < n := by omega
    have h5 : ((l.length : Nat) : Int) ≤ (2 ^ 63 - 1) / n := by
      rw [Int.le_ediv_iff_mul_le hp]
      have h6 : ((n.toNat * l.length : Nat) : Int) ≤ (lim : Int) := Int.ofNat_le.mpr h1
      rw [Int.natCast_mul, Int.toNat_of_nonneg (by omega), Int.mul_comm] at h6
      have e9 : (lim : Int) = 1000000 := rfl
      omega
    omega
  · rw [mk_len]
    unfold tooLong
    apply decide_eq_false
    rw [Nat.mul_comm] at h1
    exact Nat.not_lt.mpr (sz_line (sz_lim h1))
theorem o_repS {n : Int} {c : List Nat} (h : repS l n = some c) : Op2 xRepS (val rS l) (val rInt n) (val rS c) := fun v w F H Q e a b q => by
  obtain ⟨h1, h2⟩ := iteo h
  subst h2
  refine ⟨mk l, n, a.1, b, mulOk_mk h1, q _ F H (Gr.refl e) ⟨by rw [mul_mk], h1.1, fun c z => ?_⟩⟩
  obtain ⟨x, hx, hc⟩ := List.mem_flatten.mp z
  rw [(List.mem_replicate.mp hx).2] at hc
  exact a.2.2 c hc
theorem o_in1 {c : Nat} : Op2 xIn1 (val rC c) (val rS l) (val rB (decide (c ∈ l))) := op_sc flB fun v w F H Q e a b q => ⟨c, mk l, a.1, b.1, q⟩
theorem o_nin1 {c : Nat} : Op2 xNin1 (val rC c) (val rS l) (val rB (!decide (c ∈ l))) := op_sc flB fun v w F H Q e a b q => ⟨c, mk l, a.1, b.1, q⟩
theorem o_inS : Op2 xInS (val rS p) (val rS l) (val rB (inS p l)) := op_sc flB fun v w F H Q e a b q => ⟨mk p, mk l, a.1, b.1, by rw [in_mk]; exact q⟩
theorem o_ninS : Op2 xNinS (val rS p) (val rS l) (val rB (!inS p l)) := op_sc flB fun v w F H Q e a b q => ⟨mk p, mk l, a.1, b.1, by rw [in_mk]; exact q⟩
theorem o_catLO {as bs cs : List α} (h : catO as bs = some cs) : Op2N rCat (spn R as) (spn R bs) R cs := by
  obtain ⟨h1, h2⟩ := iteo h
  subst h2
  exact o_catL h1
theorem o_repLO {as cs : List α} {n : Int} (h : repO as n = some cs) : Op2N rRep (spn R as) (val rInt n) R cs := by
  obtain ⟨h1, h2⟩ := iteo h
  subst h2
  exact o_repL (by omega) (by omega) h1.1

/-! ### methods of texts -/
abbrev RM := V → List V → Hp → VK → Prop
def Cm (r : RM) (l : List Nat) (as : List Ar) (C : Ar) : Prop := ∀ vs F H (Q : VK), OkS l → Same F H → AllA as vs F H → (∀ u F' H', Gr F H F' H' → C.p u F' H' → Q u H') → r (.str (mk l)) vs H Q
def CmN {α : Type} (r : RM) (l : List Nat) (as : List Ar) (R : Rep α) (bs : List α) : Prop := ∀ vs F H (Q : VK), OkS l → Same F H → AllA as vs F H →
  (∀ p xs F' H', Gr F H F' H' → H p = none → F' p = none → H' p = some (.lst xs) → AllB R bs xs F' → Q (.ref p) H') → r (.str (mk l)) vs H Q
theorem ev_m {r : RM} {ta : TA} {as : List Ar} (ho : Ev to σ F O (val rS l)) (ha : EvA ta σ F O as) (hr : Cm r l as C) : Ev (tBM K "str" r to ta) σ F O C := fun H k Q q =>
  ho H k _ fun v F1 H1 g1 a => by
    have a1 : v = .str (mk l) := a.1
    subst a1
    exact ⟨rfl, (ha.mono g1.f) H1 (k.gr g1) _ fun vs F2 H2 g2 b => hr vs F2 H2 Q a.2 g2.fh b fun u F3 H3 g3 c => q u F3 H3 ((g1.trans g2).trans g3) c⟩
theorem ev_mN {r : RM} {ta : TA} {as : List Ar} {bs : List α} (ho : Ev to σ F O (val rS l)) (ha : EvA ta σ F O as) (hr : CmN r l as R bs) : EvN (tBM K "str" r to ta) σ F O R bs := fun H k Q q =>
  ho H k _ fun v F1 H1 g1 a => by
    have a1 : v = .str (mk l) := a.1
    subst a1
    exact ⟨rfl, (ha.mono g1.f) H1 (k.gr g1) _ fun vs F2 H2 g2 b => hr vs F2 H2 Q a.2 g2.fh b fun p xs F3 H3 g3 n f x c => q p xs F3 H3 ((g1.trans g2).trans g3) (gr_none (g1.trans g2) n) f x c⟩
theorem ev_m0 {r : RM} (ho : Ev to σ F O (val rS l)) (hr : Cm r l [] C) : Ev (tBM0 K "str" r to) σ F O C := fun H k Q q =>
  ho H k _ fun v F1 H1 g1 a => by
    have a1 : v = .str (mk l) := a.1
    subst a1
    exact ⟨rfl, hr [] F1 H1 Q a.2 g1.fh trivial fun u F3 H3 g3 c => q u F3 H3 (g1.trans g3) c⟩
def mStarts : RM := fun x xs H Q => ∃ a b, x = .str a ∧ xs = [.str b] ∧ Q (.bl (Txt.startswith a b)) H
def mEnds : RM := fun x xs H Q => ∃ a b, x = .str a ∧ xs = [.str b] ∧ Q (.bl (Txt.endswith a b)) H
def mFind : RM := fun x xs H Q => ∃ a b, x = .str a ∧ xs = [.str b] ∧ Q (.int (Txt.find a b)) H
def mFind3 : RM := fun x xs H Q => ∃ (a b : Str) (i : Int), x = .str a ∧ xs = [.str b, .int i] ∧ Q (.int (Txt.find3 a b i)) H
def mSplit : RM := fun x xs H Q => ∃ a b, x = .str a ∧ xs = [.str b] ∧ (b.length == 0) = false ∧ a.length + 2 ≤ sizeLine ∧ rNewStrs (Txt.split a b) H Q
def mPart : RM := fun x xs H Q => ∃ a b, x = .str a ∧ xs = [.str b] ∧ (b.length == 0) = false ∧ a.length ≤ sizeLine ∧ ∀ p, H p = none → Q (.ref p) (upd H p (.tup [.str (Txt.partition a b).1, .str (Txt.partition a b).2.1, .str (Txt.partition a b).2.2]))
def mJoin (K : PySem.W.Frag) : RM := fun x xs H Q => ∃ a p, ∃ ys : List Str, x = .str a ∧ xs = [.ref p] ∧ (SqL K H p (ys.map V.str) ∨ SqT K H p (ys.map V.str)) ∧ (ys.map (·.length)).sum + ys.length * a.length ≤ 16777216 ∧ Q (.str (Txt.join a ys)) H
def mStrip : RM := fun x xs H Q => ∃ a b, x = .str a ∧ xs = [.str b] ∧ a.length ≤ sizeLine ∧ Q (.str (Txt.stripChars a b)) H
def mLstrip : RM := fun x xs H Q => ∃ a b, x = .str a ∧ xs = [.str b] ∧ a.length ≤ sizeLine ∧ Q (.str (Txt.lstripChars a b)) H
def mRstrip : RM := fun x xs H Q => ∃ a b, x = .str a ∧ xs = [.str b] ∧ a.length ≤ sizeLine ∧ Q (.str (Txt.rstripChars a b)) H
def mLower : RM := fun x xs H Q => ∃ a, x = .str a ∧ xs = [] ∧ a.length ≤ 5592405 ∧ Q (.str (Txt.lower a)) H
theorem mt_mStarts {X : Cx} : MtR X "str.startswith" mStarts := mt_startswith
theorem mt_mEnds {X : Cx} : MtR X "str.endswith" mEnds := mt_endswith
theorem mt_mFind {X : Cx} : MtR X "str.find" mFind := mt_find
theorem mt_mFind3 {X : Cx} : MtR X "str.find" mFind3 := mt_find3
theorem mt_mSplit {X : Cx} : MtR X "str.split" mSplit := mt_split
theorem mt_mPart {X : Cx} : MtR X "str.partition" mPart := mt_partition
theorem mt_mJoin {X : Cx} : MtR X "str.join" (mJoin X.K) := mt_join
theorem mt_mStrip {X : Cx} : MtR X "str.strip" mStrip := mt_stripChars
theorem mt_mLstrip {X : Cx} : MtR X "str.lstrip" mLstrip := mt_lstripChars
theorem mt_mRstrip {X : Cx} : MtR X "str.rstrip" mRstrip := mt_rstripChars
theorem mt_mLower {X : Cx} : MtR X "str.lower" mLower := mt_lower
theorem m_starts : Cm mStarts l [val rS m] (val rB (startsS l m)) := fun vs F H Q k e a q => by
  obtain ⟨v, rfl, b⟩ := alla1 a
  exact ⟨mk l, mk m, rfl, by rw [show v = .str (mk m) from b.1], by rw [starts_mk]; exact q _ F H (Gr.refl e) rfl⟩
theorem m_ends : Cm mEnds l [val rS m] (val rB (endsS l m)) := fun vs F H Q k e a q => by
  obtain ⟨v, rfl, b⟩ := alla1 a
  exact ⟨mk l, mk m, rfl, by rw [show v = .str (mk m) from b.1], by rw [ends_mk]; exact q _ F H (Gr.refl e) rfl⟩
theorem m_find : Cm mFind l [val rS m] (val rInt (optI (findL m 0 l))) := fun vs F H Q k e a q => by
  obtain ⟨v, rfl, b⟩ := alla1 a
  exact ⟨mk l, mk m, rfl, by rw [show v = .str (mk m) from b.1], by rw [find_mk]; exact q _ F H (Gr.refl e) rfl⟩
theorem m_find3 : Cm mFind3 l [val rS m, val rInt i] (val rInt (findS l m i)) := fun vs F H Q k e a q => by
  obtain ⟨v, w, rfl, b, c⟩ := alla2 a
  exact ⟨mk l, mk m, i, rfl, by rw [show v = .str (mk m) from b.1, show w = .int i from c], by rw [find3_mk]; exact q _ F H (Gr.refl e) rfl⟩
theorem m_lstrip : Cm mLstrip l [val rS m] (val rS (lstripS l m)) := fun vs F H Q k e a q => by
  obtain ⟨v, rfl, b⟩ := alla1 a
  exact ⟨mk l, mk m, rfl, by rw [show v = .str (mk m) from b.1], by rw [mk_len]; exact sz_line (sz_lim k.1), by rw [lstrip_mk]; exact q _ F H (Gr.refl e) ⟨rfl, okS_lstrip k⟩⟩
theorem m_rstrip : Cm mRstrip l [val rS m] (val rS (rstripS l m)) := fun vs F H Q k e a q => by
  obtain ⟨v, rfl, b⟩ := alla1 a
  exact ⟨mk l, mk m, rfl, by rw [show v = .str (mk m) from b.1], by rw [mk_len]; exact sz_line (sz_lim k.1), by rw [rstrip_mk]; exact q _ F H (Gr.refl e) ⟨rfl, okS_rstrip k⟩⟩
theorem m_strip : Cm mStrip l [val rS m] (val rS (stripS l m)) := fun vs F H Q k e a q => by
  obtain ⟨v, rfl, b⟩ := alla1 a
  exact ⟨mk l, mk m, rfl, by rw [show v = .str (mk m) from b.1], by rw [mk_len]; exact sz_line (sz_lim k.1), by rw [strip_mk]; exact q _ F H (Gr.refl e) ⟨rfl, okS_strip k⟩⟩
theorem m_lower : Cm mLower l [] (val rS (lowerS l)) := fun vs F H Q k e a q => by
  cases vs with
  | nil => exact ⟨mk l, rfl, rfl, by rw [mk_len]; exact Nat.le_trans k.1 (by decide), by rw [lower_mk k.2]; exact q _ F H (Gr.refl e) ⟨rfl, okS_lower k⟩⟩
  | cons v vs => exact a.elim
theorem m_split {c : Nat} (hc : c < 128) : CmN mSplit l [val rS [c]] rS (splitC c [] l) := fun vs F H Q k e a q => by
  obtain ⟨v, rfl, b⟩ := alla1 a
  refine ⟨mk l, mk [c], rfl, by rw [show v = .str (mk [c]) from b.1], rfl, ?_, fun p hp => ?_⟩
  · rw [mk_len]
    have h1 : l.length ≤ 1000000 := k.1
    exact Nat.le_trans (Nat.add_le_add_right h1 2) (by decide)
  · rw [split_mk hc]
    refine new_post e ⟨All2.of_strs _ (okS_split k), ?_⟩ q p hp
    have := splitC_len c l []
    have h1 : l.length ≤ 1000000 := k.1
    exact Nat.le_trans this (Nat.le_trans (Nat.add_le_add_right h1 1) (by decide))
theorem m_part (hm : m ≠ []) : Cm mPart l [val rS m] (val (rT3 rS rS rS) (partS l m)) := fun vs F H Q k e a q => by
  obtain ⟨v, rfl, b⟩ := alla1 a
  have b2 : v = .str (mk m) ∧ OkS m := b
  refine ⟨mk l, mk m, rfl, by rw [b2.1], ?_, by rw [mk_len]; exact sz_line (sz_lim k.1), fun p hp => ?_⟩
  · rw [mk_len]
    rw [beq_eq_false_iff_ne]
    intro z
    exact hm (List.eq_nil_of_length_eq_zero z)
  · rw [part_mk hm]
    obtain ⟨k1, k2, k3⟩ := okS_part k b2.2
    exact q _ _ _ (Gr.frz e hp) ⟨p, _, _, _, rfl, upd_same, ⟨rfl, k1⟩, ⟨rfl, k2⟩, ⟨rfl, k3⟩⟩
theorem okS_join {ps : List (List Nat)} (hs : OkS l) (h : ∀ p ∈ ps, OkS p) (e : (joinS l ps).length ≤ lim) : OkS (joinS l ps) := ⟨e, fun c z => by
  rcases joinS_mem l ps c z with h1 | ⟨p, h1, h2⟩
  · exact hs.2 c h1
  · exact (h p h1).2 c h2⟩
theorem m_join {ps : List (List Nat)} {c : List Nat} (h : joinO l ps = some c) : Cm (mJoin K) l [spn rS ps] (val rS c) := fun vs F H Q k e a q => by
  obtain ⟨h1, h2⟩ := iteo h
  subst h2
  obtain ⟨v, rfl, p, xs, ev, hp, hx⟩ := alla1 a
  subst ev
  refine ⟨mk l, p, ps.map mk, rfl, rfl, Or.inl ?_, ?_, by rw [join_mk]; exact q _ F H (Gr.refl e) ⟨rfl, okS_join k hx.all.oks h1⟩⟩
  · rw [← hx.all.strs]
    exact sq_of hp
  · have h2 := joinS_len l ps
    rw [List.map_map, List.length_map, mk_len]
    have e1 : (fun (x : Str) => x.length) ∘ mk = List.length := by
      funext z
      exact mk_len z
    rw [e1]
    have h3 : (joinS l ps).length ≤ 1000000 := h1
    have h4 : l.length ≤ 1000000 := k.1
    omega

/-! ### ways that meet -/
/-- a statement whose ways all end in J, then the rest -/
theorem sx_join {S : Type} (J : S → L2.St → Hp → Own → Prop) (s : S) (h2 : ∀ σ' F' O', Same F F' → J s σ' F' O' → Sx Z tu D σ' F' O')
    (h1 : (∀ σ' F' O', Same F F' → J s σ' F' O' → Nx Z { D with nx := tu D } σ' F' O') → Sx Z tt { D with nx := tu D } σ F O) : Sx Z (tSeq tt tu) D σ F O := h1 h2
/-! ### several targets, a def's end -/
theorem sx_asg2 {a : α} {b : β} {n k : Nat} (h : Ev te σ F O (val (rT2 R R') (a, b))) (q : ∀ v w F', Same F F' → R.rp a v F' → R'.rp b w F' → Nx Z D ((σ.set n (some v)).set k (some w)) F' O) : Sx Z (tAsg te (gTup K 2 (gCons (gName n) (gCons (gName k) gNil)))) D σ F O := fun H at0 =>
  h H at0.ok _ fun x F' H' g r => tg_2 (K := K) (a, b) x σ F' H' _ r g.fh fun σ' ⟨v, w, e, h1, h2⟩ => by
    subst e
    exact q v w F' g.f h1 h2 H' (at0.gr g)
theorem sx_asg3 {a : α} {b : β} {c : γ} {R'' : Rep γ} {n k j : Nat} (h : Ev te σ F O (val (rT3 R R' R'') (a, b, c))) (q : ∀ v w x F', Same F F' → R.rp a v F' → R'.rp b w F' → R''.rp c x F' → Nx Z D (((σ.set n (some v)).set k (some w)).set j (some x)) F' O) :
    Sx Z (tAsg te (gTup K 3 (gCons (gName n) (gCons (gName k) (gCons (gName j) gNil))))) D σ F O := fun H at0 =>
  h H at0.ok _ fun x F' H' g r => tg_3 (K := K) (a, b, c) x σ F' H' _ r g.fh fun σ' ⟨v, w, y, e, h1, h2, h3⟩ => by
    subst e
    exact q v w y F' g.f h1 h2 h3 H' (at0.gr g)
theorem rt_val {v : V} {Q : VK} {nx : L2.St → Hp → Prop} {F0 H0 : Hp} (k : ∀ v F' H', Gr F0 H0 F' H' → C.p v F' H' → Q v H') (h : ∀ H, C.p v F H) : Rt ⟨F0, H0, none⟩ { nx := nx, rt := Q } v F O := fun H a => k v F H a.done (h H)
theorem rt_own {p : Addr} {xs : List V} {bs : List α} {Q : VK} {nx : L2.St → Hp → Prop} {F0 H0 : Hp} (k : ∀ p xs F' H', Gr F0 H0 F' H' → H0 p = none → F' p = none → H' p = some (.lst xs) → AllB R bs xs F' → Q (.ref p) H')
    (m : (p, HO.lst xs) ∈ O) (h : AllB R bs xs F) : Rt ⟨F0, H0, none⟩ { nx := nx, rt := Q } (.ref p) F O := fun H a => k p xs F H a.done (a.ob _ m) (a.ok.own _ m).1 (a.ok.own _ m).2 h
/-- an owned list is frozen, wherever it stands -/
theorem At.frzI {n : Nat} {H : Hp} {p : Addr} {o : HO} (k : At Z F O H) (h : O[n]? = some (p, o)) : At Z (upd F p o) (O.eraseIdx n) H := by
  have hm := List.mem_of_getElem? h
  have hp := k.ok.own (p, o) hm
  have hn := (List.getElem?_eq_some_iff.mp h)
  have sub : ∀ q ∈ O.eraseIdx n, q ∈ O := fun q m => (List.eraseIdx_sublist O n).subset m
  have ne : ∀ q ∈ O.eraseIdx n, q.1 ≠ p := fun q m z => by
    obtain ⟨j, hj, e1⟩ := List.mem_eraseIdx_iff_getElem?.mp m
    have a1 : (O.map (·.1))[n]? = some p := by rw [List.getElem?_map, h]; rfl
    have a2 : (O.map (·.1))[j]? = some p := by rw [List.getElem?_map, e1, ← z]; rfl
    have l1 := (List.getElem?_eq_some_iff.mp a1)
    have l2 := (List.getElem?_eq_some_iff.mp a2)
    exact hj ((List.getElem_inj k.nd).mp (l2.2.trans l1.2.symm))
  refine ⟨⟨fun a u e => ?_, fun q m => ?_⟩, k.b, k.f0.trans (same_new hp.1), fun a h1 h2 => ?_, fun q m => k.ob q (sub q m), k.nd.sublist ((List.eraseIdx_sublist O n).map _), fun P nm e => ?_⟩
  · by_cases z : a = p
    · subst z; rw [upd_same] at e; cases e; exact hp.2
    · rw [upd_ne z] at e; exact k.ok.ex a u e
  · have h1 := k.ok.own q (sub q m)
    exact ⟨by rw [upd_ne (ne q m)]; exact h1.1, h1.2⟩
  · rw [upd_ne (fun z => h2 (by rw [z]; exact k.ob (p, o) hm))]
    exact k.sep a h1 h2
  · obtain ⟨ps, h1, h2, h3, h4, h5⟩ := k.tab P nm e
    exact ⟨ps, h1, h2.mono (same_new hp.1), by rw [upd_ne (Ne.symm (h4 (p, o) hm))]; exact h3, fun q m => h4 q (sub q m), h5⟩
theorem sx_frzI {n : Nat} {p : Addr} {o : HO} (h : O[n]? = some (p, o)) (k : F p = none → Sx Z ts D σ (upd F p o) (O.eraseIdx n)) : Sx Z ts D σ F O := fun H a => k (a.ok.own _ (List.mem_of_getElem? h)).1 H (a.frzI h)
theorem nx_frzI {n : Nat} {p : Addr} {o : HO} (h : O[n]? = some (p, o)) (k : F p = none → Nx Z D σ (upd F p o) (O.eraseIdx n)) : Nx Z D σ F O := fun H a => k (a.ok.own _ (List.mem_of_getElem? h)).1 H (a.frzI h)
end
end Lm
/-! Lm: the text's defs. -/
namespace Lm
open PySem PySem.Spec PyProof.Rows L2
/-- a def of the text, as the top has left it -/
structure Df (K : PySem.W.Frag) (mg : Str → Option Value) (x : Str) (st : Stmt) : Prop where
  ex : ∃ f fd, FunD K x x (defArgs st) (defBody st) (defScope st) [] [] f fd ∧ mg x = some (.ref f)
/-- a def that keeps a promise, to be called by its name -/
structure Cal (P : Program) (w : World) (K : PySem.W.Frag) (mg : Str → Option Value) (base : Heap) (k : Nat) (x : Str) (ps : List Str) (sp : Sp) : Prop where
  ex : ∃ f fd, FnOk P w K mg base CX0 k f fd ps sp ∧ mg x = some (.ref f) ∧ PySem.W.keepIn K (.ref f) = true ∧ Binds K fd ps [] ∧ (∀ (s : Shared) (us : List Value), us.length = ps.length → BindsTo s fd ⟨us, []⟩ (ps.zip us)) ∧ ∃ oc od osl, K.lookup f = some ⟨oc, od, .func fd, osl⟩
section
variable {X : Cx} {k : Nat} {ps : List Str} {sp : Sp} {x : Str} {p pos : Pos} {e : Expr} {es : List Expr} {t : TA}
theorem pe_cal (c : Cal X.prog X.w X.K X.mg X.base k x ps sp) (hr : Room k X.A) (hg : Gl X x) (ha : PA X (e :: es) t) (hdb : (x == ("__debug__" : Str)) = false := by decide)
    (he : starEach (e :: es) X.env = (false, eval e X.env) :: starEach es X.env := by rfl) (hpl : (backTo pos (starEach es X.env)).any (·.1) = false := by rfl) : PE X (.Call (.Name x p) (e :: es) [] pos) (tCall sp [] E0 t) := by
  obtain ⟨f, fd, F, hm, hk, hb, _⟩ := c.ex
  exact pe_call F hr hg hm hk hb .nil pass0 ha hdb he hpl
theorem pe_cal0 (c : Cal X.prog X.w X.K X.mg X.base k x ps sp) (hr : Room k X.A) (hg : Gl X x) (hdb : (x == ("__debug__" : Str)) = false := by decide) : PE X (.Call (.Name x p) [] [] pos) (tCall sp [] E0 tNil) := by
  obtain ⟨f, fd, F, hm, hk, hb, _⟩ := c.ex
  exact pe_call0 F hr hg hm hk hb .nil pass0 hdb
end
/-- the body of a def keeps its promise -/
theorem cal_of {P : Program} {w : World} {K : PySem.W.Frag} {mg : Str → Option Value} {base : Heap} {k : Nat} {x : Str} {st : Stmt} {N ps : List Str} {sp : Sp} (D : Df K mg x st) (S : FnScope N ps (defScope st))
    (hb : ∀ (kV doc pm : Value) (an : Option Addr) (cdv ct : Value) (us : List Value), us.length = ps.length → bindArgs (PySem.W.fnOf x x (defArgs st) (defBody st) (defScope st) .none kV doc pm an cdv ct) ⟨us, []⟩ = pure (ps.zip us))
    (len : ∀ vs H Q E, sp vs H Q E → vs.length = ps.length)
    (body : ∀ (f : Addr) (cdv : Value) (A : Around) (outer : List Env) (s : Shared) (H : Hp) (vs : List V) (Q : VK) (E : XK), Room k (A.deeper (envOfC x (defScope st) s.heap.objs.size f cdv)) → sp vs H Q E →
      ∃ t, PSs (cxOf CX0 P w K mg base N x (defScope st) f cdv A outer s H E).nox (defBody st) t ∧ t { nx := fun _ H' => Q .non H', rt := Q } (start N vs) H) :
    Cal P w K mg base (k + 1) x ps sp := by
  obtain ⟨f, fd, F, hm⟩ := D.ex
  exact ⟨f, fd, F.ok S len (fun cdv A outer s H vs Q E hr h => (body f cdv A outer s H vs Q E hr h).elim fun t z => ⟨t, z.1.nox, z.2⟩), hm, F.kp, F.bindsN hb, F.bindsA hb, by
    obtain ⟨oc, od, dV, kV, doc, pm, an, cdv, ct, osl, _, lk, _, _, _⟩ := F.ex
    exact ⟨oc, od, osl, lk⟩⟩
/-- the law's own def, as the end of a head asks it -/
theorem fin_of {P : Program} {w : World} {K : PySem.W.Frag} {mg : Str → Option Value} {k : Nat} {x a : Str} {sp : Sp} {fa : Addr} (hfa : mg x = some (.ref fa)) (base0 : Heap) (c : ∀ base : Heap, Cal P w K mg base k x [a] sp) :
    ∃ fd : FuncData, (∀ (s : Shared) (v : Value), BindsTo s fd ⟨[v], []⟩ [(a, v)]) ∧ ∀ base : Heap, FnOk P w K mg base CX0 k fa fd [a] sp := by
  obtain ⟨f, fd, F, hm, hk, hb, hA, oc, od, osl, lk⟩ := (c base0).ex
  have e : fa = f := by rw [hfa] at hm; cases hm; rfl
  subst e
  refine ⟨fd, fun s v => hA s [v] rfl, fun base => ?_⟩
  obtain ⟨f2, fd2, F2, hm2, _, _, _, oc2, od2, osl2, lk2⟩ := (c base).ex
  have e2 : fa = f2 := by rw [hfa] at hm2; cases hm2; rfl
  subst e2
  rw [lk] at lk2
  cases lk2
  exact F2
end Lm
/-! Lm: data of any shape, more tests. -/
namespace Lm
open PySem PySem.Spec L2
mutual
def rpD : PyData → V → Hp → Prop
  | .none, v, _ => v = .non
  | .bool b, v, _ => v = .bl b
  | .int i, v, _ => v = .int i
  | .str x, v, _ => v = .str x ∧ OkS x.cps.toList
  | .list ds, v, F => ∃ p xs, v = .ref p ∧ F p = some (.lst xs) ∧ rpDs ds xs F ∧ ds.length ≤ limL
  | .tuple ds, v, F => ∃ p xs, v = .ref p ∧ F p = some (.tup xs) ∧ rpDs ds xs F ∧ ds.length ≤ limL
  | .dict kvs, v, F => kvs = [] ∧ ∃ p, v = .ref p ∧ F p = some (.dK [])
def rpDs : List PyData → List V → Hp → Prop
  | [], vs, _ => vs = []
  | d :: ds, vs, F => ∃ v ws, vs = v :: ws ∧ rpD d v F ∧ rpDs ds ws F
end
mutual
theorem rpD_mono {F F' : Hp} (e : Same F F') : ∀ (d : PyData) (v : V), rpD d v F → rpD d v F'
  | .none, _, h => h
  | .bool _, _, h => h
  | .int _, _, h => h
  | .str _, _, h => h
  | .list ds, _, ⟨p, xs, h1, h2, h3, h4⟩ => ⟨p, xs, h1, e _ _ h2, rpDs_mono e ds xs h3, h4⟩
  | .tuple ds, _, ⟨p, xs, h1, h2, h3, h4⟩ => ⟨p, xs, h1, e _ _ h2, rpDs_mono e ds xs h3, h4⟩
  | .dict _, _, ⟨h0, p, h1, h2⟩ => ⟨h0, p, h1, e _ _ h2⟩
theorem rpDs_mono {F F' : Hp} (e : Same F F') : ∀ (ds : List PyData) (vs : List V), rpDs ds vs F → rpDs ds vs F'
  | [], _, h => h
  | d :: ds, _, ⟨v, ws, h1, h2, h3⟩ => ⟨v, ws, h1, rpD_mono e d v h2, rpDs_mono e ds ws h3⟩
end
def rD : Rep PyData := ⟨rpD, fun e h => rpD_mono e _ _ h⟩
theorem rpDs_all {F : Hp} : ∀ {ds : List PyData} {vs : List V}, rpDs ds vs F ↔ All2 rD ds vs F
  | [], [] => by simp [rpDs, All2]
  | [], _ :: _ => by simp [rpDs, All2]
  | d :: ds, [] => by simp [rpDs, All2]
  | d :: ds, v :: vs => by
    constructor
    · rintro ⟨w, ws, e, h1, h2⟩
      cases e
      exact ⟨h1, rpDs_all.mp h2⟩
    · rintro ⟨h1, h2⟩
      exact ⟨v, vs, rfl, h1, rpDs_all.mpr h2⟩
/-- how a kind is told as data -/
structure Enc {α : Type} (R : Rep α) (f : α → PyData) : Prop where
  to : ∀ {a v F}, R.rp a v F → rpD (f a) v F
def encS (l : List Nat) : PyData := .str (mk l)
def encC (c : Nat) : PyData := .str (mk [c])
theorem okS_one {c : Nat} (h : c < 128) : OkS [c] := ⟨by show 1 ≤ lim; decide, fun d m => by rw [List.mem_singleton.mp m]; exact h⟩
theorem eI : Enc rInt PyData.int := ⟨fun h => h⟩
theorem eB : Enc rB PyData.bool := ⟨fun h => h⟩
theorem eS : Enc rS encS := ⟨fun h => h⟩
theorem eC : Enc rC encC := ⟨fun h => ⟨h.1, okS_one h.2⟩⟩
theorem eN : Enc rN (fun _ => PyData.none) := ⟨fun h => h⟩
theorem eD : Enc rD id := ⟨fun h => h⟩
section
variable {α β γ : Type} {R : Rep α} {R' : Rep β} {R'' : Rep γ} {f : α → PyData} {g : β → PyData} {k : γ → PyData}
theorem all_enc (h : Enc R f) {F : Hp} : ∀ {as : List α} {vs : List V}, All2 R as vs F → All2 rD (as.map f) vs F
  | [], [], _ => trivial
  | _ :: _, _ :: _, q => ⟨h.to q.1, all_enc h q.2⟩
  | [], _ :: _, q => q.elim
  | _ :: _, [], q => q.elim
theorem eL (h : Enc R f) : Enc (rL R) (fun as => PyData.list (as.map f)) := ⟨fun ⟨p, xs, h1, h2, h3⟩ => ⟨p, xs, h1, h2, rpDs_all.mpr (all_enc h h3.all), by rw [List.length_map]; exact h3.len⟩⟩
theorem eTL (h : Enc R f) : Enc (rTL R) (fun as => PyData.tuple (as.map f)) := ⟨fun ⟨p, xs, h1, h2, h3⟩ => ⟨p, xs, h1, h2, rpDs_all.mpr (all_enc h h3.all), by rw [List.length_map]; exact h3.len⟩⟩
theorem eT2 (h : Enc R f) (h' : Enc R' g) : Enc (rT2 R R') (fun t => PyData.tuple [f t.1, g t.2]) := ⟨fun ⟨p, x, y, h1, h2, h3, h4⟩ => ⟨p, [x, y], h1, h2, ⟨x, [y], rfl, h.to h3, y, [], rfl, h'.to h4, rfl⟩, by show 2 ≤ limL; decide⟩⟩
theorem eT3 (h : Enc R f) (h' : Enc R' g) (h'' : Enc R'' k) : Enc (rT3 R R' R'') (fun t => PyData.tuple [f t.1, g t.2.1, k t.2.2]) := ⟨fun ⟨p, x, y, z, h1, h2, h3, h4, h5⟩ => ⟨p, [x, y, z], h1, h2, ⟨x, [y, z], rfl, h.to h3, y, [z], rfl, h'.to h4, z, [], rfl, h''.to h5, rfl⟩, by show 3 ≤ limL; decide⟩⟩
def encO (f : α → PyData) : Option α → PyData
  | none => .none
  | some a => f a
theorem eO (h : Enc R f) : Enc (rO R) (encO f) := ⟨fun {o} {v} {F} q => by
  cases o with
  | none => exact q
  | some a => exact h.to q.1⟩
end

section
variable {α β γ : Type} {R : Rep α} {R' : Rep β} {f : α → PyData} {g : β → PyData} {σ : L2.St} {F F1 : Hp} {O : Own} {ta tb tc te : TE} {tt tu : TT} {A B C : Ar} {K : PySem.W.Frag} {i j : Int} {d e : PyData}
theorem ev_d {a : α} (h : Enc R f) (hv : Ev te σ F O (val R a)) : Ev te σ F O (val rD (f a)) := fun H k Q q => hv H k Q fun v F' H' g r => q v F' H' g (h.to r)
theorem ev_tupD {ta : TA} {ds : List PyData} (h : EvA ta σ F O (AllV rD ds)) (hl : ds.length ≤ limL) : Ev (tTup ta) σ F O (val rD (.tuple ds)) := fun H k Q q =>
  (ev_tupL h hl) H k Q fun v F' H' g ⟨p, xs, h1, h2, h3⟩ => q v F' H' g ⟨p, xs, h1, h2, rpDs_all.mpr h3.all, h3.len⟩
def ixD (d : PyData) (i : Int) : Option PyData := match d with
  | .tuple ds => atI ds i
  | _ => none
theorem o_ixD {c : PyData} (h : ixD d i = some c) : Op2 (rIxT K) (val rD d) (val rInt i) (val rD c) := fun v w F H Q k a b q => by
  cases d with
  | tuple ds =>
    obtain ⟨p, xs, ev, hp, hx, hl⟩ := a
    obtain ⟨y, e1, r⟩ := atI_get (rpDs_all.mp hx) h
    exact ⟨p, xs, i, y, ev, b, st_of (k _ _ hp), e1, q y F H (Gr.refl k) r⟩
  | _ => cases h
/-- data known to be a text, an int -/
def asS : PyData → Option (List Nat)
  | .str x => some x.cps.toList
  | _ => none
def asI : PyData → Option Int
  | .int i => some i
  | _ => none
theorem ev_asS {l : List Nat} (h : asS d = some l) (hv : Ev te σ F O (val rD d)) : Ev te σ F O (val rS l) := fun H k Q q => hv H k Q fun v F' H' g r => q v F' H' g (by
  cases d with
  | str x =>
    have h2 : x.cps.toList = l := Option.some.inj h
    subst h2
    exact ⟨by rw [r.1], r.2⟩
  | _ => cases h)
theorem ev_asI (h : asI d = some i) (hv : Ev te σ F O (val rD d)) : Ev te σ F O (val rInt i) := fun H k Q q => hv H k Q fun v F' H' g r => q v F' H' g (by
  cases d with
  | int x =>
    have h2 : x = i := Option.some.inj h
    subst h2
    exact r
  | _ => cases h)
def isND : PyData → Bool
  | .none => true
  | _ => false
theorem nonD {v : V} {F : Hp} (h : rpD d v F) : decide (v = .non) = isND d := by
  cases d with
  | none => exact decide_eq_true h
  | bool b => have e : v = .bl b := h; subst e; rfl
  | int b => have e : v = .int b := h; subst e; rfl
  | str x => rw [h.1]; rfl
  | list ds => obtain ⟨p, xs, h1, _⟩ := h; rw [h1]; rfl
  | tuple ds => obtain ⟨p, xs, h1, _⟩ := h; rw [h1]; rfl
  | dict ds => obtain ⟨_, p, h1, _⟩ := h; rw [h1]; rfl
theorem o_isD : Op2 xIsN (val rD d) (val rN ()) (val rB (isND d)) := op_sc flB fun v w _ _ Q _ a b q => ⟨b, by rw [nonD a]; exact q⟩
theorem o_notD : Op2 xNotN (val rD d) (val rN ()) (val rB (!isND d)) := op_sc flB fun v w _ _ Q _ a b q => ⟨b, by rw [nonD a]; exact q⟩
/- == of data -/
mutual
theorem rpD_Dp {F H : Hp} (e : Same F H) : ∀ (d : PyData) (v : V), d.canLay0 = true → rpD d v F → Dp K H v d
  | .none, _, _, h => by have h2 : _ = V.non := h; subst h2; exact .non
  | .bool b, _, _, h => by have h2 : _ = V.bl b := h; subst h2; exact .bl b
  | .int b, _, _, h => by have h2 : _ = V.int b := h; subst h2; exact .int b
  | .str x, _, _, h => by rw [h.1]; exact .str x
  | .list ds, _, c, ⟨p, xs, h1, h2, h3, h4⟩ => by rw [h1]; exact .lst (sq_of (e _ _ h2)) (rpD_DpAll e ds xs c h3)
  | .tuple ds, _, c, ⟨p, xs, h1, h2, h3, h4⟩ => by rw [h1]; exact .tup (st_of (e _ _ h2)) (rpD_DpAll e ds xs c h3)
  | .dict _, _, c, _ => by cases c
theorem rpD_DpAll {F H : Hp} (e : Same F H) : ∀ (ds : List PyData) (vs : List V), PyData.canLayAll0 ds = true → rpDs ds vs F → DpAll K H vs ds
  | [], _, _, h => by have h2 : _ = [] := h; subst h2; exact .nil
  | d :: ds, _, c, ⟨v, ws, h1, h2, h3⟩ => by
    subst h1
    have c2 : (d.canLay0 && PyData.canLayAll0 ds) = true := c
    rw [Bool.and_eq_true] at c2
    exact .cons (rpD_Dp e d v c2.1 h2) (rpD_DpAll e ds ws c2.2 h3)
end
/-- data on one side of == : a value, a list's spine -/
structure Dt (K : PySem.W.Frag) (A : Ar) (d : PyData) : Prop where
  dp : ∀ {v F H}, Same F H → A.p v F H → Dp K H v d
  sh : SeqAt.shaped d = true
theorem dt_v {a : α} (h : Enc R f) (s : SeqAt.shaped (f a) = true) : Dt K (val R a) (f a) := ⟨fun e r => rpD_Dp e _ _ (SeqAt.canLay_of_shaped s) (h.to r), s⟩
theorem dt_l {as : List α} (h : Enc R f) (s : SeqAt.shaped (.list (as.map f)) = true) : Dt K (spn R as) (.list (as.map f)) := ⟨fun e ⟨p, xs, h1, h2, h3⟩ => by
  rw [h1]
  exact .lst (sq_of h2) (rpD_DpAll e _ _ (SeqAt.canLay_of_shaped s) (rpDs_all.mpr (all_enc h h3.all))), s⟩
theorem o_eqD (h1 : Dt K A d) (h2 : Dt K B e) : Op2 (rEqD K) A B (val rB (PyData.eqv d e)) := op_sc flB fun v w F H Q s a b q => ⟨d, e, h1.dp s a, h2.dp s b, h1.sh, h2.sh, q⟩
theorem o_neD (h1 : Dt K A d) (h2 : Dt K B e) : Op2 (rNeD K) A B (val rB (!PyData.eqv d e)) := op_sc flB fun v w F H Q s a b q => ⟨d, e, h1.dp s a, h2.dp s b, h1.sh, h2.sh, q⟩
def eqO (d e : PyData) : Option Bool := if SeqAt.shaped d = true ∧ SeqAt.shaped e = true then some (PyData.eqv d e) else none
theorem eqO_e {b : Bool} (h : eqO d e = some b) : SeqAt.shaped d = true ∧ SeqAt.shaped e = true ∧ PyData.eqv d e = b := by
  obtain ⟨h1, h2⟩ := iteo h
  exact ⟨h1.1, h1.2, h2⟩

/-! ### tests in short -/
theorem et_is {a b : Bool} (h : EvT tt σ F O a) (e : a = b) : EvT tt σ F O b := e ▸ h
theorem et_andP {a b : Bool} (h1 : EvT tt σ F O a) (h2 : a = true → EvT tu σ F O b) : EvT (tAnd tt tu) σ F O (a && b) := et_and h1 (fun e => by rw [e, Bool.true_and]; exact h2 e) (fun e => by rw [e, Bool.false_and])
theorem et_orP {a b : Bool} (h1 : EvT tt σ F O a) (h2 : a = false → EvT tu σ F O b) : EvT (tOr tt tu) σ F O (a || b) := et_or h1 (fun e => by rw [e, Bool.false_or]; exact h2 e) (fun e => by rw [e, Bool.true_or])
theorem ev_andP {a b : Bool} (h1 : Ev ta σ F O (val rB a)) (h2 : a = true → Ev tb σ F O (val rB b)) : Ev (tAndV ta tb) σ F O (val rB (a && b)) := ev_and h1 (fun e => by rw [e, Bool.true_and]; exact h2 e) (fun e => by rw [e, Bool.false_and])
theorem ev_orP {a b : Bool} (h1 : Ev ta σ F O (val rB a)) (h2 : a = false → Ev tb σ F O (val rB b)) : Ev (tOrV ta tb) σ F O (val rB (a || b)) := ev_or h1 (fun e => by rw [e, Bool.false_or]; exact h2 e) (fun e => by rw [e, Bool.true_or])
theorem ev_ifP {c : Bool} {a b : α} (h : EvT tt σ F O c) (h1 : c = true → Ev ta σ F O (val R a)) (h2 : c = false → Ev tb σ F O (val R b)) : Ev (tIf tt ta tb) σ F O (val R (bif c then a else b)) := ev_if h (fun e => by rw [e]; exact h1 e) (fun e => by rw [e]; exact h2 e)
theorem ev_chainP {r r' : R2} {b1 b2 : Bool} (ha : Ev ta σ F O A) (hb : Ev tb σ F O B) (ho : Op2 r A B (val rB b1)) (hc : Ev tc σ F O C) (ho2 : Op2 r' B C (val rB b2)) : Ev (tChain r r' ta tb tc) σ F O (val rB (b1 && b2)) :=
  ev_chain ha hb ho (fun _ => hc) (fun e => by rw [e, Bool.true_and]; exact ho2) (fun e => by rw [e, Bool.false_and])
def uNeg : V → Hp → VK → Prop := rU fun i => .int (-i)
theorem un_uNeg {X : Cx} : UnR X (unaryOp .USub) uNeg := un_neg
theorem ev_neg (h : Ev te σ F O (val rInt i)) : Ev (tUn uNeg te) σ F O (val rInt (-i)) := fun H k Q q => h H k _ fun v F' H' g a => ⟨i, a, q _ F' H' g rfl⟩
end
end Lm
/-! Lm: odds and ends. -/
namespace Lm
open PySem PySem.Spec L2
section
variable {α β γ : Type} {R : Rep α} {R' : Rep β} {σ : L2.St} {F F1 : Hp} {O : Own} {ta tb tc te : TE} {tt tu : TT} {A B C : Ar} {K : PySem.W.Frag} {i j : Int} {d e : PyData}
theorem ev_isN {as bs : List α} (h : EvN te σ F O R as) (e : as = bs) : EvN te σ F O R bs := e ▸ h
theorem alla0 {F H : Hp} {vs : List V} (h : AllA [] vs F H) : vs = [] := by
  cases vs with
  | nil => rfl
  | cons v vs => exact h.elim
theorem alla4 {F H : Hp} {vs : List V} {A B C E : Ar} (h : AllA [A, B, C, E] vs F H) : ∃ v w x y, vs = [v, w, x, y] ∧ A.p v F H ∧ B.p w F H ∧ C.p x F H ∧ E.p y F H := by
  match vs, h with
  | [v, w, x, y], h => exact ⟨v, w, x, y, rfl, h.1, h.2.1, h.2.2.1, h.2.2.2.1⟩
theorem alla5 {F H : Hp} {vs : List V} {A B C E G : Ar} (h : AllA [A, B, C, E, G] vs F H) : ∃ v w x y z, vs = [v, w, x, y, z] ∧ A.p v F H ∧ B.p w F H ∧ C.p x F H ∧ E.p y F H ∧ G.p z F H := by
  match vs, h with
  | [v, w, x, y, z], h => exact ⟨v, w, x, y, z, rfl, h.1, h.2.1, h.2.2.1, h.2.2.2.1, h.2.2.2.2.1⟩
theorem o_ixT20 {a : α} {b : β} : Op2 (rIxT K) (val (rT2 R R') (a, b)) (val rInt 0) (val R a) := o_ixA
theorem o_ixT21 {a : α} {b : β} : Op2 (rIxT K) (val (rT2 R R') (a, b)) (val rInt 1) (val R' b) := o_ixB
/-! ### isinstance of a built-in class -/
def HasTy (K : PySem.W.Frag) (A : Ar) (T : String) : Prop := ∀ {v F H}, Same F H → A.p v F H → TyOf K H v (.type T)
theorem ev_ty {T : String} : Ev (tC (.ty T)) σ F O (val (rV (.ty T)) ()) := ev_c fun _ => rfl
theorem b_isi {T U : String} {b : Bool} (h : HasTy K A T) (hb : kitB T U = some b) : Cb (rIsi K) [A, val (rV (.ty U)) ()] (val rB b) := cb_sc flB fun vs F H Q e a q => by
  obtain ⟨v, w, rfl, h1, h2⟩ := alla2 a
  have h3 : w = .ty U := h2
  subst h3
  exact ⟨v, .ty U, .type T, .type U, b, rfl, .ty U, .base (h e h1), kit_ty hb, q⟩
theorem tI {a : Int} : HasTy K (val rInt a) "int" := fun _ h => by
  have h2 : _ = V.int a := h
  subst h2; exact .int a
theorem tyB {a : Bool} : HasTy K (val rB a) "bool" := fun _ h => by
  have h2 : _ = V.bl a := h
  subst h2; exact .bl a
theorem tS {a : List Nat} : HasTy K (val rS a) "str" := fun _ h => by
  rw [show _ = V.str (mk a) from h.1]; exact .str _
theorem tyN {a : Unit} : HasTy K (val rN a) "NoneType" := fun _ h => by
  have h2 : _ = V.non := h
  subst h2; exact .non
theorem tL {as : List α} : HasTy K (val (rL R) as) "list" := fun e ⟨p, xs, h1, h2, _⟩ => by
  subst h1; exact .lst (e _ _ h2)
theorem tP {as : List α} : HasTy K (spn R as) "list" := fun e ⟨p, xs, h1, h2, _⟩ => by
  subst h1; exact .lst h2
theorem tT2 {t : α × β} : HasTy K (val (rT2 R R') t) "tuple" := fun e ⟨p, x, y, h1, h2, _⟩ => by
  subst h1; exact .tup (e _ _ h2)
def tyD : PyData → String
  | .none => "NoneType"
  | .bool _ => "bool"
  | .int _ => "int"
  | .str _ => "str"
  | .list _ => "list"
  | .tuple _ => "tuple"
  | .dict _ => "dict"
theorem tD : HasTy K (val rD d) (tyD d) := fun {v} {F} {H} e h => by
  cases d with
  | none => have h2 : v = V.non := h; subst h2; exact .non
  | bool b => have h2 : v = V.bl b := h; subst h2; exact .bl b
  | int b => have h2 : v = V.int b := h; subst h2; exact .int b
  | str x => rw [show v = V.str x from h.1]; exact .str _
  | list ds => obtain ⟨p, xs, h1, h2, _⟩ := h; subst h1; exact .lst (e _ _ h2)
  | tuple ds => obtain ⟨p, xs, h1, h2, _⟩ := h; subst h1; exact .tup (e _ _ h2)
  | dict ds => obtain ⟨_, p, h1, h2⟩ := h; subst h1; exact .dK (e _ _ h2)
def isStrD : PyData → Bool
  | .str _ => true
  | _ => false
def isIntD : PyData → Bool
  | .int _ => true
  | .bool _ => true
  | _ => false
def isBoolD : PyData → Bool
  | .bool _ => true
  | _ => false
def isListD : PyData → Bool
  | .list _ => true
  | _ => false
def isTupD : PyData → Bool
  | .tuple _ => true
  | _ => false
theorem k_str : kitB (tyD d) "str" = some (isStrD d) := by
  cases d with
  | none => exact (by decide +kernel : kitB "NoneType" "str" = some false)
  | bool _ => exact (by decide +kernel : kitB "bool" "str" = some false)
  | int _ => exact (by decide +kernel : kitB "int" "str" = some false)
  | str _ => exact (by decide +kernel : kitB "str" "str" = some true)
  | list _ => exact (by decide +kernel : kitB "list" "str" = some false)
  | tuple _ => exact (by decide +kernel : kitB "tuple" "str" = some false)
  | dict _ => exact (by decide +kernel : kitB "dict" "str" = some false)
theorem k_int : kitB (tyD d) "int" = some (isIntD d) := by
  cases d with
  | none => exact (by decide +kernel : kitB "NoneType" "int" = some false)
  | bool _ => exact (by decide +kernel : kitB "bool" "int" = some true)
  | int _ => exact (by decide +kernel : kitB "int" "int" = some true)
  | str _ => exact (by decide +kernel : kitB "str" "int" = some false)
  | list _ => exact (by decide +kernel : kitB "list" "int" = some false)
  | tuple _ => exact (by decide +kernel : kitB "tuple" "int" = some false)
  | dict _ => exact (by decide +kernel : kitB "dict" "int" = some false)
theorem k_bool : kitB (tyD d) "bool" = some (isBoolD d) := by
  cases d with
  | none => exact (by decide +kernel : kitB "NoneType" "bool" = some false)
  | bool _ => exact (by decide +kernel : kitB "bool" "bool" = some true)
  | int _ => exact (by decide +kernel : kitB "int" "bool" = some false)
  | str _ => exact (by decide +kernel : kitB "str" "bool" = some false)
  | list _ => exact (by decide +kernel : kitB "list" "bool" = some false)
  | tuple _ => exact (by decide +kernel : kitB "tuple" "bool" = some false)
  | dict _ => exact (by decide +kernel : kitB "dict" "bool" = some false)
theorem k_list : kitB (tyD d) "list" = some (isListD d) := by
  cases d with
  | none => exact (by decide +kernel : kitB "NoneType" "list" = some false)
  | bool _ => exact (by decide +kernel : kitB "bool" "list" = some false)
  | int _ => exact (by decide +kernel : kitB "int" "list" = some false)
  | str _ => exact (by decide +kernel : kitB "str" "list" = some false)
  | list _ => exact (by decide +kernel : kitB "list" "list" = some true)
  | tuple _ => exact (by decide +kernel : kitB "tuple" "list" = some false)
  | dict _ => exact (by decide +kernel : kitB "dict" "list" = some false)
theorem k_tup : kitB (tyD d) "tuple" = some (isTupD d) := by
  cases d with
  | none => exact (by decide +kernel : kitB "NoneType" "tuple" = some false)
  | bool _ => exact (by decide +kernel : kitB "bool" "tuple" = some false)
  | int _ => exact (by decide +kernel : kitB "int" "tuple" = some false)
  | str _ => exact (by decide +kernel : kitB "str" "tuple" = some false)
  | list _ => exact (by decide +kernel : kitB "list" "tuple" = some false)
  | tuple _ => exact (by decide +kernel : kitB "tuple" "tuple" = some true)
  | dict _ => exact (by decide +kernel : kitB "dict" "tuple" = some false)
/-! ### an item of a tuple of texts, a slice of a data tuple -/
theorem inv_str {x : List Nat} : ∀ xs : List (List Nat), inV (V.str (mk x)) ((xs.map mk).map V.str) = decide (x ∈ xs)
  | [] => rfl
  | y :: ys => by
    have e : inV (V.str (mk x)) (((y :: ys).map mk).map V.str) = (eqV (V.str (mk y)) (V.str (mk x)) || inV (V.str (mk x)) ((ys.map mk).map V.str)) := rfl
    rw [e, inv_str ys]
    have e2 : eqV (V.str (mk y)) (V.str (mk x)) = decide (x = y) := by
      show decide (mk y = mk x) = decide (x = y)
      by_cases h : x = y
      · subst h; simp
      · rw [decide_eq_false h, decide_eq_false (fun z => h (mk_inj z).symm)]
    rw [e2, Bool.eq_iff_iff, Bool.or_eq_true]
    simp only [decide_eq_true_eq, List.mem_cons]
theorem flat_strs : ∀ xs : List Str, (xs.map V.str).all flatV = true
  | [] => rfl
  | x :: xs => by rw [List.map_cons, List.all_cons, flat_strs xs]; rfl
theorem o_inTS {x : List Nat} {xs : List (List Nat)} : Op2 (rIn K false) (val rS x) (val (rTL rS) xs) (val rB (decide (x ∈ xs))) := op_sc flB fun v w F H Q e a b q => by
  obtain ⟨p, ys, h1, h2, h3⟩ := b
  refine ⟨p, ys, h1, Or.inr (st_of (e _ _ h2)), by rw [a.1]; rfl, by rw [h3.all.strs]; exact flat_strs _, ?_⟩
  show Q (.bl (inV v ys)) H
  rw [h3.all.strs, a.1, inv_str]
  exact q
theorem o_ninTS {x : List Nat} {xs : List (List Nat)} : Op2 (rIn K true) (val rS x) (val (rTL rS) xs) (val rB (!decide (x ∈ xs))) := op_sc flB fun v w F H Q e a b q => by
  obtain ⟨p, ys, h1, h2, h3⟩ := b
  refine ⟨p, ys, h1, Or.inr (st_of (e _ _ h2)), by rw [a.1]; rfl, by rw [h3.all.strs]; exact flat_strs _, ?_⟩
  show Q (.bl (!inV v ys)) H
  rw [h3.all.strs, a.1, inv_str]
  exact q
end
end Lm
/-! Lm: expressions that change an owned cell (the tape). -/
namespace Lm
open PySem PySem.Spec L2
/-- a tape that stands at k -/
abbrev tp (k : Int) : HO := .lst [.int k]
/-- growth but at p -/
structure GrT (p : Addr) (F H F' H' : Hp) : Prop where
  f : Same F F'
  h : ∀ a o, a ≠ p → H a = some o → H' a = some o
  fh : Same F' H'
  nw : ∀ a, F a = none → H a ≠ none → F' a = none
section
variable {Z : Bs} {F H F' H' : Hp} {O : Own} {p : Addr} {o o' : HO}
/-- all of H but p -/
def but (p : Addr) (H : Hp) : Hp := fun a => if a = p then none else H a
theorem but_same : Same (but p H) H := fun a u e => by
  unfold but at e
  by_cases z : a = p
  · rw [if_pos z] at e; cases e
  · rw [if_neg z] at e; exact e
theorem At.startT (e : Same F H) (hf : F p = none) (hh : H p = some o) : At ⟨F, but p H, none⟩ F [(p, o)] H := by
  refine ⟨⟨e, fun q m => ?_⟩, but_same, Same.refl _, fun _ h _ => h, fun q m => ?_, ?_, fun _ _ e => (by cases e)⟩
  · rw [List.mem_singleton.mp m]; exact ⟨hf, hh⟩
  · rw [List.mem_singleton.mp m]; exact if_pos rfl
  · show [p].Nodup
    simp
theorem At.doneT (k : At ⟨F, but p H, none⟩ F' O H') (m : (p, o') ∈ O) : GrT p F H F' H' ∧ H' p = some o' := by
  have hp := k.ok.own _ m
  refine ⟨⟨k.f0, fun a o ne h => k.b a o (by show but p H a = _; unfold but; rw [if_neg ne]; exact h), k.ok.ex, fun a h1 h2 => ?_⟩, hp.2⟩
  by_cases z : a = p
  · subst z; exact hp.1
  · exact k.sep a h1 (by show but p H a ≠ none; unfold but; rw [if_neg z]; exact h2)
theorem set_keys {n : Nat} (h : O[n]? = some (p, o)) : (O.set n (p, o')).map (·.1) = O.map (·.1) := by
  rw [List.map_set]
  apply List.ext_getElem?
  intro i
  rw [List.getElem?_set]
  split
  · next e =>
    subst e
    rw [List.length_map]
    have hn := (List.getElem?_eq_some_iff.mp h).1
    rw [if_pos hn, List.getElem?_map, h]
    rfl
  · rfl
theorem At.grT {n : Nat} (k : At Z F O H) (g : GrT p F H F' H') (h : O[n]? = some (p, o)) (hx : H' p = some o') : At Z F' (O.set n (p, o')) H' := by
  have hp := k.ok.own (p, o) (List.mem_of_getElem? h)
  have em : (O.set n (p, o')).map (·.1) = O.map (·.1) := set_keys h
  have pne : p ∈ O.map (·.1) := List.mem_map.mpr ⟨_, List.mem_of_getElem? h, rfl⟩
  have hF' : F' p = none := g.nw p hp.1 (by rw [hp.2]; exact fun z => by cases z)
  refine ⟨⟨g.fh, fun q m => ?_⟩, fun a u e => ?_, k.f0.trans g.f, fun a h1 h2 => ?_, fun q m => ?_, by rw [em]; exact k.nd, fun P nm e => ?_⟩
  · obtain ⟨i, hi⟩ := List.getElem?_of_mem m
    rw [List.getElem?_set] at hi
    by_cases e : n = i
    · rw [if_pos e] at hi
      split at hi
      · cases hi
        exact ⟨hF', hx⟩
      · cases hi
    · rw [if_neg e] at hi
      have h1 := k.ok.own q (List.mem_of_getElem? hi)
      have ne : q.1 ≠ p := fun z => by
        have a1 : (O.map (·.1))[n]? = some p := by rw [List.getElem?_map, h]; rfl
        have a2 : (O.map (·.1))[i]? = some p := by rw [List.getElem?_map, hi, ← z]; rfl
        have l1 := (List.getElem?_eq_some_iff.mp a1)
        have l2 := (List.getElem?_eq_some_iff.mp a2)
        exact e ((List.getElem_inj k.nd).mp (l1.2.trans l2.2.symm))
      exact ⟨g.nw _ h1.1 (by rw [h1.2]; exact fun z => by cases z), g.h _ _ ne h1.2⟩
  · refine g.h a u (fun z => ?_) (k.b a u e)
    subst z
    rw [k.ob _ (List.mem_of_getElem? h)] at e
    cases e
  · exact g.nw a (k.sep a h1 h2) (by
      cases e : Z.B a with
      | none => exact absurd e h2
      | some u => rw [k.b a u e]; exact fun z => by cases z)
  · obtain ⟨u, e⟩ : ∃ u, u ∈ O ∧ u.1 = q.1 := by
      have : q.1 ∈ (O.set n (p, o')).map (·.1) := List.mem_map.mpr ⟨q, m, rfl⟩
      rw [em] at this
      obtain ⟨u, a, b⟩ := List.mem_map.mp this
      exact ⟨u, a, b⟩
    rw [← e.2]
    exact k.ob u e.1
  · obtain ⟨ps, h1, h2, h3, h4, h5⟩ := k.tab P nm e
    have ne : p ≠ P := h4 _ (List.mem_of_getElem? h)
    refine ⟨ps, g.h _ _ (Ne.symm ne) h1, h2.mono g.f, g.nw P h3 (by rw [h1]; exact fun z => by cases z), fun q m => ?_, h5⟩
    obtain ⟨u, e⟩ : ∃ u, u ∈ O ∧ u.1 = q.1 := by
      have : q.1 ∈ (O.set n (p, o')).map (·.1) := List.mem_map.mpr ⟨q, m, rfl⟩
      rw [em] at this
      obtain ⟨u, a, b⟩ := List.mem_map.mp this
      exact ⟨u, a, b⟩
    rw [← e.2]
    exact h4 u e.1
/-- an owned object stands for a while among what must not change -/
def Bs.hide (Z : Bs) (p : Addr) (o : HO) : Bs := ⟨Z.F0, upd Z.B p o, Z.T⟩
theorem At.hide (k : At Z F ((p, o) :: O) H) : At (Z.hide p o) F O H := by
  have hp := k.ok.own (p, o) (List.mem_cons_self ..)
  have nd := List.nodup_cons.mp (show ((p, o) :: O |>.map (·.1)).Nodup from k.nd)
  refine ⟨⟨k.ok.ex, fun q m => k.ok.own q (List.mem_cons_of_mem _ m)⟩, fun a u e => ?_, k.f0, fun a h1 h2 => ?_, fun q m => ?_, nd.2, fun P nm e => ?_⟩
  · have e' : upd Z.B p o a = some u := e
    by_cases z : a = p
    · subst z; rw [upd_same] at e'; cases e'; exact hp.2
    · rw [upd_ne z] at e'; exact k.b a u e'
  · have h2' : upd Z.B p o a ≠ none := h2
    by_cases z : a = p
    · subst z; exact hp.1
    · rw [upd_ne z] at h2'; exact k.sep a h1 h2'
  · show upd Z.B p o q.1 = none
    rw [upd_ne (fun z => nd.1 (List.mem_map.mpr ⟨q, m, z⟩))]
    exact k.ob q (List.mem_cons_of_mem _ m)
  · obtain ⟨ps, h1, h2, h3, h4, h5⟩ := k.tab P nm e
    refine ⟨ps, h1, h2, h3, fun q m => h4 q (List.mem_cons_of_mem _ m), ?_⟩
    show upd Z.B p o P = none
    rw [upd_ne (Ne.symm (h4 _ (List.mem_cons_self ..)))]
    exact h5
theorem At.show (k : At (Z.hide p o) F O H) (hf : Z.F0 p = none) (hb : Z.B p = none) : At Z F ((p, o) :: O) H := by
  have bp : (Z.hide p o).B p = some o := upd_same
  refine ⟨⟨k.ok.ex, fun q m => ?_⟩, fun a u e => k.b a u (by
      show upd Z.B p o a = some u
      rw [upd_ne (ne_of_none e hb)]; exact e), k.f0, fun a h1 h2 => k.sep a h1 (by
      show upd Z.B p o a ≠ none
      by_cases z : a = p
      · subst z; exact absurd hb h2
      · rw [upd_ne z]; exact h2), fun q m => ?_, ?_, fun P nm e => ?_⟩
  · rcases List.mem_cons.mp m with e | m
    · subst e
      exact ⟨k.sep p hf (by rw [bp]; exact fun z => by cases z), k.b p o bp⟩
    · exact k.ok.own q m
  · rcases List.mem_cons.mp m with e | m
    · subst e; exact hb
    · have h1 : upd Z.B p o q.1 = none := k.ob q m
      by_cases z : q.1 = p
      · rw [z, upd_same] at h1; cases h1
      · rw [upd_ne z] at h1; exact h1
  · rw [List.map_cons, List.nodup_cons]
    refine ⟨fun m => ?_, k.nd⟩
    obtain ⟨q, m, e⟩ := List.mem_map.mp m
    have h1 := k.ob q m
    rw [e, bp] at h1
    cases h1
  · obtain ⟨ps, h1, h2, h3, h4, h5⟩ := k.tab P nm e
    have h5' : upd Z.B p o P = none := h5
    have ne : P ≠ p := fun z => by rw [z, upd_same] at h5'; cases h5'
    rw [upd_ne ne] at h5'
    refine ⟨ps, h1, h2, h3, fun q m => ?_, h5'⟩
    rcases List.mem_cons.mp m with z | m
    · rw [z]; exact Ne.symm ne
    · exact h4 q m
end

/-! ### judgements -/
def EvM (Z : Bs) (te : TE) (σ : L2.St) (F : Hp) (O O' : Own) (A : Ar) : Prop := ∀ F1 H, Same F F1 → At Z F1 O H → ∀ Q : VK, (∀ v F2 H2, Same F1 F2 → At Z F2 O' H2 → A.p v F2 H2 → Q v H2) → te σ H Q
def EvMN {α : Type} (Z : Bs) (te : TE) (σ : L2.St) (F : Hp) (O O' : Own) (R : Rep α) (as : List α) : Prop := ∀ F1 H, Same F F1 → At Z F1 O H → ∀ Q : VK,
  (∀ p xs F2 H2, Same F1 F2 → At Z F2 ((p, .lst xs) :: O') H2 → AllB R as xs F2 → Q (.ref p) H2) → te σ H Q
def EvTM (Z : Bs) (tt : TT) (σ : L2.St) (F : Hp) (O O' : Own) (b : Bool) : Prop := ∀ F1 H, Same F F1 → At Z F1 O H → ∀ Q : Bool → Hp → Prop, (∀ F2 H2, Same F1 F2 → At Z F2 O' H2 → Q b H2) → tt σ H Q
def EvAM (Z : Bs) (ta : TA) (σ : L2.St) (F : Hp) (O O' : Own) (as : List Ar) : Prop := ∀ F1 H, Same F F1 → At Z F1 O H → ∀ Q : List V → Hp → Prop, (∀ vs F2 H2, Same F1 F2 → At Z F2 O' H2 → AllA as vs F2 H2 → Q vs H2) → ta σ H Q
def EvIM {α : Type} (Z : Bs) (wi : TI) (σ : L2.St) (F : Hp) (O O' : Own) (R : Rep α) (as : List α) : Prop := ∀ F1 H, Same F F1 → At Z F1 O H → ∀ Q : It → Hp → Prop, (∀ J F2 H2, Same F1 F2 → At Z F2 O' H2 → Wk J F2 R as → Q J H2) → wi σ H Q
section
variable {α β γ ρ S : Type} {R : Rep α} {R' : Rep β} {Z : Bs} {D : Ends} {σ : L2.St} {F F1 : Hp} {O O1 O2 O' : Own} {te ta tb tc to : TE} {tt tu : TT} {t u : TS} {ts : TA} {A B C : Ar} {K : PySem.W.Frag} {i j : Nat} {p : Addr} {o : HO} {k : Int}
theorem EvI.mono {wi : TI} {as : List α} (h : EvI wi σ F O R as) (e : Same F F1) : EvI wi σ F1 O R as := fun H k Q q =>
  h H (k.less e) Q fun J F' H' g w => q J (un F1 F') H' (gr_un e k.ex g) ⟨w.1, fun i F2 H2 s1 s2 => w.2 i F2 H2 ((un_r (k.ex.trans g.h) g.fh).trans s1) s2⟩
theorem evM_l (h : Ev te σ F O A) : EvM Z te σ F O O A := fun F1 H e at0 Q q => (h.mono e) H at0.ok Q fun v F2 H2 g a => q v F2 H2 g.f (at0.gr g) a
theorem evMN_l {as : List α} (h : EvN te σ F O R as) : EvMN Z te σ F O O R as := fun F1 H e at0 Q q => (h.mono e) H at0.ok Q fun p xs F2 H2 g n f x r => q p xs F2 H2 g.f (at0.new g n f x) r
theorem etM_l {b : Bool} (h : EvT tt σ F O b) : EvTM Z tt σ F O O b := fun F1 H e at0 Q q => (h.mono e) H at0.ok Q fun F2 H2 g => q F2 H2 g.f (at0.gr g)
theorem eaM_l {as : List Ar} (h : EvA ts σ F O as) : EvAM Z ts σ F O O as := fun F1 H e at0 Q q => (h.mono e) H at0.ok Q fun v F2 H2 g a => q v F2 H2 g.f (at0.gr g) a
theorem eiM_l {wi : TI} {as : List α} (h : EvI wi σ F O R as) : EvIM Z wi σ F O O R as := fun F1 H e at0 Q q => (h.mono e) H at0.ok Q fun J F2 H2 g w => q J F2 H2 g.f (at0.gr g) w
theorem evM_frz {as : List α} (h : EvMN Z te σ F O O' R as) : EvM Z te σ F O O' (val (rL R) as) := fun F1 H e at0 Q q => h F1 H e at0 Q fun p xs F2 H2 e2 at2 r => by
  have hp := at2.ok.own _ (List.mem_cons_self ..)
  exact q _ (upd F2 p (.lst xs)) H2 (e2.trans (same_new hp.1)) at2.frz ⟨p, xs, rfl, upd_same, r.mono (same_new hp.1)⟩
theorem evM_nspn {as : List α} (h : EvMN Z te σ F O O' R as) : EvM Z te σ F O O' (spn R as) := fun F1 H e at0 Q q => h F1 H e at0 Q fun p xs F2 H2 e2 at2 r => by
  have hp := at2.ok.own _ (List.mem_cons_self ..)
  exact q _ F2 H2 e2 at2.drop ⟨p, xs, rfl, hp.2, r⟩
theorem evM_spn {as : List α} (h : EvM Z te σ F O O' (val (rL R) as)) : EvM Z te σ F O O' (spn R as) := fun F1 H e at0 Q q => h F1 H e at0 Q fun v F2 H2 e2 at2 ⟨p, xs, h1, h2, h3⟩ => q v F2 H2 e2 at2 ⟨p, xs, h1, at2.ok.ex _ _ h2, h3⟩
theorem evM_is {a b : α} (h : EvM Z te σ F O O' (val R a)) (e : a = b) : EvM Z te σ F O O' (val R b) := e ▸ h
theorem evMN_is {as bs : List α} (h : EvMN Z te σ F O O' R as) (e : as = bs) : EvMN Z te σ F O O' R bs := e ▸ h
theorem etM_is {a b : Bool} (h : EvTM Z tt σ F O O' a) (e : a = b) : EvTM Z tt σ F O O' b := e ▸ h

/-! ### operators, arguments -/
theorem evM_op {r : R2} {a : α} (ha : EvM Z ta σ F O O1 (val R a)) (hb : EvM Z tb σ F O1 O2 B) (ho : Op2 r (val R a) B C) : EvM Z (tOp r ta tb) σ F O O2 C := fun F1 H e at0 Q q =>
  ha F1 H e at0 _ fun v F2 H2 e2 at2 a => hb F2 H2 (e.trans e2) at2 _ fun w F3 H3 e3 at3 b => ho v w F3 H3 Q at3.ok.ex (R.mono e3 a) b fun u F4 H4 g c => q u F4 H4 ((e2.trans e3).trans g.f) (at3.gr g) c
/-- the second has no effect -/
theorem evM_op1 {r : R2} (ha : EvM Z ta σ F O O1 A) (hb : Ev tb σ F O1 B) (ho : Op2 r A B C) : EvM Z (tOp r ta tb) σ F O O1 C := fun F1 H e at0 Q q =>
  ha F1 H e at0 _ fun v F2 H2 e2 at2 a => (hb.mono (e.trans e2)) H2 at2.ok _ fun w F3 H3 g b => ho v w F3 H3 Q g.fh (A.mono g.f g.h a) b fun u F4 H4 g4 c => q u F4 H4 (e2.trans (g.trans g4).f) (at2.gr (g.trans g4)) c
theorem evM_opN {r : R2} {a : α} {as : List β} (ha : EvM Z ta σ F O O1 (val R a)) (hb : EvM Z tb σ F O1 O2 B) (ho : Op2N r (val R a) B R' as) : EvMN Z (tOp r ta tb) σ F O O2 R' as := fun F1 H e at0 Q q =>
  ha F1 H e at0 _ fun v F2 H2 e2 at2 a => hb F2 H2 (e.trans e2) at2 _ fun w F3 H3 e3 at3 b => ho v w F3 H3 Q at3.ok.ex (R.mono e3 a) b fun p xs F4 H4 g n f x r => q p xs F4 H4 ((e2.trans e3).trans g.f) (at3.new g n f x) r
theorem evM_opN1 {r : R2} {as : List β} (ha : EvM Z ta σ F O O1 A) (hb : Ev tb σ F O1 B) (ho : Op2N r A B R' as) : EvMN Z (tOp r ta tb) σ F O O1 R' as := fun F1 H e at0 Q q =>
  ha F1 H e at0 _ fun v F2 H2 e2 at2 a => (hb.mono (e.trans e2)) H2 at2.ok _ fun w F3 H3 g b => ho v w F3 H3 Q g.fh (A.mono g.f g.h a) b fun p xs F4 H4 g4 n f x r => q p xs F4 H4 (e2.trans (g.trans g4).f) (at2.new (g.trans g4) (gr_none g n) f x) r
/-- an operator on a spine takes a frozen list -/
theorem op_l {r : R2} {as : List α} (h : Op2 r (spn R as) B C) : Op2 r (val (rL R) as) B C := fun v w F H Q e ⟨p, xs, h1, h2, h3⟩ b q => h v w F H Q e ⟨p, xs, h1, e _ _ h2, h3⟩ b q
theorem opN_l {r : R2} {as : List α} {bs : List β} (h : Op2N r (spn R as) B R' bs) : Op2N r (val (rL R) as) B R' bs := fun v w F H Q e ⟨p, xs, h1, h2, h3⟩ b q => h v w F H Q e ⟨p, xs, h1, e _ _ h2, h3⟩ b q
/-- values that stay -/
def StA (A : Ar) : Prop := ∀ v F H F' H', Same F F' → A.p v F H → A.p v F' H'
theorem st_val {a : α} : StA (val R a) := fun _ _ _ _ _ e h => R.mono e h
theorem eaM_c {as : List Ar} {a : α} (h : EvM Z te σ F O O1 (val R a)) (hr : EvAM Z ts σ F O1 O2 as) : EvAM Z (tCons te ts) σ F O O2 (val R a :: as) := fun F1 H e at0 Q q =>
  h F1 H e at0 _ fun v F2 H2 e2 at2 a => hr F2 H2 (e.trans e2) at2 _ fun vs F3 H3 e3 at3 b => q (v :: vs) F3 H3 (e2.trans e3) at3 ⟨R.mono e3 a, b⟩
theorem eaM_1 {as : List Ar} (h : EvM Z te σ F O O1 A) (hr : EvA ts σ F O1 as) : EvAM Z (tCons te ts) σ F O O1 (A :: as) := fun F1 H e at0 Q q =>
  h F1 H e at0 _ fun v F2 H2 e2 at2 a => (hr.mono (e.trans e2)) H2 at2.ok _ fun vs F3 H3 g b => q (v :: vs) F3 H3 (e2.trans g.f) (at2.gr g) ⟨A.mono g.f g.h a, b⟩
/-- what is built of a value, of arguments -/
theorem evM_un {T : TE → TE} (hT : ∀ te H Q, T te σ H Q = te σ H fun v H1 => T (fun _ H2 k => k v H2) σ H1 Q) (h : EvM Z te σ F O O1 A) (hc : ∀ t9 F9, Same F F9 → Ev t9 σ F9 O1 A → Ev (T t9) σ F9 O1 C) : EvM Z (T te) σ F O O1 C := fun F1 H e at0 Q q => by
  rw [hT]
  refine h F1 H e at0 _ fun v F2 H2 e2 at2 a => ?_
  have h9 := hc (fun _ H' k => ∀ _ : H' = H2, k v H2) F2 (e.trans e2) (fun H9 k9 Q9 q9 z => q9 v F2 H2 (z ▸ Gr.refl k9.ex) a) H2 at2.ok Q fun w F3 H3 g c => q w F3 H3 (e2.trans g.f) (at2.gr g) c
  rw [hT] at h9
  exact h9 rfl
theorem evMN_un {T : TE → TE} {bs : List β} (hT : ∀ te H Q, T te σ H Q = te σ H fun v H1 => T (fun _ H2 k => k v H2) σ H1 Q) (h : EvM Z te σ F O O1 A) (hc : ∀ t9 F9, Same F F9 → Ev t9 σ F9 O1 A → EvN (T t9) σ F9 O1 R' bs) : EvMN Z (T te) σ F O O1 R' bs := fun F1 H e at0 Q q => by
  rw [hT]
  refine h F1 H e at0 _ fun v F2 H2 e2 at2 a => ?_
  have h9 := hc (fun _ H' k => ∀ _ : H' = H2, k v H2) F2 (e.trans e2) (fun H9 k9 Q9 q9 z => q9 v F2 H2 (z ▸ Gr.refl k9.ex) a) H2 at2.ok Q fun p xs F3 H3 g n f x r => q p xs F3 H3 (e2.trans g.f) (at2.new g n f x) r
  rw [hT] at h9
  exact h9 rfl
theorem etM_un {T : TE → TT} {b : Bool} (hT : ∀ te H Q, T te σ H Q = te σ H fun v H1 => T (fun _ H2 k => k v H2) σ H1 Q) (h : EvM Z te σ F O O1 A) (hc : ∀ t9 F9, Same F F9 → Ev t9 σ F9 O1 A → EvT (T t9) σ F9 O1 b) : EvTM Z (T te) σ F O O1 b := fun F1 H e at0 Q q => by
  rw [hT]
  refine h F1 H e at0 _ fun v F2 H2 e2 at2 a => ?_
  have h9 := hc (fun _ H' k => ∀ _ : H' = H2, k v H2) F2 (e.trans e2) (fun H9 k9 Q9 q9 z => q9 v F2 H2 (z ▸ Gr.refl k9.ex) a) H2 at2.ok Q fun F3 H3 g => q F3 H3 (e2.trans g.f) (at2.gr g)
  rw [hT] at h9
  exact h9 rfl
theorem eiM_un {T : TE → TI} {bs : List β} (hT : ∀ te H Q, T te σ H Q = te σ H fun v H1 => T (fun _ H2 k => k v H2) σ H1 Q) (h : EvM Z te σ F O O1 A) (hc : ∀ t9 F9, Same F F9 → Ev t9 σ F9 O1 A → EvI (T t9) σ F9 O1 R' bs) : EvIM Z (T te) σ F O O1 R' bs := fun F1 H e at0 Q q => by
  rw [hT]
  refine h F1 H e at0 _ fun v F2 H2 e2 at2 a => ?_
  have h9 := hc (fun _ H' k => ∀ _ : H' = H2, k v H2) F2 (e.trans e2) (fun H9 k9 Q9 q9 z => q9 v F2 H2 (z ▸ Gr.refl k9.ex) a) H2 at2.ok Q fun J F3 H3 g w => q J F3 H3 (e2.trans g.f) (at2.gr g) w
  rw [hT] at h9
  exact h9 rfl
theorem evM_args {T : TA → TE} {as : List Ar} (hT : ∀ te H Q, T te σ H Q = te σ H fun v H1 => T (fun _ H2 k => k v H2) σ H1 Q) (h : EvAM Z ts σ F O O1 as) (hc : ∀ t9 F9, Same F F9 → EvA t9 σ F9 O1 as → Ev (T t9) σ F9 O1 C) : EvM Z (T ts) σ F O O1 C := fun F1 H e at0 Q q => by
  rw [hT]
  refine h F1 H e at0 _ fun v F2 H2 e2 at2 a => ?_
  have h9 := hc (fun _ H' k => ∀ _ : H' = H2, k v H2) F2 (e.trans e2) (fun H9 k9 Q9 q9 z => q9 v F2 H2 (z ▸ Gr.refl k9.ex) a) H2 at2.ok Q fun w F3 H3 g c => q w F3 H3 (e2.trans g.f) (at2.gr g) c
  rw [hT] at h9
  exact h9 rfl
theorem evMN_args {T : TA → TE} {as : List Ar} {bs : List β} (hT : ∀ te H Q, T te σ H Q = te σ H fun v H1 => T (fun _ H2 k => k v H2) σ H1 Q) (h : EvAM Z ts σ F O O1 as) (hc : ∀ t9 F9, Same F F9 → EvA t9 σ F9 O1 as → EvN (T t9) σ F9 O1 R' bs) : EvMN Z (T ts) σ F O O1 R' bs := fun F1 H e at0 Q q => by
  rw [hT]
  refine h F1 H e at0 _ fun v F2 H2 e2 at2 a => ?_
  have h9 := hc (fun _ H' k => ∀ _ : H' = H2, k v H2) F2 (e.trans e2) (fun H9 k9 Q9 q9 z => q9 v F2 H2 (z ▸ Gr.refl k9.ex) a) H2 at2.ok Q fun p xs F3 H3 g n f x r => q p xs F3 H3 (e2.trans g.f) (at2.new g n f x) r
  rw [hT] at h9
  exact h9 rfl
theorem eiM_args {T : TA → TI} {as : List Ar} {bs : List β} (hT : ∀ te H Q, T te σ H Q = te σ H fun v H1 => T (fun _ H2 k => k v H2) σ H1 Q) (h : EvAM Z ts σ F O O1 as) (hc : ∀ t9 F9, Same F F9 → EvA t9 σ F9 O1 as → EvI (T t9) σ F9 O1 R' bs) : EvIM Z (T ts) σ F O O1 R' bs := fun F1 H e at0 Q q => by
  rw [hT]
  refine h F1 H e at0 _ fun v F2 H2 e2 at2 a => ?_
  have h9 := hc (fun _ H' k => ∀ _ : H' = H2, k v H2) F2 (e.trans e2) (fun H9 k9 Q9 q9 z => q9 v F2 H2 (z ▸ Gr.refl k9.ex) a) H2 at2.ok Q fun J F3 H3 g w => q J F3 H3 (e2.trans g.f) (at2.gr g) w
  rw [hT] at h9
  exact h9 rfl
/-- a method of a text: the arguments have the effect -/
theorem evM_m {l : List Nat} {r : RM} {as : List Ar} (ho : EvM Z to σ F O O1 (val rS l)) (ha : EvAM Z ts σ F O1 O2 as) (hr : Cm r l as C) : EvM Z (tBM K "str" r to ts) σ F O O2 C := fun F1 H e at0 Q q =>
  ho F1 H e at0 _ fun v F2 H2 e2 at2 a => by
    have a1 : v = .str (mk l) := a.1
    subst a1
    exact ⟨rfl, ha F2 H2 (e.trans e2) at2 _ fun vs F3 H3 e3 at3 b => hr vs F3 H3 Q a.2 at3.ok.ex b fun u F4 H4 g c => q u F4 H4 ((e2.trans e3).trans g.f) (at3.gr g) c⟩
theorem evM_mN {l : List Nat} {r : RM} {as : List Ar} {bs : List β} (ho : EvM Z to σ F O O1 (val rS l)) (ha : EvAM Z ts σ F O1 O2 as) (hr : CmN r l as R' bs) : EvMN Z (tBM K "str" r to ts) σ F O O2 R' bs := fun F1 H e at0 Q q =>
  ho F1 H e at0 _ fun v F2 H2 e2 at2 a => by
    have a1 : v = .str (mk l) := a.1
    subst a1
    exact ⟨rfl, ha F2 H2 (e.trans e2) at2 _ fun vs F3 H3 e3 at3 b => hr vs F3 H3 Q a.2 at3.ok.ex b fun p xs F4 H4 g n f x r => q p xs F4 H4 ((e2.trans e3).trans g.f) (at3.new g n f x) r⟩
theorem evM_m0 {l : List Nat} {r : RM} (ho : EvM Z to σ F O O1 (val rS l)) (hr : Cm r l [] C) : EvM Z (tBM0 K "str" r to) σ F O O1 C := fun F1 H e at0 Q q =>
  ho F1 H e at0 _ fun v F2 H2 e2 at2 a => by
    have a1 : v = .str (mk l) := a.1
    subst a1
    exact ⟨rfl, hr [] F2 H2 Q a.2 at2.ok.ex trivial fun u F4 H4 g c => q u F4 H4 (e2.trans g.f) (at2.gr g) c⟩

/-! ### ways -/
theorem evM_if {c : Bool} (h : EvTM Z tt σ F O O1 c) (h1 : c = true → EvM Z ta σ F O1 O2 A) (h2 : c = false → EvM Z tb σ F O1 O2 A) : EvM Z (tIf tt ta tb) σ F O O2 A := fun F1 H e at0 Q q => h F1 H e at0 _ fun F2 H2 e2 at2 => by
  cases c with
  | true =>
    show ta σ H2 Q
    exact h1 rfl F2 H2 (e.trans e2) at2 Q fun v F3 H3 e3 at3 a => q v F3 H3 (e2.trans e3) at3 a
  | false =>
    show tb σ H2 Q
    exact h2 rfl F2 H2 (e.trans e2) at2 Q fun v F3 H3 e3 at3 a => q v F3 H3 (e2.trans e3) at3 a
theorem etM_and {a b : Bool} (h1 : EvTM Z tt σ F O O1 a) (h2 : a = true → EvTM Z tu σ F O1 O2 b) (h3 : a = false → b = false ∧ O1 = O2) : EvTM Z (tAnd tt tu) σ F O O2 b := fun F1 H e at0 Q q => h1 F1 H e at0 _ fun F2 H2 e2 at2 => by
  cases a with
  | true =>
    show tu σ H2 Q
    exact h2 rfl F2 H2 (e.trans e2) at2 Q fun F3 H3 e3 at3 => q F3 H3 (e2.trans e3) at3
  | false =>
    show Q false H2
    rw [← (h3 rfl).1]
    exact q F2 H2 e2 ((h3 rfl).2 ▸ at2)
theorem etM_or {a b : Bool} (h1 : EvTM Z tt σ F O O1 a) (h2 : a = false → EvTM Z tu σ F O1 O2 b) (h3 : a = true → b = true ∧ O1 = O2) : EvTM Z (tOr tt tu) σ F O O2 b := fun F1 H e at0 Q q => h1 F1 H e at0 _ fun F2 H2 e2 at2 => by
  cases a with
  | false =>
    show tu σ H2 Q
    exact h2 rfl F2 H2 (e.trans e2) at2 Q fun F3 H3 e3 at3 => q F3 H3 (e2.trans e3) at3
  | true =>
    show Q true H2
    rw [← (h3 rfl).1]
    exact q F2 H2 e2 ((h3 rfl).2 ▸ at2)
theorem etM_not {b : Bool} (h : EvTM Z tt σ F O O1 b) : EvTM Z (tNot tt) σ F O O1 (!b) := fun F1 H e at0 Q q => h F1 H e at0 _ fun F2 H2 e2 at2 => q F2 H2 e2 at2
theorem evM_and {a b : Bool} (h1 : EvM Z ta σ F O O1 (val rB a)) (h2 : a = true → EvM Z tb σ F O1 O2 (val rB b)) (h3 : a = false → b = false ∧ O1 = O2) : EvM Z (tAndV ta tb) σ F O O2 (val rB b) := fun F1 H e at0 Q q => h1 F1 H e at0 _ fun v F2 H2 e2 at2 ev => ⟨a, ev, by
  cases a with
  | true =>
    show tb σ H2 Q
    exact h2 rfl F2 H2 (e.trans e2) at2 Q fun v F3 H3 e3 at3 c => q v F3 H3 (e2.trans e3) at3 c
  | false =>
    show Q (.bl false) H2
    exact q _ F2 H2 e2 ((h3 rfl).2 ▸ at2) (by rw [(h3 rfl).1]; rfl)⟩
theorem evM_or {a b : Bool} (h1 : EvM Z ta σ F O O1 (val rB a)) (h2 : a = false → EvM Z tb σ F O1 O2 (val rB b)) (h3 : a = true → b = true ∧ O1 = O2) : EvM Z (tOrV ta tb) σ F O O2 (val rB b) := fun F1 H e at0 Q q => h1 F1 H e at0 _ fun v F2 H2 e2 at2 ev => ⟨a, ev, by
  cases a with
  | false =>
    show tb σ H2 Q
    exact h2 rfl F2 H2 (e.trans e2) at2 Q fun v F3 H3 e3 at3 c => q v F3 H3 (e2.trans e3) at3 c
  | true =>
    show Q (.bl true) H2
    exact q _ F2 H2 e2 ((h3 rfl).2 ▸ at2) (by rw [(h3 rfl).1]; rfl)⟩

/-! ### the tape itself; calls that take it -/
abbrev rA (p : Addr) : Rep Unit := rV (.ref p)
/-- its number -/
theorem ev_tape (h : σ[i]? = some (some (.ref p))) (m : (p, tp k) ∈ O) (hi : Ev te σ F O (val rInt 0)) : Ev (tOp (rIxL K) (tVar i) te) σ F O (val rInt k) :=
  ev_op (ev_o (R := rInt) (as := [k]) h m ⟨⟨rfl, trivial⟩, show (1 : Nat) ≤ limL by decide⟩) hi (o_ixL rfl)
theorem sx_tape {n : Nat} {z : Int} (hj : σ[j]? = some (some (.ref p))) (hO : O[n]? = some (p, tp k)) (h : Ev te σ F O (val rInt z)) (hi : Ev tb σ F O (val rInt 0))
    (q : ∀ F', Same F F' → Nx Z D σ F' (O.set n (p, tp z))) : Sx Z (tAsg te (gSub (tVar j) tb rSetL)) D σ F O :=
  sx_setL (R := rInt) (as := [k]) (m := 0) hj hO ⟨⟨rfl, trivial⟩, show (1 : Nat) ≤ limL by decide⟩ h hi rfl fun v F' e r => by
    obtain ⟨⟨r1, _⟩, _⟩ := r
    have r2 : v = .int z := r1
    subst r2
    exact q F' e
/-- promises of defs that change what one parameter refers to: cell tells how it stands in the heap -/
def spM {τ : Type} (cell : τ → HO) (P : Addr → List Ar → τ → Ar → τ → Prop) : Sp := fun vs H Q _ => ∃ F p As k C k', P p As k C k' ∧ Same F H ∧ F p = none ∧ H p = some (cell k) ∧ AllA As vs F H ∧ ∀ v F' H', GrT p F H F' H' → H' p = some (cell k') → C.p v F' H' → Q v H'
def spMN {τ α : Type} (cell : τ → HO) (R : Rep α) (P : Addr → List Ar → τ → List α → τ → Prop) : Sp := fun vs H Q _ => ∃ F p As k bs k', P p As k bs k' ∧ Same F H ∧ F p = none ∧ H p = some (cell k) ∧ AllA As vs F H ∧
  ∀ q xs F' H', GrT p F H F' H' → H' p = some (cell k') → H q = none → F' q = none → H' q = some (.lst xs) → AllB R bs xs F' → Q (.ref q) H'
theorem At.newT {F2 H H2 : Hp} {n : Nat} {o' o2 : HO} {q : Addr} (k : At Z F O H) (g : GrT p F H F2 H2) (h : O[n]? = some (p, o)) (hx : H2 p = some o') (hn : H q = none) (hf : F2 q = none) (hq : H2 q = some o2) : At Z F2 ((q, o2) :: O.set n (p, o')) H2 := by
  have k' := k.grT g h hx
  refine ⟨⟨k'.ok.ex, fun r m => ?_⟩, k'.b, k'.f0, k'.sep, fun r m => ?_, ?_, fun P nm e => ?_⟩
  · rcases List.mem_cons.mp m with e | m
    · subst e; exact ⟨hf, hq⟩
    · exact k'.ok.own r m
  · rcases List.mem_cons.mp m with e | m
    · subst e; exact k.b.free hn
    · exact k'.ob r m
  · rw [List.map_cons, List.nodup_cons]
    refine ⟨fun m => ?_, k'.nd⟩
    rw [set_keys h] at m
    obtain ⟨r, m, e⟩ := List.mem_map.mp m
    have e2 := (k.ok.own r m).2
    rw [e, hn] at e2
    cases e2
  · obtain ⟨ps, h1, h2, h3, h4, h5⟩ := k'.tab P nm e
    refine ⟨ps, h1, h2, h3, fun r m => ?_, h5⟩
    rcases List.mem_cons.mp m with z | m
    · rw [z]
      obtain ⟨_, g1, _⟩ := k.tab P nm e
      exact fun z2 => by
        have z2 : q = P := z2
        rw [z2, g1] at hn; cases hn
    · exact h4 r m
theorem evM_call {τ : Type} {cell : τ → HO} {P : Addr → List Ar → τ → Ar → τ → Prop} {E : XK} {as : List Ar} {k k' : τ} {n : Nat} (h : EvAM Z ts σ F O O1 as) (hp : P p as k C k') (hO : O1[n]? = some (p, cell k)) : EvM Z (tCall (spM cell P) [] E ts) σ F O (O1.set n (p, cell k')) C := fun F1 H e at0 Q q =>
  h F1 H e at0 _ fun vs F2 H2 e2 at2 a => by
    have o := at2.ok.own _ (List.mem_of_getElem? hO)
    exact ⟨F2, p, as, k, C, k', hp, at2.ok.ex, o.1, o.2, by rw [List.append_nil]; exact a, fun v F3 H3 g x c => q v F3 H3 (e2.trans g.f) (at2.grT g hO x) c⟩
theorem evM_callN {τ : Type} {cell : τ → HO} {P : Addr → List Ar → τ → List α → τ → Prop} {E : XK} {as : List Ar} {bs : List α} {k k' : τ} {n : Nat} (h : EvAM Z ts σ F O O1 as) (hp : P p as k bs k') (hO : O1[n]? = some (p, cell k)) : EvMN Z (tCall (spMN cell R P) [] E ts) σ F O (O1.set n (p, cell k')) R bs := fun F1 H e at0 Q q =>
  h F1 H e at0 _ fun vs F2 H2 e2 at2 a => by
    have o := at2.ok.own _ (List.mem_of_getElem? hO)
    exact ⟨F2, p, as, k, bs, k', hp, at2.ok.ex, o.1, o.2, by rw [List.append_nil]; exact a, fun r xs F3 H3 g x n f y c => q r xs F3 H3 (e2.trans g.f) (at2.newT g hO x n f y) c⟩
theorem rtM_val {τ : Type} {cell : τ → HO} {F0 H0 : Hp} {v : V} {Q : VK} {nx : L2.St → Hp → Prop} {k' : τ} (k : ∀ v F' H', GrT p F0 H0 F' H' → H' p = some (cell k') → C.p v F' H' → Q v H') (m : (p, cell k') ∈ O) (h : ∀ H, C.p v F H) : Rt ⟨F0, but p H0, none⟩ { nx := nx, rt := Q } v F O := fun H a =>
  k v F H (a.doneT m).1 (a.doneT m).2 (h H)
theorem rtM_own {τ : Type} {cell : τ → HO} {F0 H0 : Hp} {q : Addr} {xs : List V} {bs : List α} {Q : VK} {nx : L2.St → Hp → Prop} {k' : τ} {i j : Nat} (k : ∀ q xs F' H', GrT p F0 H0 F' H' → H' p = some (cell k') → H0 q = none → F' q = none → H' q = some (.lst xs) → AllB R bs xs F' → Q (.ref q) H')
    (m : O[i]? = some (p, cell k')) (mq : O[j]? = some (q, HO.lst xs)) (hij : i ≠ j) (h : AllB R bs xs F) : Rt ⟨F0, but p H0, none⟩ { nx := nx, rt := Q } (.ref q) F O := fun H a => by
  have hq : q ≠ p := fun z => by
    have a1 : (O.map (·.1))[i]? = some p := by rw [List.getElem?_map, m]; rfl
    have a2 : (O.map (·.1))[j]? = some p := by rw [List.getElem?_map, mq, ← z]; rfl
    have l1 := (List.getElem?_eq_some_iff.mp a1)
    have l2 := (List.getElem?_eq_some_iff.mp a2)
    exact hij ((List.getElem_inj a.nd).mp (l1.2.trans l2.2.symm))
  have mp := List.mem_of_getElem? m
  have mq' := List.mem_of_getElem? mq
  refine k q xs F H (a.doneT mp).1 (a.doneT mp).2 ?_ (a.ok.own _ mq').1 (a.ok.own _ mq').2 h
  have h2 : but p H0 q = none := a.ob _ mq'
  unfold but at h2
  rw [if_neg hq] at h2
  exact h2

/-! ### statements -/
theorem sx_asgM {a : α} (h : EvM Z te σ F O O1 (val R a)) (k : ∀ v F', Same F F' → R.rp a v F' → Nx Z D (σ.set i (some v)) F' O1) : Sx Z (tAsg te (gName i)) D σ F O := fun H at0 =>
  h F H (Same.refl _) at0 _ fun v F' H' e at2 r => k v F' e r H' at2
theorem sx_asgMN {as : List α} (h : EvMN Z te σ F O O1 R as) (k : ∀ p xs F', Same F F' → AllB R as xs F' → Nx Z D (σ.set i (some (.ref p))) F' ((p, .lst xs) :: O1)) : Sx Z (tAsg te (gName i)) D σ F O := fun H at0 =>
  h F H (Same.refl _) at0 _ fun p xs F' H' e at2 r => k p xs F' e r H' at2
theorem sx_asgM2 {a : α} {b : β} {n m : Nat} (h : EvM Z te σ F O O1 (val (rT2 R R') (a, b))) (q : ∀ v w F', Same F F' → R.rp a v F' → R'.rp b w F' → Nx Z D ((σ.set n (some v)).set m (some w)) F' O1) : Sx Z (tAsg te (gTup K 2 (gCons (gName n) (gCons (gName m) gNil)))) D σ F O := fun H at0 =>
  h F H (Same.refl _) at0 _ fun x F' H' e at2 r => tg_2 (K := K) (a, b) x σ F' H' _ r at2.ok.ex fun σ' ⟨v, w, e2, h1, h2⟩ => by
    subst e2
    exact q v w F' e h1 h2 H' at2
theorem sx_asgM3 {a : α} {b : β} {c : γ} {R'' : Rep γ} {n m l : Nat} (h : EvM Z te σ F O O1 (val (rT3 R R' R'') (a, b, c))) (q : ∀ v w x F', Same F F' → R.rp a v F' → R'.rp b w F' → R''.rp c x F' → Nx Z D (((σ.set n (some v)).set m (some w)).set l (some x)) F' O1) :
    Sx Z (tAsg te (gTup K 3 (gCons (gName n) (gCons (gName m) (gCons (gName l) gNil))))) D σ F O := fun H at0 =>
  h F H (Same.refl _) at0 _ fun x F' H' e at2 r => tg_3 (K := K) (a, b, c) x σ F' H' _ r at2.ok.ex fun σ' ⟨v, w, y, e2, h1, h2, h3⟩ => by
    subst e2
    exact q v w y F' e h1 h2 h3 H' at2
theorem sx_dropM (h : EvM Z te σ F O O1 A) (k : ∀ F', Same F F' → Nx Z D σ F' O1) : Sx Z (tDrop te) D σ F O := fun H at0 =>
  h F H (Same.refl _) at0 _ fun v F' H' e at2 _ => k F' e H' at2
theorem sx_retM {a : α} (h : EvM Z te σ F O O1 (val R a)) (k : ∀ v F', Same F F' → R.rp a v F' → Rt Z D v F' O1) : Sx Z (tRet te) D σ F O := fun H at0 =>
  h F H (Same.refl _) at0 _ fun v F' H' e at2 r => k v F' e r H' at2
theorem sx_retMN {as : List α} (h : EvMN Z te σ F O O1 R as) (k : ∀ p xs F', Same F F' → AllB R as xs F' → Rt Z D (.ref p) F' ((p, .lst xs) :: O1)) : Sx Z (tRet te) D σ F O := fun H at0 =>
  h F H (Same.refl _) at0 _ fun p xs F' H' e at2 r => k p xs F' e r H' at2
theorem sx_ifM {b : Bool} (h : EvTM Z tt σ F O O1 b) (h1 : b = true → ∀ F', Same F F' → Sx Z t D σ F' O1) (h2 : b = false → ∀ F', Same F F' → Sx Z u D σ F' O1) : Sx Z (tIfS tt t u) D σ F O := fun H at0 =>
  h F H (Same.refl _) at0 _ fun F' H' e at2 => by
    cases b with
    | true =>
      show t D σ H'
      exact h1 rfl F' e H' at2
    | false =>
      show u D σ H'
      exact h2 rfl F' e H' at2
/-- xs.append(e) -/
theorem sx_appM {n : Nat} {xs : List V} {as : List α} {a : α} (hj : σ[j]? = some (some (.ref p))) (hO0 : ∃ o, (p, o) ∈ O ∧ o = HO.lst xs) (hO : O1[n]? = some (p, .lst xs)) (hx : AllB R as xs F) (h : EvM Z te σ F O O1 (val R a)) (hz : (as ++ [a]).length ≤ limL)
    (k : ∀ v F', Same F F' → AllB R (as ++ [a]) (xs ++ [v]) F' → Nx Z D σ F' (O1.set n (p, .lst (xs ++ [v])))) : Sx Z (tDrop (tBM K "list" rAppend (tVar j) (tCons te tNil))) D σ F O := fun H at0 => by
  obtain ⟨_, m0, rfl⟩ := hO0
  have hp := at0.ok.own _ m0
  refine ⟨.ref p, hj, Or.inl ⟨rfl, xs, Or.inl (Or.inl hp.2)⟩, h F H (Same.refl _) at0 _ fun v F' H' e at2 r => ?_⟩
  have hp2 := at2.ok.own _ (List.mem_of_getElem? hO)
  refine ⟨p, xs, v, rfl, rfl, hp2.2, sz_lt hx.sz, k v F' e ⟨All2.app (hx.all.mono e) (All2.one r), hz⟩ _ (At.write at2 hO)⟩
theorem sx_forM {f : S → α → Option (Fw ρ S)} {s0 : S} {out : Fw ρ S} {J : S → L2.St → Hp → Own → Prop} {Ro : ρ → V → Hp → Own → Prop} {g : TG} {body : TS} {wi : TI} {as : List α} {P : α → L2.St → L2.St → Hp → Prop}
    (hm : loop f as s0 = some out) (hi : EvIM Z wi σ F O O1 R as) (hg : Tg g R P) (h0 : ∀ F', Same F F' → J s0 σ F' O1) (acc : AccL Z D J Ro F out)
    (turn : ∀ s a σ' σ2 F' F2 O' o D', a ∈ as → Same F F' → Same F' F2 → J s σ' F' O' → P a σ' σ2 F2 → f s a = some o → Acc Z D' J Ro F2 o → Sx Z body D' σ2 F2 O') : Sx Z (tFor wi g body) D σ F O := fun H at0 => by
  refine hi F H (Same.refl _) at0 _ fun J' F1 H1 g1 at1 wk => ?_
  have acc1 : AccL Z D J Ro F1 out := ⟨fun s e σ2 F2 O2 e2 => acc.nx s e σ2 F2 O2 (g1.trans e2), fun r e v F2 O2 e2 => acc.rt r e v F2 O2 (g1.trans e2)⟩
  refine ⟨fun k m σ' H' => m = as.length - k ∧ k ≤ as.length ∧ Lw Z f J out as F1 k σ' H', ⟨as.length, by simp, Nat.zero_le _, s0, F1, O1, Same.refl _, h0 F1 g1, at1, hm⟩, fun k m σ' H' ⟨em, hk, w⟩ => ?_⟩
  subst em
  have w' := w
  obtain ⟨_, F', O', e, _, at', _⟩ := w'
  by_cases hlt : k < as.length
  · have ha : as[k]? = some as[k] := List.getElem?_eq_getElem hlt
    obtain ⟨hgo, hy⟩ := (wk.2 k F' H' e at'.ok.ex).1 _ ha
    refine Or.inr ⟨hgo, Lw Z f J out as F1 (k + 1), fun σ2 H2 w2 => ⟨as.length - (k + 1), by omega, rfl, hlt, w2⟩, fun x H2 y => ?_⟩
    refine lw_turn acc1 ha w fun s F' O' o e j2 at' hf ac => ?_
    obtain ⟨F2, g2, r⟩ := ((wk.2 k F' H' e at'.ok.ex).1 _ ha).2 x H2 y
    refine hg _ x σ' F2 H2 _ r g2.fh fun σ2 p => ?_
    refine turn s _ σ' σ2 F' F2 O' o _ (List.mem_of_getElem? ha) (g1.trans e) g2.f j2 p hf ?_ H2 (at'.gr g2)
    exact ⟨fun s e σ3 F3 O3 e3 => ac.nx s e σ3 F3 O3 (g2.f.trans e3), fun s e σ3 F3 O3 e3 => ac.bk s e σ3 F3 O3 (g2.f.trans e3), fun r e v F3 O3 e3 => ac.rt r e v F3 O3 (g2.f.trans e3)⟩
  · have e2 : k = as.length := by omega
    exact Or.inl ⟨(wk.2 k F' H' e at'.ok.ex).2 (by omega), lw_end e2 acc1 w⟩

/-! ### comprehensions whose things move the tape -/
def mapFM {τ : Type} (f : τ → α → Option (Option β × τ)) : List α → τ → Option (List β × τ)
  | [], k => some ([], k)
  | a :: as, k => match f k a with
    | none => none
    | some (o, k') => match mapFM f as k' with
      | none => none
      | some (bs, k2) => some ((match o with | some b => b :: bs | none => bs), k2)
theorem mapFM_cons {τ : Type} {f : τ → α → Option (Option β × τ)} {a : α} {as : List α} {bs : List β} {k k2 : τ} (h : mapFM f (a :: as) k = some (bs, k2)) : ∃ o k' cs, f k a = some (o, k') ∧ mapFM f as k' = some (cs, k2) ∧ bs = (match o with | some b => b :: cs | none => cs) := by
  unfold mapFM at h
  cases e : f k a with
  | none => rw [e] at h; cases h
  | some ok =>
    obtain ⟨o, k'⟩ := ok
    rw [e] at h
    cases e2 : mapFM f as k' with
    | none => simp only [e2] at h; cases h
    | some cs =>
      obtain ⟨cs, k3⟩ := cs
      simp only [e2] at h
      cases h
      exact ⟨o, k', cs, rfl, e2, rfl⟩
theorem evM_lc {τ : Type} {f : τ → α → Option (Option β × τ)} {Of : τ → Own} {k0 k1 : τ} {wi : TI} {g : TG} {vs : List Nat} {as : List α} {bs : List β} {P : α → L2.St → L2.St → Hp → Prop}
    (hm : mapFM f as k0 = some (bs, k1)) (hi : EvIM Z wi σ F O (Of k0) R as) (hg : Tg g R P)
    (turn : ∀ Z' a σ2 F' F2 k ob k', a ∈ as → Same F F' → Same F' F2 → P a (wipe σ vs) σ2 F2 → f k a = some (ob, k') → wipe σ2 vs = wipe σ vs ∧ EvT tt σ2 F2 (Of k) ob.isSome ∧ (ob = none → k' = k) ∧ ∀ b, ob = some b → EvM Z' te σ2 F2 (Of k) (Of k') (val R' b)) :
    EvMN Z (tLc wi g tt te vs) σ F O (Of k1) R' bs := fun F1 H e0 at0 Q q => by
  refine hi F1 H e0 at0 _ fun J F2 H2 e2 at2 wk L hL => ?_
  let W : Nat → Hp → Prop := fun i H' => ∃ F' acc done rest k, Same F2 F' ∧ At Z F' ((L, .lst acc) :: Of k) H' ∧ All2 R' done acc F' ∧ mapFM f (as.drop i) k = some (rest, k1) ∧ done ++ rest = bs ∧ done.length ≤ i
  refine ⟨fun i m H' => m = as.length - i ∧ i ≤ as.length ∧ W i H', ⟨as.length, by simp, Nat.zero_le _, F2, [], [], bs, k0, Same.refl _, at2.new (Gr.gar at2.ok.ex hL) hL (free_of at2.ok.ex hL) upd_same, trivial, hm, rfl, Nat.le_refl _⟩, fun i m H' ⟨em, hile, F', acc, done, rest, k, eF, atk, ha2, hrest, hbs, hdl⟩ => ?_⟩
  subst em
  by_cases hlt : i < as.length
  · have ha : as[i]? = some as[i] := List.getElem?_eq_getElem hlt
    obtain ⟨hgo, hy⟩ := (wk.2 i F' H' eF atk.ok.ex).1 _ ha
    refine Or.inr ⟨hgo, W (i + 1), fun H3 w => ⟨as.length - (i + 1), by omega, rfl, hlt, w⟩, fun x H3 y => ?_⟩
    obtain ⟨F3, g3, r⟩ := hy x H3 y
    rw [List.drop_eq_getElem_cons hlt] at hrest
    obtain ⟨o, k', cs, e1, e2', e3⟩ := mapFM_cons hrest
    refine hg _ x (wipe σ vs) F3 H3 _ r g3.fh fun σ2 p => ?_
    have at3 := atk.gr g3
    obtain ⟨hw, ht, hno, he⟩ := turn (Z.hide L (.lst acc)) as[i] σ2 F' F3 k o k' (List.mem_of_getElem? ha) ((e0.trans e2).trans eF) g3.f p e1
    refine ⟨hw, ht H3 at3.hide.ok _ fun F4 H4 g4 => ?_⟩
    have at4 := at3.gr g4
    have lL : Z.B L = none := atk.ob (L, .lst acc) (List.mem_cons_self ..)
    have lF : Z.F0 L = none := atk.f0.free (atk.ok.own (L, .lst acc) (List.mem_cons_self ..)).1
    cases o with
    | none =>
      show W (i + 1) H4
      have e5 := hno rfl
      subst e5
      exact ⟨F4, acc, done, cs, k', (eF.trans g3.f).trans g4.f, at4, ha2.mono (g3.trans g4).f, e2', by rw [← hbs, e3], by omega⟩
    | some b =>
      show te σ2 H4 _
      refine he b rfl F4 H4 g4.f at4.hide _ fun v F5 H5 e5 at5 r5 => ?_
      have at6 := at5.show lF lL
      have lacc : acc.length ≤ limL := by
        rw [← ha2.len]
        have := wk.1
        omega
      have hacc5 := (at6.ok.own (L, .lst acc) (List.mem_cons_self ..)).2
      exact ⟨acc, hacc5, sz_lt lacc, F5, acc ++ [v], done ++ [b], cs, k', ((eF.trans g3.f).trans g4.f).trans e5, At.write (n := 0) at6 rfl, (ha2.mono ((g3.trans g4).f.trans e5)).app (All2.one r5), e2', by rw [← hbs, e3, List.append_assoc]; rfl, by rw [List.length_append]; simp; omega⟩
  · refine Or.inl ⟨(wk.2 i F' H' eF atk.ok.ex).2 (by omega), ?_⟩
    rw [List.drop_eq_nil_of_le (by omega)] at hrest
    have er := Option.some.inj hrest
    have er1 : rest = [] := (congrArg Prod.fst er).symm
    have er2 : k = k1 := congrArg Prod.snd er
    subst er2
    rw [er1, List.append_nil] at hbs
    subst hbs
    exact q L acc F' H' (e2.trans eF) atk ⟨ha2, Nat.le_trans (by omega) wk.1⟩

/-! ### owned lists looked at by a call, for a while -/
theorem frzA_at : ∀ {O : Own} {H : Hp}, Ok F O H → ∀ q ∈ O, frzA F O q.1 = some q.2
  | [], _, _, _, m => by cases m
  | r :: O, H, k, q, m => by
    show upd (frzA F O) r.1 r.2 q.1 = some q.2
    by_cases z : q.1 = r.1
    · rw [z, upd_same]
      have h1 := (k.own q m).2
      have h2 := (k.own r (List.mem_cons_self ..)).2
      rw [z, h2] at h1
      exact h1
    · rw [upd_ne z]
      rcases List.mem_cons.mp m with e | m
      · exact absurd (by rw [e]) z
      · exact frzA_at (O := O) ⟨k.ex, fun s n => k.own s (List.mem_cons_of_mem _ n)⟩ q m
theorem frzA_same : ∀ {O : Own}, (∀ q ∈ O, F q.1 = none) → Same F (frzA F O)
  | [], _ => Same.refl _
  | r :: O, h => fun a u e => by
    show upd (frzA F O) r.1 r.2 a = some u
    rw [upd_ne (ne_of_none e (h r (List.mem_cons_self ..)))]
    exact frzA_same (O := O) (fun q m => h q (List.mem_cons_of_mem _ m)) a u e
theorem ev_peekP {c : γ} {Rc : Rep γ} {f : γ → V} (hf : Fl Rc f) (h : Same F (frzA F O) → (∀ q ∈ O, frzA F O q.1 = some q.2) → Ev te σ (frzA F O) [] (val Rc c)) : Ev te σ F O (val Rc c) := fun H k Q q =>
  ev_peek hf (h (frzA_same fun q m => (k.own q m).1) (frzA_at k)) H k Q q
theorem et_peekP {b : Bool} (h : Same F (frzA F O) → (∀ q ∈ O, frzA F O q.1 = some q.2) → EvT tt σ (frzA F O) [] b) : EvT tt σ F O b := fun H k Q q =>
  et_peek (h (frzA_same fun q m => (k.own q m).1) (frzA_at k)) H k Q q
/-- a call that gives a new list of things that stand by themselves -/
theorem evN_peek {as : List α} {f : α → V} (hf : Fl R f) (h : Same F (frzA F O) → (∀ q ∈ O, frzA F O q.1 = some q.2) → EvN te σ (frzA F O) [] R as) : EvN te σ F O R as := fun H k Q q =>
  h (frzA_same fun q m => (k.own q m).1) (frzA_at k) H ⟨frz_same k, fun _ m => (by cases m)⟩ Q fun p xs F' H' g n f' x r =>
    q p xs F H' ⟨Same.refl _, g.h, k.ex.trans g.h, fun _ n _ => n⟩ n (free_of k.ex n) x ⟨by rw [r.all.map hf]; exact All2.of_map hf as, r.len⟩
end
end Lm
/-! Lm: more of lists. -/
namespace Lm
open PySem PySem.Spec L2
/-- the greatest, the least -/
def maxO : List Int → Option Int
  | [] => none
  | n :: ns => some (ns.foldl max n)
def minO : List Int → Option Int
  | [] => none
  | n :: ns => some (ns.foldl min n)
theorem foldl_max : ∀ (ns : List Int) (n : Int), (ns.foldl max n ∈ n :: ns) ∧ ∀ y ∈ n :: ns, y ≤ ns.foldl max n
  | [], n => ⟨List.mem_singleton.mpr rfl, fun y m => by rw [List.mem_singleton.mp m]; exact Int.le_refl _⟩
  | a :: ns, n => by
    obtain ⟨h1, h2⟩ := foldl_max ns (max n a)
    show ns.foldl max (max n a) ∈ n :: a :: ns ∧ ∀ y ∈ n :: a :: ns, y ≤ ns.foldl max (max n a)
    have e : n ≤ max n a ∧ a ≤ max n a := ⟨by omega, by omega⟩
    have h3 := h2 (max n a) (List.mem_cons_self ..)
    refine ⟨?_, fun y m => ?_⟩
    · rcases List.mem_cons.mp h1 with z | z
      · by_cases q : n ≤ a
        · have : max n a = a := by omega
          rw [z, this]
          exact List.mem_cons_of_mem _ (List.mem_cons_self ..)
        · have : max n a = n := by omega
          rw [z, this]
          exact List.mem_cons_self ..
      · exact List.mem_cons_of_mem _ (List.mem_cons_of_mem _ z)
    · rcases List.mem_cons.mp m with z | m
      · subst z; exact Int.le_trans e.1 h3
      · rcases List.mem_cons.mp m with z | m
        · subst z; exact Int.le_trans e.2 h3
        · exact h2 y (List.mem_cons_of_mem _ m)
theorem foldl_min : ∀ (ns : List Int) (n : Int), (ns.foldl min n ∈ n :: ns) ∧ ∀ y ∈ n :: ns, ns.foldl min n ≤ y
  | [], n => ⟨List.mem_singleton.mpr rfl, fun y m => by rw [List.mem_singleton.mp m]; exact Int.le_refl _⟩
  | a :: ns, n => by
    obtain ⟨h1, h2⟩ := foldl_min ns (min n a)
    show ns.foldl min (min n a) ∈ n :: a :: ns ∧ ∀ y ∈ n :: a :: ns, ns.foldl min (min n a) ≤ y
    have e : min n a ≤ n ∧ min n a ≤ a := ⟨by omega, by omega⟩
    have h3 := h2 (min n a) (List.mem_cons_self ..)
    refine ⟨?_, fun y m => ?_⟩
    · rcases List.mem_cons.mp h1 with z | z
      · by_cases q : n ≤ a
        · have : min n a = n := by omega
          rw [z, this]
          exact List.mem_cons_self ..
        · have : min n a = a := by omega
          rw [z, this]
          exact List.mem_cons_of_mem _ (List.mem_cons_self ..)
      · exact List.mem_cons_of_mem _ (List.mem_cons_of_mem _ z)
    · rcases List.mem_cons.mp m with z | m
      · subst z; exact Int.le_trans h3 e.1
      · rcases List.mem_cons.mp m with z | m
        · subst z; exact Int.le_trans h3 e.2
        · exact h2 y (List.mem_cons_of_mem _ m)
theorem maxO_e {ns : List Int} {m : Int} (h : maxO ns = some m) : m ∈ ns ∧ ∀ y ∈ ns, y ≤ m := by
  cases ns with
  | nil => cases h
  | cons n ns => cases h; exact foldl_max ns n
theorem minO_e {ns : List Int} {m : Int} (h : minO ns = some m) : m ∈ ns ∧ ∀ y ∈ ns, m ≤ y := by
  cases ns with
  | nil => cases h
  | cons n ns => cases h; exact foldl_min ns n
/-- the first place -/
def idxO (x : Int) : List Int → Option Int
  | [] => none
  | n :: ns => if n = x then some 0 else (idxO x ns).map (· + 1)
theorem idxO_e {x : Int} : ∀ {ns : List Int} {i : Int}, idxO x ns = some i → ∃ j : Nat, i = (j : Int) ∧ ns[j]? = some x ∧ ∀ m < j, ∀ y, ns[m]? = some y → y ≠ x
  | [], _, h => by cases h
  | n :: ns, i, h => by
    unfold idxO at h
    by_cases e : n = x
    · rw [if_pos e] at h
      cases h
      exact ⟨0, rfl, by rw [e]; rfl, fun m h => absurd h (Nat.not_lt_zero _)⟩
    · rw [if_neg e] at h
      cases e2 : idxO x ns with
      | none => rw [e2] at h; cases h
      | some j =>
        rw [e2] at h
        cases h
        obtain ⟨k, hk, h1, h2⟩ := idxO_e e2
        subst hk
        refine ⟨k + 1, rfl, h1, fun m hm y hy => ?_⟩
        cases m with
        | zero => cases hy; exact e
        | succ m => exact h2 m (by omega) y hy
section
variable {α β γ ρ S : Type} {R : Rep α} {R' : Rep β} {Z : Bs} {D : Ends} {σ : L2.St} {F F1 : Hp} {O O1 O2 O' : Own} {te ta tb tc to : TE} {tt tu : TT} {t u : TS} {ts : TA} {A B C : Ar} {K : PySem.W.Frag} {p : Addr} {o : HO} {i j : Int}
theorem b_maxO {ns : List Int} {m : Int} (h : maxO ns = some m) : Cb (rMax K) [spn rInt ns] (val rInt m) := b_max (maxO_e h).1 (maxO_e h).2
theorem b_minO {ns : List Int} {m : Int} (h : minO ns = some m) : Cb (rMin K) [spn rInt ns] (val rInt m) := b_min (minO_e h).1 (minO_e h).2
theorem flat_ints : ∀ ns : List Int, (ns.map V.int).all flatV = true
  | [] => rfl
  | n :: ns => by rw [List.map_cons, List.all_cons, flat_ints ns]; rfl
theorem eqv_int (a b : Int) : eqV (.int a) (.int b) = decide (a = b) := rfl
theorem ev_lindex {ns : List Int} {x c : Int} (h : idxO x ns = some c) (ho : Ev to σ F O (spn rInt ns)) (ha : EvA ts σ F O [val rInt x]) : Ev (tBM K "list" (rIndex K) to ts) σ F O (val rInt c) := fun H k Q q =>
  ho H k _ fun v F1 H1 g1 ⟨p, xs, ev, hp, hx⟩ => by
    subst ev
    refine ⟨Or.inl ⟨rfl, xs, sq_of hp⟩, (ha.mono g1.f) H1 (k.gr g1) _ fun vs F2 H2 g2 b => ?_⟩
    obtain ⟨w, rfl, e⟩ := alla1 b
    have e' : w = .int x := e
    subst e'
    obtain ⟨j, ej, h1, h2⟩ := idxO_e h
    have ex := hx.all.map flI
    subst ex ej
    refine ⟨p, _, .int x, j, .int x, rfl, rfl, sq_of (g2.h _ _ hp), rfl, flat_ints ns, by rw [List.getElem?_map, h1]; rfl, by rw [eqv_int]; exact decide_eq_true rfl, fun m z hm hz => ?_, q _ F2 H2 (g1.trans g2) rfl⟩
    rw [List.getElem?_map] at hz
    cases e3 : ns[m]? with
    | none => rw [e3] at hz; cases hz
    | some y =>
      rw [e3] at hz
      cases hz
      rw [eqv_int]
      exact decide_eq_false (h2 m hm y e3)
/-- a tape is made -/
theorem sx_asgT {n : Nat} {k : Int} (h : EvN te σ F O rInt [k]) (q : ∀ p F', Same F F' → Nx Z D (σ.set n (some (.ref p))) F' ((p, tp k) :: O)) : Sx Z (tAsg te (gName n)) D σ F O :=
  sx_asgN h fun p xs F' e r => by
    have ex : xs = [.int k] := r.all.map flI
    subst ex
    exact q p F' e
theorem ev_none (h : Ev te σ F O (val rN ())) : Ev te σ F O (val (rO R) none) := fun H k Q q => h H k Q fun v F' H' g a => q v F' H' g a
theorem ev_some {a : α} (hn : ∀ v F, R.rp a v F → v ≠ .non) (h : Ev te σ F O (val R a)) : Ev te σ F O (val (rO R) (some a)) := fun H k Q q => h H k Q fun v F' H' g r => q v F' H' g ⟨r, hn _ _ r⟩
theorem nn_I {a : Int} : ∀ v F, rInt.rp a v F → v ≠ .non := fun v F h z => by
  have h2 : v = .int a := h
  rw [z] at h2; cases h2
theorem nn_S {a : List Nat} : ∀ v F, rS.rp a v F → v ≠ .non := fun v F h z => by
  have h2 : v = .str (mk a) := h.1
  rw [z] at h2; cases h2
theorem nn_L {a : List α} : ∀ v F, (rL R).rp a v F → v ≠ .non := fun v F h z => by
  obtain ⟨p, xs, h2, _⟩ := h
  rw [z] at h2; cases h2
theorem nn_T2 {a : α × β} : ∀ v F, (rT2 R R').rp a v F → v ≠ .non := fun v F h z => by
  obtain ⟨p, x, y, h2, _⟩ := h
  rw [z] at h2; cases h2

/-! ### name op= e -/
theorem op_ipS {X : Cx} : PIp X .Add xCatS := iop_add_str
theorem op_ipA {X : Cx} : PIp X .Add xAdd := iop_add
theorem op_ipM {X : Cx} : PIp X .Sub xSub := fun pins s σ H x y v u Q I r1 r2 h => ip_sub pins s σ H x y v u Q I r1 r2 h
theorem sx_aug {γ : Type} {Rc : Rep γ} {n : Nat} {r : R2} {a : α} {c : γ} {v : V} (hs : σ[n]? = some (some v)) (ra : R.rp a v F) (h : Ev te σ F O B) (ho : Op2 r (val R a) B (val Rc c)) (k : ∀ v F', Same F F' → Rc.rp c v F' → Nx Z D (σ.set n (some v)) F' O) : Sx Z (tAug n te r) D σ F O := fun H at0 =>
  ⟨v, hs, h H at0.ok _ fun w F1 H1 g1 b => ho v w F1 H1 _ g1.fh (R.mono g1.f ra) b fun u F2 H2 g2 c => k u F2 (g1.trans g2).f c H2 (at0.gr (g1.trans g2))⟩

/-! ### kinds whose values are told by a function, where the thing is fit -/
structure FlatR {α : Type} (R : Rep α) (f : α → V) (ok : α → Prop) : Prop where
  to : ∀ {a v F}, R.rp a v F → v = f a ∧ ok a
  of : ∀ {a F}, ok a → R.rp a (f a) F
abbrev fS (l : List Nat) : V := .str (mk l)
theorem frS : FlatR rS fS OkS := ⟨fun h => h, fun h => ⟨rfl, h⟩⟩
theorem frI : FlatR rInt V.int (fun _ => True) := ⟨fun h => ⟨h, trivial⟩, fun _ => rfl⟩
theorem frB : FlatR rB V.bl (fun _ => True) := ⟨fun h => ⟨h, trivial⟩, fun _ => rfl⟩
/-- a list of fit things, not too long -/
structure OkL {α : Type} (ok : α → Prop) (as : List α) : Prop where
  len : as.length ≤ limL
  all : ∀ a ∈ as, ok a
variable {f : α → V} {ok : α → Prop}
theorem flat_to (h : FlatR R f ok) : ∀ {as : List α} {xs : List V}, All2 R as xs F → xs = as.map f ∧ ∀ a ∈ as, ok a
  | [], [], _ => ⟨rfl, fun _ m => (by cases m)⟩
  | a :: as, v :: vs, q => by
    obtain ⟨e1, o1⟩ := h.to q.1
    obtain ⟨e2, o2⟩ := flat_to h q.2
    refine ⟨by rw [List.map_cons, e1, e2], fun b m => ?_⟩
    rcases List.mem_cons.mp m with z | m
    · subst z; exact o1
    · exact o2 b m
  | [], _ :: _, q => q.elim
  | _ :: _, [], q => q.elim
theorem flat_of (h : FlatR R f ok) : ∀ {as : List α}, (∀ a ∈ as, ok a) → All2 R as (as.map f) F
  | [], _ => trivial
  | a :: as, q => ⟨h.of (q a (List.mem_cons_self ..)), flat_of h fun b m => q b (List.mem_cons_of_mem _ m)⟩
theorem flatB (h : FlatR R f ok) {as : List α} (q : OkL ok as) : AllB R as (as.map f) F := ⟨flat_of h q.all, q.len⟩
theorem flat_ok (h : FlatR R f ok) {as : List α} {xs : List V} (q : AllB R as xs F) : OkL ok as := ⟨q.len, (flat_to h q.all).2⟩
/-- how such a list stands in the heap -/
abbrev cF (f : α → V) (as : List α) : HO := .lst (as.map f)
theorem sx_asgF (hf : FlatR R f ok) {n : Nat} {as : List α} (h : EvN te σ F O R as) (q : ∀ p F', Same F F' → AllB R as (as.map f) F' → Nx Z D (σ.set n (some (.ref p))) F' ((p, cF f as) :: O)) : Sx Z (tAsg te (gName n)) D σ F O :=
  sx_asgN h fun p xs F' e r => by
    have ex : xs = as.map f := (flat_to hf r.all).1
    subst ex
    exact q p F' e r
theorem sx_asgMF (hf : FlatR R f ok) {n : Nat} {as : List α} (h : EvMN Z te σ F O O1 R as) (q : ∀ p F', Same F F' → AllB R as (as.map f) F' → Nx Z D (σ.set n (some (.ref p))) F' ((p, cF f as) :: O1)) : Sx Z (tAsg te (gName n)) D σ F O :=
  sx_asgMN h fun p xs F' e r => by
    have ex : xs = as.map f := (flat_to hf r.all).1
    subst ex
    exact q p F' e r
theorem sx_appF (hf : FlatR R f ok) {n m : Nat} {as : List α} {a : α} (hj : σ[m]? = some (some (.ref p))) (hO : O[n]? = some (p, cF f as)) (hx : AllB R as (as.map f) F) (h : Ev te σ F O (val R a)) (hz : (as ++ [a]).length ≤ limL)
    (k : ∀ F', Same F F' → AllB R (as ++ [a]) ((as ++ [a]).map f) F' → Nx Z D σ F' (O.set n (p, cF f (as ++ [a])))) : Sx Z (tDrop (tBM K "list" rAppend (tVar m) (tCons te tNil))) D σ F O :=
  sx_app hj hO hx h hz fun v F' e r => by
    have e1 : as.map f ++ [v] = (as ++ [a]).map f := (flat_to hf r.all).1
    have r' := r
    rw [e1] at r' ⊢
    exact k F' e r'
theorem sx_appMF (hf : FlatR R f ok) {n m : Nat} {as : List α} {a : α} (hj : σ[m]? = some (some (.ref p))) (hO0 : (p, cF f as) ∈ O) (hO : O1[n]? = some (p, cF f as)) (hx : AllB R as (as.map f) F) (h : EvM Z te σ F O O1 (val R a)) (hz : (as ++ [a]).length ≤ limL)
    (k : ∀ F', Same F F' → AllB R (as ++ [a]) ((as ++ [a]).map f) F' → Nx Z D σ F' (O1.set n (p, cF f (as ++ [a])))) : Sx Z (tDrop (tBM K "list" rAppend (tVar m) (tCons te tNil))) D σ F O :=
  sx_appM hj ⟨_, hO0, rfl⟩ hO hx h hz fun v F' e r => by
    have e1 : as.map f ++ [v] = (as ++ [a]).map f := (flat_to hf r.all).1
    have r' := r
    rw [e1] at r' ⊢
    exact k F' e r'
theorem sx_setF (hf : FlatR R f ok) {n m : Nat} {as : List α} {a : α} {q : Nat} {z : Int} (hj : σ[q]? = some (some (.ref p))) (hO : O[n]? = some (p, cF f as)) (hx : AllB R as (as.map f) F) (h : Ev te σ F O (val R a)) (hi : Ev tb σ F O (val rInt z))
    (hm : ixN as.length z = some m) (k : ∀ F', Same F F' → AllB R (as.set m a) ((as.set m a).map f) F' → Nx Z D σ F' (O.set n (p, cF f (as.set m a)))) : Sx Z (tAsg te (gSub (tVar q) tb rSetL)) D σ F O :=
  sx_setL hj hO hx h hi hm fun v F' e r => by
    have e1 : (as.map f).set m v = (as.set m a).map f := (flat_to hf r.all).1
    have r' := r
    rw [e1] at r' ⊢
    exact k F' e r'

/-! ### xs.pop(0), xs.pop() -/
def pop0O {α : Type} : List α → Option (α × List α)
  | [] => none
  | a :: as => some (a, as)
def popO {α : Type} (as : List α) : Option (α × List α) := (as[as.length - 1]?).map fun a => (a, as.dropLast)
theorem popO_e {as : List α} {x : α × List α} (h : popO as = some x) : as[as.length - 1]? = some x.1 ∧ x.2 = as.dropLast := by
  unfold popO at h
  cases e : as[as.length - 1]? with
  | none => rw [e] at h; cases h
  | some a => rw [e] at h; cases h; exact ⟨rfl, rfl⟩
theorem All2.dropLast {as : List α} {xs : List V} (h : All2 R as xs F) : All2 R as.dropLast xs.dropLast F := by
  rw [List.dropLast_eq_take, List.dropLast_eq_take, h.len]
  exact h.take _
theorem pop0_all {as : List α} {xs : List V} {x : α × List α} (h : AllB R as xs F) (e : pop0O as = some x) : AllB R x.2 xs.tail F := by
  cases as with
  | nil => cases e
  | cons a as =>
    cases e
    cases xs with
    | nil => exact h.all.elim
    | cons v vs => exact ⟨h.all.2, Nat.le_trans (Nat.le_succ _) h.len⟩
theorem pop_all {as : List α} {xs : List V} {x : α × List α} (h : AllB R as xs F) (e : popO as = some x) : AllB R x.2 xs.dropLast F := by
  rw [(popO_e e).2]
  exact ⟨h.all.dropLast, Nat.le_trans (by rw [List.length_dropLast]; omega) h.len⟩
theorem evM_pop0 {n m : Nat} {as : List α} {xs : List V} {x : α × List α} (hj : σ[m]? = some (some (.ref p))) (hO : O[n]? = some (p, .lst xs)) (hx : AllB R as xs F) (e : pop0O as = some x) (hi : Ev te σ F O (val rInt 0)) : EvM Z (tBM K "list" rPopAt (tVar m) (tCons te tNil)) σ F O (O.set n (p, .lst xs.tail)) (val R x.1) := fun F1 H e0 at0 Q q => by
  have hp := at0.ok.own _ (List.mem_of_getElem? hO)
  refine ⟨.ref p, hj, Or.inl ⟨rfl, xs, sq_of hp.2⟩, (hi.mono e0) H at0.ok _ fun v F2 H2 g2 ev => ?_⟩
  have ev' : v = .int 0 := ev
  subst ev'
  have at2 := at0.gr g2
  have hp2 := at2.ok.own _ (List.mem_of_getElem? hO)
  cases as with
  | nil => cases e
  | cons a as =>
    cases e
    cases xs with
    | nil => exact hx.all.elim
    | cons w ws =>
      exact ⟨p, w :: ws, 0, 0, w, rfl, rfl, hp2.2, by omega, by omega, by simp [seqIndex?], rfl, q w F2 _ g2.f (At.write at2 hO) (R.mono (e0.trans g2.f) hx.all.1)⟩
theorem evM_pop {n m : Nat} {as : List α} {xs : List V} {x : α × List α} (hj : σ[m]? = some (some (.ref p))) (hO : O[n]? = some (p, .lst xs)) (hx : AllB R as xs F) (e : popO as = some x) : EvM Z (tBM0 K "list" rPop (tVar m)) σ F O (O.set n (p, .lst xs.dropLast)) (val R x.1) := fun F1 H e0 at0 Q q => by
  have hp := at0.ok.own _ (List.mem_of_getElem? hO)
  obtain ⟨e1, _⟩ := popO_e e
  obtain ⟨v, hv, r⟩ := hx.all.get e1
  rw [hx.all.len] at hv
  exact ⟨.ref p, hj, Or.inl ⟨rfl, xs, sq_of hp.2⟩, p, xs, v, rfl, rfl, hp.2, hv, q v F1 _ (Same.refl _) (At.write at0 hO) (R.mono e0 r)⟩

/-! ### a def as a value -/
def rFn (mg : Str → Option Value) (x : Str) : Rep Unit := ⟨fun _ v _ => ∃ g, v = .ref g ∧ mg x = some (.ref g), fun _ h => h⟩
def tCallM (i : Nat) (mg : Str → Option Value) (x : Str) (sp : Sp) (t : TA) : TE := fun σ H Q => ∃ g, σ[i]? = some (some (.ref g)) ∧ mg x = some (.ref g) ∧ t σ H fun vs H1 => sp vs H1 Q E0
theorem pe_calM {X : Cx} {k i : Nat} {ps : List Str} {sp : Sp} {x y : Str} {p pos : Pos} {e : Expr} {es : List Expr} {t : TA} (c : Cal X.prog X.w X.K X.mg X.base k x ps sp) (hr : Room k X.A) (hN : X.N[i]? = some y) (hv : Vis X.env.scope y) (ha : PA X (e :: es) t)
    (hdb : (y == ("__debug__" : Str)) = false := by decide) (hcd : (y == ("__classdict__" : Str)) = false := by decide)
    (he : starEach (e :: es) X.env = (false, eval e X.env) :: starEach es X.env := by rfl) (hpl : (backTo pos (starEach es X.env)).any (·.1) = false := by rfl) : PE X (.Call (.Name y p) (e :: es) [] pos) (tCallM i X.mg x sp t) := by
  obtain ⟨f, fd, Fo, hm, hk, hb, _⟩ := c.ex
  refine ⟨fun pins s σ H Q I h => ?_⟩
  obtain ⟨g, hs, hg, ht⟩ := h
  have eg : g = f := by rw [hm] at hg; cases hg; rfl
  subst eg
  refine (pe_callL (i := i) (f := g) (sp := sp) (dvs := []) (E := E0) Fo hr hN hv hk hb .nil pass0 ha hdb hcd he hpl).run pins s σ H Q I ⟨hs, ?_⟩
  have e0 : (fun (vs : List V) (H1 : Hp) => sp (vs ++ []) H1 Q E0) = fun vs H1 => sp vs H1 Q E0 := by
    funext vs H1
    rw [List.append_nil]
  show t σ H (fun vs H1 => sp (vs ++ []) H1 Q E0)
  rw [e0]
  exact ht
theorem ev_callF {P : List Ar → Ar → Prop} {mg : Str → Option Value} {x : Str} {v : V} {u : Unit} {n : Nat} {as : List Ar} (hs : σ[n]? = some (some v)) (r : (rFn mg x).rp u v F) (h : EvA ts σ F O as) (hp : P as C) : Ev (tCallM n mg x (spG P) ts) σ F O C := fun H k Q q => by
  obtain ⟨g, rfl, hg⟩ := r
  exact ⟨g, hs, hg, h H k _ fun vs F1 H1 g1 a => ⟨F1, as, C, hp, g1.fh, a, fun v F2 H2 g2 c => q v F2 H2 (g1.trans g2) c⟩⟩
theorem cal_mg {P : Program} {w : World} {mg : Str → Option Value} {base : Heap} {k : Nat} {x : Str} {ps : List Str} {sp : Sp} (c : Cal P w K mg base k x ps sp) : ∃ g, mg x = some (.ref g) := by
  obtain ⟨f, fd, _, hm, _⟩ := c.ex
  exact ⟨f, hm⟩
theorem ev_fn {mg : Str → Option Value} {x : Str} {g : Addr} (h : mg x = some (.ref g)) : Ev (tC (.ref g)) σ F O (val (rFn mg x) ()) := ev_c fun _ => ⟨g, rfl, h⟩

/-! ### None or a thing; lists of unlike things -/
theorem ev_unO {o : Option α} {a : α} (e : o = some a) (h : Ev te σ F O (val (rO R) o)) : Ev te σ F O (val R a) := fun H k Q q => h H k Q fun v F' H' g r => by
  subst e
  exact q v F' H' g r.1
def rH2 (R : Rep α) (R' : Rep β) : Rep (α × β) := ⟨fun t v F => ∃ p x y, v = .ref p ∧ F p = some (.lst [x, y]) ∧ R.rp t.1 x F ∧ R'.rp t.2 y F,
  fun e ⟨p, x, y, h1, h2, h3, h4⟩ => ⟨p, x, y, h1, e _ _ h2, R.mono e h3, R'.mono e h4⟩⟩
def rH3 {γ : Type} (R : Rep α) (R' : Rep β) (R'' : Rep γ) : Rep (α × β × γ) := ⟨fun t v F => ∃ p x y z, v = .ref p ∧ F p = some (.lst [x, y, z]) ∧ R.rp t.1 x F ∧ R'.rp t.2.1 y F ∧ R''.rp t.2.2 z F,
  fun e ⟨p, x, y, z, h1, h2, h3, h4, h5⟩ => ⟨p, x, y, z, h1, e _ _ h2, R.mono e h3, R'.mono e h4, R''.mono e h5⟩⟩
theorem ev_lstH2 {a : α} {b : β} (h : EvA ts σ F O [val R a, val R' b]) : Ev (tLst ts) σ F O (val (rH2 R R') (a, b)) := fun H k Q q =>
  h H k _ fun vs F1 H1 g1 a => by
    obtain ⟨v, w, rfl, h1, h2⟩ := alla2 a
    refine ⟨by show 2 ≤ sizeLine; decide, fun p hp => q (.ref p) (upd F1 p (.lst [v, w])) _ (g1.trans (Gr.frz g1.fh hp)) ⟨p, v, w, rfl, upd_same, R.mono (same_new (free_of g1.fh hp)) h1, R'.mono (same_new (free_of g1.fh hp)) h2⟩⟩
theorem ev_lstH3 {R'' : Rep γ} {a : α} {b : β} {c : γ} (h : EvA ts σ F O [val R a, val R' b, val R'' c]) : Ev (tLst ts) σ F O (val (rH3 R R' R'') (a, b, c)) := fun H k Q q =>
  h H k _ fun vs F1 H1 g1 a => by
    obtain ⟨v, w, x, rfl, h1, h2, h3⟩ := alla3 a
    refine ⟨by show 3 ≤ sizeLine; decide, fun p hp => q (.ref p) (upd F1 p (.lst [v, w, x])) _ (g1.trans (Gr.frz g1.fh hp)) ⟨p, v, w, x, rfl, upd_same, R.mono (same_new (free_of g1.fh hp)) h1, R'.mono (same_new (free_of g1.fh hp)) h2, R''.mono (same_new (free_of g1.fh hp)) h3⟩⟩
theorem o_ixH20 {t : α × β} : Op2 (rIxL K) (val (rH2 R R') t) (val rInt 0) (val R t.1) := fun v w F H Q k ⟨p, x, y, ev, hp, h1, h2⟩ e q => ⟨p, _, 0, x, ev, e, sq_of (k _ _ hp), rfl, q x F H (Gr.refl k) h1⟩
theorem o_ixH21 {t : α × β} : Op2 (rIxL K) (val (rH2 R R') t) (val rInt 1) (val R' t.2) := fun v w F H Q k ⟨p, x, y, ev, hp, h1, h2⟩ e q => ⟨p, _, 1, y, ev, e, sq_of (k _ _ hp), rfl, q y F H (Gr.refl k) h2⟩
theorem o_ixH30 {R'' : Rep γ} {t : α × β × γ} : Op2 (rIxL K) (val (rH3 R R' R'') t) (val rInt 0) (val R t.1) := fun v w F H Q k ⟨p, x, y, z, ev, hp, h1, h2, h3⟩ e q => ⟨p, _, 0, x, ev, e, sq_of (k _ _ hp), rfl, q x F H (Gr.refl k) h1⟩
theorem o_ixH31 {R'' : Rep γ} {t : α × β × γ} : Op2 (rIxL K) (val (rH3 R R' R'') t) (val rInt 1) (val R' t.2.1) := fun v w F H Q k ⟨p, x, y, z, ev, hp, h1, h2, h3⟩ e q => ⟨p, _, 1, y, ev, e, sq_of (k _ _ hp), rfl, q y F H (Gr.refl k) h2⟩
theorem o_ixH32 {R'' : Rep γ} {t : α × β × γ} : Op2 (rIxL K) (val (rH3 R R' R'') t) (val rInt 2) (val R'' t.2.2) := fun v w F H Q k ⟨p, x, y, z, ev, hp, h1, h2, h3⟩ e q => ⟨p, _, 2, z, ev, e, sq_of (k _ _ hp), rfl, q z F H (Gr.refl k) h3⟩
theorem eH2 {f : α → PyData} {g : β → PyData} (h : Enc R f) (h' : Enc R' g) : Enc (rH2 R R') (fun t => PyData.list [f t.1, g t.2]) := ⟨fun ⟨p, x, y, h1, h2, h3, h4⟩ => ⟨p, [x, y], h1, h2, ⟨x, [y], rfl, h.to h3, y, [], rfl, h'.to h4, rfl⟩, by show (2 : Nat) ≤ limL; decide⟩⟩
theorem eH3 {R'' : Rep γ} {f : α → PyData} {g : β → PyData} {e : γ → PyData} (h : Enc R f) (h' : Enc R' g) (h'' : Enc R'' e) : Enc (rH3 R R' R'') (fun t => PyData.list [f t.1, g t.2.1, e t.2.2]) := ⟨fun ⟨p, x, y, z, h1, h2, h3, h4, h5⟩ => ⟨p, [x, y, z], h1, h2, ⟨x, [y, z], rfl, h.to h3, y, [z], rfl, h'.to h4, z, [], rfl, h''.to h5, rfl⟩, by show (3 : Nat) ≤ limL; decide⟩⟩
/-- x in xs, of data -/
def inDO (d : PyData) (ds : List PyData) : Option Bool := if SeqAt.shaped d = true ∧ SeqAt.shaped (.list ds) = true then some (ds.any fun z => PyData.eqv z d) else none
theorem o_inD {d : PyData} {ds : List PyData} {b : Bool} (h1 : Dt K A d) (h2 : Dt K B (.list ds)) (h : inDO d ds = some b) : Op2 (rInD K) A B (val rB b) := op_sc flB fun v w F H Q s a b' q => by
  obtain ⟨h3, h4⟩ := iteo h
  refine ⟨d, ds, h1.dp s a, h2.dp s b', h1.sh, h2.sh, ?_⟩
  rw [h4]
  exact q
/-! ### padding -/
def ljustO (l : List Nat) (i : Int) : Option (List Nat) := if i ≤ 1000000 ∧ -1000000 ≤ i then some (l ++ List.replicate (i.toNat - l.length) 32) else none
def rjustO (l : List Nat) (i : Int) : Option (List Nat) := if i ≤ 1000000 ∧ -1000000 ≤ i then some (List.replicate (i.toNat - l.length) 32 ++ l) else none
def mLjust : RM := fun x xs H Q => ∃ (a : Str) (i : Int), x = .str a ∧ xs = [.int i] ∧ PadOk i = true ∧ Q (.str (Txt.ljust a i)) H
def mRjust : RM := fun x xs H Q => ∃ (a : Str) (i : Int), x = .str a ∧ xs = [.int i] ∧ PadOk i = true ∧ Q (.str (Txt.rjust a i)) H
theorem mt_mLjust {X : Cx} : MtR X "str.ljust" mLjust := mt_ljust
theorem mt_mRjust {X : Cx} : MtR X "str.rjust" mRjust := mt_rjust
theorem padok {i : Int} (h : i ≤ 1000000 ∧ -1000000 ≤ i) : PadOk i = true := by
  have e : 1000000 < sizeLine := by decide
  unfold PadOk Builtin.Str.tooLong fitsSsize
  rw [Bool.and_eq_true, Bool.not_eq_true', Bool.not_eq_true', Bool.or_eq_false_iff]
  exact ⟨⟨decide_eq_false (by omega), decide_eq_false (by omega)⟩, decide_eq_false (by omega)⟩
theorem ljust_mk {l : List Nat} {i : Int} : Txt.ljust (mk l) i = mk (l ++ List.replicate (i.toNat - l.length) 32) := by
  apply mk_of
  unfold Txt.ljust
  rw [mk_len]
  by_cases h : i ≤ l.length
  · rw [if_pos h]
    have e : i.toNat - l.length = 0 := by omega
    rw [e]
    simp
  · rw [if_neg h]
    simp [Builtin.Str.padded]
theorem rjust_mk {l : List Nat} {i : Int} : Txt.rjust (mk l) i = mk (List.replicate (i.toNat - l.length) 32 ++ l) := by
  apply mk_of
  unfold Txt.rjust
  rw [mk_len]
  by_cases h : i ≤ l.length
  · rw [if_pos h]
    have e : i.toNat - l.length = 0 := by omega
    rw [e]
    simp
  · rw [if_neg h]
    simp [Builtin.Str.padded]
theorem m_ljust {l c : List Nat} (h : ljustO l i = some c) : Cm mLjust l [val rInt i] (val rS c) := fun vs F H Q k e a q => by
  obtain ⟨v, rfl, b⟩ := alla1 a
  have b' : v = .int i := b
  subst b'
  obtain ⟨h1, h2⟩ := iteo h
  subst h2
  have h3 : l.length ≤ 1000000 := k.1
  have okc : OkS (l ++ List.replicate (i.toNat - l.length) 32) := by
    refine ⟨?_, fun c m => ?_⟩
    · show (l ++ List.replicate (i.toNat - l.length) 32).length ≤ 1000000
      rw [List.length_append, List.length_replicate]; omega
    · rcases List.mem_append.mp m with m | m
      · exact k.2 c m
      · rw [(List.mem_replicate.mp m).2]; decide
  exact ⟨mk l, i, rfl, rfl, padok h1, by rw [ljust_mk]; exact q _ F H (Gr.refl e) ⟨rfl, okc⟩⟩
theorem m_rjust {l c : List Nat} (h : rjustO l i = some c) : Cm mRjust l [val rInt i] (val rS c) := fun vs F H Q k e a q => by
  obtain ⟨v, rfl, b⟩ := alla1 a
  have b' : v = .int i := b
  subst b'
  obtain ⟨h1, h2⟩ := iteo h
  subst h2
  have h3 : l.length ≤ 1000000 := k.1
  have okc : OkS (List.replicate (i.toNat - l.length) 32 ++ l) := by
    refine ⟨?_, fun c m => ?_⟩
    · show (List.replicate (i.toNat - l.length) 32 ++ l).length ≤ 1000000
      rw [List.length_append, List.length_replicate]; omega
    · rcases List.mem_append.mp m with m | m
      · rw [(List.mem_replicate.mp m).2]; decide
      · exact k.2 c m
  exact ⟨mk l, i, rfl, rfl, padok h1, by rw [rjust_mk]; exact q _ F H (Gr.refl e) ⟨rfl, okc⟩⟩
end
end Lm
namespace Lm
/-- looked at by a mirror behind a call that changes a list: all is fit -/
def okL {α : Type} (f : α → Bool) (as : List α) : Bool := decide (as.length ≤ limL) && as.all f
def grdB (b : Bool) : Option Unit := if b = true then some () else none
theorem okL_S {as : List (List Nat)} {u : Unit} (h : grdB (okL okS as) = some u) : OkL OkS as := by
  unfold grdB at h
  by_cases hb : okL okS as = true
  · have h2 := Bool.and_eq_true_iff.mp hb
    exact ⟨of_decide_eq_true h2.1, fun a m => okS_iff.mp (List.all_eq_true.mp h2.2 a m)⟩
  · rw [if_neg hb] at h; cases h
theorem okL_I {as : List Int} {u : Unit} (h : grdB (okL (fun _ => true) as) = some u) : OkL (fun _ => True) as := by
  unfold grdB at h
  by_cases hb : okL (fun _ => true) as = true
  · have h2 := Bool.and_eq_true_iff.mp hb
    exact ⟨of_decide_eq_true h2.1, fun _ _ => trivial⟩
  · rw [if_neg hb] at h; cases h
end Lm
/-! Lm: the frozen part named (within comprehensions the context's own can't be told). -/
namespace Lm
open PySem PySem.Spec PyProof.Rows L2
theorem room65 {k : Nat} {A : Around} (r : Room k A) : A.units + 65 < cLine := by have := r.un; omega
section
variable {X : Cx} {K : PySem.W.Frag} (hK : X.K = K)
include hK
theorem call_cLen_k : CallR X (.builtin "len") (cLen K) := hK ▸ call_cLen
theorem call_cList_k : CallR X (.type "list") (cList K) := hK ▸ call_cList
theorem cr_max_k (h : X.calm = true) : CallR X (.builtin "max") (rMax K) := hK ▸ cr_max h
theorem cr_min_k (h : X.calm = true) : CallR X (.builtin "min") (rMin K) := hK ▸ cr_min h
theorem cr_sum_k (h : X.calm = true) : CallR X (.builtin "sum") (rSum K) := hK ▸ cr_sum h
theorem cr_all_k (h : X.calm = true) : CallR X (.builtin "all") (rAll K) := hK ▸ cr_all h
theorem cr_any_k (h : X.calm = true) : CallR X (.builtin "any") (rAny K) := hK ▸ cr_any h
theorem call_isi_k : CallR X (.builtin "isinstance") (rIsi K) := hK ▸ call_isi
theorem op_in_seq_k : OpR X (compareOp .In) (rIn K false) := hK ▸ op_in_seq
theorem op_notIn_seq_k : OpR X (compareOp .NotIn) (rIn K true) := hK ▸ op_notIn_seq
theorem op_eqD_k (u : X.A.units + 64 < cLine) : OpR X (compareOp .Eq) (rEqD K) := hK ▸ op_eqD u
theorem op_neD_k (u : X.A.units + 64 < cLine) : OpR X (compareOp .NotEq) (rNeD K) := hK ▸ op_neD u
theorem op_inD_k (u : X.A.units + 65 < cLine) : OpR X (compareOp .In) (rInD K) := hK ▸ op_inD u
theorem ix_list_k : IxR X (rIxL K) := hK ▸ ix_list
theorem ix_tup_k : IxR X (rIxT K) := hK ▸ ix_tup
theorem sl_list_k : SlR X (rSlL K) := hK ▸ sl_list
theorem mt_mJoin_k : MtR X "str.join" (mJoin K) := hK ▸ mt_mJoin
theorem mt_index_k : MtR X "list.index" (rIndex K) := hK ▸ mt_index
variable {e tg : Expr} {te : TE} {ta : TA} {T : String} {r : V → List V → Hp → VK → Prop} {n : Nat} {gs : TGs}
/-- a reading told with the context's own part is one with the named part -/
theorem kRevL (h : PE X e (tRevL X.K te)) : PE X e (tRevL K te) := hK ▸ h
theorem kBM0 (h : PE X e (tBM0 X.K T r te)) : PE X e (tBM0 K T r te) := hK ▸ h
theorem kBM (h : PE X e (tBM X.K T r te ta)) : PE X e (tBM K T r te ta) := hK ▸ h
theorem kList (h : PI X tg e (iList X.K te)) : PI X tg e (iList K te) := hK ▸ h
theorem kTup (h : PI X tg e (iTup X.K te)) : PI X tg e (iTup K te) := hK ▸ h
theorem kEnum (h : PI X tg e (iEnum X.K ta)) : PI X tg e (iEnum K ta) := hK ▸ h
theorem kZip (h : PI X tg e (iZip X.K ta)) : PI X tg e (iZip K ta) := hK ▸ h
theorem kgTup (h : PG X tg (gTup X.K n gs)) : PG X tg (gTup K n gs) := hK ▸ h
end
end Lm
/-! Lm: promises of defs that change several owned objects, the table of code objects beside. -/
namespace Lm
open PySem PySem.Spec L2
def keys (O : Own) : List Addr := O.map (·.1)
abbrev Tb := Option (Addr × (Nat → Nat → Str))
open Classical in
/-- all of H but these -/
noncomputable def butO (O : Own) (T : Tb) (H : Hp) : Hp := fun a => if a ∈ keys O ∨ ∃ nm, T = some (a, nm) then none else H a
def setAll : List Nat → Own → Own → Own
  | n :: ns, q :: qs, O => setAll ns qs (O.set n q)
  | _, _, O => O
section
variable {Z : Bs} {F H F' H' : Hp} {O O' O2 : Own} {T : Tb} {ns : List Nat}
theorem pick_mem : ∀ {ns : List Nat} {O : Own}, ns.map (fun n => O2[n]?) = O.map some → ∀ q ∈ O, ∃ n ∈ ns, O2[n]? = some q
  | [], [], _, _, m => by cases m
  | [], _ :: _, h, _, _ => by cases h
  | _ :: _, [], h, _, m => by cases m
  | n :: ns, r :: O, h, q, m => by
    rw [List.map_cons, List.map_cons] at h
    injection h with h1 h2
    rcases List.mem_cons.mp m with e | m
    · subst e; exact ⟨n, List.mem_cons_self .., h1⟩
    · obtain ⟨k, a, b⟩ := pick_mem h2 q m
      exact ⟨k, List.mem_cons_of_mem _ a, b⟩
theorem key_inj (nd : (O2.map (·.1)).Nodup) {n m : Nat} {q r : Addr × HO} (h1 : O2[n]? = some q) (h2 : O2[m]? = some r) (e : q.1 = r.1) : n = m := by
  have a1 : (O2.map (·.1))[n]? = some q.1 := by rw [List.getElem?_map, h1]; rfl
  have a2 : (O2.map (·.1))[m]? = some q.1 := by rw [List.getElem?_map, h2, e]; rfl
  have l1 := (List.getElem?_eq_some_iff.mp a1)
  have l2 := (List.getElem?_eq_some_iff.mp a2)
  exact (List.getElem_inj nd).mp (l1.2.trans l2.2.symm)
theorem pick_nd (nd : (O2.map (·.1)).Nodup) : ∀ {ns : List Nat} {O : Own}, ns.map (fun n => O2[n]?) = O.map some → ns.Nodup → (O.map (·.1)).Nodup
  | [], [], _, _ => List.nodup_nil
  | [], _ :: _, h, _ => by cases h
  | _ :: _, [], h, _ => by cases h
  | n :: ns, r :: O, h, hn => by
    rw [List.map_cons, List.map_cons] at h
    injection h with h1 h2
    rw [List.nodup_cons] at hn
    rw [List.map_cons, List.nodup_cons]
    refine ⟨fun m => ?_, pick_nd nd h2 hn.2⟩
    obtain ⟨q, m, e⟩ := List.mem_map.mp m
    obtain ⟨k, a, b⟩ := pick_mem h2 q m
    have := key_inj nd h1 b e.symm
    subst this
    exact hn.1 a
theorem set_keys' {n : Nat} {q r : Addr × HO} (h : O[n]? = some q) (e : r.1 = q.1) : (O.set n r).map (·.1) = O.map (·.1) := by
  obtain ⟨p, o⟩ := q
  obtain ⟨p', o'⟩ := r
  have e : p' = p := e
  subst e
  exact set_keys h
theorem setAll_spec : ∀ {ns : List Nat} {O O' O2 : Own}, ns.map (fun n => O2[n]?) = O.map some → O'.map (·.1) = O.map (·.1) → ns.Nodup → (O2.map (·.1)).Nodup →
    (setAll ns O' O2).map (·.1) = O2.map (·.1) ∧ ∀ q ∈ setAll ns O' O2, q ∈ O' ∨ (q ∈ O2 ∧ q.1 ∉ O.map (·.1))
  | [], [], [], _, _, _, _, _ => ⟨rfl, fun q m => Or.inr ⟨m, fun z => by cases z⟩⟩
  | [], [], _ :: _, _, _, e, _, _ => by cases e
  | [], _ :: _, _, _, h, _, _, _ => by cases h
  | _ :: _, [], _, _, h, _, _, _ => by cases h
  | _ :: _, _ :: _, [], _, _, e, _, _ => by cases e
  | n :: ns, r :: O, r' :: O', O2, h, e, hn, nd => by
    rw [List.map_cons, List.map_cons] at h e
    injection h with h1 h2
    injection e with e1 e2
    rw [List.nodup_cons] at hn
    have ks := set_keys' (O := O2) h1 e1
    have h3 : ns.map (fun k => (O2.set n r')[k]?) = O.map some := by
      rw [← h2]
      apply List.map_congr_left
      intro k hk
      rw [List.getElem?_set_ne (fun z => hn.1 (by rw [z]; exact hk))]
    obtain ⟨a, b⟩ := setAll_spec h3 e2 hn.2 (by rw [ks]; exact nd)
    refine ⟨a.trans ks, fun q m => ?_⟩
    rcases b q m with z | ⟨z, z2⟩
    · exact Or.inl (List.mem_cons_of_mem _ z)
    · obtain ⟨i, hi⟩ := List.getElem?_of_mem z
      rw [List.getElem?_set] at hi
      by_cases en : n = i
      · rw [if_pos en] at hi
        split at hi
        · cases hi; exact Or.inl (List.mem_cons_self ..)
        · cases hi
      · rw [if_neg en] at hi
        refine Or.inr ⟨List.mem_of_getElem? hi, fun m2 => ?_⟩
        rw [List.map_cons] at m2
        rcases List.mem_cons.mp m2 with z3 | z3
        · exact en (key_inj nd h1 hi z3.symm)
        · exact z2 z3
theorem butO_same : Same (butO O T H) H := fun a u e => by
  unfold butO at e
  by_cases z : a ∈ keys O ∨ ∃ nm, T = some (a, nm)
  · rw [if_pos z] at e; cases e
  · rw [if_neg z] at e; exact e
theorem butO_off {a : Addr} (h : ¬ (a ∈ keys O ∨ ∃ nm, T = some (a, nm))) : butO O T H a = H a := if_neg h
/-- fewer owned things, in any order -/
theorem At.pick (k : At Z F O2 H) (hs : ns.map (fun n => O2[n]?) = O.map some) (hn : ns.Nodup) : At Z F O H := by
  have sub : ∀ q ∈ O, q ∈ O2 := fun q m => (pick_mem hs q m).elim fun n z => List.mem_of_getElem? z.2
  exact ⟨⟨k.ok.ex, fun q m => k.ok.own q (sub q m)⟩, k.b, k.f0, k.sep, fun q m => k.ob q (sub q m), pick_nd k.nd hs hn, k.tab.less fun q m => ⟨q, sub q m, rfl⟩⟩
/-- at a call -/
theorem At.enter (k : At Z F O2 H) (hs : ns.map (fun n => O2[n]?) = O.map some) (hn : ns.Nodup) (hT : T = none ∨ T = Z.T) : At ⟨F, butO O T H, T⟩ F O H := by
  have k' := k.pick hs hn
  refine ⟨k'.ok, butO_same, Same.refl _, fun _ h _ => h, fun q m => if_pos (Or.inl (List.mem_map.mpr ⟨q, m, rfl⟩)), k'.nd, fun P nm e => ?_⟩
  have e : T = some (P, nm) := e
  have e2 : Z.T = some (P, nm) := by
    rcases hT with z | z
    · rw [z] at e; cases e
    · rw [← z]; exact e
  obtain ⟨ps, h1, h2, h3, h4, h5⟩ := k'.tab P nm e2
  exact ⟨ps, h1, h2, h3, h4, if_pos (Or.inr ⟨nm, e⟩)⟩
/-- behind it -/
theorem At.leave (k : At Z F O2 H) (hs : ns.map (fun n => O2[n]?) = O.map some) (hn : ns.Nodup) (hT : T = none ∨ T = Z.T) (k2 : At ⟨F, butO O T H, T⟩ F' O' H') (hk : O'.map (·.1) = O.map (·.1)) : At Z F' (setAll ns O' O2) H' := by
  obtain ⟨ks, mem⟩ := setAll_spec hs hk hn k.nd
  have sub : ∀ q ∈ O, q ∈ O2 := fun q m => (pick_mem hs q m).elim fun n z => List.mem_of_getElem? z.2
  have noT : ∀ a nm, T = some (a, nm) → Z.T = some (a, nm) := fun a nm e => by
    rcases hT with z | z
    · rw [z] at e; cases e
    · rw [← z]; exact e
  -- what must stand in the caller is not handed over
  have ofB : ∀ a, Z.B a ≠ none → ¬ (a ∈ keys O ∨ ∃ nm, T = some (a, nm)) := fun a h z => by
    rcases z with z | ⟨nm, z⟩
    · obtain ⟨q, m, e⟩ := List.mem_map.mp z
      exact h (by rw [← e]; exact k.ob q (sub q m))
    · obtain ⟨_, _, _, _, _, h5⟩ := k.tab a nm (noT a nm z)
      exact h h5
  have ofO : ∀ q ∈ O2, q.1 ∉ O.map (·.1) → ¬ (q.1 ∈ keys O ∨ ∃ nm, T = some (q.1, nm)) := fun q m h z => by
    rcases z with z | ⟨nm, z⟩
    · exact h z
    · obtain ⟨_, _, _, _, h4, _⟩ := k.tab q.1 nm (noT _ nm z)
      exact h4 q m rfl
  have kb : ∀ a o, butO O T H a = some o → H' a = some o := k2.b
  have ksep : ∀ a, F a = none → butO O T H a ≠ none → F' a = none := k2.sep
  refine ⟨⟨k2.ok.ex, fun q m => ?_⟩, fun a u e => ?_, k.f0.trans k2.f0, fun a h1 h2 => ?_, fun q m => ?_, by rw [ks]; exact k.nd, fun P nm e => ?_⟩
  · rcases mem q m with z | ⟨z, z2⟩
    · exact k2.ok.own q z
    · have h1 := k.ok.own q z
      have e := butO_off (H := H) (ofO q z z2)
      exact ⟨ksep _ h1.1 (by rw [e, h1.2]; exact fun z => by cases z), kb _ _ (by rw [e]; exact h1.2)⟩
  · have e2 := butO_off (H := H) (ofB a (by rw [e]; exact fun z => by cases z))
    exact kb a u (by rw [e2]; exact k.b a u e)
  · have e2 := butO_off (H := H) (ofB a h2)
    refine ksep a (k.sep a h1 h2) ?_
    rw [e2]
    cases e3 : Z.B a with
    | none => exact absurd e3 h2
    | some u => rw [k.b a u e3]; exact fun z => by cases z
  · have : q.1 ∈ (setAll ns O' O2).map (·.1) := List.mem_map.mpr ⟨q, m, rfl⟩
    rw [ks] at this
    obtain ⟨u, a, b⟩ := List.mem_map.mp this
    rw [← b]
    exact k.ob u a
  · obtain ⟨ps, h1, h2, h3, h4, h5⟩ := k.tab P nm e
    have h4' : ∀ q ∈ setAll ns O' O2, q.1 ≠ P := fun q m => by
      have : q.1 ∈ (setAll ns O' O2).map (·.1) := List.mem_map.mpr ⟨q, m, rfl⟩
      rw [ks] at this
      obtain ⟨u, a, b⟩ := List.mem_map.mp this
      rw [← b]
      exact h4 u a
    rcases hT with z | z
    · have off : butO O T H P = H P := butO_off fun y => by
        rcases y with y | ⟨nm', y⟩
        · obtain ⟨q, m, e⟩ := List.mem_map.mp y
          exact h4 q (sub q m) e
        · rw [z] at y; cases y
      exact ⟨ps, kb P _ (by rw [off]; exact h1), h2.mono k2.f0, ksep P h3 (by rw [off, h1]; exact fun z => by cases z), h4', h5⟩
    · obtain ⟨ps', g1, g2, g3, _, _⟩ := k2.tab P nm (by show T = _; rw [z]; exact e)
      exact ⟨ps', g1, g2, g3, h4', h5⟩
/-- .. and a new thing -/
theorem At.leaveN {q : Addr} {o : HO} (k : At Z F O2 H) (hs : ns.map (fun n => O2[n]?) = O.map some) (hn : ns.Nodup) (hT : T = none ∨ T = Z.T) (k2 : At ⟨F, butO O T H, T⟩ F' ((q, o) :: O') H') (hk : O'.map (·.1) = O.map (·.1)) : At Z F' ((q, o) :: setAll ns O' O2) H' := by
  have k3 := k.leave hs hn hT k2.drop hk
  have own := k2.ok.own (q, o) (List.mem_cons_self ..)
  have hq : butO O T H q = none := k2.ob (q, o) (List.mem_cons_self ..)
  have nd := List.nodup_cons.mp (show ((q, o) :: O' |>.map (·.1)).Nodup from k2.nd)
  have nO : q ∉ keys O := fun z => nd.1 (by rw [hk]; exact z)
  have nT : ∀ nm, T ≠ some (q, nm) := fun nm e => by
    obtain ⟨_, _, _, _, h4, _⟩ := k2.tab q nm e
    exact h4 (q, o) (List.mem_cons_self ..) rfl
  have hH : H q = none := by
    rw [← hq]
    exact (butO_off fun z => z.elim nO fun ⟨nm, e⟩ => nT nm e).symm
  refine ⟨⟨k3.ok.ex, fun r m => ?_⟩, k3.b, k3.f0, k3.sep, fun r m => ?_, ?_, fun P nm e => ?_⟩
  · rcases List.mem_cons.mp m with z | m
    · subst z; exact own
    · exact k3.ok.own r m
  · rcases List.mem_cons.mp m with z | m
    · subst z; exact k.b.free hH
    · exact k3.ob r m
  · rw [List.map_cons, List.nodup_cons]
    refine ⟨fun m => ?_, k3.nd⟩
    rw [(setAll_spec hs hk hn k.nd).1] at m
    obtain ⟨r, m, e⟩ := List.mem_map.mp m
    have := (k.ok.own r m).2
    rw [e, hH] at this
    cases this
  · obtain ⟨ps, h1, h2, h3, h4, h5⟩ := k3.tab P nm e
    refine ⟨ps, h1, h2, h3, fun r m => ?_, h5⟩
    rcases List.mem_cons.mp m with z | m
    · rw [z]
      intro z2
      obtain ⟨_, g1, _⟩ := k.tab P nm e
      rw [show q = P from z2, g1] at hH
      cases hH
    · exact h4 r m
end
/-! ### promises -/
def spA (T : Tb) (P : Own → List Ar → Ar → Own → Prop) : Sp := fun vs H Q _ => ∃ F B O As C O', P O As C O' ∧ At ⟨F, B, T⟩ F O H ∧ AllA As vs F H ∧ ∀ v F' H', At ⟨F, B, T⟩ F' O' H' → C.p v F' H' → Q v H'
def spAN {α : Type} (T : Tb) (R : Rep α) (P : Own → List Ar → List α → Own → Prop) : Sp := fun vs H Q _ => ∃ F B O As bs O', P O As bs O' ∧ At ⟨F, B, T⟩ F O H ∧ AllA As vs F H ∧
  ∀ p xs F' H', At ⟨F, B, T⟩ F' ((p, .lst xs) :: O') H' → AllB R bs xs F' → Q (.ref p) H'
section
variable {α β : Type} {R : Rep α} {Z : Bs} {D : Ends} {σ : L2.St} {F : Hp} {O O1 O' O0 O0' : Own} {te : TE} {ts : TA} {A C : Ar} {T : Tb} {E : XK} {as : List Ar} {bs : List α} {nx : L2.St → Hp → Prop} {Q : VK} {v : V}
/-- what is owned, told anew -/
theorem evM_o {O2 : Own} (h : EvM Z te σ F O O1 C) (e : O1 = O2) : EvM Z te σ F O O2 C := e ▸ h
theorem evMN_o {O2 : Own} (h : EvMN Z te σ F O O1 R bs) (e : O1 = O2) : EvMN Z te σ F O O2 R bs := e ▸ h
/-- ns: where the callee's owned things stand among ours -/
theorem evA_call {P : Own → List Ar → Ar → Own → Prop} (ns : List Nat) (h : EvAM Z ts σ F O O1 as) (hp : P O0 as C O0') (hs : ns.map (fun n => O1[n]?) = O0.map some) (hn : ns.Nodup) (hk : O0'.map (·.1) = O0.map (·.1)) (hT : T = none ∨ T = Z.T) :
    EvM Z (tCall (spA T P) [] E ts) σ F O (setAll ns O0' O1) C := fun F1 H e at0 Q q =>
  h F1 H e at0 _ fun vs F2 H2 e2 at2 a => ⟨F2, butO O0 T H2, O0, as, C, O0', hp, at2.enter hs hn hT, by rw [List.append_nil]; exact a, fun v F3 H3 at3 c => q v F3 H3 (e2.trans at3.f0) (at2.leave hs hn hT at3 hk) c⟩
theorem evA_callN {P : Own → List Ar → List α → Own → Prop} (ns : List Nat) (h : EvAM Z ts σ F O O1 as) (hp : P O0 as bs O0') (hs : ns.map (fun n => O1[n]?) = O0.map some) (hn : ns.Nodup) (hk : O0'.map (·.1) = O0.map (·.1)) (hT : T = none ∨ T = Z.T) :
    EvMN Z (tCall (spAN T R P) [] E ts) σ F O (setAll ns O0' O1) R bs := fun F1 H e at0 Q q =>
  h F1 H e at0 _ fun vs F2 H2 e2 at2 a => ⟨F2, butO O0 T H2, O0, as, bs, O0', hp, at2.enter hs hn hT, by rw [List.append_nil]; exact a, fun p xs F3 H3 at3 c => q p xs F3 H3 (e2.trans at3.f0) (at2.leaveN hs hn hT at3 hk) c⟩
theorem rtA_val (ns : List Nat) (k : ∀ v F' H', At Z F' O' H' → C.p v F' H' → Q v H') (hs : ns.map (fun n => O[n]?) = O'.map some) (hn : ns.Nodup) (h : ∀ H, C.p v F H) : Rt Z { nx := nx, rt := Q } v F O := fun H a => k v F H (a.pick hs hn) (h H)
theorem rtA_own {p : Addr} {xs : List V} (ns : List Nat) (k : ∀ p xs F' H', At Z F' ((p, .lst xs) :: O') H' → AllB R bs xs F' → Q (.ref p) H') (hs : ns.map (fun n => O[n]?) = ((p, HO.lst xs) :: O').map some) (hn : ns.Nodup) (h : AllB R bs xs F) : Rt Z { nx := nx, rt := Q } (.ref p) F O := fun H a => k p xs F H (a.pick hs hn) h
end
end Lm
/-! Lm: closures. The cells of the def that made one are handed over as frozen things. -/
namespace Lm
open PySem PySem.Spec PyProof.Rows L2 LamX NdefX
abbrev Cs := List (Addr × Obj)
def triv : HO := .ext fun _ => True
def lay (cs : Cs) (H : Hp) : Hp := fun a => match cs.lookup a with | some o => some (.frz o triv) | none => H a
def wo (cs : Cs) (H : Hp) : Hp := fun a => match cs.lookup a with | some _ => none | none => H a
section
variable {cs : Cs} {H H' : Hp} {a : Addr} {o : Obj} {u : HO}
theorem lay_in (h : cs.lookup a = some o) : lay cs H a = some (.frz o triv) := by unfold lay; rw [h]
theorem lay_out (h : cs.lookup a = none) : lay cs H a = H a := by unfold lay; rw [h]
theorem wo_in (h : cs.lookup a = some o) : wo cs H a = none := by unfold wo; rw [h]
theorem wo_out (h : cs.lookup a = none) : wo cs H a = H a := by unfold wo; rw [h]
theorem wo_some (h : wo cs H a = some u) : cs.lookup a = none ∧ H a = some u := by
  cases e : cs.lookup a with
  | some o => rw [wo_in e] at h; cases h
  | none => rw [wo_out e] at h; exact ⟨rfl, h⟩
/-- none of them is tracked -/
def OffC (cs : Cs) (H : Hp) : Prop := ∀ c o, cs.lookup c = some o → H c = none
/-- all of them are, frozen -/
def OnC (cs : Cs) (H : Hp) : Prop := ∀ c o, cs.lookup c = some o → H c = some (.frz o triv)
theorem OffC.out (k : OffC cs H) (h : H a ≠ none) : cs.lookup a = none := by
  cases e : cs.lookup a with
  | some o => exact absurd (k a o e) h
  | none => rfl
theorem OnC.out (k : OnC cs H) (h : H a = some u) (n : ∀ o, u ≠ .frz o triv) : cs.lookup a = none := by
  cases e : cs.lookup a with
  | some o => rw [k a o e] at h; cases h; exact absurd rfl (n o)
  | none => rfl
theorem OffC.same (k : OffC cs H) : Same H (lay cs H) := fun a u e => by rw [lay_out (k.out (by rw [e]; exact fun z => by cases z))]; exact e
theorem OffC.on (k : OffC cs H) : OnC cs (lay cs H) := fun c o e => lay_in e
theorem OnC.mono (k : OnC cs H) (e : Same H H') : OnC cs H' := fun c o h => e _ _ (k c o h)
theorem OffC.mono (k : OffC cs H') (e : Same H H') : OffC cs H := fun c o h => e.free (k c o h)
end
/-! ### the heaps of the run -/
section
variable {P : Program} {w : World} {cs : Cs} {H H' : Hp} {h h' : Heap}
theorem hok_lay (k : HOk P w H h) (off : OffC cs H) (at_ : ∀ c o, cs.lookup c = some o → h.get? c = some o) : HOk P w (lay cs H) h := fun a u e => by
  cases q : cs.lookup a with
  | some o =>
    rw [lay_in q] at e
    cases e
    exact ⟨at_ a o q, trivial, ⟨o, at_ a o q⟩, fun _ _ _ _ => trivial⟩
  | none =>
    rw [lay_out q] at e
    exact (k a u e).stay (fun _ _ _ z => z) (fun b z => by rw [lay_out (off.out (by rw [z]; exact fun y => by cases y))]; exact z) fun b xs z => by rw [lay_out (off.out (by rw [z]; exact fun y => by cases y))]; exact z
theorem hok_wo (k : HOk P w H h) (on : OnC cs H) : HOk P w (wo cs H) h := fun a u e => by
  obtain ⟨_, e⟩ := wo_some e
  exact (k a u e).stay (fun _ _ _ z => z) (fun b z => by rw [wo_out (on.out z fun _ y => by cases y)]; exact z) fun b xs z => by rw [wo_out (on.out z fun _ y => by cases y)]; exact z
theorem hok_back (k : HOk P w H h) (on : OnC cs H) : ∀ c o, cs.lookup c = some o → h.get? c = some o := fun c o e => (k c _ (on c o e)).1
/-- behind a call in which the cells were frozen -/
theorem un_wo {fs : List Addr} (un : Un fs [] (lay cs H) H' h h') (off : OffC cs H) (at_ : ∀ c o, cs.lookup c = some o → h.get? c = some o) (nf : ∀ c o, cs.lookup c = some o → c ∉ fs) (hok : HOk P w H' h') : Un fs [] H (wo cs H') h h' := by
  have on : OnC cs H' := fun c o e => un.frzs c o triv (lay_in e)
  refine ⟨fun b o e n h1 h2 => ?_, fun b o e n h1 h2 => ?_, fun b o e n h2 => ?_, un.there, fun b xs e => ?_, fun b o u e => ?_, fun b ps e => ?_⟩
  · cases q : cs.lookup b with
    | some o2 =>
      have e2 := at_ b o2 q
      rw [e] at e2
      cases e2
      exact hok_back hok on b o q
    | none => exact un.keep b o e (by rw [lay_out q]; exact n) h1 h2
  · cases q : cs.lookup b with
    | some o2 => exact absurd h1 (nf b o2 q)
    | none => exact un.slot b o e (by rw [lay_out q]; exact n) h1 h2
  · cases q : cs.lookup b with
    | some o2 => exact wo_in q
    | none => rw [wo_out q]; exact un.free b o e (by rw [lay_out q]; exact n) h2
  · have q := off.out (a := b) (by rw [e]; exact fun y => by cases y)
    rw [wo_out q]
    exact un.tups b xs (by rw [lay_out q]; exact e)
  · have q := off.out (a := b) (by rw [e]; exact fun y => by cases y)
    rw [wo_out q]
    exact un.frzs b o u (by rw [lay_out q]; exact e)
  · have q := off.out (a := b) (by rw [e]; exact fun y => by cases y)
    rw [wo_out q]
    exact un.tbls b ps (by rw [lay_out q]; exact e)
/-- behind a call in which they were let go -/
theorem un_lay {fs : List Addr} (un : Un fs [] (wo cs H) H' h h') (on : OnC cs H) : Un fs [] H (lay cs H') h h' := by
  have out : ∀ {b : Addr}, H b = none → cs.lookup b = none := fun {b} n => by
    cases q : cs.lookup b with
    | some o2 => rw [on b o2 q] at n; cases n
    | none => rfl
  refine ⟨fun b o e n h1 h2 => ?_, fun b o e n h1 h2 => ?_, fun b o e n h2 => ?_, un.there, fun b xs e => ?_, fun b o u e => ?_, fun b ps e => ?_⟩
  · exact un.keep b o e (by rw [wo_out (out n)]; exact n) h1 h2
  · exact un.slot b o e (by rw [wo_out (out n)]; exact n) h1 h2
  · rw [lay_out (out n)]; exact un.free b o e (by rw [wo_out (out n)]; exact n) h2
  · have q := on.out e fun _ y => by cases y
    rw [lay_out q]
    exact un.tups b xs (by rw [wo_out q]; exact e)
  · cases q : cs.lookup b with
    | some o2 =>
      rw [on b o2 q] at e
      cases e
      exact lay_in q
    | none => rw [lay_out q]; exact un.frzs b o u (by rw [wo_out q]; exact e)
  · have q := on.out e fun _ y => by cases y
    rw [lay_out q]
    exact un.tbls b ps (by rw [wo_out q]; exact e)
theorem off_of {fs : List Addr} (un : Un fs [] (wo cs H) H' h h') (hk : HOk P w H h) (on : OnC cs H) : OffC cs H' := fun c o e => un.free c o (hok_back hk on c o e) (wo_in e) (by simp)
end

/-! ### what is known of handed cells -/
/-- cells: the frame's names and cells; N, σ: its names, their values -/
structure CsAll (sc : Scope) (cells : List (Str × Addr)) (N : List Str) (σ : L2.St) (cs : Cs) : Prop where
  there : ∀ y, sc.names.lookup y = some .cell ∨ sc.names.lookup y = some .free → ∃ c, cells.lookup y = some c
  all : ∀ y c, cells.lookup y = some c → ∃ o v, cs.lookup c = some o ∧ o.data = .cell v
  inj : ∀ x y c, cells.lookup x = some c → cells.lookup y = some c → x = y
  val : ∀ (j : Nat) (y : Str) (c : Addr) (v : V), N[j]? = some y → cells.lookup y = some c → σ[j]? = some (some v) → ∃ o u, cs.lookup c = some o ∧ o.data = .cell (some u) ∧ RelV v u
/-- a closure's own: cl its names and cells, fr the captured names, ws their values -/
structure CsOk (cl : List (Str × Addr)) (fr : List Str) (ws : List (Option V)) (cs : Cs) : Prop where
  len : ws.length = fr.length
  all : ∀ y c, cl.lookup y = some c → ∃ o v, cs.lookup c = some o ∧ o.data = .cell v
  inj : ∀ x y c, cl.lookup x = some c → cl.lookup y = some c → x = y
  has : ∀ (i : Nat) (y : Str), fr[i]? = some y → ∃ c, cl.lookup y = some c ∧ ∀ v, ws[i]? = some (some v) → ∃ o u, cs.lookup c = some o ∧ o.data = .cell (some u) ∧ RelV v u
/-- the frame's cells, gathered -/
def gather (cells : List (Str × Addr)) (h : Heap) : Cs := (cells.map (·.1)).filterMap fun y => (cells.lookup y).bind fun c => (h.get? c).map fun o => (c, o)
theorem lookup_mem2 {β : Type} {c : Addr} {b : β} : ∀ {T : List (Addr × β)}, T.lookup c = some b → (c, b) ∈ T
  | [], h => by cases h
  | (x, y) :: T, h => by
    rw [List.lookup_cons] at h
    cases q : (c == x) with
    | true =>
      rw [q] at h
      cases h
      rw [eq_of_beq q]
      exact List.mem_cons_self ..
    | false =>
      rw [q] at h
      exact List.mem_cons_of_mem _ (lookup_mem2 h)
theorem mem_lookup2 {β : Type} {c : Addr} : ∀ {T : List (Addr × β)} {b : β}, (c, b) ∈ T → ∃ b', T.lookup c = some b'
  | [], _, h => by cases h
  | (x, y) :: T, b, h => by
    rw [List.lookup_cons]
    cases q : (c == x) with
    | true => exact ⟨y, rfl⟩
    | false =>
      rcases List.mem_cons.mp h with e | m
      · cases e
        rw [beq_self_eq_true] at q
        cases q
      · exact mem_lookup2 m
theorem gather_at {cells : List (Str × Addr)} {h : Heap} {c : Addr} {o : Obj} (e : (gather cells h).lookup c = some o) : h.get? c = some o ∧ ∃ y, cells.lookup y = some c := by
  obtain ⟨y, _, q⟩ := List.mem_filterMap.mp (lookup_mem2 e)
  cases e1 : cells.lookup y with
  | none => rw [e1] at q; cases q
  | some c' =>
    rw [e1] at q
    cases e2 : h.get? c' with
    | none => rw [Option.bind_some, e2] at q; cases q
    | some o' =>
      rw [Option.bind_some, e2] at q
      cases q
      exact ⟨e2, y, e1⟩
theorem gather_has {cells : List (Str × Addr)} {h : Heap} {y : Str} {c : Addr} {o : Obj} (e : cells.lookup y = some c) (e2 : h.get? c = some o) : (gather cells h).lookup c = some o := by
  have m : (c, o) ∈ gather cells h := List.mem_filterMap.mpr ⟨y, List.mem_map.mpr ⟨(y, c), PySem.mem_of_lookup e, rfl⟩, by rw [e, Option.bind_some, e2]; rfl⟩
  obtain ⟨o', h2⟩ := mem_lookup2 m
  have h3 := (gather_at h2).1
  rw [e2] at h3
  cases h3
  exact h2
section
variable {X : Cx} {pins : List (Addr × Obj)} {σ : L2.St} {H : Hp} {s : Shared}
/-- the names that have values lie in cells, or not -/
def CellN (X : Cx) : Prop := ∀ y c, X.env.cells.lookup y = some c → X.env.kindOf y = some .cell
theorem csall_of (I : Inv X pins σ H s) (ck : ∀ y c, X.env.cells.lookup y = some c → X.env.scope.names.lookup y = some .cell) : CsAll X.env.scope X.env.cells X.N σ (gather X.env.cells s.heap) := by
  refine ⟨fun y h => I.ok.has y h, fun y c e => ?_, I.ok.inj, fun j y c v e1 e2 e3 => ?_⟩
  · obtain ⟨v, o, h1, h2⟩ := I.cell y c e
    exact ⟨o, v, gather_has e h1, h2⟩
  · obtain ⟨m, _, hl⟩ := I.loc
    obtain ⟨u, r, l⟩ := hl j y v e1 e3 (.inr (.inl (ck y c e2)))
    rcases l with ⟨z, _⟩ | ⟨_, a', ha', o, h1, h2⟩
    · have z' : X.env.scope.names.lookup y = some .local := z
      rw [ck y c e2] at z'
      cases z'
    · rw [e2] at ha'
      cases ha'
      exact ⟨o, u, gather_has e2 h1, h2, r⟩
theorem gather_off (I : Inv X pins σ H s) : OffC (gather X.env.cells s.heap) H := fun c o e => by
  obtain ⟨_, y, h⟩ := gather_at e
  exact I.freeC y c h
/-- f(..) of a def of the text; the frame's cells stand frozen for a while -/
def tCallH (sc : Scope) (cells : List (Str × Addr)) (N : List Str) (sp : Sp) (t : TA) : TE := fun σ H Q => t σ H fun vs H1 => ∀ cs, CsAll sc cells N σ cs → OffC cs H1 → sp vs (lay cs H1) (fun v H2 => Q v (wo cs H2)) E0
theorem run_hand {k : Nat} {f : Addr} {fd : FuncData} {ps : List Str} {sp : Sp} {Q : VK} {us : List Value} {vs : List V} (F : FnOk X.prog X.w X.K X.mg X.base CX0 k f fd ps sp) (hr : Room k X.A) (hb : Binds X.K fd ps []) (fnT : ∀ y, X.fn y = true) (ck : ∀ y c, X.env.cells.lookup y = some c → X.env.scope.names.lookup y = some .cell)
    (I : Inv X pins σ H s) (r : Vals vs us) (told : ∀ cs, CsAll X.env.scope X.env.cells X.N σ cs → OffC cs H → sp vs (lay cs H) (fun v H2 => Q v (wo cs H2)) E0) : wpAny (model X.prog X.w) X.A (call (.ref f) us) (EP X pins σ Q) X.xe s := by
  have off := gather_off I
  have h := told _ (csall_of I ck) off
  generalize hcs : gather X.env.cells s.heap = cs at h off
  have at_ : ∀ c o, cs.lookup c = some o → s.heap.get? c = some o ∧ ∃ y, X.env.cells.lookup y = some c := fun c o e => by
    rw [← hcs] at e
    exact gather_at e
  have nfr : ∀ c o, cs.lookup c = some o → c ∉ frs X.stack := fun c o e m => by
    obtain ⟨h1, y, h2⟩ := at_ c o e
    rcases List.mem_cons.mp (I.stkSub c m) with z | m
    · obtain ⟨mm, ⟨o2, es, ep, h3, h4, _⟩, _⟩ := I.loc
      obtain ⟨v, o3, h5, h6⟩ := I.cell y c h2
      rw [z, h3] at h5
      cases h5
      rw [h4] at h6
      cases h6
    · obtain ⟨_, o2, h3, _⟩ := I.ok.funs.mem m
      exact absurd (Heap.lt_size h3) (Nat.not_lt_of_le (I.ok.cab y c (fnT y) h2))
  have hl : us.length = ps.length := by rw [← r.length]; exact F.len _ _ _ _ h
  have env : Env0 X.prog X.w X.K X.mg X.base X.A X.stack s (lay cs H) := by
    refine ⟨I.ok.frames, I.ok.mod, fun b o e => ⟨(I.bs b o e).1, ?_⟩, Nat.le_trans I.ok.bsz I.sz, I.stack, fun b m => ?_, hok_lay I.hok off fun c o e => (at_ c o e).1, I.bare⟩
    · cases q : cs.lookup b with
      | some o2 =>
        obtain ⟨_, y, h2⟩ := at_ b o2 q
        exact absurd (Heap.lt_size e) (Nat.not_lt_of_le (Nat.le_trans I.ok.bsz (I.ok.cab y b (fnT y) h2)))
      | none => rw [lay_out q]; exact (I.bs b o e).2
    · cases q : cs.lookup b with
      | some o2 => exact absurd m (nfr b o2 q)
      | none => rw [lay_out q]; exact I.stkFree b m
  refine wpAny_call (codeAny_mono (F.run X.A X.stack s (lay cs H) ⟨us, []⟩ us vs _ E0 hr env (by have := hb s us I.kIn; rw [List.append_nil] at this; exact this hl) r h) fun r2 s' hq => ?_)
  match r2, hq with
  | .error e, hq => exact hq.elim
  | .ok .next, hq => exact hq.elim
  | .ok .brk, hq => exact hq.elim
  | .ok .cont, hq => exact hq.elim
  | .ok (.ret u), ⟨v, H', os, bare, un, hok, rel, q⟩ =>
    have on : OnC cs H' := fun c o e => un.frzs c o triv (lay_in e)
    exact I.after ⟨v, wo cs H', os, bare, un_wo un off (fun c o e => (at_ c o e).1) nfr hok, hok_wo hok on, rel, q⟩
end
end Lm
namespace Lm
open PySem PySem.Spec PyProof.Rows L2 LamX NdefX
/-- what a nested def leaves: the table as it was, or longer by one code object -/
def Ndef (H : Hp) (P : Addr) (ps : Array Value) (q : Str) (pos : Pos) (mk : Addr → NF) (f c' : Addr) (ps' : Array Value) (H1 : Hp) : Prop :=
  H f = none ∧ ((H c' = none ∧ c' ≠ f ∧ f ≠ P ∧ c' ≠ P ∧ ps' = ps ++ #[rawInt pos.line, rawInt pos.col, .ref c'] ∧ H1 = upd (upd (upd H P (.tbl ps')) c' (CodeO c' q)) f (FnO f (mk c'))) ∨
    (ps' = ps ∧ codeAmong pos ps.toList = some (.ref c') ∧ H1 = upd H f (FnO f (mk c'))))
def tNdefE (P : Addr) (i : Nat) (q : Str) (nm : Nat → Nat → Str) (pos : Pos) (mk : Addr → NF) : TS := fun D σ H => ∃ ps, H P = some (.tbl ps) ∧ TabF H nm ps ∧ ∀ f c' ps' H1, Ndef H P ps q pos mk f c' ps' H1 → D.nx (σ.set i (some (.ref f))) H1
end Lm
namespace Lm
open PySem PySem.Spec PyProof.Rows L2 LamX NdefX
/-- def name(..): .. within a def; told is just what becomes of the table -/
theorem ps_ndefE {X : Cx} {nm : Nat → Nat → Str} {c P : Addr} {name : Str} {params : Arguments} {body : List Stmt} {scope : Scope} {pos : Pos} {i : Nat} (TB : TabB X.base X.mg c P) (hcode : X.env.code = .ref c) (hn : nm pos.line pos.col = X.env.qual ++ name)
    (hfree : ∀ y ∈ scope.names, y.2 = .free → X.env.scope.names.lookup y.1 = some .cell ∨ X.env.scope.names.lookup y.1 = some .free) (hd0 : params.defaults = []) (hk0 : params.kw_defaults = []) (ha : annTrees params none X.env = [])
    (hN : X.N.Nodup) (hi : X.N[i]? = some name) (hx : Loc X.env.scope name) (hf : X.fn name = true ∨ X.env.scope.names.lookup name = some .local) :
    PS X (.FunctionDef name params body [] none [] scope none name pos) (tNdefE P i (X.env.qual ++ name) nm pos fun c' => ⟨name, X.env.qual ++ name, params, body, scope, cloFrom X.env.cells scope.names [], c'⟩) := by
  refine ⟨fun pins s σ H D I told => ?_⟩
  obtain ⟨ps, hP, tf, k⟩ := told
  have qn : qualnameIn X.env name name = X.env.qual ++ name := by
    have kd : X.env.kindOf name = some .local ∨ X.env.kindOf name = some .cell := hx
    unfold qualnameIn
    rcases kd with e | e <;> rw [e] <;> first | rfl | exact if_neg (by decide)
  refine PySem.W.nestDef_K hd0 hk0 ha ?_
  rw [qn]
  have caught : ∀ y ∈ scope.names, y.2 = .free → ∃ a, X.env.cells.lookup y.1 = some a := fun y m e => (hfree y m e).elim (fun z => I.ok.has _ (.inl z)) fun z => I.ok.has _ (.inr z)
  have names : s.heap.BuiltinsAt X.mg P := TB.bm.keeps I.bk
  have objP : s.heap.get? P = some { cls := .none, data := .fields ps } := I.hok P _ hP
  have ltP : P < s.heap.objs.size := Heap.lt_size objP
  cases found : codeAmong pos ps.toList with
  | some cv =>
    obtain ⟨c', e, _⟩ := tf.2 pos cv found
    subst e
    refine PySem.W.makeFunction_hit (mg := X.mg) (c := c) (P := P) (ps := ps) (closure_ok caught) I.ok.glob (I.mod.glob.keeps I.bk) hcode (TB.code.keeps I.bk) objP tf.1 found names fun ctv doc h' tk kept grown => ?_
    have J : Inv X pins σ H { s with heap := h', toks := tk } := I.kept kept
    have free : H h'.objs.size = none := J.hok.fresh (Nat.le_refl _)
    have J2 := inv_fn (F := ⟨name, X.env.qual ++ name, params, body, scope, cloFrom X.env.cells scope.names [], c'⟩) (t' := tk) (doc := doc) (pm := (X.mg "__name__").getD .none) (ctv := ctv) J rfl
    exact store_ok J2 hN hi hx (v := .ref _) rfl (fun s2 J3 => ⟨_, _, J3, k _ c' ps _ ⟨free, .inr ⟨rfl, found, rfl⟩⟩⟩) hf
  | none =>
    refine PySem.W.makeFunction_K (mg := X.mg) (c := c) (P := P) (ps := ps) (closure_ok caught) I.ok.glob (I.mod.glob.keeps I.bk) hcode (TB.code.keeps I.bk) objP tf.1 found TB.gP names fun c' ctv doc h' tk kept young inside made longer => ?_
    obtain ⟨c2, oc, vs, t, e2, hoc, hd, hv⟩ := made
    cases e2
    have freeC : H c' = none := I.hok.fresh young
    have J := inv_table (t' := tk) (more := #[rawInt pos.line, rawInt pos.col, .ref c']) (h' := h') I hP (fun b o hb e => kept b o hb e) longer young ⟨oc, vs, t, hoc, hd, hv⟩
    have J2 := inv_fn (F := ⟨name, X.env.qual ++ name, params, body, scope, cloFrom X.env.cells scope.names [], c'⟩) (t' := tk) (doc := doc) (pm := (X.mg "__name__").getD .none) (ctv := ctv) J rfl
    have big : s.heap.objs.size ≤ h'.objs.size := Nat.le_trans young (Nat.le_of_lt inside)
    exact store_ok J2 hN hi hx (v := .ref _) rfl (fun s2 J3 => ⟨_, _, J3, k _ c' _ _ ⟨I.hok.fresh big, .inl ⟨freeC, Nat.ne_of_lt inside, Nat.ne_of_gt (Nat.lt_of_lt_of_le ltP big), Nat.ne_of_gt (Nat.lt_of_lt_of_le ltP young), rfl, rfl⟩⟩⟩) hf
end Lm
namespace Lm
open PySem PySem.Spec PyProof.Rows L2 LamX NdefX
theorem set_self {α : Type} {l : List α} {n : Nat} {a : α} (h : l[n]? = some a) : l.set n a = l := by
  apply List.ext_getElem?
  intro i
  rw [List.getElem?_set]
  split
  · next e => subst e; rw [h]; rw [if_pos (List.getElem?_eq_some_iff.mp h).1]
  · rfl
section
variable {Z : Bs} {D : Ends} {σ : L2.St} {F H : Hp} {O : Own} {i : Nat} {P : Addr} {nm : Nat → Nat → Str} {q : Str} {pos : Pos} {mk : Addr → NF}
/-- the table as an owned thing, for a while -/
theorem At.openT (k : At Z F O H) (e : Z.T = some (P, nm)) : ∃ ps, At ⟨Z.F0, Z.B, none⟩ F ((P, .tbl ps) :: O) H ∧ TabF F nm ps := by
  obtain ⟨ps, h1, h2, h3, h4, h5⟩ := k.tab P nm e
  refine ⟨ps, ⟨⟨k.ok.ex, fun r m => ?_⟩, k.b, k.f0, k.sep, fun r m => ?_, ?_, fun _ _ z => (by cases z)⟩, h2⟩
  · rcases List.mem_cons.mp m with z | m
    · rw [z]; exact ⟨h3, h1⟩
    · exact k.ok.own r m
  · rcases List.mem_cons.mp m with z | m
    · rw [z]; exact h5
    · exact k.ob r m
  · rw [List.map_cons, List.nodup_cons]
    exact ⟨fun m => (List.mem_map.mp m).elim fun r z => h4 r z.1 z.2, k.nd⟩
theorem At.closeT {ps : Array Value} (k : At ⟨Z.F0, Z.B, none⟩ F ((P, .tbl ps) :: O) H) (t : TabF F nm ps) (e : Z.T = some (P, nm)) : At Z F O H := by
  have own := k.ok.own _ (List.mem_cons_self ..)
  have nd := List.nodup_cons.mp (show ((P, HO.tbl ps) :: O |>.map (·.1)).Nodup from k.nd)
  refine ⟨⟨k.ok.ex, fun r m => k.ok.own r (List.mem_cons_of_mem _ m)⟩, k.b, k.f0, k.sep, fun r m => k.ob r (List.mem_cons_of_mem _ m), nd.2, fun P' nm' z => ?_⟩
  rw [e] at z
  cases z
  exact ⟨ps, own.2, t, own.1, fun r m w => nd.1 (List.mem_map.mpr ⟨r, m, w⟩), k.ob _ (List.mem_cons_self ..)⟩
theorem sx_ndefT (hT : Z.T = some (P, nm)) (hq : nm pos.line pos.col = q)
    (k : ∀ f c' F', Same F F' → F' f = some (FnO f (mk c')) → F' c' = some (CodeO c' q) → Nx Z D (σ.set i (some (.ref f))) F' O) : Sx Z (tNdefE P i q nm pos mk) D σ F O := fun H at0 => by
  obtain ⟨ps, at1, tf⟩ := at0.openT hT
  have own := at1.ok.own (P, .tbl ps) (List.mem_cons_self ..)
  have hO : ((P, HO.tbl ps) :: O)[0]? = some (P, .tbl ps) := rfl
  refine ⟨ps, own.2, tf.mono at0.ok.ex, fun f c' ps' H1 nd => ?_⟩
  obtain ⟨ff, nd⟩ := nd
  have Ff := free_of at0.ok.ex ff
  rcases nd with ⟨fc, cf, fP, cP, e1, e2⟩ | ⟨e1, e2, e3⟩
  · subst e1 e2
    have Fc := free_of at0.ok.ex fc
    have s1 : Same F (upd F c' (CodeO c' q)) := same_new Fc
    have f1 : upd F c' (CodeO c' q) f = none := by rw [upd_ne (Ne.symm cf)]; exact Ff
    have s2 : Same (upd F c' (CodeO c' q)) (upd (upd F c' (CodeO c' q)) f (FnO f (mk c'))) := same_new f1
    have sF := s1.trans s2
    have hc2 : upd (upd F c' (CodeO c' q)) f (FnO f (mk c')) c' = some (CodeO c' q) := by rw [upd_ne cf, upd_same]
    have g : GrT P F H (upd (upd F c' (CodeO c' q)) f (FnO f (mk c'))) (upd (upd (upd H P (.tbl (ps ++ #[rawInt pos.line, rawInt pos.col, .ref c']))) c' (CodeO c' q)) f (FnO f (mk c'))) := by
      refine ⟨sF, fun a o ne h => ?_, fun a o h => ?_, fun a h1 h2 => ?_⟩
      · rw [upd_ne (ne_of_none h ff), upd_ne (ne_of_none h fc), upd_ne ne]; exact h
      · by_cases z : a = f
        · subst z; rw [upd_same] at h ⊢; exact h
        · rw [upd_ne z] at h ⊢
          by_cases z2 : a = c'
          · subst z2; rw [upd_same] at h ⊢; exact h
          · rw [upd_ne z2] at h ⊢
            rw [upd_ne (fun z3 => by rw [z3, own.1] at h; cases h)]
            exact at0.ok.ex a o h
      · rw [upd_ne (fun z => h2 (by rw [z]; exact ff)), upd_ne (fun z => h2 (by rw [z]; exact fc))]; exact h1
    have hP : upd (upd (upd H P (.tbl (ps ++ #[rawInt pos.line, rawInt pos.col, .ref c']))) c' (CodeO c' q)) f (FnO f (mk c')) P = some (.tbl (ps ++ #[rawInt pos.line, rawInt pos.col, .ref c'])) := by
      rw [upd_ne (Ne.symm fP), upd_ne (Ne.symm cP), upd_same]
    have eL : (ps ++ #[rawInt pos.line, rawInt pos.col, .ref c']).toList = ps.toList ++ [rawInt pos.line, rawInt pos.col, .ref c'] := by simp
    have at2 := at1.grT g hO hP
    have at3 : At Z _ O _ := At.closeT (nm := nm) at2 ⟨by rw [eL]; exact PySem.TriplesOk_snoc _ _ _ _ tf.1, fun p' cv hcv => by
      rw [eL] at hcv
      rcases among_app2 _ tf.1 hcv with z | ⟨z, z1, z2⟩
      · obtain ⟨c0, a1, a2⟩ := tf.2 p' cv z
        exact ⟨c0, a1, sF _ _ a2⟩
      · exact ⟨c', z, by rw [← z1, ← z2, hq]; exact hc2⟩⟩ hT
    exact k f c' _ sF upd_same hc2 _ at3
  · subst e1 e3
    obtain ⟨c0, a1, a2⟩ := tf.2 pos _ e2
    cases a1
    have sF : Same F (upd F f (FnO f (mk c'))) := same_new Ff
    exact k f c' _ sF upd_same (by rw [← hq]; exact sF _ _ a2) _ (at0.gr (Gr.frz at0.ok.ex ff))
end
end Lm
namespace Lm
open PySem PySem.Spec PyProof.Rows L2 LamX NdefX
/-- a nested def's object -/
abbrev NFo (st : Stmt) (name qual : Str) (cl : List (Str × Addr)) (c : Addr) : NF := ⟨name, qual, defArgs st, defBody st, defScope st, cl, c⟩
section
variable {X : Cx}
theorem ps_ndefO {st : Stmt} {nm : Nat → Nat → Str} {c P : Addr} {name : Str} {pos : Pos} {i : Nat} (hst : st = .FunctionDef name (defArgs st) (defBody st) [] none [] (defScope st) none name pos) (TB : TabB X.base X.mg c P) (hcode : X.env.code = .ref c) (hn : nm pos.line pos.col = X.env.qual ++ name)
    (hfree : ∀ y ∈ (defScope st).names, y.2 = .free → X.env.scope.names.lookup y.1 = some .cell ∨ X.env.scope.names.lookup y.1 = some .free) (hd0 : (defArgs st).defaults = []) (hk0 : (defArgs st).kw_defaults = []) (ha : annTrees (defArgs st) none X.env = [])
    (hN : X.N.Nodup) (hi : X.N[i]? = some name) (hx : Loc X.env.scope name) (hf : X.fn name = true ∨ X.env.scope.names.lookup name = some .local) :
    PS X st (tNdefE P i (X.env.qual ++ name) nm pos (NFo st name (X.env.qual ++ name) (cloFrom X.env.cells (defScope st).names []))) := by
  have q := ps_ndefE (X := X) (body := defBody st) (pos := pos) TB hcode hn hfree hd0 hk0 ha hN hi hx hf
  rw [← hst] at q
  exact q
/-- the closure G at f, its cells frozen -/
structure CloH (G : NF) (f : Addr) (fr : List Str) (ws : List V) (cs : Cs) (H : Hp) : Prop where
  fn : H f = some (FnO f G)
  co : H G.c = some (CodeO G.c G.qual)
  ok : CsOk G.cl fr (ws.map some) cs
  on : OnC cs H
theorem CloH.mono {G : NF} {f : Addr} {fr : List Str} {ws : List V} {cs : Cs} {H H' : Hp} (c : CloH G f fr ws cs H) (e : Same H H') : CloH G f fr ws cs H' := ⟨e _ _ c.fn, e _ _ c.co, c.ok, c.on.mono e⟩
def tCallC (i : Nat) (st : Stmt) (name : Str) (fr : List Str) (sp : List V → Sp) (t : TA) : TE := fun σ H Q => ∃ f qual cl c' cs ws, σ[i]? = some (some (.ref f)) ∧ CloH (NFo st name qual cl c') f fr ws cs H ∧
  t σ H fun vs H1 => CloH (NFo st name qual cl c') f fr ws cs H1 ∧ sp ws vs (wo cs H1) (fun v H2 => OffC cs H2 → Q v (lay cs H2)) E0
/-- a nested def that keeps a promise; ws: what it captured -/
structure CalC (P : Program) (w : World) (K : PySem.W.Frag) (mg : Str → Option Value) (base : Heap) (k : Nat) (st : Stmt) (name : Str) (ps fr : List Str) (sp : List V → Sp) : Prop where
  ex : ∀ f qual cl c', NOk P w K mg base CX0 k f (NFo st name qual cl c') ps fr fun wso vs H Q E => ∃ ws, wso = ws.map some ∧ sp ws vs H Q E
theorem fnO_nf {f : Addr} {G : NF} {o : Obj} : FnO f G ≠ .frz o triv := fun z => by
  unfold FnO at z
  cases z
theorem codeO_nf {c : Addr} {q : Str} {o : Obj} : CodeO c q ≠ .frz o triv := fun z => by
  unfold CodeO at z
  cases z
theorem pe_calC {k i : Nat} {st : Stmt} {name x : Str} {ps fr : List Str} {sp : List V → Sp} {t : TA} {e : Expr} {es : List Expr} {p pos : Pos} (c : CalC X.prog X.w X.K X.mg X.base k st name ps fr sp) (hr : Room k X.A) (hN : X.N[i]? = some x) (hv : Vis X.env.scope x) (ha : PA X (e :: es) t)
    (hd : (x == ("__debug__" : Str)) = false := by decide) (hcd : (x == ("__classdict__" : Str)) = false := by decide)
    (he : starEach (e :: es) X.env = (false, eval e X.env) :: starEach es X.env := by rfl) (hpl : (backTo pos (starEach es X.env)).any (·.1) = false := by rfl) :
    PE X (.Call (.Name x p) (e :: es) [] pos) (tCallC i st name fr sp t) := by
  refine ⟨fun pins s σ H Q I h => ?_⟩
  obtain ⟨f, qual, cl, c', cs, ws, hs, C0, ht⟩ := h
  refine wpAny_Call_Name_kw (thn ((pe_var (pos := p) hN hv hd hcd).run pins s σ H (fun v H1 => v = .ref f ∧ H1 = H) I ⟨.ref f, hs, rfl, rfl⟩) fun u s1 ⟨v, H1, I1, r1, q1⟩ => ?_)
  obtain ⟨ev, eH⟩ := q1
  subst ev
  rw [eH] at I1
  obtain rfl : u = Value.ref f := r1
  refine PySem.W.callWith_F (first := []) (fnAt_of I1 C0.fn) (thn (ha.run pos pins s1 σ H _ I1 ht) fun us s2 ⟨vs, H2, I2, r, C2, q⟩ => ⟨fnAt_of I2 C2.fn, ?_⟩) he hpl
  show wpAny _ _ (call (.ref f) us) _ _ _
  have on := C2.on
  have back := hok_back I2.hok on
  have env : Env0 X.prog X.w X.K X.mg X.base X.A X.stack s2 (wo cs H2) := by
    refine ⟨I2.ok.frames, I2.ok.mod, fun b o e => ⟨(I2.bs b o e).1, ?_⟩, Nat.le_trans I2.ok.bsz I2.sz, I2.stack, fun b m => ?_, hok_wo I2.hok on, I2.bare⟩
    · cases q : cs.lookup b with
      | some o2 => exact wo_in q
      | none => rw [wo_out q]; exact (I2.bs b o e).2
    · cases q : cs.lookup b with
      | some o2 => exact wo_in q
      | none => rw [wo_out q]; exact I2.stkFree b m
  have hf : wo cs H2 f = some (FnO f (NFo st name qual cl c')) := by
    rw [wo_out (on.out C2.fn fun _ z => fnO_nf z)]
    exact C2.fn
  have hc : wo cs H2 c' = some (CodeO c' qual) := by
    have h2 : H2 c' = some (CodeO c' qual) := C2.co
    rw [wo_out (on.out h2 fun _ z => codeO_nf z)]
    exact h2
  have C : CellsAt cl fr (ws.map some) s2.heap (wo cs H2) := by
    refine ⟨C2.ok.len, fun y c e => ?_, C2.ok.inj, fun i y e => ?_⟩
    · obtain ⟨o, v, h1, h2⟩ := C2.ok.all y c e
      exact ⟨wo_in h1, v, o, back c o h1, h2⟩
    · obtain ⟨c, h1, h2⟩ := C2.ok.has i y e
      refine ⟨c, h1, fun v ev => ?_⟩
      obtain ⟨o, u, h3, h4, h5⟩ := h2 v ev
      exact ⟨u, h5, o, back c o h3, h4⟩
  refine wpAny_call (codeAny_mono ((c.ex f qual cl c').run X.A X.stack s2 (wo cs H2) us vs _ _ E0 hr env hf hc C r ⟨ws, rfl, q⟩) fun r2 s' hq => ?_)
  match r2, hq with
  | .error e, hq => exact hq.elim
  | .ok .next, hq => exact hq.elim
  | .ok .brk, hq => exact hq.elim
  | .ok .cont, hq => exact hq.elim
  | .ok (.ret u), ⟨v, H', os, bare, un, hok, rel, q⟩ =>
    have off := off_of un I2.hok on
    refine I2.after ⟨v, lay cs H', os, bare, un_lay un on, hok_lay hok off fun c o e => ?_, rel, q off⟩
    refine un.keep c o (back c o e) (wo_in e) (fun m => ?_) (by simp)
    have z := I2.stkFree c m
    rw [on c o e] at z
    cases z
/-- .. by its body -/
theorem calC_of {P : Program} {w : World} {K : PySem.W.Frag} {mg : Str → Option Value} {base : Heap} {k : Nat} {st : Stmt} {name : Str} {N ps fr : List Str} {sp : List V → Sp} (S : NScope N ps fr (defScope st))
    (hb : ∀ (qual : Str) (cl : List (Str × Addr)) (c' : Addr) (doc pm ctv : Value) (us : List Value), us.length = ps.length → bindArgs ((NFo st name qual cl c').fd doc pm ctv) ⟨us, []⟩ = pure (ps.zip us)) (len : ∀ ws vs H Q E, sp ws vs H Q E → vs.length = ps.length)
    (body : ∀ (f : Addr) (qual : Str) (cl : List (Str × Addr)) (c' : Addr) (A : Around) (outer : List Env) (s : Shared) (H : Hp) (vs ws : List V) (Q : VK) (E : XK), Room k (A.deeper (envF (NFo st name qual cl c') f s.heap.objs.size)) → ws.length = fr.length → sp ws vs H Q E →
      ∃ t, PSs (ncx CX0 P w K mg base N (NFo st name qual cl c') f A outer s H E).nox (defBody st) t ∧ t { nx := fun _ H' => Q .non H', rt := Q } (startF N vs (ws.map some)) H) :
    CalC P w K mg base (k + 1) st name ps fr sp := ⟨fun f qual cl c' => nok_of S (hb qual cl c') (fun wso vs H Q E ⟨ws, _, h⟩ => len ws vs H Q E h) fun A outer s H vs wso Q E hr _ _ hl ⟨ws, e, h⟩ => by
  subst e
  rw [List.length_map] at hl
  exact (body f qual cl c' A outer s H vs ws Q E hr hl h).elim fun t z => ⟨t, z.1.nox, z.2⟩⟩
end
/-! ### readings -/
section
variable {α : Type} {st : Stmt} {name : Str} {fr : List Str} {ok : α → Prop} {ws : α → List V}
/-- a closure whose cells lie frozen -/
def rClo (st : Stmt) (name : Str) (fr : List Str) (ok : α → Prop) (ws : α → List V) : Rep α := ⟨fun a v F => ok a ∧ ∃ f qual cl c' cs, v = .ref f ∧ CloH (NFo st name qual cl c') f fr (ws a) cs F,
  fun e ⟨h, f, qual, cl, c', cs, h1, h2⟩ => ⟨h, f, qual, cl, c', cs, h1, h2.mono e⟩⟩
/-- one that was just made -/
def rClo0 (st : Stmt) (name qual : Str) (cl : List (Str × Addr)) : Rep Unit := ⟨fun _ v F => ∃ f c', v = .ref f ∧ F f = some (FnO f (NFo st name qual cl c')) ∧ F c' = some (CodeO c' qual), fun e ⟨f, c', h1, h2, h3⟩ => ⟨f, c', h1, e _ _ h2, e _ _ h3⟩⟩
/-- what does not lean on the heap -/
def FlA (A : Ar) : Prop := ∀ v F H F' H', A.p v F H → A.p v F' H'
theorem fl_of {β : Type} {R : Rep β} {b : β} (h : ∀ v F F', R.rp b v F → R.rp b v F') : FlA (val R b) := fun v F _ F' _ => h v F F'
theorem alla_fl {F H F' H' : Hp} : ∀ {As : List Ar} {vs : List V}, (∀ A ∈ As, FlA A) → AllA As vs F H → AllA As vs F' H'
  | [], [], _, _ => trivial
  | A :: _, _ :: _, h, a => ⟨h A (List.mem_cons_self ..) _ _ _ _ _ a.1, alla_fl (fun B m => h B (List.mem_cons_of_mem _ m)) a.2⟩
  | [], _ :: _, _, a => a.elim
  | _ :: _, [], _, a => a.elim
theorem alla_app {F H : Hp} : ∀ {As Bs : List Ar} {vs ws : List V}, AllA As vs F H → AllA Bs ws F H → AllA (As ++ Bs) (vs ++ ws) F H
  | [], _, [], _, _, h => h
  | _ :: _, _, _ :: _, _, a, h => ⟨a.1, alla_app a.2 h⟩
  | [], _, _ :: _, _, a, _ => a.elim
  | _ :: _, _, [], _, a, _ => a.elim
/-- a closure just made, its cells handed over -/
theorem cs_made {sc : Scope} {cells : List (Str × Addr)} {N : List Str} {σ : L2.St} {cs : Cs} {names : List (Str × NameKind)} {js : List Nat} (A : CsAll sc cells N σ cs) (hfree : ∀ y ∈ names, y.2 = .free → sc.names.lookup y.1 = some .cell ∨ sc.names.lookup y.1 = some .free) (hfr : ∀ y ∈ fr, (y, NameKind.free) ∈ names) (hjs : js.map (fun j => N[j]?) = fr.map some) :
    CsOk (cloFrom cells names []) fr (js.map (slotAt σ)) cs := by
  have hf : ∀ y ∈ names, y.2 = .free → ∃ c, cells.lookup y.1 = some c := fun y hy e => A.there _ (hfree y hy e)
  refine ⟨?_, fun y c e => A.all y c (clo_cm hf e), fun x y c e1 e2 => A.inj x y c (clo_cm hf e1) (clo_cm hf e2), fun i y e => ?_⟩
  · have q := congrArg List.length hjs
    rw [List.length_map, List.length_map] at q
    rw [List.length_map]
    exact q
  · have m := hfr y (List.mem_of_getElem? e)
    obtain ⟨c, hc⟩ := hf (y, .free) m rfl
    refine ⟨c, clo_has hf m hc, fun v ev => ?_⟩
    have e2 : (js.map fun j => N[j]?)[i]? = some (some y) := by rw [hjs, List.getElem?_map, e]; rfl
    rw [List.getElem?_map] at e2 ev
    cases ej : js[i]? with
    | none => rw [ej] at e2; cases e2
    | some j =>
      rw [ej] at e2 ev
      exact A.val j y c v (Option.some.inj e2) hc (slotAt_some (Option.some.inj ev))
theorem clo_made {sc : Scope} {cells : List (Str × Addr)} {N : List Str} {σ : L2.St} {cs : Cs} {js : List Nat} {qual : Str} {F : Hp} {v : V} {a : α} {u : Unit} (A : CsAll sc cells N σ cs) (off : OffC cs F) (r : (rClo0 st name qual (cloFrom cells (defScope st).names [])).rp u v F) (hk : ok a)
    (hfree : ∀ y ∈ (defScope st).names, y.2 = .free → sc.names.lookup y.1 = some .cell ∨ sc.names.lookup y.1 = some .free) (hfr : ∀ y ∈ fr, (y, NameKind.free) ∈ (defScope st).names) (hjs : js.map (fun j => N[j]?) = fr.map some) (hw : js.map (slotAt σ) = (ws a).map some) : (rClo st name fr ok ws).rp a v (lay cs F) := by
  obtain ⟨f, c', rfl, h1, h2⟩ := r
  exact ⟨hk, f, qual, _, c', cs, rfl, off.same _ _ h1, off.same _ _ h2, hw ▸ cs_made A hfree hfr hjs, off.on⟩
/-- one that captures nothing is ready at once -/
theorem clo_none {cells : List (Str × Addr)} {qual : Str} {F : Hp} {v : V} {a : α} {u : Unit} (r : (rClo0 st name qual cells).rp u v F) (hk : ok a) (hc : cells = []) (hf : fr = []) (hw : ws a = []) : (rClo st name fr ok ws).rp a v F := by
  obtain ⟨f, c', rfl, h1, h2⟩ := r
  subst hc hf
  exact ⟨hk, f, qual, _, c', [], rfl, h1, h2, ⟨(by rw [hw]; rfl), (fun y c e => nomatch e), (fun x y c e => nomatch e), (fun i y e => by simp at e)⟩, (fun c o e => nomatch e)⟩
end
/-! ### heaps with and without the cells -/
section
variable {Z : Bs} {cs : Cs} {F F' H H' B : Hp} {O O' : Own} {T : Tb}
theorem tabF_wo {nm : Nat → Nat → Str} {ps : Array Value} (h : TabF F nm ps) (on : OnC cs F) : TabF (wo cs F) nm ps := ⟨h.1, fun pos cv hc => (h.2 pos cv hc).elim fun c z => ⟨c, z.1, by rw [wo_out (on.out z.2 fun _ y => codeO_nf y)]; exact z.2⟩⟩
theorem tabF_lay {nm : Nat → Nat → Str} {ps : Array Value} (h : TabF F nm ps) (off : OffC cs F) : TabF (lay cs F) nm ps := h.mono off.same
theorem OnC.not (on : OnC cs F) {a : Addr} (h : F a = none) : cs.lookup a = none := by
  cases q : cs.lookup a with
  | some o => rw [on a o q] at h; cases h
  | none => rfl
theorem At.woZ (k : At Z F O H) (on : OnC cs F) : At ⟨wo cs Z.F0, wo cs Z.B, Z.T⟩ (wo cs F) O (wo cs H) := by
  refine ⟨⟨fun a u e => ?_, fun q m => ?_⟩, fun a u e => ?_, fun a u e => ?_, fun a h1 h2 => ?_, fun q m => ?_, k.nd, fun P nm e => ?_⟩
  · obtain ⟨q, e⟩ := wo_some e
    rw [wo_out q]; exact k.ok.ex a u e
  · have h := k.ok.own q m
    have e := on.not h.1
    exact ⟨by rw [wo_out e]; exact h.1, by rw [wo_out e]; exact h.2⟩
  · obtain ⟨q, e⟩ := wo_some (show wo cs Z.B a = some u from e)
    rw [wo_out q]; exact k.b a u e
  · obtain ⟨q, e⟩ := wo_some (show wo cs Z.F0 a = some u from e)
    rw [wo_out q]; exact k.f0 a u e
  · have h1 : wo cs Z.F0 a = none := h1
    have h2 : wo cs Z.B a ≠ none := h2
    cases q : cs.lookup a with
    | some o => exact absurd (wo_in q) h2
    | none =>
      rw [wo_out q] at h1 h2 ⊢
      exact k.sep a h1 h2
  · show wo cs Z.B q.1 = none
    cases z : cs.lookup q.1 with
    | some o => exact wo_in z
    | none => rw [wo_out z]; exact k.ob q m
  · obtain ⟨ps, h1, h2, h3, h4, h5⟩ := k.tab P nm e
    have q := on.not h3
    exact ⟨ps, by rw [wo_out q]; exact h1, tabF_wo h2 on, by rw [wo_out q]; exact h3, h4, by show wo cs Z.B P = none; rw [wo_out q]; exact h5⟩
theorem wo_id (off : OffC cs H) : wo cs H = H := by
  funext a
  cases q : cs.lookup a with
  | some o => rw [wo_in q, off a o q]
  | none => exact wo_out q
theorem At.wo (k : At Z F O H) (on : OnC cs F) (hB : OffC cs Z.B) (hF : OffC cs Z.F0) : At Z (Lm.wo cs F) O (Lm.wo cs H) := by
  have h := k.woZ on
  rw [wo_id hB, wo_id hF] at h
  exact h
theorem At.lay (k : At Z F O H) (off : OffC cs H) : At Z (Lm.lay cs F) O (Lm.lay cs H) := by
  have offF : OffC cs F := off.mono k.ok.ex
  refine k.gr ⟨offF.same, off.same, fun a u e => ?_, fun a h1 h2 => ?_⟩
  · cases q : cs.lookup a with
    | some o => rw [lay_in q] at e ⊢; exact e
    | none => rw [lay_out q] at e ⊢; exact k.ok.ex a u e
  · rw [lay_out (off.out h2)]; exact h1
theorem At.layZ (k : At ⟨Lm.wo cs F, Lm.wo cs B, T⟩ F' O' H') (on : OnC cs F) (onB : OnC cs B) (off : OffC cs H') : At ⟨F, B, T⟩ (Lm.lay cs F') O' (Lm.lay cs H') := by
  have offF : OffC cs F' := off.mono k.ok.ex
  have kb : ∀ a u, Lm.wo cs B a = some u → H' a = some u := k.b
  have kf : ∀ a u, Lm.wo cs F a = some u → F' a = some u := k.f0
  have ks : ∀ a, Lm.wo cs F a = none → Lm.wo cs B a ≠ none → F' a = none := k.sep
  refine ⟨⟨fun a u e => ?_, fun q m => ?_⟩, fun a u e => ?_, fun a u e => ?_, fun a h1 h2 => ?_, fun q m => ?_, k.nd, fun P nm e => ?_⟩
  · cases q : cs.lookup a with
    | some o => rw [lay_in q] at e ⊢; exact e
    | none => rw [lay_out q] at e ⊢; exact k.ok.ex a u e
  · have h := k.ok.own q m
    have e := off.out (a := q.1) (by rw [h.2]; exact fun z => by cases z)
    exact ⟨by rw [lay_out e]; exact h.1, by rw [lay_out e]; exact h.2⟩
  · have e : B a = some u := e
    cases q : cs.lookup a with
    | some o => rw [onB a o q] at e; rw [lay_in q]; exact e
    | none => rw [lay_out q]; exact kb a u (by rw [wo_out q]; exact e)
  · have e : F a = some u := e
    cases q : cs.lookup a with
    | some o => rw [on a o q] at e; rw [lay_in q]; exact e
    | none => rw [lay_out q]; exact kf a u (by rw [wo_out q]; exact e)
  · have q := on.not h1
    rw [lay_out q]
    exact ks a (by rw [wo_out q]; exact h1) (by rw [wo_out q]; exact h2)
  · have h := k.ok.own q m
    have e := off.out (a := q.1) (by rw [h.2]; exact fun z => by cases z)
    have h2 : Lm.wo cs B q.1 = none := k.ob q m
    rw [wo_out e] at h2
    exact h2
  · obtain ⟨ps, h1, h2, h3, h4, h5⟩ := k.tab P nm e
    have q := off.out (a := P) (by rw [h1]; exact fun z => by cases z)
    have h5 : Lm.wo cs B P = none := h5
    rw [wo_out q] at h5
    exact ⟨ps, by rw [lay_out q]; exact h1, tabF_lay h2 offF, by rw [lay_out q]; exact h3, h4, h5⟩
theorem at_same_wo (e : Same (Lm.lay cs F) F') (off : OffC cs F) : Same F (Lm.wo cs F') := fun a u h => by
  have q := off.out (a := a) (by rw [h]; exact fun z => by cases z)
  rw [wo_out q]
  exact e a u (by rw [lay_out q]; exact h)
end
end Lm
namespace Lm
open PySem PySem.Spec PyProof.Rows L2 LamX NdefX
/-- a nested def's promise: what it captured comes behind the arguments -/
def spC (n : Nat) (sp : Sp) : List V → Sp := fun ws vs H Q E => vs.length = n ∧ sp (vs ++ ws) H Q E
section
variable {α β γ : Type} {R : Rep β} {Z : Bs} {D : Ends} {σ : L2.St} {F : Hp} {O O1 O' O0 O0' : Own} {te : TE} {ts : TA} {A C : Ar} {T : Tb} {E : XK} {as as0 caps : List Ar} {bs : List β} {Q : VK} {v : V} {i : Nat} {st : Stmt} {name : Str} {fr : List Str} {ok : α → Prop} {ws : α → List V} {a : α}
/-- a call of a closure -/
theorem ev_clo {P : List Ar → Ar → Prop} (hs : σ[i]? = some (some v)) (r : (rClo st name fr ok ws).rp a v F) (h : EvA ts σ F O as) (fl : ∀ A ∈ as, FlA A) (cap : ok a → ∀ F H, AllA caps (ws a) F H) (hp : P (as ++ caps) C) (fc : FlA C) : Ev (tCallC i st name fr (spC as.length (spG P)) ts) σ F O C := fun H k Q q => by
  obtain ⟨hk, f, qual, cl, c', cs, rfl, c0⟩ := r
  refine ⟨f, qual, cl, c', cs, ws a, hs, c0.mono k.ex, h H k _ fun vs F1 H1 g1 al => ?_⟩
  have c1 := c0.mono g1.f
  refine ⟨c1.mono g1.fh, alla_len al, wo cs F1, as ++ caps, C, hp, fun a u e => ?_, alla_app (alla_fl fl al) (cap hk _ _), fun v F2 H2 g2 c off => ?_⟩
  · obtain ⟨z, e⟩ := wo_some e
    rw [wo_out z]; exact g1.fh a u e
  · have on1 := c1.on
    have on2 := on1.mono g1.fh
    have offF : OffC cs F2 := off.mono g2.fh
    refine q v (lay cs F2) (lay cs H2) (g1.trans ⟨fun a u e => ?_, fun a u e => ?_, fun a u e => ?_, fun a h1 h2 => ?_⟩) (fc _ _ _ _ _ c)
    · cases z : cs.lookup a with
      | some o => rw [on1 a o z] at e; rw [lay_in z]; exact e
      | none => rw [lay_out z]; exact g2.f a u (by rw [wo_out z]; exact e)
    · cases z : cs.lookup a with
      | some o => rw [on2 a o z] at e; rw [lay_in z]; exact e
      | none => rw [lay_out z]; exact g2.h a u (by rw [wo_out z]; exact e)
    · cases z : cs.lookup a with
      | some o => rw [lay_in z] at e ⊢; exact e
      | none => rw [lay_out z] at e ⊢; exact g2.fh a u e
    · have z := on1.not h1
      rw [lay_out z]
      exact g2.nw a (by rw [wo_out z]; exact h1) (by rw [wo_out z]; exact h2)
/-- .. that changes owned things -/
theorem evM_clo {P : Own → List Ar → Ar → Own → Prop} (ns : List Nat) (hs : σ[i]? = some (some v)) (r : (rClo st name fr ok ws).rp a v F) (h : EvAM Z ts σ F O O1 as) (fl : ∀ A ∈ as, FlA A) (cap : ok a → ∀ F H, AllA caps (ws a) F H) (hp : P O0 (as ++ caps) C O0') (fc : FlA C)
    (hn1 : ns.map (fun n => O1[n]?) = O0.map some) (hn : ns.Nodup) (hk : O0'.map (·.1) = O0.map (·.1)) : EvM Z (tCallC i st name fr (spC as.length (spA none P)) ts) σ F O (setAll ns O0' O1) C := fun F1 H e at0 Q q => by
  obtain ⟨hok, f, qual, cl, c', cs, rfl, c0⟩ := r
  have c0 := c0.mono e
  refine ⟨f, qual, cl, c', cs, ws a, hs, c0.mono at0.ok.ex, h F1 H e at0 _ fun vs F2 H2 e2 at2 al => ?_⟩
  have c1 := c0.mono e2
  have on2 := c1.on.mono at2.ok.ex
  have ent := at2.enter (T := none) hn1 hn (Or.inl rfl)
  have onB : OnC cs (butO O0 none H2) := fun c o z => by
    rw [butO_off fun y => ?_]
    · exact on2 c o z
    · rcases y with y | ⟨_, y⟩
      · obtain ⟨r, m, e⟩ := List.mem_map.mp y
        have h1 := (ent.ok.own r m).1
        rw [e, c1.on c o z] at h1
        cases h1
      · cases y
  refine ⟨c1.mono at2.ok.ex, alla_len al, wo cs F2, wo cs (butO O0 none H2), O0, as ++ caps, C, O0', hp, ?_, alla_app (alla_fl fl al) (cap hok _ _), fun v F3 H3 at3 c off => ?_⟩
  · exact ent.woZ c1.on
  · exact q v (lay cs F3) (lay cs H3) (e2.trans (at3.layZ c1.on onB off).f0) (at2.leave hn1 hn (Or.inl rfl) (at3.layZ c1.on onB off) hk) (fc _ _ _ _ _ c)
end
end Lm
namespace Lm
open PySem PySem.Spec PyProof.Rows L2 LamX NdefX
section
variable {α β γ : Type} {R : Rep β} {Z : Bs} {D : Ends} {σ : L2.St} {F : Hp} {O O1 O' O0 O0' : Own} {te : TE} {ts : TA} {A C : Ar} {T : Tb} {E : XK} {as as0 caps : List Ar} {bs : List β} {Q : VK} {v : V} {sc : Scope} {cells : List (Str × Addr)} {N : List Str}
/-- what the arguments are once the cells lie frozen -/
def Hand (sc : Scope) (cells : List (Str × Addr)) (N : List Str) (σ : L2.St) (F : Hp) (as0 as : List Ar) : Prop := ∀ cs F2 H2 vs, Same F F2 → CsAll sc cells N σ cs → OffC cs F2 → OffC cs H2 → AllA as0 vs F2 H2 → AllA as vs (lay cs F2) (lay cs H2)
theorem hand_nil : Hand sc cells N σ F [] [] := fun cs F2 H2 vs _ _ _ _ a => by
  cases vs with
  | nil => exact trivial
  | cons _ _ => exact a.elim
theorem hand_c (h : Hand sc cells N σ F as0 as) : Hand sc cells N σ F (A :: as0) (A :: as) := fun cs F2 H2 vs e ca o1 o2 a => by
  cases vs with
  | nil => exact a.elim
  | cons v vs => exact ⟨A.mono o1.same o2.same a.1, h cs F2 H2 vs e ca o1 o2 a.2⟩
theorem hand_clo {st : Stmt} {name qual : Str} {fr : List Str} {ok : α → Prop} {ws : α → List V} {x : α} (js : List Nat) (h : Hand sc cells N σ F as0 as) (hk : ok x)
    (hfree : ∀ y ∈ (defScope st).names, y.2 = .free → sc.names.lookup y.1 = some .cell ∨ sc.names.lookup y.1 = some .free) (hfr : ∀ y ∈ fr, (y, NameKind.free) ∈ (defScope st).names) (hjs : js.map (fun j => N[j]?) = fr.map some) (hw : js.map (slotAt σ) = (ws x).map some) :
    Hand sc cells N σ F (val (rClo0 st name qual (cloFrom cells (defScope st).names [])) () :: as0) (val (rClo st name fr ok ws) x :: as) := fun cs F2 H2 vs e ca o1 o2 a => by
  cases vs with
  | nil => exact a.elim
  | cons v vs => exact ⟨clo_made (u := ()) ca o1 a.1 hk hfree hfr hjs hw, h cs F2 H2 vs e ca o1 o2 a.2⟩
theorem evM_hand {P : Own → List Ar → Ar → Own → Prop} (ns : List Nat) (h : EvAM Z ts σ F O O1 as0) (conv : Hand sc cells N σ F as0 as) (hp : P O0 as C O0') (fc : FlA C) (hn1 : ns.map (fun n => O1[n]?) = O0.map some) (hn : ns.Nodup) (hk : O0'.map (·.1) = O0.map (·.1)) (hT : T = none ∨ T = Z.T) :
    EvM Z (tCallH sc cells N (spA T P) ts) σ F O (setAll ns O0' O1) C := fun F1 H e at0 Q q =>
  h F1 H e at0 _ fun vs F2 H2 e2 at2 a cs ca off => by
    have offF : OffC cs F2 := off.mono at2.ok.ex
    have at3 := at2.lay off
    refine ⟨lay cs F2, butO O0 T (lay cs H2), O0, as, C, O0', hp, at3.enter hn1 hn hT, conv cs F2 H2 vs (e.trans e2) ca offF off a, fun v F3 H3 at4 c => ?_⟩
    have s3 : Same (lay cs F2) F3 := at4.f0
    have at5 := at3.leave hn1 hn hT at4 hk
    have at6 := at5.wo (offF.on.mono s3) (off.mono at2.b) (offF.mono at2.f0)
    exact q v (wo cs F3) (wo cs H3) (e2.trans (at_same_wo s3 offF)) at6 (fc _ _ _ _ _ c)
theorem all2_fl (hf : ∀ b v F F', R.rp b v F → R.rp b v F') {F F' : Hp} : ∀ {bs : List β} {xs : List V}, All2 R bs xs F → All2 R bs xs F'
  | [], [], _ => trivial
  | _ :: _, _ :: _, h => ⟨hf _ _ _ _ h.1, all2_fl hf h.2⟩
  | [], _ :: _, h => h.elim
  | _ :: _, [], h => h.elim
theorem evM_handN (hf : ∀ b v F F', R.rp b v F → R.rp b v F') {P : Own → List Ar → List β → Own → Prop} (ns : List Nat) (h : EvAM Z ts σ F O O1 as0) (conv : Hand sc cells N σ F as0 as) (hp : P O0 as bs O0') (hn1 : ns.map (fun n => O1[n]?) = O0.map some) (hn : ns.Nodup) (hk : O0'.map (·.1) = O0.map (·.1)) (hT : T = none ∨ T = Z.T) :
    EvMN Z (tCallH sc cells N (spAN T R P) ts) σ F O (setAll ns O0' O1) R bs := fun F1 H e at0 Q q =>
  h F1 H e at0 _ fun vs F2 H2 e2 at2 a cs ca off => by
    have offF : OffC cs F2 := off.mono at2.ok.ex
    have at3 := at2.lay off
    refine ⟨lay cs F2, butO O0 T (lay cs H2), O0, as, bs, O0', hp, at3.enter hn1 hn hT, conv cs F2 H2 vs (e.trans e2) ca offF off a, fun p xs F3 H3 at4 c => ?_⟩
    have s3 : Same (lay cs F2) F3 := at4.f0
    have at5 := at3.leaveN hn1 hn hT at4 hk
    have at6 := at5.wo (offF.on.mono s3) (off.mono at2.b) (offF.mono at2.f0)
    refine q p xs (wo cs F3) (wo cs H3) (e2.trans (at_same_wo s3 offF)) at6 ⟨all2_fl hf c.all, c.len⟩
/-- plain promises, as promises of that sort -/
theorem evM_handG {P : List Ar → Ar → Prop} (h : EvAM Z ts σ F O O1 as0) (conv : Hand sc cells N σ F as0 as) (hp : P as C) (fc : FlA C) : EvM Z (tCallH sc cells N (spG P) ts) σ F O O1 C := fun F1 H e at0 Q q =>
  h F1 H e at0 _ fun vs F2 H2 e2 at2 a cs ca off => by
    have offF : OffC cs F2 := off.mono at2.ok.ex
    have at3 := at2.lay off
    refine ⟨lay cs F2, as, C, hp, at3.ok.ex, conv cs F2 H2 vs (e.trans e2) ca offF off a, fun v F3 H3 g c => ?_⟩
    have at6 := (at3.gr g).wo (offF.on.mono g.f) (off.mono at2.b) (offF.mono at2.f0)
    exact q v (wo cs F3) (wo cs H3) (e2.trans (at_same_wo g.f offF)) at6 (fc _ _ _ _ _ c)
/-- the call that hands cells over -/
theorem pe_calH {X : Cx} {k : Nat} {ps : List Str} {sp : Sp} {x : Str} {p pos : Pos} {e : Expr} {es : List Expr} {t : TA} (c : Cal X.prog X.w X.K X.mg X.base k x ps sp) (hr : Room k X.A) (fnT : ∀ y, X.fn y = true) (ck : ∀ y c, X.env.cells.lookup y = some c → X.env.scope.names.lookup y = some .cell) (hg : Gl X x) (ha : PA X (e :: es) t)
    (hdb : (x == ("__debug__" : Str)) = false := by decide) (he : starEach (e :: es) X.env = (false, eval e X.env) :: starEach es X.env := by rfl) (hpl : (backTo pos (starEach es X.env)).any (·.1) = false := by rfl) : PE X (.Call (.Name x p) (e :: es) [] pos) (tCallH X.env.scope X.env.cells X.N sp t) := by
  obtain ⟨f, fd, F, hm, hk, hb, _⟩ := c.ex
  refine ⟨fun pins s σ H Q I h => ?_⟩
  refine wpAny_Call_Name_kw (ld_glob I hg hm ?_ hdb)
  refine PySem.W.callWith_K (h₀ := X.base) I.ok.mod.kin hk (thn (ha.run pos pins s σ H _ I h) fun us s1 ⟨vs, H1, I1, r, q⟩ => ⟨I1.kIn, ?_⟩) he hpl
  exact run_hand F hr hb fnT ck I1 r q
end
end Lm
/-! Lm: tuples of four. -/
namespace Lm
open PySem PySem.Spec PyProof.Rows L2
section
variable {α β γ δ : Type} {R : Rep α} {R' : Rep β} {R'' : Rep γ} {R3 : Rep δ} {σ : L2.St} {F : Hp} {O O1 : Own} {te : TE} {ts : TA} {K : PySem.W.Frag} {i j k l : Nat} {Z : Bs} {D : Ends}
def rT4 (R : Rep α) (R' : Rep β) (R'' : Rep γ) (R3 : Rep δ) : Rep (α × β × γ × δ) := ⟨fun t v F => ∃ p x y z w, v = .ref p ∧ F p = some (.tup [x, y, z, w]) ∧ R.rp t.1 x F ∧ R'.rp t.2.1 y F ∧ R''.rp t.2.2.1 z F ∧ R3.rp t.2.2.2 w F,
  fun e ⟨p, x, y, z, w, h1, h2, h3, h4, h5, h6⟩ => ⟨p, x, y, z, w, h1, e _ _ h2, R.mono e h3, R'.mono e h4, R''.mono e h5, R3.mono e h6⟩⟩
theorem alla4' {F H : Hp} {vs : List V} {A B C E : Ar} (h : AllA [A, B, C, E] vs F H) : ∃ v w x y, vs = [v, w, x, y] ∧ A.p v F H ∧ B.p w F H ∧ C.p x F H ∧ E.p y F H := by
  match vs, h with
  | [v, w, x, y], h => exact ⟨v, w, x, y, rfl, h.1, h.2.1, h.2.2.1, h.2.2.2.1⟩
theorem ev_tup4 {ta : TA} {a : α} {b : β} {c : γ} {d : δ} (h : EvA ta σ F O [val R a, val R' b, val R'' c, val R3 d]) : Ev (tTup ta) σ F O (val (rT4 R R' R'' R3) (a, b, c, d)) := fun H k Q q =>
  h H k _ fun vs F1 H1 g1 al => by
    obtain ⟨v, w, x, y, rfl, h1, h2, h3, h4⟩ := alla4' al
    refine ⟨by show 4 ≤ sizeLine; decide, fun p hp => ?_⟩
    have e := same_new (o := HO.tup [v, w, x, y]) (free_of g1.fh hp)
    exact q (.ref p) (upd F1 p (.tup [v, w, x, y])) _ (g1.trans (Gr.frz g1.fh hp)) ⟨p, v, w, x, y, rfl, upd_same, R.mono e h1, R'.mono e h2, R''.mono e h3, R3.mono e h4⟩
theorem tg_4 : Tg (gTup K 4 (gCons (gName i) (gCons (gName j) (gCons (gName k) (gCons (gName l) gNil))))) (rT4 R R' R'' R3) fun a σ σ' F => ∃ v w x y, σ' = (((σ.set i (some v)).set j (some w)).set k (some x)).set l (some y) ∧ R.rp a.1 v F ∧ R'.rp a.2.1 w F ∧ R''.rp a.2.2.1 x F ∧ R3.rp a.2.2.2 y F := fun a x σ F H Q ⟨p, v, w, y, z, ev, hp, h1, h2, h3, h4⟩ e q =>
  ⟨p, [v, w, y, z], ev, st_of (e _ _ hp), rfl, v, [w, y, z], rfl, w, [y, z], rfl, y, [z], rfl, z, [], rfl, rfl, q _ ⟨v, w, y, z, rfl, h1, h2, h3, h4⟩⟩
theorem sx_asg4 {a : α} {b : β} {c : γ} {d : δ} (h : Ev te σ F O (val (rT4 R R' R'' R3) (a, b, c, d))) (q : ∀ v w x y F', Same F F' → R.rp a v F' → R'.rp b w F' → R''.rp c x F' → R3.rp d y F' → Nx Z D ((((σ.set i (some v)).set j (some w)).set k (some x)).set l (some y)) F' O) :
    Sx Z (tAsg te (gTup K 4 (gCons (gName i) (gCons (gName j) (gCons (gName k) (gCons (gName l) gNil)))))) D σ F O := fun H at0 =>
  h H at0.ok _ fun x F' H' g r => tg_4 (K := K) (a, b, c, d) x σ F' H' _ r g.fh fun σ' ⟨v, w, y, z, e, h1, h2, h3, h4⟩ => by
    subst e
    exact q v w y z F' g.f h1 h2 h3 h4 H' (at0.gr g)
theorem sx_asgM4 {a : α} {b : β} {c : γ} {d : δ} (h : EvM Z te σ F O O1 (val (rT4 R R' R'' R3) (a, b, c, d))) (q : ∀ v w x y F', Same F F' → R.rp a v F' → R'.rp b w F' → R''.rp c x F' → R3.rp d y F' → Nx Z D ((((σ.set i (some v)).set j (some w)).set k (some x)).set l (some y)) F' O1) :
    Sx Z (tAsg te (gTup K 4 (gCons (gName i) (gCons (gName j) (gCons (gName k) (gCons (gName l) gNil)))))) D σ F O := fun H at0 =>
  h F H (Same.refl _) at0 _ fun x F' H' e at2 r => tg_4 (K := K) (a, b, c, d) x σ F' H' _ r at2.ok.ex fun σ' ⟨v, w, y, z, e2, h1, h2, h3, h4⟩ => by
    subst e2
    exact q v w y z F' e h1 h2 h3 h4 H' at2
end
/-! ### looks at texts -/
theorem cells_kind : ∀ {names : List (Str × NameKind)} {n : Nat} {acc : List (Str × Addr)} {y : Str} {c : Addr}, (y, c) ∈ cellsFrom n names acc → (y, c) ∈ acc ∨ (y, NameKind.cell) ∈ names
  | [], _, _, _, _, h => Or.inl h
  | (x, k) :: names, n, acc, y, c, h => by
    unfold cellsFrom at h
    by_cases e : (k == NameKind.cell) = true
    · rw [if_pos e] at h
      rcases cells_kind h with z | z
      · rcases List.mem_cons.mp z with w | w
        · cases w
          exact Or.inr (by rw [eq_of_beq e]; exact List.mem_cons_self ..)
        · exact Or.inl w
      · exact Or.inr (List.mem_cons_of_mem _ z)
    · rw [if_neg e] at h
      rcases cells_kind h with z | z
      · exact Or.inl z
      · exact Or.inr (List.mem_cons_of_mem _ z)
def ckB (sc : Scope) : Bool := sc.names.all fun p => !decide (p.2 = .cell) || decide (sc.names.lookup p.1 = some .cell)
theorem ck_of {sc : Scope} {n : Nat} (h : ckB sc = true) : ∀ y c, (cellsFrom n sc.names []).lookup y = some c → sc.names.lookup y = some .cell := fun y c e => by
  rcases cells_kind (PySem.mem_of_lookup e) with z | z
  · cases z
  · have q := List.all_eq_true.mp h _ z
    rw [Bool.or_eq_true] at q
    rcases q with q | q
    · rw [Bool.not_eq_true', decide_eq_false_iff_not] at q
      exact absurd rfl q
    · exact of_decide_eq_true q
end Lm
/-! Lm: defs that make closures: their code object and its table; the ending. -/
namespace Lm
open PySem PySem.Spec PyProof.Rows L2 LamX
/-- a def of the text whose code object is known -/
structure DfT (K : PySem.W.Frag) (mg : Str → Option Value) (x : Str) (st : Stmt) : Prop where
  ex : ∃ f fd, FunD K x x (defArgs st) (defBody st) (defScope st) [] [] f fd ∧ mg x = some (.ref f) ∧ fd.code = .ref (He.cT K (x, none)).1
theorem dfT_of {K : PySem.W.Frag} {mg : Str → Option Value} {x : Str} {st : Stmt} {fd : FuncData} (F : FunD K x x (defArgs st) (defBody st) (defScope st) [] [] (He.fAd K (x, none)) fd) (g : mg x = some (.ref (He.fAd K (x, none)))) : DfT K mg x st := by
  refine ⟨_, fd, F, g, ?_⟩
  obtain ⟨oc, od, dV, kV, doc, pm, an, cdv, ct, osl, e, lk, hcd, _, _⟩ := F.ex
  obtain ⟨c, ec⟩ := He.codeIn_ref hcd
  have e2 : fd.code = .ref c := by rw [e]; exact ec
  rw [e2]
  exact congrArg Value.ref (He.codeOf_eq lk e2).symm
theorem cal_ofT {P : Program} {w : World} {K : PySem.W.Frag} {mg : Str → Option Value} {base : Heap} {k : Nat} {x : Str} {st : Stmt} {N ps : List Str} {sp : Sp} (D : DfT K mg x st) (S : FnScope N ps (defScope st))
    (hb : ∀ (kV doc pm : Value) (an : Option Addr) (cdv ct : Value) (us : List Value), us.length = ps.length → bindArgs (PySem.W.fnOf x x (defArgs st) (defBody st) (defScope st) .none kV doc pm an cdv ct) ⟨us, []⟩ = pure (ps.zip us))
    (len : ∀ vs H Q E, sp vs H Q E → vs.length = ps.length)
    (body : ∀ (f : Addr) (A : Around) (outer : List Env) (s : Shared) (H : Hp) (vs : List V) (Q : VK) (E : XK), Room k (A.deeper (envOfC x (defScope st) s.heap.objs.size f (.ref (He.cT K (x, none)).1))) → sp vs H Q E →
      ∃ t, PSs (cxOf CX0 P w K mg base N x (defScope st) f (.ref (He.cT K (x, none)).1) A outer s H E).nox (defBody st) t ∧ t { nx := fun _ H' => Q .non H', rt := Q } (start N vs) H) :
    Cal P w K mg base (k + 1) x ps sp := by
  obtain ⟨f, fd, F, hm, hc⟩ := D.ex
  have hF := F
  obtain ⟨oc, od, dV, kV, doc, pm, an, cdv, ct, osl, rfl, lk, hcd, _, _⟩ := F.ex
  have e : cdv = .ref (He.cT K (x, none)).1 := hc
  subst e
  exact ⟨f, _, fn_of lk hcd S len (fun A outer s H vs Q E hr hsp => (body f A outer s H vs Q E hr hsp).elim fun t z => ⟨t, z.1.nox, z.2⟩), hm, hF.kp, hF.bindsN hb, hF.bindsA hb, oc, od, osl, lk⟩
/-- the law's call where one def makes closures -/
theorem law_atT {l : PySem.W.OpenLaw} {w : World} {K : PySem.W.Frag} {k n : Nat} {x y : Str} {mg : Str → Option Value} {fa : Addr} {h : Heap} {nm : Nat → Nat → Str} {P : Own → List Ar → Ar → Own → Prop}
    (hT : h.get? (He.cT K (y, none)).2 = some { cls := .none, data := .fields #[] }) (nT : K.lookup (He.cT K (y, none)).2 = none) (C : PySem.W.CodeHd h (He.cT K (y, none)).1 (He.cT K (y, none)).2) (hfa : mg x = some (.ref fa)) {a : Str}
    (c : ∀ base : Heap, TabB base mg (He.cT K (y, none)).1 (He.cT K (y, none)).2 → Cal l.prog w K mg base k x [a] (spA (some ((He.cT K (y, none)).2, nm)) P))
    {st : Stmt} (D : Df K mg x st) (hb : ∀ (kV doc pm : Value) (an : Option Addr) (cdv ct : Value) (us : List Value), us.length = 1 → bindArgs (PySem.W.fnOf x x (defArgs st) (defBody st) (defScope st) .none kV doc pm an cdv ct) ⟨us, []⟩ = pure ([a].zip us))
    (pure_ : ∀ ns : List Int, ns.length ≤ n → (∀ z ∈ ns, Builtin.Int.intBits z ≤ 1048576) → P [] [val (rScr K) ns] (val rB true) []) (hn : n ≤ limL) : LawAtS l w K CX0 k n a mg fa h := by
  obtain ⟨f0, fd, F0, hm0⟩ := D.ex
  have hA : ∀ (s : Shared) (us : List Value), us.length = [a].length → BindsTo s fd ⟨us, []⟩ ([a].zip us) := F0.bindsA hb
  obtain ⟨oc, od, osl, lk⟩ : ∃ oc od osl, K.lookup f0 = some ⟨oc, od, .func fd, osl⟩ := by
    obtain ⟨oc, od, dV, kV, doc, pm, an, cdv, ct, osl, _, lk, _, _, _⟩ := F0.ex
    exact ⟨oc, od, osl, lk⟩
  have e : fa = f0 := by rw [hfa] at hm0; cases hm0; rfl
  subst e
  refine ⟨fd, [He.cT K (y, none)], spA (some ((He.cT K (y, none)).2, nm)) P, fun p hp => ?_, fun p hp => ?_, fun p hp => ?_, fun s u => hA s [u] rfl, fun H ad ns hl hbits hH hS => ?_, fun base KX G T => ?_⟩
  · rw [List.mem_singleton.mp hp]; exact hT
  · rw [List.mem_singleton.mp hp]; exact nT
  · rw [List.mem_singleton.mp hp]; exact C
  · have hP := hH _ (List.mem_singleton.mpr rfl)
    have off : ∀ b, b ≠ (He.cT K (y, none)).2 → but (He.cT K (y, none)).2 H b = H b := fun b ne => if_neg ne
    have on : but (He.cT K (y, none)).2 H (He.cT K (y, none)).2 = none := if_pos rfl
    have sq : SqL K (but (He.cT K (y, none)).2 H) ad (ns.map V.int) := by
      rcases hS with (z | ⟨o, z⟩) | z
      · exact .inl (.inl (by rw [off _ (fun q => by rw [q, hP] at z; cases z)]; exact z))
      · exact .inl (.inr ⟨o, by rw [off _ (fun q => by rw [q, hP] at z; cases z)]; exact z⟩)
      · exact .inr z
    refine ⟨but (He.cT K (y, none)).2 H, but (He.cT K (y, none)).2 H, [], _, _, [], pure_ ns hl hbits, ⟨⟨but_same, fun q m => nomatch m⟩, but_same, Same.refl _, fun a h1 h2 => h1, (fun q m => nomatch m), List.nodup_nil, fun P nm' e => ?_⟩, ⟨⟨ad, rfl, sq, Nat.le_trans hl hn⟩, trivial⟩, fun v F' H' _ e => e⟩
    cases e
    exact ⟨#[], hP, ⟨trivial, fun pos cv hc => by cases hc⟩, on, (fun q m => nomatch m), on⟩
  · obtain ⟨f2, fd2, F2, hm2, _, _, _, oc2, od2, osl2, lk2⟩ := (c base (T _ (List.mem_singleton.mpr rfl))).ex
    have e2 : fa = f2 := by rw [hfa] at hm2; cases hm2; rfl
    subst e2
    rw [lk] at lk2
    cases lk2
    exact F2
end Lm
/-! Lm: plain laws of what mirrors are made of. -/
namespace Lm
open PySem PySem.Spec L2
theorem lt_eq {α β : Type} (a : α) (f : α → Option β) : lt a f = f a := rfl
theorem cnd_true {α : Type} (a b : Option α) : cnd true a b = a := rfl
theorem cnd_false {α : Type} (a b : Option α) : cnd false a b = b := rfl
theorem bind_some {α β : Type} (a : α) (f : α → Option β) : (some a).bind f = f a := rfl
theorem fwd_nx {ρ S γ : Type} (s : S) (k : S → Option γ) (kr : ρ → Option γ) : fwd (some (Fw.nx s)) k kr = k s := rfl
theorem fwd_rt {ρ S γ : Type} (r : ρ) (k : S → Option γ) (kr : ρ → Option γ) : fwd (some (Fw.rt r)) k kr = kr r := rfl
theorem loop_nil {α ρ S : Type} (f : S → α → Option (Fw ρ S)) (s : S) : loop f [] s = some (.nx s) := rfl
theorem cnd_ite {α : Type} (c : Bool) (a b : Option α) : cnd c a b = if c = true then a else b := by cases c <;> rfl
theorem bind_e {α β : Type} {o : Option α} {a : α} {f : α → Option β} (h : o = some a) : o.bind f = f a := by rw [h]; rfl
/-- small products, quotients -/
theorem log2_lt64 {n : Nat} (h : n < 2 ^ 64) : n.log2 < 64 := by
  by_cases e : n = 0
  · subst e; decide
  · exact (Nat.log2_lt e).mpr h
theorem mulO_s {i j : Int} (hi : -(2 ^ 63) ≤ i ∧ i < 2 ^ 63) (hj : -(2 ^ 63) ≤ j ∧ j < 2 ^ 63) : mulO i j = some (i * j) := by
  unfold mulO
  rw [if_pos]
  have h1 := log2_lt64 (n := i.natAbs) (by omega)
  have h2 := log2_lt64 (n := j.natAbs) (by omega)
  omega
theorem modO_s {i j : Int} (h : 0 < j) : modO i j = some (i % j) := by unfold modO; rw [if_pos h]
theorem divO_s {i j : Int} (h : 0 < j ∧ j < 1073741824) : divO i j = some (i / j) := by unfold divO; rw [if_pos h]
theorem rngO_s {lo hi : Int} (h1 : -4000000 ≤ lo ∧ lo ≤ 4000000) (h2 : -4000000 ≤ hi ∧ hi ≤ lo + 4000000) : rngO lo hi = some (rng lo hi) := by
  unfold rngO
  have e : limL = 4000000 := rfl
  rw [if_pos]
  rw [e]
  omega
theorem ixN_nat {n i : Nat} (h : i < n) : ixN n (i : Int) = some i := by
  unfold ixN
  split
  · next h2 => simp [h]
  · next h2 => omega
theorem ixO_nat {α : Type} {as : List α} {i : Nat} {a : α} (h : as[i]? = some a) : ixO as (i : Int) = some a := by
  unfold ixO atI
  rw [ixN_nat (List.getElem?_eq_some_iff.mp h).1]
  exact h
theorem ixO_pos {α : Type} {as : List α} {i : Int} (h0 : 0 ≤ i) (h : i < as.length) : ixO as i = as[i.toNat]? := by
  obtain ⟨k, rfl⟩ := Int.eq_ofNat_of_zero_le h0
  have h2 : k < as.length := by omega
  rw [ixO_nat (List.getElem?_eq_getElem h2)]
  simp [h2]
theorem appO_s {α : Type} {as : List α} {a : α} (h : as.length < 4000000) : appO as a = some (as ++ [a]) := by
  unfold appO
  have e : limL = 4000000 := rfl
  rw [if_pos]
  rw [List.length_append, e]
  simp; omega
theorem catO_s {α : Type} {as bs : List α} (h : as.length + bs.length ≤ 4000000) : catO as bs = some (as ++ bs) := by
  unfold catO
  have e : limL = 4000000 := rfl
  rw [if_pos]
  rw [List.length_append, e]
  exact h
theorem repO_s {α : Type} {as : List α} {n : Int} (h : n.toNat * as.length ≤ 4000000) (h1 : -4000000 ≤ n ∧ n ≤ 4000000) : repO as n = some (List.replicate n.toNat as).flatten := by
  unfold repO
  have e : limL = 4000000 := rfl
  rw [if_pos]
  rw [List.length_flatten, List.map_replicate, sum_rep, e]
  omega
theorem setO_nat {α : Type} {as : List α} {i : Nat} {a : α} (h : i < as.length) : setO as (i : Int) a = some (as.set i a) := by
  unfold setO
  rw [ixN_nat h]
  rfl
theorem rep_lenA {α : Type} (n : Nat) (l : List α) : (List.replicate n l).flatten.length = n * l.length := by
  rw [List.length_flatten, List.map_replicate, sum_rep]
/-! ### == of data -/
structure GE {α : Type} (f : α → PyData) (ok : α → Prop) (n : Nat) : Prop where
  lay : ∀ a, ok a → (f a).canLay0 = true
  dep : ∀ a, (f a).depth ≤ n
  eq : ∀ a b, PyData.eqv (f a) (f b) = true ↔ a = b
abbrev yes {α : Type} (_ : α) : Prop := True
abbrev oks {α : Type} (ok : α → Prop) (as : List α) : Prop := ∀ a ∈ as, ok a
section
variable {α β γ : Type} {f : α → PyData} {g : β → PyData} {h : γ → PyData} {ok : α → Prop} {ok2 : β → Prop} {ok3 : γ → Prop} {n m l : Nat}
theorem ge_eqO (h : GE f ok n) (hn : n ≤ 64) {a b : α} (ha : ok a) (hb : ok b) [Decidable (a = b)] : eqO (f a) (f b) = some (decide (a = b)) := by
  have s : ∀ a, ok a → SeqAt.shaped (f a) = true := fun a q => by
    unfold SeqAt.shaped
    rw [h.lay a q, Bool.true_and]
    exact decide_eq_true (Nat.le_trans (h.dep a) hn)
  unfold eqO
  rw [if_pos ⟨s a ha, s b hb⟩]
  congr 1
  rw [Bool.eq_iff_iff, h.eq a b]
  simp
theorem gI : GE PyData.int yes 1 := ⟨fun _ _ => rfl, fun _ => by simp [PyData.depth], fun a b => by simp [PyData.eqv]⟩
theorem gB : GE PyData.bool yes 1 := ⟨fun _ _ => rfl, fun _ => by simp [PyData.depth], fun a b => by simp [PyData.eqv]⟩
theorem gS : GE encS OkS 1 := ⟨fun a h => by
  simp only [encS, PyData.canLay0, PyData.strOk]
  rw [Array.all_eq_true']
  intro x hx
  have := h.2 x (by simpa using hx)
  exact decide_eq_true (by omega), fun _ => by simp [encS, PyData.depth], fun a b => by
  simp only [encS, PyData.eqv, beq_iff_eq]
  exact ⟨mk_inj, fun e => by rw [e]⟩⟩
theorem gN : GE (fun (_ : Unit) => PyData.none) yes 1 := ⟨fun _ _ => rfl, fun _ => by simp [PyData.depth], fun a b => by simp [PyData.eqv]⟩
theorem ge_dep (h : GE f ok n) : ∀ as : List α, PyData.depthAll (as.map f) ≤ n
  | [] => Nat.zero_le _
  | a :: as => by
    rw [List.map_cons]
    simp only [PyData.depthAll]
    exact Nat.max_le.mpr ⟨h.dep a, ge_dep h as⟩
theorem ge_lay (h : GE f ok n) : ∀ as : List α, oks ok as → PyData.canLayAll0 (as.map f) = true
  | [], _ => rfl
  | a :: as, q => by
    rw [List.map_cons]
    simp only [PyData.canLayAll0, h.lay a (q a (List.mem_cons_self ..)), ge_lay h as (fun b m => q b (List.mem_cons_of_mem _ m)), Bool.and_self]
theorem ge_eqA (h : GE f ok n) : ∀ as bs : List α, PyData.eqvAll (as.map f) (bs.map f) = true ↔ as = bs := fun as => by
  induction as with
  | nil => intro bs; cases bs <;> simp [PyData.eqvAll]
  | cons a as ih =>
    intro bs
    cases bs with
    | nil => simp [PyData.eqvAll]
    | cons b bs => rw [List.map_cons, List.map_cons]; simp only [PyData.eqvAll, Bool.and_eq_true, h.eq, ih, List.cons.injEq]
theorem gL (h : GE f ok n) : GE (fun as : List α => PyData.list (as.map f)) (oks ok) (n + 1) := ⟨fun as q => by simp only [PyData.canLay0]; exact ge_lay h as q, fun as => by simp only [PyData.depth]; exact Nat.succ_le_succ (ge_dep h as), fun a b => by simp only [PyData.eqv]; exact ge_eqA h a b⟩
theorem gTL (h : GE f ok n) : GE (fun as : List α => PyData.tuple (as.map f)) (oks ok) (n + 1) := ⟨fun as q => by simp only [PyData.canLay0]; exact ge_lay h as q, fun as => by simp only [PyData.depth]; exact Nat.succ_le_succ (ge_dep h as), fun a b => by simp only [PyData.eqv]; exact ge_eqA h a b⟩
theorem gT2 (h1 : GE f ok n) (h2 : GE g ok2 m) : GE (fun t : α × β => PyData.tuple [f t.1, g t.2]) (fun t => ok t.1 ∧ ok2 t.2) (max n m + 1) := ⟨fun a q => by simp only [PyData.canLay0, PyData.canLayAll0, h1.lay _ q.1, h2.lay _ q.2, Bool.and_self], fun a => by
    simp only [PyData.depth, PyData.depthAll]
    have := h1.dep a.1
    have := h2.dep a.2
    omega, fun a b => by
    simp only [PyData.eqv, PyData.eqvAll, Bool.and_eq_true, h1.eq, h2.eq, Bool.and_true]
    exact ⟨fun z => Prod.ext z.1 z.2, fun z => by rw [z]; exact ⟨rfl, rfl⟩⟩⟩
theorem gT3 (h1 : GE f ok n) (h2 : GE g ok2 m) (h3 : GE h ok3 l) : GE (fun t : α × β × γ => PyData.tuple [f t.1, g t.2.1, h t.2.2]) (fun t => ok t.1 ∧ ok2 t.2.1 ∧ ok3 t.2.2) (max n (max m l) + 1) := ⟨fun a q => by simp only [PyData.canLay0, PyData.canLayAll0, h1.lay _ q.1, h2.lay _ q.2.1, h3.lay _ q.2.2, Bool.and_self], fun a => by
    simp only [PyData.depth, PyData.depthAll]
    have := h1.dep a.1
    have := h2.dep a.2.1
    have := h3.dep a.2.2
    omega, fun a b => by
    simp only [PyData.eqv, PyData.eqvAll, Bool.and_eq_true, h1.eq, h2.eq, h3.eq, Bool.and_true]
    exact ⟨fun z => Prod.ext z.1 (Prod.ext z.2.1 z.2.2), fun z => by rw [z]; exact ⟨rfl, rfl, rfl⟩⟩⟩
/-- lists of ints -/
theorem eqO_ints (as bs : List Int) : eqO (PyData.list (as.map PyData.int)) (PyData.list (bs.map PyData.int)) = some (decide (as = bs)) := ge_eqO (gL gI) (by decide) (fun _ _ => trivial) (fun _ _ => trivial)
theorem eqO_strs {as bs : List (List Nat)} (ha : oks OkS as) (hb : oks OkS bs) : eqO (PyData.list (as.map encS)) (PyData.list (bs.map encS)) = some (decide (as = bs)) := ge_eqO (gL gS) (by decide) ha hb
end
/-! ### comprehensions, loops -/
theorem mapF_map {α β : Type} {f : α → Option (Option β)} {g : α → β} : ∀ {as : List α}, (∀ a ∈ as, f a = some (some (g a))) → mapF f as = some (as.map g)
  | [], _ => rfl
  | a :: as, h => by
    have ih := mapF_map (as := as) fun b m => h b (List.mem_cons_of_mem _ m)
    simp only [mapF, h a (List.mem_cons_self ..), ih, List.map_cons]
theorem mapF_filter {α β : Type} {f : α → Option (Option β)} {p : α → Bool} {g : α → β} : ∀ {as : List α}, (∀ a ∈ as, f a = some (if p a = true then some (g a) else none)) → mapF f as = some ((as.filter p).map g)
  | [], _ => rfl
  | a :: as, h => by
    have ih := mapF_filter (as := as) fun b m => h b (List.mem_cons_of_mem _ m)
    have ha := h a (List.mem_cons_self ..)
    by_cases e : p a = true
    · rw [if_pos e] at ha
      simp only [mapF, ha, ih, List.filter_cons, e, if_true, List.map_cons]
    · rw [if_neg e] at ha
      simp only [mapF, ha, ih, List.filter_cons, e]
      rfl
/-- a comprehension over the tape: I i k: what holds of the tape behind i things -/
theorem mapFM_all {α β τ : Type} {f : τ → α → Option (Option β × τ)} {P : β → Prop} {I : Nat → τ → Prop} : ∀ {as : List α} {i : Nat} {k : τ}, I i k → (∀ j k a, a ∈ as → i ≤ j → j < i + as.length → I j k → ∃ b k', f k a = some (some b, k') ∧ P b ∧ I (j + 1) k') →
    ∃ bs k', mapFM f as k = some (bs, k') ∧ bs.length = as.length ∧ (∀ b ∈ bs, P b) ∧ I (i + as.length) k'
  | [], i, k, h, _ => ⟨[], k, rfl, rfl, fun _ m => (by cases m), h⟩
  | a :: as, i, k, h, q => by
    obtain ⟨b, k', e, hp, hi⟩ := q i k a (List.mem_cons_self ..) (Nat.le_refl _) (by simp) h
    obtain ⟨bs, k2, e2, hl, hb, hI⟩ := mapFM_all (as := as) (i := i + 1) hi fun j k c m h1 h2 => q j k c (List.mem_cons_of_mem _ m) (by omega) (by rw [List.length_cons]; omega)
    refine ⟨b :: bs, k2, by simp only [mapFM, e, e2], by rw [List.length_cons, List.length_cons, hl], fun c m => ?_, by
      rw [List.length_cons]
      have e9 : i + (as.length + 1) = i + 1 + as.length := by omega
      rw [e9]; exact hI⟩
    rcases List.mem_cons.mp m with z | m
    · subst z; exact hp
    · exact hb c m
/-- a for whose turns all go on: what holds behind i turns -/
theorem loop_all {α ρ S : Type} {f : S → α → Option (Fw ρ S)} {I : Nat → S → Prop} : ∀ {as : List α} {i : Nat} {s : S}, I i s → (∀ j s a, as[j]? = some a → I (i + j) s → ∃ s', f s a = some (.nx s') ∧ I (i + j + 1) s') → ∃ s', loop f as s = some (.nx s') ∧ I (i + as.length) s'
  | [], i, s, h, _ => ⟨s, rfl, h⟩
  | a :: as, i, s, h, q => by
    obtain ⟨s1, e, h1⟩ := q 0 s a rfl h
    obtain ⟨s2, e2, h2⟩ := loop_all (as := as) (i := i + 1) (s := s1) h1 fun j s b hb hI => by
      have e9 : i + 1 + j = i + (j + 1) := by omega
      rw [e9] at hI ⊢
      exact q (j + 1) s b hb hI
    refine ⟨s2, by simp only [loop, e, e2], ?_⟩
    rw [List.length_cons]
    have e9 : i + (as.length + 1) = i + 1 + as.length := by omega
    rw [e9]; exact h2
/-- a while: an invariant, a measure -/
theorem while_all {ρ S : Type} {c : S → Option Bool} {f : S → Option (Fw ρ S)} {I : S → Prop} {me : S → Nat} : ∀ {n : Nat} {s : S}, I s → me s < n → (∀ s, I s → ∃ b, c s = some b ∧ (b = true → ∃ s', f s = some (.nx s') ∧ I s' ∧ me s' < me s)) → ∃ s', whileN c f n s = some (.nx s') ∧ I s' ∧ c s' = some false
  | 0, s, h, hm, _ => absurd hm (Nat.not_lt_zero _)
  | n + 1, s, h, hm, q => by
    obtain ⟨b, hc, hb⟩ := q s h
    cases b with
    | false => exact ⟨s, by simp only [whileN, hc], h, hc⟩
    | true =>
      obtain ⟨s1, e1, h1, hm1⟩ := hb rfl
      obtain ⟨s2, e2, h2⟩ := while_all (n := n) (s := s1) h1 (by omega) q
      exact ⟨s2, by simp only [whileN, hc, e1, e2], h2⟩
/-! ### sums -/
theorem sum_set : ∀ {ns : List Int} {j : Nat} {a x : Int}, ns[j]? = some a → (ns.set j x).sum = ns.sum - a + x
  | [], _, _, _, h => by cases h
  | n :: ns, 0, a, x, h => by
    cases h
    simp; omega
  | n :: ns, j + 1, a, x, h => by
    have := sum_set (ns := ns) (j := j) (a := a) (x := x) h
    simp only [List.set_cons_succ, List.sum_cons, this]
    omega
theorem sum_le {c : Int} : ∀ {ns : List Int}, (∀ x ∈ ns, x ≤ c) → ns.sum ≤ c * ns.length
  | [], _ => by simp
  | n :: ns, h => by
    have ih := sum_le (ns := ns) fun x m => h x (List.mem_cons_of_mem _ m)
    have h1 := h n (List.mem_cons_self ..)
    rw [List.sum_cons, List.length_cons]
    have e : c * ((ns.length + 1 : Nat) : Int) = c * ns.length + c := by
      rw [Int.natCast_succ, Int.mul_add, Int.mul_one]
    omega
theorem sum_ge {c : Int} : ∀ {ns : List Int}, (∀ x ∈ ns, c ≤ x) → c * ns.length ≤ ns.sum
  | [], _ => by simp
  | n :: ns, h => by
    have ih := sum_ge (ns := ns) fun x m => h x (List.mem_cons_of_mem _ m)
    have h1 := h n (List.mem_cons_self ..)
    rw [List.sum_cons, List.length_cons]
    have e : c * ((ns.length + 1 : Nat) : Int) = c * ns.length + c := by
      rw [Int.natCast_succ, Int.mul_add, Int.mul_one]
    omega
theorem sum_rev (ns : List Int) : ns.reverse.sum = ns.sum := by
  induction ns with
  | nil => rfl
  | cons n ns ih => rw [List.reverse_cons, List.sum_append, ih]; simp; omega
end Lm
namespace Lm
open PySem PySem.Spec
theorem bindE {α β : Type} {o : Option α} {a : α} {f : α → Option β} {r : Option β} (h : o = some a) (h2 : f a = r) : o.bind f = r := by rw [h]; exact h2
theorem ltE {α β : Type} {a : α} {f : α → Option β} {r : Option β} (h : f a = r) : lt a f = r := h
theorem cndT {α : Type} {c : Bool} {a b r : Option α} (h : c = true) (h2 : a = r) : cnd c a b = r := by rw [h]; exact h2
theorem cndF {α : Type} {c : Bool} {a b r : Option α} (h : c = false) (h2 : b = r) : cnd c a b = r := by rw [h]; exact h2
theorem fwdE {ρ S γ : Type} {o : Option (Fw ρ S)} {s : S} {k : S → Option γ} {kr : ρ → Option γ} {r : Option γ} (h : o = some (.nx s)) (h2 : k s = r) : fwd o k kr = r := by rw [h]; exact h2
theorem loopE {α ρ S : Type} {f : S → α → Option (Fw ρ S)} {a : α} {as : List α} {s s' : S} {r : Option (Fw ρ S)} (h : f s a = some (.nx s')) (h2 : loop f as s' = r) : loop f (a :: as) s = r := by simp only [loop, h]; exact h2
theorem whileT {ρ S : Type} {c : S → Option Bool} {f : S → Option (Fw ρ S)} {n : Nat} {s s' : S} {r : Option (Fw ρ S)} (h : c s = some true) (h1 : f s = some (.nx s')) (h2 : whileN c f n s' = r) : whileN c f (n + 1) s = r := by simp only [whileN, h, h1]; exact h2
theorem whileF {ρ S : Type} {c : S → Option Bool} {f : S → Option (Fw ρ S)} {n : Nat} {s : S} (h : c s = some false) : whileN c f (n + 1) s = some (.nx s) := by simp only [whileN, h]
theorem decT {p : Prop} [Decidable p] (h : p) : decide p = true := decide_eq_true h
theorem decF {p : Prop} [Decidable p] (h : ¬p) : decide p = false := decide_eq_false h
theorem ndecT {p : Prop} [Decidable p] (h : ¬p) : (!decide p) = true := by rw [decide_eq_false h]; rfl
theorem ndecF {p : Prop} [Decidable p] (h : p) : (!decide p) = false := by rw [decide_eq_true h]; rfl
/-- with places from n on -/
def enumFrom {α : Type} : Nat → List α → List (Int × α)
  | _, [] => []
  | n, a :: as => ((n : Int), a) :: enumFrom (n + 1) as
theorem enum_aux {α : Type} : ∀ (as : List α) (n : Nat), (List.range' n as.length).zipWith (fun (i : Nat) a => ((i : Int), a)) as = enumFrom n as
  | [], n => by simp [enumFrom]
  | a :: as, n => by
    have h := enum_aux as (n + 1)
    rw [List.length_cons, List.range'_succ, List.zipWith_cons_cons, h]
    rfl
theorem enumL_from {α : Type} (as : List α) : enumL as = enumFrom 0 as := by
  unfold enumL
  rw [List.range_eq_range', enum_aux]
theorem catS_s {l m : List Nat} (h : l.length + m.length ≤ 1000000) : catS l m = some (l ++ m) := by
  unfold catS
  rw [if_pos]
  rw [List.length_append]
  exact h
theorem repS_s {c : Nat} {n : Int} (h : n ≤ 1000000) (h1 : -1000000 ≤ n) : repS [c] n = some (List.replicate n.toNat c) := by
  unfold repS
  have e : (List.replicate n.toNat [c]).flatten = List.replicate n.toNat c := by simp
  rw [e, if_pos]
  refine ⟨?_, by omega, by omega⟩
  rw [List.length_replicate]
  show n.toNat ≤ 1000000
  omega
theorem cut_take {α : Type} (as : List α) (n : Nat) : cutL as none (some (n : Int)) = as.take n := by
  have e : HT.sIx as.length as.length (some (n : Int)) = min n as.length := by
    unfold HT.sIx
    simp
    omega
  have e2 : HT.sIx as.length 0 none = 0 := rfl
  unfold cutL
  rw [e, e2, List.drop_zero, Nat.sub_zero]
  by_cases h : n ≤ as.length
  · rw [Nat.min_eq_left h]
  · rw [Nat.min_eq_right (by omega), List.take_of_length_le (Nat.le_refl _), List.take_of_length_le (by omega)]
theorem cut_drop {α : Type} (as : List α) (n : Nat) : cutL as (some (n : Int)) none = as.drop n := by
  have e : HT.sIx as.length 0 (some (n : Int)) = min n as.length := by
    unfold HT.sIx
    simp
    omega
  have e2 : HT.sIx as.length as.length none = as.length := rfl
  unfold cutL
  rw [e, e2]
  by_cases h : n ≤ as.length
  · rw [Nat.min_eq_left h, List.take_of_length_le]
    rw [List.length_drop]; omega
  · rw [Nat.min_eq_right (by omega), List.drop_of_length_le (Nat.le_refl _), List.drop_of_length_le (by omega)]
    simp
theorem cut_mid {α : Type} (as : List α) (n m : Nat) (h : n ≤ m) : cutL as (some (n : Int)) (some (m : Int)) = (as.drop n).take (m - n) := by
  have e : HT.sIx as.length 0 (some (n : Int)) = min n as.length := by
    unfold HT.sIx
    simp
    omega
  have e2 : HT.sIx as.length as.length (some (m : Int)) = min m as.length := by
    unfold HT.sIx
    simp
    omega
  unfold cutL
  rw [e, e2]
  by_cases h1 : n ≤ as.length
  · rw [Nat.min_eq_left h1]
    by_cases h2 : m ≤ as.length
    · rw [Nat.min_eq_left h2]
    · rw [Nat.min_eq_right (by omega), List.take_of_length_le (by rw [List.length_drop]; omega), List.take_of_length_le (by rw [List.length_drop]; omega)]
  · rw [Nat.min_eq_right (by omega), Nat.min_eq_right (by omega), List.drop_of_length_le (Nat.le_refl _), List.drop_of_length_le (by omega)]
    simp
end Lm
namespace Lm
open PySem PySem.Spec
theorem fwdEx {ρ S γ : Type} {o : Option (Fw ρ S)} {k : S → Option γ} {kr : ρ → Option γ} {r : Option γ} (h : ∃ s, o = some (.nx s) ∧ k s = r) : fwd o k kr = r := by
  obtain ⟨s, h1, h2⟩ := h
  rw [h1]; exact h2
theorem okL_of {as : List (List Nat)} (h : as.length ≤ 4000000) (h2 : ∀ a ∈ as, OkS a) : grdB (okL okS as) = some () := by
  unfold grdB
  rw [if_pos]
  unfold okL
  rw [Bool.and_eq_true, decide_eq_true_eq, List.all_eq_true]
  exact ⟨h, fun a m => okS_iff.mpr (h2 a m)⟩
theorem eqO_nil {x : List Nat} {xs : List (List Nat)} (h : ∀ y ∈ x :: xs, OkS y) : eqO (PyData.list ((x :: xs).map encS)) (PyData.list (([] : List (List Nat)).map encS)) = some false := by
  rw [eqO_strs h (fun _ m => by cases m)]
  rfl
end Lm
namespace Lm
open PySem PySem.Spec
/-- a comprehension whose things all are had -/
theorem mapF_all {α β : Type} {f : α → Option (Option β)} {P : β → Prop} : ∀ {as : List α}, (∀ a ∈ as, ∃ b, f a = some (some b) ∧ P b) → ∃ bs, mapF f as = some bs ∧ bs.length = as.length ∧ ∀ b ∈ bs, P b
  | [], _ => ⟨[], rfl, rfl, fun _ m => by cases m⟩
  | a :: as, h => by
    obtain ⟨b, e, hb⟩ := h a (List.mem_cons_self ..)
    obtain ⟨bs, e2, hl, hbs⟩ := mapF_all (as := as) fun c m => h c (List.mem_cons_of_mem _ m)
    refine ⟨b :: bs, by simp only [mapF, e, e2], by rw [List.length_cons, List.length_cons, hl], fun c m => ?_⟩
    rcases List.mem_cons.mp m with z | m
    · subst z; exact hb
    · exact hbs c m
theorem joinO_s {s : List Nat} {ps : List (List Nat)} (h : (joinS s ps).length ≤ 1000000) : joinO s ps = some (joinS s ps) := by
  unfold joinO
  rw [if_pos]
  exact h
theorem join_ones : ∀ ps : List (List Nat), (∀ p ∈ ps, p.length = 1) → (joinS [] ps).length = ps.length
  | [], _ => rfl
  | [p], h => by rw [joinS_one]; exact h p (List.mem_cons_self ..)
  | p :: q :: r, h => by
    rw [joinS_cons, List.length_append, List.length_append, join_ones (q :: r) fun x m => h x (List.mem_cons_of_mem _ m), h p (List.mem_cons_self ..)]
    simp only [List.length_nil, List.length_cons]
    omega
theorem mem_rng {lo hi x : Int} (h : x ∈ rng lo hi) : lo ≤ x ∧ x < hi := by
  obtain ⟨i, hi'⟩ := List.getElem?_of_mem h
  obtain ⟨h1, h2⟩ := rng_get hi'
  omega
theorem rng_nat (n : Nat) : rng 0 (n : Int) = (List.range n).map fun (i : Nat) => (i : Int) := by
  unfold rng
  have e : ((n : Int) - 0).toNat = n := by omega
  rw [e]
  congr 1
  funext i
  omega
/-! ### blanks at the ends -/
theorem dropW_rep (c : Nat) (l : List Nat) : ∃ k, l = List.replicate k c ++ l.dropWhile ([c].contains) := by
  induction l with
  | nil => exact ⟨0, rfl⟩
  | cons a l ih =>
    by_cases e : a = c
    · obtain ⟨k, hk⟩ := ih
      refine ⟨k + 1, ?_⟩
      have h1 : ([c].contains a) = true := by simp [e]
      rw [List.dropWhile_cons, if_pos h1, List.replicate_succ, List.cons_append, ← hk, e]
    · refine ⟨0, ?_⟩
      have h1 : ¬([c].contains a) = true := by simp [e]
      rw [List.dropWhile_cons, if_neg h1]
      rfl
theorem rstrip_rep (c : Nat) (l : List Nat) : ∃ k, l = rstripS l [c] ++ List.replicate k c := by
  obtain ⟨k, hk⟩ := dropW_rep c l.reverse
  refine ⟨k, ?_⟩
  unfold rstripS
  have := congrArg List.reverse hk
  rw [List.reverse_reverse, List.reverse_append, List.reverse_replicate] at this
  exact this
theorem dropW_id (c : Nat) (l : List Nat) (h : ∀ d, l.head? = some d → d ≠ c) : l.dropWhile ([c].contains) = l := by
  cases l with
  | nil => rfl
  | cons a l =>
    have h1 : ¬([c].contains a) = true := by simp [h a rfl]
    rw [List.dropWhile_cons, if_neg h1]
theorem dropW_app (c : Nat) (k : Nat) (l : List Nat) : (List.replicate k c ++ l).dropWhile ([c].contains) = l.dropWhile ([c].contains) := by
  induction k with
  | zero => rfl
  | succ k ih =>
    have h1 : ([c].contains c) = true := by simp
    rw [List.replicate_succ, List.cons_append, List.dropWhile_cons, if_pos h1, ih]
theorem dropW_head (c : Nat) (l : List Nat) : ∀ d, (l.dropWhile ([c].contains)).head? = some d → d ≠ c := by
  induction l with
  | nil => intro d h; cases h
  | cons a l ih =>
    intro d h
    rw [List.dropWhile_cons] at h
    by_cases e : ([c].contains a) = true
    · rw [if_pos e] at h; exact ih d h
    · rw [if_neg e] at h
      cases h
      simpa using e
theorem rstrip_idem (c : Nat) (l : List Nat) : rstripS (rstripS l [c]) [c] = rstripS l [c] := by
  unfold rstripS
  rw [List.reverse_reverse, dropW_id c _ (dropW_head c l.reverse)]
theorem strip_both (c : Nat) (k j : Nat) (t : List Nat) (h1 : ∀ d, t.head? = some d → d ≠ c) (h2 : ∀ d, t.getLast? = some d → d ≠ c) : stripS (List.replicate k c ++ (t ++ List.replicate j c)) [c] = t := by
  unfold stripS lstripS
  rw [dropW_app]
  cases t with
  | nil =>
    rw [List.nil_append]
    have : (List.replicate j c).dropWhile ([c].contains) = [] := by
      have := dropW_app c j []
      rw [List.append_nil] at this
      exact this
    rw [this]
    rfl
  | cons a t =>
    have e : ((a :: t) ++ List.replicate j c).dropWhile ([c].contains) = (a :: t) ++ List.replicate j c := dropW_id c _ fun d hd => h1 d hd
    rw [e]
    unfold rstripS
    rw [List.reverse_append, List.reverse_replicate, dropW_app, dropW_id c _ (fun d hd => h2 d (by rw [List.head?_reverse] at hd; exact hd)), List.reverse_reverse]
end Lm
namespace Lm
open PySem PySem.Spec L2
theorem ixO_last {α : Type} (l : List α) (a : α) : ixO (l ++ [a]) (-1) = some a := by
  unfold ixO atI
  have e : ixN (l ++ [a]).length (-1) = some l.length := by
    unfold ixN
    rw [List.length_append, List.length_singleton]
    simp
    omega
  rw [e]
  simp
theorem popO_last {α : Type} (l : List α) (a : α) : popO (l ++ [a]) = some (a, l) := by
  unfold popO
  rw [List.length_append, List.length_singleton]
  simp
theorem gO {α : Type} {f : α → PyData} {ok : α → Prop} {n : Nat} (h : GE f ok n) (hn : 1 ≤ n) (hf : ∀ a, f a ≠ .none) : GE (encO f) (fun o => ∀ a, o = some a → ok a) n := ⟨fun a q => by
  cases a with
  | none => rfl
  | some a => exact h.lay a (q a rfl), fun a => by
  cases a with
  | none => simpa [encO, PyData.depth] using hn
  | some a => exact h.dep a, fun a b => by
  cases a with
  | none =>
    cases b with
    | none => simp [encO, PyData.eqv]
    | some b =>
      simp only [encO]
      cases e : f b <;> simp_all [PyData.eqv]
  | some a =>
    cases b with
    | none =>
      simp only [encO]
      cases e : f a <;> simp_all [PyData.eqv]
    | some b => simp only [encO]; rw [h.eq]; simp⟩
end Lm
namespace Lm
open PySem PySem.Spec
section
variable {α β γ : Type} {f : α → PyData} {g : β → PyData} {h : γ → PyData} {ok : α → Prop} {ok2 : β → Prop} {ok3 : γ → Prop} {n m l : Nat}
theorem gH3 (h1 : GE f ok n) (h2 : GE g ok2 m) (h3 : GE h ok3 l) : GE (fun t : α × β × γ => PyData.list [f t.1, g t.2.1, h t.2.2]) (fun t => ok t.1 ∧ ok2 t.2.1 ∧ ok3 t.2.2) (max n (max m l) + 1) := ⟨fun a q => by simp only [PyData.canLay0, PyData.canLayAll0, h1.lay _ q.1, h2.lay _ q.2.1, h3.lay _ q.2.2, Bool.and_self], fun a => by
    simp only [PyData.depth, PyData.depthAll]
    have := h1.dep a.1
    have := h2.dep a.2.1
    have := h3.dep a.2.2
    omega, fun a b => by
    simp only [PyData.eqv, PyData.eqvAll, Bool.and_eq_true, h1.eq, h2.eq, h3.eq, Bool.and_true]
    exact ⟨fun z => Prod.ext z.1 (Prod.ext z.2.1 z.2.2), fun z => by rw [z]; exact ⟨rfl, rfl, rfl⟩⟩⟩
/-- the same thing on both sides -/
theorem ge_same (h : GE f ok n) (hn : n ≤ 64) {a : α} (ha : ok a) : eqO (f a) (f a) = some true := by
  have s : SeqAt.shaped (f a) = true := by
    unfold SeqAt.shaped
    rw [h.lay a ha, Bool.true_and]
    exact decide_eq_true (Nat.le_trans (h.dep a) hn)
  unfold eqO
  rw [if_pos ⟨s, s⟩]
  congr 1
  exact (h.eq a a).mpr rfl
end
end Lm
/-! Lm: words filled into rows, in plain Lean (k08, k10, k22 and later). -/
namespace Lm
section
variable (W : Nat) (L : Nat → List Nat)
/-- the room of the n-th row -/
def rm (n : Nat) : Nat := W - (L n).length
/-- a word in pieces -/
def cutG : Nat → Nat → List Nat → List (List Nat) × List Nat
  | 0, _, x => ([], x)
  | f + 1, n, x => if rm W L n < x.length then ((L n ++ x.take (rm W L n)) :: (cutG f (n + 1) (x.drop (rm W L n))).1, (cutG f (n + 1) (x.drop (rm W L n))).2) else ([], x)
/-- the rows still to come: b is begun for the n-th -/
def out : Nat → List Nat → List (List Nat) → List (List Nat)
  | n, b, [] => if b = [] then [] else [L n ++ b]
  | n, b, x :: xs => if b ≠ [] ∧ b.length + 1 + x.length ≤ rm W L n then out n (b ++ 32 :: x) xs
    else if b = [] then (cutG W L x.length n x).1 ++ out (n + (cutG W L x.length n x).1.length) (cutG W L x.length n x).2 xs
    else (L n ++ b) :: ((cutG W L x.length (n + 1) x).1 ++ out (n + 1 + (cutG W L x.length (n + 1) x).1.length) (cutG W L x.length (n + 1) x).2 xs)
def grab (r : Nat) : List Nat → List (List Nat) → List Nat × List (List Nat)
  | due, [] => (due, [])
  | due, x :: xs => if due.length + 1 + x.length ≤ r then grab r (due ++ 32 :: x) xs else (due, x :: xs)
/-- what the rows must be -/
def Rr : List (List Nat) → Nat → List (List Nat) → Prop
  | [], _, left => left = []
  | _ :: _, _, [] => False
  | r :: rs, n, x :: xs => if rm W L n < x.length then r = L n ++ x.take (rm W L n) ∧ Rr rs (n + 1) (x.drop (rm W L n) :: xs)
    else r = L n ++ (grab (rm W L n) x xs).1 ∧ Rr rs (n + 1) (grab (rm W L n) x xs).2
variable {W L}
theorem cutG_fuel (h : ∀ n, 1 ≤ rm W L n) : ∀ (f f' n : Nat) (x : List Nat), x.length ≤ f → x.length ≤ f' → cutG W L f n x = cutG W L f' n x
  | 0, 0, _, _, _, _ => rfl
  | 0, f' + 1, n, x, h1, _ => by
    have e : x = [] := List.eq_nil_of_length_eq_zero (by omega)
    subst e
    simp [cutG]
  | f + 1, 0, n, x, _, h1 => by
    have e : x = [] := List.eq_nil_of_length_eq_zero (by omega)
    subst e
    simp [cutG]
  | f + 1, f' + 1, n, x, h1, h2 => by
    have hn := h n
    have ih := cutG_fuel h f f' (n + 1) (x.drop (rm W L n)) (by rw [List.length_drop]; omega) (by rw [List.length_drop]; omega)
    simp only [cutG, ih]
theorem cutG_le (h : ∀ n, 1 ≤ rm W L n) {n : Nat} {x : List Nat} (hx : x.length ≤ rm W L n) : cutG W L x.length n x = ([], x) := by
  cases e : x.length with
  | zero => rfl
  | succ f => simp only [cutG]; rw [if_neg (by omega)]
theorem cutG_gt (h : ∀ n, 1 ≤ rm W L n) {n : Nat} {x : List Nat} (hx : rm W L n < x.length) :
    cutG W L x.length n x = ((L n ++ x.take (rm W L n)) :: (cutG W L (x.drop (rm W L n)).length (n + 1) (x.drop (rm W L n))).1, (cutG W L (x.drop (rm W L n)).length (n + 1) (x.drop (rm W L n))).2) := by
  have hn := h n
  cases e : x.length with
  | zero => omega
  | succ f =>
    have ih := cutG_fuel h f (x.drop (rm W L n)).length (n + 1) (x.drop (rm W L n)) (by rw [List.length_drop]; omega) (Nat.le_refl _)
    simp only [cutG]
    rw [if_pos (by omega), ih]
/-- what holds of a row that is begun, of a word -/
theorem fill_both (h : ∀ n, 1 ≤ rm W L n) : ∀ ws : List (List Nat), (∀ x ∈ ws, x ≠ []) →
    (∀ (n : Nat) (b : List Nat), b ≠ [] → ∃ rs, out W L n b ws = (L n ++ (grab (rm W L n) b ws).1) :: rs ∧ Rr W L rs (n + 1) (grab (rm W L n) b ws).2)
  | [], _, n, b, hb => ⟨[], by simp [out, grab, hb], by simp [grab, Rr]⟩
  | x :: xs, hw, n, b, hb => by
    have ih := fill_both h xs fun y m => hw y (List.mem_cons_of_mem _ m)
    have hx := hw x (List.mem_cons_self ..)
    -- a word at the begin of a row
    have word : ∀ (k : Nat) (y : List Nat) (n : Nat), y.length ≤ k → y ≠ [] → Rr W L ((cutG W L y.length n y).1 ++ out W L (n + (cutG W L y.length n y).1.length) (cutG W L y.length n y).2 xs) n (y :: xs) := by
      intro k
      induction k with
      | zero => intro y n h1 h2; exact absurd (List.eq_nil_of_length_eq_zero (by omega)) h2
      | succ k ihk =>
        intro y n h1 h2
        have hn := h n
        by_cases hy : rm W L n < y.length
        · rw [cutG_gt h hy]
          have hd : y.drop (rm W L n) ≠ [] := fun z => by
            have := congrArg List.length z
            rw [List.length_drop] at this
            simp at this
            omega
          have := ihk (y.drop (rm W L n)) (n + 1) (by rw [List.length_drop]; omega) hd
          show Rr W L ((L n ++ y.take (rm W L n)) :: _) n (y :: xs)
          simp only [Rr]
          rw [if_pos hy]
          refine ⟨trivial, ?_⟩
          rw [List.length_cons]
          have e9 : n + ((cutG W L (y.drop (rm W L n)).length (n + 1) (y.drop (rm W L n))).1.length + 1) = n + 1 + (cutG W L (y.drop (rm W L n)).length (n + 1) (y.drop (rm W L n))).1.length := by omega
          rw [e9]
          exact this
        · rw [cutG_le h (by omega)]
          obtain ⟨rs, e, hr⟩ := ih n y h2
          show Rr W L (out W L n y xs) n (y :: xs)
          rw [e]
          simp only [Rr]
          rw [if_neg hy]
          exact ⟨trivial, hr⟩
    by_cases c : b.length + 1 + x.length ≤ rm W L n
    · obtain ⟨rs, e, hr⟩ := ih n (b ++ 32 :: x) (by simp)
      refine ⟨rs, ?_, ?_⟩
      · simp only [out, grab]
        rw [if_pos ⟨hb, c⟩, if_pos c, e]
      · simp only [grab]
        rw [if_pos c]
        exact hr
    · refine ⟨(cutG W L x.length (n + 1) x).1 ++ out W L (n + 1 + (cutG W L x.length (n + 1) x).1.length) (cutG W L x.length (n + 1) x).2 xs, ?_, ?_⟩
      · simp only [out, grab]
        rw [if_neg (fun z => c z.2), if_neg hb, if_neg c]
      · simp only [grab]
        rw [if_neg c]
        exact word x.length x (n + 1) (Nat.le_refl _) hx
theorem word_R (h : ∀ n, 1 ≤ rm W L n) {xs : List (List Nat)} (hw : ∀ x ∈ xs, x ≠ []) : ∀ (k : Nat) (y : List Nat) (n : Nat), y.length ≤ k → y ≠ [] → Rr W L ((cutG W L y.length n y).1 ++ out W L (n + (cutG W L y.length n y).1.length) (cutG W L y.length n y).2 xs) n (y :: xs) := by
  intro k
  induction k with
  | zero => intro y n h1 h2; exact absurd (List.eq_nil_of_length_eq_zero (by omega)) h2
  | succ k ihk =>
    intro y n h1 h2
    have hn := h n
    by_cases hy : rm W L n < y.length
    · rw [cutG_gt h hy]
      have hd : y.drop (rm W L n) ≠ [] := fun z => by
        have := congrArg List.length z
        rw [List.length_drop] at this
        simp at this
        omega
      have := ihk (y.drop (rm W L n)) (n + 1) (by rw [List.length_drop]; omega) hd
      show Rr W L ((L n ++ y.take (rm W L n)) :: _) n (y :: xs)
      simp only [Rr]
      rw [if_pos hy]
      refine ⟨trivial, ?_⟩
      rw [List.length_cons]
      have e9 : n + ((cutG W L (y.drop (rm W L n)).length (n + 1) (y.drop (rm W L n))).1.length + 1) = n + 1 + (cutG W L (y.drop (rm W L n)).length (n + 1) (y.drop (rm W L n))).1.length := by omega
      rw [e9]
      exact this
    · rw [cutG_le h (by omega)]
      obtain ⟨rs, e, hr⟩ := fill_both h xs hw n y h2
      show Rr W L (out W L n y xs) n (y :: xs)
      rw [e]
      simp only [Rr]
      rw [if_neg hy]
      exact ⟨trivial, hr⟩
/-- the rows of words are what they must be -/
theorem fill_R (h : ∀ n, 1 ≤ rm W L n) {ws : List (List Nat)} (hw : ∀ x ∈ ws, x ≠ []) : Rr W L (out W L 0 [] ws) 0 ws := by
  cases ws with
  | nil => simp [out, Rr]
  | cons x xs =>
    simp only [out]
    rw [if_neg (fun z => z.1 rfl), if_pos trivial]
    exact word_R h (fun y m => hw y (List.mem_cons_of_mem _ m)) x.length x 0 (Nat.le_refl _) (hw x (List.mem_cons_self ..))
/-! ### what rows are like -/
/-- signs that a word has -/
def NB (x : List Nat) : Prop := ∀ c ∈ x, 32 < c ∧ c < 128
/-- begins and ends with no blank -/
structure Ends (x : List Nat) : Prop where
  ne : x ≠ []
  hd : ∀ c, x.head? = some c → c ≠ 32
  lt : ∀ c, x.getLast? = some c → c ≠ 32
  ok : ∀ c ∈ x, c < 128
theorem NB.ends {x : List Nat} (h : NB x) (hne : x ≠ []) : Ends x := ⟨hne, fun c e => by
    have := (h c (List.mem_of_mem_head? e)).1
    omega, fun c e => by
    have := (h c (List.mem_of_mem_getLast? e)).1
    omega, fun c m => (h c m).2⟩
theorem Ends.cat {b x : List Nat} (h : Ends b) (h2 : Ends x) : Ends (b ++ 32 :: x) := by
  refine ⟨by simp, fun c e => ?_, fun c e => ?_, fun c m => ?_⟩
  · cases b with
    | nil => exact absurd rfl h.ne
    | cons a b => exact h.hd c e
  · rw [List.getLast?_append, List.getLast?_cons] at e
    have hx := h2.ne
    cases e2 : x.getLast? with
    | none => exact absurd (List.getLast?_eq_none_iff.mp e2) hx
    | some d =>
      rw [e2] at e
      simp at e
      subst e
      exact h2.lt d e2
  · rcases List.mem_append.mp m with m | m
    · exact h.ok c m
    · rcases List.mem_cons.mp m with e | m
      · omega
      · exact h2.ok c m
/-- the pieces' and the rest's make -/
theorem cutG_all (h : ∀ n, 1 ≤ rm W L n) (hW : ∀ n, rm W L n ≤ W) {P : List Nat → Prop} : ∀ (k : Nat) (y : List Nat) (n : Nat), y.length ≤ k → y ≠ [] → NB y → (∀ n z, NB z → z ≠ [] → z.length ≤ rm W L n → P (L n ++ z)) →
    (∀ r ∈ (cutG W L y.length n y).1, P r) ∧ NB (cutG W L y.length n y).2 ∧ (cutG W L y.length n y).2 ≠ [] ∧ (cutG W L y.length n y).2.length ≤ rm W L (n + (cutG W L y.length n y).1.length) ∧ (cutG W L y.length n y).1.length + (cutG W L y.length n y).2.length ≤ y.length := by
  intro k
  induction k with
  | zero => intro y n h1 h2; exact absurd (List.eq_nil_of_length_eq_zero (by omega)) h2
  | succ k ih =>
    intro y n h1 h2 hy hP
    have hn := h n
    by_cases c : rm W L n < y.length
    · rw [cutG_gt h c]
      have hd : y.drop (rm W L n) ≠ [] := fun z => by
        have := congrArg List.length z
        rw [List.length_drop] at this
        simp at this
        omega
      have hnb : NB (y.drop (rm W L n)) := fun z m => hy z (List.mem_of_mem_drop m)
      obtain ⟨i1, i2, i3, i4, i5⟩ := ih (y.drop (rm W L n)) (n + 1) (by rw [List.length_drop]; omega) hd hnb hP
      have hlen : (y.drop (rm W L n)).length = y.length - rm W L n := List.length_drop
      refine ⟨fun r m => ?_, i2, i3, ?_, ?_⟩
      · rcases List.mem_cons.mp m with e | m
        · subst e
          refine hP n _ (fun z m => hy z (List.mem_of_mem_take m)) (fun z => ?_) (by rw [List.length_take]; omega)
          have := congrArg List.length z
          rw [List.length_take, List.length_nil] at this
          omega
        · exact i1 r m
      · show _ ≤ rm W L (n + (_ :: _ : List (List Nat)).length)
        rw [List.length_cons]
        have e9 : n + ((cutG W L (y.drop (rm W L n)).length (n + 1) (y.drop (rm W L n))).1.length + 1) = n + 1 + (cutG W L (y.drop (rm W L n)).length (n + 1) (y.drop (rm W L n))).1.length := by omega
        rw [e9]
        exact i4
      · show (_ :: _ : List (List Nat)).length + _ ≤ _
        rw [List.length_cons]
        show _ + 1 + (cutG W L (y.drop (rm W L n)).length (n + 1) (y.drop (rm W L n))).2.length ≤ _
        omega
    · rw [cutG_le h (by omega)]
      exact ⟨fun r m => (by cases m), hy, h2, by show y.length ≤ rm W L (n + 0); rw [Nat.add_zero]; omega, by show 0 + y.length ≤ y.length; omega⟩
def sumL : List (List Nat) → Nat
  | [] => 0
  | x :: xs => x.length + 1 + sumL xs
/-- all rows -/
theorem out_all (h : ∀ n, 1 ≤ rm W L n) (hW : ∀ n, rm W L n ≤ W) {P : List Nat → Prop} (hP : ∀ n z, Ends z → z.length ≤ rm W L n → P (L n ++ z)) : ∀ (ws : List (List Nat)) (n : Nat) (b : List Nat), (∀ x ∈ ws, NB x ∧ x ≠ []) → (b ≠ [] → Ends b ∧ b.length ≤ rm W L n) →
    (∀ r ∈ out W L n b ws, P r) ∧ (out W L n b ws).length ≤ sumL ws + 1
  | [], n, b, _, hb => by
    simp only [out]
    by_cases c : b = []
    · rw [if_pos c]
      exact ⟨fun r m => (by cases m), by simp⟩
    · rw [if_neg c]
      refine ⟨fun r m => ?_, by simp⟩
      rw [List.mem_singleton.mp m]
      exact hP n b (hb c).1 (hb c).2
  | x :: xs, n, b, hw, hb => by
    have hx := hw x (List.mem_cons_self ..)
    have hxs := fun y m => hw y (List.mem_cons_of_mem _ m)
    simp only [out, sumL]
    by_cases c : b ≠ [] ∧ b.length + 1 + x.length ≤ rm W L n
    · rw [if_pos c]
      obtain ⟨i1, i2⟩ := out_all h hW hP xs n (b ++ 32 :: x) hxs fun _ => ⟨(hb c.1).1.cat (hx.1.ends hx.2), by rw [List.length_append, List.length_cons]; omega⟩
      exact ⟨i1, by omega⟩
    · rw [if_neg c]
      have cu := fun m => cutG_all h hW (P := P) x.length x m (Nat.le_refl _) hx.2 hx.1 fun n z hz hz0 hzl => hP n z (hz.ends hz0) hzl
      by_cases d : b = []
      · rw [if_pos d]
        obtain ⟨c1, c2, c3, c4, c5⟩ := cu n
        obtain ⟨i1, i2⟩ := out_all h hW hP xs (n + (cutG W L x.length n x).1.length) (cutG W L x.length n x).2 hxs fun _ => ⟨c2.ends c3, c4⟩
        have : 1 ≤ (cutG W L x.length n x).2.length := by
          cases e : (cutG W L x.length n x).2 with
          | nil => exact absurd e c3
          | cons a l => simp
        refine ⟨fun r m => ?_, by rw [List.length_append]; omega⟩
        rcases List.mem_append.mp m with m | m
        · exact c1 r m
        · exact i1 r m
      · rw [if_neg d]
        obtain ⟨c1, c2, c3, c4, c5⟩ := cu (n + 1)
        obtain ⟨i1, i2⟩ := out_all h hW hP xs (n + 1 + (cutG W L x.length (n + 1) x).1.length) (cutG W L x.length (n + 1) x).2 hxs fun _ => ⟨c2.ends c3, c4⟩
        have : 1 ≤ (cutG W L x.length (n + 1) x).2.length := by
          cases e : (cutG W L x.length (n + 1) x).2 with
          | nil => exact absurd e c3
          | cons a l => simp
        refine ⟨fun r m => ?_, by rw [List.length_cons, List.length_append]; omega⟩
        rcases List.mem_cons.mp m with e | m
        · subst e
          exact hP n b (hb d).1 (hb d).2
        · rcases List.mem_append.mp m with m | m
          · exact c1 r m
          · exact i1 r m

/-! ### mirrors of these -/
theorem cut_while {c : List (List Nat) × List Nat × Int → Option Bool} {f : List (List Nat) × List Nat × Int → Option (Fw Unit (List (List Nat) × List Nat × Int))} {B : Nat} (h : ∀ n, 1 ≤ rm W L n)
    (hc : ∀ s, c s = some (decide (s.2.2 < (s.2.1.length : Int))))
    (hf : ∀ (rows : List (List Nat)) (word : List Nat), rows.length + word.length ≤ B → rm W L rows.length < word.length →
      f (rows, word, (rm W L rows.length : Int)) = some (.nx (rows ++ [L rows.length ++ word.take (rm W L rows.length)], word.drop (rm W L rows.length), (rm W L (rows.length + 1) : Int)))) :
    ∀ (k : Nat) (rows : List (List Nat)) (word : List Nat), word.length ≤ k → rows.length + word.length ≤ B →
      ∃ z, whileN c f (k + 1) (rows, word, (rm W L rows.length : Int)) = some (.nx (rows ++ (cutG W L word.length rows.length word).1, (cutG W L word.length rows.length word).2, z)) := by
  intro k
  induction k with
  | zero =>
    intro rows word hk hB
    have e : word = [] := List.eq_nil_of_length_eq_zero (by omega)
    subst e
    refine ⟨(rm W L rows.length : Int), (whileF ?_).trans ?_⟩
    · rw [hc]
      exact congrArg some (decF (by simp))
    · simp [cutG]
  | succ k ih =>
    intro rows word hk hB
    have hn := h rows.length
    by_cases hy : rm W L rows.length < word.length
    · obtain ⟨z, e⟩ := ih (rows ++ [L rows.length ++ word.take (rm W L rows.length)]) (word.drop (rm W L rows.length)) (by rw [List.length_drop]; omega) (by rw [List.length_drop, List.length_append, List.length_singleton]; omega)
      refine ⟨z, whileT ?_ (hf rows word hB hy) ?_⟩
      · rw [hc]
        congr 1
        exact decT (by show (rm W L rows.length : Int) < (word.length : Int); omega)
      · rw [List.length_append, List.length_singleton] at e
        rw [e, cutG_gt h hy, List.append_assoc]
        rfl
    · refine ⟨(rm W L rows.length : Int), (whileF ?_).trans ?_⟩
      · rw [hc]
        congr 1
        exact decF (by show ¬(rm W L rows.length : Int) < (word.length : Int); omega)
      · rw [cutG_le h (by omega), List.append_nil]
theorem fill_loop {f : List Nat × List (List Nat) → List Nat → Option (Fw Unit (List Nat × List (List Nat)))} {P : List Nat → Prop} {B : Nat} (h : ∀ n, 1 ≤ rm W L n) (hW : ∀ n, rm W L n ≤ W) (hP : ∀ n z, Ends z → z.length ≤ rm W L n → P (L n ++ z))
    (hf1 : ∀ b rows x, b ≠ [] → x.length ≤ B → b.length + 1 + x.length ≤ rm W L rows.length → f (b, rows) x = some (.nx (b ++ 32 :: x, rows)))
    (hf2 : ∀ rows x, NB x → x ≠ [] → (∀ r ∈ rows, P r) → (∀ r ∈ rows ++ (cutG W L x.length rows.length x).1, P r) → rows.length + x.length + 1 ≤ B → f ([], rows) x = some (.nx ((cutG W L x.length rows.length x).2, rows ++ (cutG W L x.length rows.length x).1)))
    (hf3 : ∀ b rows x, b ≠ [] → P (L rows.length ++ b) → b.length ≤ rm W L rows.length → NB x → x ≠ [] → ¬(b.length + 1 + x.length ≤ rm W L rows.length) → (∀ r ∈ rows, P r) → (∀ r ∈ (rows ++ [L rows.length ++ b]) ++ (cutG W L x.length (rows.length + 1) x).1, P r) → rows.length + x.length + 2 ≤ B →
      f (b, rows) x = some (.nx ((cutG W L x.length (rows.length + 1) x).2, (rows ++ [L rows.length ++ b]) ++ (cutG W L x.length (rows.length + 1) x).1))) :
    ∀ (ws : List (List Nat)) (b : List Nat) (rows : List (List Nat)), (∀ x ∈ ws, NB x ∧ x ≠ []) → (b ≠ [] → Ends b ∧ b.length ≤ rm W L rows.length) → (∀ r ∈ rows, P r) → rows.length + sumL ws + 2 ≤ B →
      ∃ b' rows', loop f ws (b, rows) = some (.nx (b', rows')) ∧ rows' ++ (if b' = [] then [] else [L rows'.length ++ b']) = rows ++ out W L rows.length b ws ∧ (b' ≠ [] → Ends b' ∧ b'.length ≤ rm W L rows'.length) ∧ (∀ r ∈ rows', P r) ∧ rows'.length ≤ rows.length + sumL ws + 1
  | [], b, rows, _, hb, hr, _ => ⟨b, rows, rfl, by simp only [out], hb, hr, by omega⟩
  | x :: xs, b, rows, hw, hb, hr, hB => by
    have hx := hw x (List.mem_cons_self ..)
    have hxs := fun y m => hw y (List.mem_cons_of_mem _ m)
    have es : sumL (x :: xs) = x.length + 1 + sumL xs := rfl
    have cu := fun m => cutG_all h hW (P := P) x.length x m (Nat.le_refl _) hx.2 hx.1 fun n z hz hz0 hzl => hP n z (hz.ends hz0) hzl
    by_cases c : b ≠ [] ∧ b.length + 1 + x.length ≤ rm W L rows.length
    · obtain ⟨b', rows', e, e2, e3, e4, e5⟩ := fill_loop h hW hP hf1 hf2 hf3 xs (b ++ 32 :: x) rows hxs (fun _ => ⟨(hb c.1).1.cat (hx.1.ends hx.2), by rw [List.length_append, List.length_cons]; omega⟩) hr (by omega)
      refine ⟨b', rows', loopE (hf1 b rows x c.1 (by omega) c.2) e, ?_, e3, e4, by omega⟩
      rw [e2]
      simp only [out]
      rw [if_pos c]
    · by_cases d : b = []
      · subst d
        obtain ⟨c1, c2, c3, c4, c5⟩ := cu rows.length
        have hr' : ∀ r ∈ rows ++ (cutG W L x.length rows.length x).1, P r := fun r m => (List.mem_append.mp m).elim (hr r) (c1 r)
        obtain ⟨b', rows', e, e2, e3, e4, e5⟩ := fill_loop h hW hP hf1 hf2 hf3 xs (cutG W L x.length rows.length x).2 (rows ++ (cutG W L x.length rows.length x).1) hxs (fun _ => ⟨c2.ends c3, by rw [List.length_append]; exact c4⟩) hr' (by rw [List.length_append]; omega)
        refine ⟨b', rows', loopE (hf2 rows x hx.1 hx.2 hr hr' (by omega)) e, ?_, e3, e4, by rw [List.length_append] at e5; omega⟩
        rw [e2]
        simp only [out]
        rw [if_neg c, if_pos trivial, List.append_assoc, List.length_append]
      · obtain ⟨c1, c2, c3, c4, c5⟩ := cu (rows.length + 1)
        have hbP := hP rows.length b (hb d).1 (hb d).2
        have hr' : ∀ r ∈ (rows ++ [L rows.length ++ b]) ++ (cutG W L x.length (rows.length + 1) x).1, P r := fun r m => (List.mem_append.mp m).elim (fun m => (List.mem_append.mp m).elim (hr r) (fun m => by rw [List.mem_singleton.mp m]; exact hbP)) (c1 r)
        have hl1 : ((rows ++ [L rows.length ++ b]) ++ (cutG W L x.length (rows.length + 1) x).1).length = rows.length + 1 + (cutG W L x.length (rows.length + 1) x).1.length := by rw [List.length_append, List.length_append, List.length_singleton]
        obtain ⟨b', rows', e, e2, e3, e4, e5⟩ := fill_loop h hW hP hf1 hf2 hf3 xs (cutG W L x.length (rows.length + 1) x).2 ((rows ++ [L rows.length ++ b]) ++ (cutG W L x.length (rows.length + 1) x).1) hxs (fun _ => ⟨c2.ends c3, by rw [hl1]; exact c4⟩) hr' (by rw [hl1]; omega)
        refine ⟨b', rows', loopE (hf3 b rows x d hbP (hb d).2 hx.1 hx.2 (fun z => c ⟨d, z⟩) hr hr' (by omega)) e, ?_, e3, e4, by rw [hl1] at e5; omega⟩
        rw [e2, hl1]
        simp only [out]
        rw [if_neg c, if_neg d, List.append_assoc, List.append_assoc]
        rfl
theorem grab_while {c : List Nat × List (List Nat) → Option Bool} {f : List Nat × List (List Nat) → Option (Fw Unit (List Nat × List (List Nat)))} {r : Nat} (hr : r ≤ 100000)
    (hc0 : ∀ due, c (due, []) = some false) (hc1 : ∀ due x xs, (∀ y ∈ x :: xs, OkS y) → c (due, x :: xs) = some (decide ((due.length : Int) + 1 + (x.length : Int) ≤ (r : Int))))
    (hf : ∀ due x xs, due.length + 1 + x.length ≤ r → f (due, x :: xs) = some (.nx (due ++ 32 :: x, xs))) :
    ∀ (xs : List (List Nat)) (k : Nat) (due : List Nat), (∀ y ∈ xs, OkS y) → xs.length ≤ k → whileN c f (k + 1) (due, xs) = some (.nx (grab r due xs))
  | [], k, due, _, _ => by
    rw [whileF (hc0 due)]
    rfl
  | x :: xs, k, due, hx, hk => by
    by_cases d : due.length + 1 + x.length ≤ r
    · cases k with
      | zero => simp at hk
      | succ k =>
        refine whileT (by rw [hc1 due x xs hx]; congr 1; exact decT (by omega)) (hf due x xs d) ?_
        rw [grab_while hr hc0 hc1 hf xs k _ (fun y m => hx y (List.mem_cons_of_mem _ m)) (by simp at hk; omega)]
        simp only [grab]
        rw [if_pos d]
    · rw [whileF (by rw [hc1 due x xs hx]; congr 1; exact decF (by omega))]
      simp only [grab]
      rw [if_neg d]
theorem grab_sub (r : Nat) : ∀ (xs : List (List Nat)) (due : List Nat), ∀ y ∈ (grab r due xs).2, y ∈ xs
  | [], _, y, m => by cases m
  | x :: xs, due, y, m => by
    simp only [grab] at m
    by_cases d : due.length + 1 + x.length ≤ r
    · rw [if_pos d] at m
      exact List.mem_cons_of_mem _ (grab_sub r xs _ y m)
    · rw [if_neg d] at m
      exact m
theorem rows_loop {f : List (List Nat) → Int × List Nat → Option (Fw Bool (List (List Nat)))}
    (hf1 : ∀ n x xs, (∀ y ∈ x :: xs, OkS y) → rm W L n < x.length → f (x :: xs) ((n : Int), L n ++ x.take (rm W L n)) = some (.nx (x.drop (rm W L n) :: xs)))
    (hf2 : ∀ n x xs, (∀ y ∈ x :: xs, OkS y) → ¬(rm W L n < x.length) → f (x :: xs) ((n : Int), L n ++ (grab (rm W L n) x xs).1) = some (.nx (grab (rm W L n) x xs).2)) :
    ∀ (rows : List (List Nat)) (n : Nat) (left : List (List Nat)), (∀ y ∈ left, OkS y) → Rr W L rows n left → loop f (enumFrom n rows) left = some (.nx [])
  | [], n, left, _, h => by
    have e : left = [] := h
    subst e
    rfl
  | r :: rs, n, [], _, h => h.elim
  | r :: rs, n, x :: xs, ho, h => by
    simp only [Rr] at h
    by_cases c : rm W L n < x.length
    · rw [if_pos c] at h
      obtain ⟨rfl, h2⟩ := h
      refine loopE (hf1 n x xs ho c) (rows_loop hf1 hf2 rs (n + 1) _ (fun y m => ?_) h2)
      rcases List.mem_cons.mp m with e | m
      · subst e
        have := ho x (List.mem_cons_self ..)
        exact ⟨Nat.le_trans (by rw [List.length_drop]; omega) this.1, fun c m => this.2 c (List.mem_of_mem_drop m)⟩
      · exact ho y (List.mem_cons_of_mem _ m)
    · rw [if_neg c] at h
      obtain ⟨rfl, h2⟩ := h
      exact loopE (hf2 n x xs ho c) (rows_loop hf1 hf2 rs (n + 1) _ (fun y m => ho y (List.mem_cons_of_mem _ (grab_sub _ xs x y m))) h2)
end
end Lm
namespace Law
open PySem PySem.Spec PyProof.Rows L2 Lm
def top (i : Nat) : Stmt := PySem.Challenge.pw_lightmark_k08_whole_filled.main.body.getD i (.Pass ⟨0, 0, 0, 0⟩)

structure Top (K : PySem.W.Frag) (mg : Str → Option Value) : Prop where
  b_bool : mg "bool" = none
  b_enumerate : mg "enumerate" = none
  b_int : mg "int" = none
  b_isinstance : mg "isinstance" = none
  b_len : mg "len" = none
  b_list : mg "list" = none
  b_max : mg "max" = none
  b_min : mg "min" = none
  b_range : mg "range" = none
  b_str : mg "str" = none

section
variable {P : Program} {w : World} {K : PySem.W.Frag} {mg : Str → Option Value} {base : Heap}
/-! _law_lead -/
abbrev s__law_lead : Stmt := top 8
abbrev N__law_lead : List Str := ["_law_kind", "_law_wide", "_law_number"]
theorem sc__law_lead : FnScope N__law_lead ["_law_kind", "_law_wide", "_law_number"] (defScope s__law_lead) := ⟨rfl, rfl, rfl, by decide +kernel, rfl, by decide +kernel, by decide +kernel⟩
def m__law_lead (x__law_kind : Int) (x__law_wide : Int) (x__law_number : Int) : Option (List Nat) := cnd (decide (x__law_kind = (0 : Int))) (some []) (cnd (decide (x__law_kind = (1 : Int))) ((repS [43] x__law_wide).bind fun c19 => some c19) (cnd (decide (x__law_kind = (2 : Int))) ((repS [45] x__law_wide).bind fun c26 => (repS [32] x__law_wide).bind fun c27 => (ixO ([c26, c27] : List (List Nat)) (if (decide ((0 : Int) < x__law_number)) = true then (1 : Int) else 0)).bind fun c28 => some c28) ((mulO (5 : Int) x__law_number).bind fun c32 => (modO (x__law_wide + c32) (x__law_wide + (1 : Int))).bind fun c33 => (repS [62] c33).bind fun c34 => some c34)))
def P__law_lead (As : List Ar) (C : Ar) : Prop := ∃ (x__law_kind : Int) (x__law_wide : Int) (x__law_number : Int) (r : List Nat), As = [val rInt x__law_kind, val rInt x__law_wide, val rInt x__law_number] ∧ m__law_lead x__law_kind x__law_wide x__law_number = some r ∧ C = val rS r
theorem ok__law_lead (T : Top K mg) (D : Df K mg "_law_lead" s__law_lead)  : Cal P w K mg base 1 "_law_lead" ["_law_kind", "_law_wide", "_law_number"] (spG (P__law_lead)) := by
  have SC := sc__law_lead
  refine cal_of (N := N__law_lead) D SC (fun _ _ _ _ _ _ us hl => match us, hl with | [_, _, _], _ => rfl) (fun vs H Q E h => ?_) (fun f cdv A outer s H vs Q E hr h => ?_)
  · obtain ⟨F0, As, C, ⟨x__law_kind, x__law_wide, x__law_number, r, rfl, h, rfl⟩, e0, ha, k⟩ := h
    exact alla_len ha
  · obtain ⟨F0, As, C, ⟨x__law_kind, x__law_wide, x__law_number, r, rfl, h, rfl⟩, e0, ha, k⟩ := h
    obtain ⟨v__law_kind, v__law_wide, v__law_number, rfl, f__law_kind, f__law_wide, f__law_number⟩ := alla3 ha
    refine ⟨_, (pss_cons (ps_if (pt_cmpR op_eq (pv 0) pe_int (nomark _)) (pss_one (ps_ret pe_str)) pss_nil) (pss_cons (ps_if (pt_cmpR op_eq (pv 0) pe_int (nomark _)) (pss_one (ps_ret (pe_op op_xRepS pe_str (pv 1)))) pss_nil) (pss_cons (ps_if (pt_cmpR op_eq (pv 0) pe_int (nomark _)) (pss_one (ps_ret (pe_ix ix_list (pe_lst (pa_cons (pe_op op_xRepS pe_str (pv 1)) (pa_cons (pe_op op_xRepS pe_str (pv 1)) pa_nil))) (pe_callTy call_cInt (by rfl) T.b_int (by decide +kernel) (pa_cons (pe_cmpR op_xGt (pv 2) pe_int (nomark _)) pa_nil)) (fun _ _ => rfl)))) pss_nil) (pss_one (ps_ret (pe_op op_xRepS pe_str (pe_op op_xMod (pe_op op_xAdd (pv 1) (pe_op op_xMul pe_int (pv 2))) (pe_op op_xAdd (pv 1) pe_int)))))))), ?_⟩
    refine (show Sx ⟨F0, H, none⟩ _ _ [some v__law_kind, some v__law_wide, some v__law_number] F0 [] from ?_) H (At.start e0)
    have f__law_kind : (rInt).rp x__law_kind v__law_kind F0 := f__law_kind
    have f__law_wide : (rInt).rp x__law_wide v__law_wide F0 := f__law_wide
    have f__law_number : (rInt).rp x__law_number v__law_number F0 := f__law_number
    refine sx_seq (sx_if (et_b (ev_op (ev_v (R := rInt) rfl f__law_kind) ev_i o_eqI)) (fun z10 Fs11 s11 => ?_) (fun z10 Fs12 s12 => ?_))
    · have h := cnd_t h z10
      obtain rfl := Option.some.inj h
      refine sx_ret (R := rS) (ev_s (l := []) (by decide +kernel) (by decide +kernel)) fun v13 Fs14 s14 f15 => ?_
      exact rt_val k (fun _ => f15)
    · have h := cnd_f h z10
      refine sx_next ?_
      refine nx_of ?_
      refine sx_seq (sx_if (et_b (ev_op (ev_v (R := rInt) rfl (Rep.mono rInt s12 f__law_kind)) ev_i o_eqI)) (fun z16 Fs17 s17 => ?_) (fun z16 Fs18 s18 => ?_))
      · have h := cnd_t h z16
        obtain ⟨c19, hc19, h⟩ := bsome h
        obtain rfl := Option.some.inj h
        refine sx_ret (R := rS) (ev_op (ev_cs (ev_ch (c := 43) (by decide +kernel) (by decide))) (ev_v (R := rInt) rfl (Rep.mono rInt (s12.trans s17) f__law_wide)) (o_repS hc19)) fun v20 Fs21 s21 f22 => ?_
        exact rt_val k (fun _ => f22)
      · have h := cnd_f h z16
        refine sx_next ?_
        refine nx_of ?_
        refine sx_seq (sx_if (et_b (ev_op (ev_v (R := rInt) rfl (Rep.mono rInt (s12.trans s18) f__law_kind)) ev_i o_eqI)) (fun z23 Fs24 s24 => ?_) (fun z23 Fs25 s25 => ?_))
        · have h := cnd_t h z23
          obtain ⟨c26, hc26, h⟩ := bsome h
          obtain ⟨c27, hc27, h⟩ := bsome h
          obtain ⟨c28, hc28, h⟩ := bsome h
          obtain rfl := Option.some.inj h
          refine sx_ret (R := rS) (ev_op (ev_nspn (ev_lst (R := rS) (as := [c26, c27]) (ea_cons (ev_op (ev_cs (ev_ch (c := 45) (by decide +kernel) (by decide))) (ev_v (R := rInt) rfl (Rep.mono rInt ((s12.trans s18).trans s24) f__law_wide)) (o_repS hc26)) (ea_cons (ev_op (ev_cs (ev_ch (c := 32) (by decide +kernel) (by decide))) (ev_v (R := rInt) rfl (Rep.mono rInt ((s12.trans s18).trans s24) f__law_wide)) (o_repS hc27)) ea_nil)) (show (2 : Nat) ≤ limL by decide))) (ev_cb (ea_cons (ev_op (ev_v (R := rInt) rfl (Rep.mono rInt ((s12.trans s18).trans s24) f__law_number)) ev_i o_gt) ea_nil) b_intB) (o_ixL hc28)) fun v29 Fs30 s30 f31 => ?_
          exact rt_val k (fun _ => f31)
        · have h := cnd_f h z23
          refine sx_next ?_
          refine nx_of ?_
          obtain ⟨c32, hc32, h⟩ := bsome h
          obtain ⟨c33, hc33, h⟩ := bsome h
          obtain ⟨c34, hc34, h⟩ := bsome h
          obtain rfl := Option.some.inj h
          refine sx_ret (R := rS) (ev_op (ev_cs (ev_ch (c := 62) (by decide +kernel) (by decide))) (ev_op (ev_op (ev_v (R := rInt) rfl (Rep.mono rInt ((s12.trans s18).trans s25) f__law_wide)) (ev_op ev_i (ev_v (R := rInt) rfl (Rep.mono rInt ((s12.trans s18).trans s25) f__law_number)) (o_mulO hc32)) o_add) (ev_op (ev_v (R := rInt) rfl (Rep.mono rInt ((s12.trans s18).trans s25) f__law_wide)) ev_i o_add) (o_modO hc33)) (o_repS hc34)) fun v35 Fs36 s36 f37 => ?_
          exact rt_val k (fun _ => f37)

/-! _law_lead_here -/
abbrev s__law_lead_here : Stmt := (defBody (top 10)).getD 0 (.Pass ⟨0, 0, 0, 0⟩)
abbrev N__law_lead_here : List Str := ["_law_number", "_law_kind", "_law_numbers", "_law_wide"]
theorem sc__law_lead_here : NdefX.NScope N__law_lead_here ["_law_number"] ["_law_kind", "_law_numbers", "_law_wide"] (defScope s__law_lead_here) := NdefX.nscope_by (by decide +kernel)
theorem nd__law_lead_here : NdefX.ndefB (defScope (top 10)) (defScope s__law_lead_here) ["_law_kind", "_law_numbers", "_law_wide"] = true := by decide +kernel
def m__law_lead_here (x__law_number : Int) (x__law_kind : Int) (x__law_numbers : List (Int)) (x__law_wide : Int) : Option ((List Nat) × ((List (Int)))) := (appO x__law_numbers x__law_number).bind fun y10 => (m__law_lead (x__law_kind) (x__law_wide) (x__law_number)).bind fun r15 => some (r15, y10)
def P__law_lead_here (O : Own) (As : List Ar) (C : Ar) (O' : Own) : Prop := ∃ (p__law_numbers : Addr) (x__law_number : Int) (x__law_kind : Int) (x__law_numbers : List (Int)) (x__law_wide : Int) (r : List Nat) (x9 : ((List (Int)))), O = [(p__law_numbers, (cF V.int) x__law_numbers)] ∧ OkL (fun _ => True) x__law_numbers ∧ As = [val rInt x__law_number, val rInt x__law_kind, val (rA p__law_numbers) (), val rInt x__law_wide] ∧ m__law_lead_here x__law_number x__law_kind x__law_numbers x__law_wide = some (r, x9) ∧ C = val rS r ∧ O' = [(p__law_numbers, (cF V.int) x9)]
theorem ok__law_lead_here (T : Top K mg) (G__law_lead : Cal P w K mg base 1 "_law_lead" ["_law_kind", "_law_wide", "_law_number"] (spG (P__law_lead))) : CalC P w K mg base 2 s__law_lead_here "_law_lead_here" ["_law_number"] ["_law_kind", "_law_numbers", "_law_wide"] (spC 1 (spA none (P__law_lead_here))) := by
  have SC := sc__law_lead_here
  refine calC_of (N := N__law_lead_here) SC (fun _ _ _ _ _ _ us hl => match us, hl with | [_], _ => rfl) (fun ws vs H Q E h => h.1) (fun f qual cl c' A outer s H vs ws Q E hr hl h => ?_)
  obtain ⟨hl0, h⟩ := h
  obtain ⟨F0, B0, O0, As, C, O9, ⟨p__law_numbers, x__law_number, x__law_kind, x__law_numbers, x__law_wide, r, x9, rfl, hok__law_numbers, rfl, h, rfl, rfl⟩, at0, ha, k⟩ := h
  obtain ⟨v__law_number, v__law_kind, v__law_numbers, v__law_wide, ev9, f__law_number, f__law_kind, f__law_numbers, f__law_wide⟩ := alla4 ha
  obtain ⟨rfl, rfl⟩ := List.append_inj (show vs ++ ws = [v__law_number] ++ [v__law_kind, v__law_numbers, v__law_wide] from ev9) hl0
  have f__law_numbers : v__law_numbers = V.ref p__law_numbers := f__law_numbers
  subst f__law_numbers
  refine ⟨_, (pss_cons (ps_expr (pe_bm PySem.F.plainAttrs_list PySem.F.slot_list_append PySem.F.type_list_append mt_append (pv 2) (pa_cons (pv 0) pa_nil))) (pss_one (ps_ret (pe_cal G__law_lead (hr.mono (by decide)) rfl (pa_cons (pv 1) (pa_cons (pv 3) (pa_cons (pv 0) pa_nil))))))), ?_⟩
  refine (show Sx ⟨F0, B0, none⟩ _ _ [some v__law_number, some v__law_kind, some (.ref p__law_numbers), some v__law_wide] F0 [(p__law_numbers, (cF V.int) x__law_numbers)] from ?_) H at0
  have f__law_number : (rInt).rp x__law_number v__law_number F0 := f__law_number
  have f__law_kind : (rInt).rp x__law_kind v__law_kind F0 := f__law_kind
  have f__law_wide : (rInt).rp x__law_wide v__law_wide F0 := f__law_wide
  obtain ⟨y10, hy10, h⟩ := bsome h
  obtain ⟨hz11, he12⟩ := iteo hy10
  subst he12
  refine sx_seq (sx_appF frI (n := 0) rfl rfl (flatB frI hok__law_numbers) (ev_v (R := rInt) rfl f__law_number) hz11 fun Fs13 s13 f14 => nx_of ?_)
  obtain ⟨r15, hr15, h⟩ := bsome h
  obtain ⟨rfl, rfl⟩ := Prod.mk.inj (Option.some.inj h)
  refine sx_ret (R := rS) (ev_call (P := P__law_lead) (ea_cons (ev_v (R := rInt) rfl (Rep.mono rInt s13 f__law_kind)) (ea_cons (ev_v (R := rInt) rfl (Rep.mono rInt s13 f__law_wide)) (ea_cons (ev_v (R := rInt) rfl (Rep.mono rInt s13 f__law_number)) ea_nil))) ⟨_, _, _, _, rfl, hr15, rfl⟩) fun v16 Fs17 s17 f18 => ?_
  exact rtA_val [0] k rfl (by decide) (fun _ => f18)

/-! cut_into -/
abbrev s_cut_into : Stmt := top 1
abbrev N_cut_into : List Str := ["rows", "word", "width", "lead", "room"]
theorem sc_cut_into : FnScope N_cut_into ["rows", "word", "width", "lead"] (defScope s_cut_into) := ⟨rfl, rfl, rfl, by decide +kernel, rfl, by decide +kernel, by decide +kernel⟩
def m_cut_into (x_rows : List (List Nat)) (x_word : List Nat) (x_width : Int) (x_lead : (Int × Int)) (x__law_numbers : List (Int)) : Option ((List Nat) × ((List (List Nat)) × (List (Int)))) := (m__law_lead_here ((x_rows.length : Int)) (x_lead.1) (x__law_numbers) (x_lead.2)).bind fun r10 => (grdB (okL (fun _ => true) r10.2)).bind fun g11 => lt (x_width - (r10.1.length : Int)) fun x12 => fwd (whileN (ρ := Unit) (fun (s34 : (List (List Nat)) × (List (Int)) × (List Nat) × Int) => some (decide (s34.2.2.2 < (s34.2.2.1.length : Int)))) (fun (s47 : (List (List Nat)) × (List (Int)) × (List Nat) × Int) => (m__law_lead_here ((s47.1.length : Int)) (x_lead.1) (s47.2.1) (x_lead.2)).bind fun r56 => (grdB (okL (fun _ => true) r56.2)).bind fun g57 => (catS r56.1 (cutL s47.2.2.1 none (some s47.2.2.2))).bind fun c58 => (appO s47.1 c58).bind fun y59 => lt (cutL s47.2.2.1 (some s47.2.2.2) none) fun x64 => (m__law_lead_here ((y59.length : Int)) (x_lead.1) (r56.2) (x_lead.2)).bind fun r68 => (grdB (okL (fun _ => true) r68.2)).bind fun g69 => lt (x_width - (r68.1.length : Int)) fun x70 => some (Fw.nx (y59, r68.2, x64, x70))) (List.length x_word + 1) (x_rows, r10.2, x_word, x12)) (fun (s20 : (List (List Nat)) × (List (Int)) × (List Nat) × Int) => some (s20.2.2.1, (s20.1, s20.2.1))) (fun (r : Unit) => none)
def P_cut_into (O : Own) (As : List Ar) (C : Ar) (O' : Own) : Prop := ∃ (p_rows : Addr) (p__law_numbers : Addr) (x_rows : List (List Nat)) (x_word : List Nat) (x_width : Int) (x_lead : (Int × Int)) (x__law_numbers : List (Int)) (r : List Nat) (x9 : ((List (List Nat)) × (List (Int)))), O = [(p_rows, (cF fS) x_rows), (p__law_numbers, (cF V.int) x__law_numbers)] ∧ OkL OkS x_rows ∧ OkL (fun _ => True) x__law_numbers ∧ As = [val (rA p_rows) (), val rS x_word, val rInt x_width, val (rClo s__law_lead_here "_law_lead_here" ["_law_kind", "_law_numbers", "_law_wide"] (fun (a : Int × Int) => True) (fun a => [.int a.1, .ref p__law_numbers, .int a.2])) x_lead] ∧ m_cut_into x_rows x_word x_width x_lead x__law_numbers = some (r, x9) ∧ C = val rS r ∧ O' = [(p_rows, (cF fS) x9.1), (p__law_numbers, (cF V.int) x9.2)]
theorem ok_cut_into (T : Top K mg) (D : Df K mg "cut_into" s_cut_into) (G__law_lead_here : CalC P w K mg base 2 s__law_lead_here "_law_lead_here" ["_law_number"] ["_law_kind", "_law_numbers", "_law_wide"] (spC 1 (spA none (P__law_lead_here)))) : Cal P w K mg base 3 "cut_into" ["rows", "word", "width", "lead"] (spA none (P_cut_into)) := by
  have SC := sc_cut_into
  refine cal_of (N := N_cut_into) D SC (fun _ _ _ _ _ _ us hl => match us, hl with | [_, _, _, _], _ => rfl) (fun vs H Q E h => ?_) (fun f cdv A outer s H vs Q E hr h => ?_)
  · obtain ⟨F0, B0, O0, As, C, O9, ⟨p_rows, p__law_numbers, x_rows, x_word, x_width, x_lead, x__law_numbers, r, x9, rfl, hok_rows, hok__law_numbers, rfl, h, rfl, rfl⟩, at0, ha, k⟩ := h
    exact alla_len ha
  · obtain ⟨F0, B0, O0, As, C, O9, ⟨p_rows, p__law_numbers, x_rows, x_word, x_width, x_lead, x__law_numbers, r, x9, rfl, hok_rows, hok__law_numbers, rfl, h, rfl, rfl⟩, at0, ha, k⟩ := h
    obtain ⟨v_rows, v_word, v_width, v_lead, rfl, f_rows, f_word, f_width, f_lead⟩ := alla4 ha
    have f_rows : v_rows = V.ref p_rows := f_rows
    subst f_rows
    refine ⟨_, (pss_cons (ps_set (i := 4) SC.nd rfl (Or.inl rfl) (pe_op op_xSub (pv 2) (pe_callB call_cLen (by rfl) T.b_len PySem.boot_len (pa_cons (pe_calC (i := 3) G__law_lead_here (hr.mono (by decide)) rfl (by first | exact Or.inl rfl | exact Or.inr (Or.inl rfl) | exact Or.inr (Or.inr rfl)) (pa_cons (pe_callB call_cLen (by rfl) T.b_len PySem.boot_len (pa_cons (pv 0) pa_nil)) pa_nil)) pa_nil)))) (pss_cons (ps_while PassesOwn.never (pt_cmpR op_xGt (pe_callB call_cLen (by rfl) T.b_len PySem.boot_len (pa_cons (pv 1) pa_nil)) (pv 4) (nomark _)) (pss_cons (ps_expr (pe_bm PySem.F.plainAttrs_list PySem.F.slot_list_append PySem.F.type_list_append mt_append (pv 0) (pa_cons (pe_op op_xCatS (pe_calC (i := 3) G__law_lead_here (hr.mono (by decide)) rfl (by first | exact Or.inl rfl | exact Or.inr (Or.inl rfl) | exact Or.inr (Or.inr rfl)) (pa_cons (pe_callB call_cLen (by rfl) T.b_len PySem.boot_len (pa_cons (pv 0) pa_nil)) pa_nil)) (pe_slice sl_str (pv 1) po_none (po_some (pv 4)))) pa_nil))) (pss_cons (ps_set (i := 1) SC.nd rfl (Or.inl rfl) (pe_slice sl_str (pv 1) (po_some (pv 4)) po_none)) (pss_one (ps_set (i := 4) SC.nd rfl (Or.inl rfl) (pe_op op_xSub (pv 2) (pe_callB call_cLen (by rfl) T.b_len PySem.boot_len (pa_cons (pe_calC (i := 3) G__law_lead_here (hr.mono (by decide)) rfl (by first | exact Or.inl rfl | exact Or.inr (Or.inl rfl) | exact Or.inr (Or.inr rfl)) (pa_cons (pe_callB call_cLen (by rfl) T.b_len PySem.boot_len (pa_cons (pv 0) pa_nil)) pa_nil)) pa_nil)))))))) (pss_one (ps_ret (pv 1))))), ?_⟩
    refine (show Sx ⟨F0, B0, none⟩ _ _ [some (.ref p_rows), some v_word, some v_width, some v_lead, none] F0 [(p_rows, (cF fS) x_rows), (p__law_numbers, (cF V.int) x__law_numbers)] from ?_) H at0
    have f_word : (rS).rp x_word v_word F0 := f_word
    have f_width : (rInt).rp x_width v_width F0 := f_width
    have f_lead : ((rClo s__law_lead_here "_law_lead_here" ["_law_kind", "_law_numbers", "_law_wide"] (fun (a : Int × Int) => True) (fun a => [.int a.1, .ref p__law_numbers, .int a.2]))).rp x_lead v_lead F0 := f_lead
    obtain ⟨r10, hr10, h⟩ := bsome h
    obtain ⟨g11, hg11, h⟩ := bsome h
    obtain ⟨x12, hx12, h⟩ := lt_e h
    refine sx_seq (sx_asgM (R := rInt) (evM_is (evM_op (evM_l (ev_v (R := rInt) rfl f_width)) (evM_args (T := fun t8 => tCB _ t8) (fun _ _ _ => rfl) (eaM_1 (evM_o (O2 := [(p_rows, cF fS x_rows), (p__law_numbers, cF V.int r10.2)]) (evM_clo (P := P__law_lead_here) (O0 := [(p__law_numbers, cF V.int x__law_numbers)]) (O0' := [(p__law_numbers, (cF V.int) r10.2)]) (caps := [val rInt x_lead.1, val (rA p__law_numbers) (), val rInt x_lead.2]) [1] rfl f_lead (eaM_l (ea_cons (ev_cb (ea_cons (ev_o (R := rS) rfl (List.Mem.head _) (flatB frS hok_rows)) ea_nil) b_lenL) ea_nil)) (List.forall_mem_cons.mpr ⟨fl_of (fun _ _ _ h => h), (List.forall_mem_nil _)⟩) (fun h8 _ _ => ⟨rfl, rfl, rfl, trivial⟩) ⟨_, _, _, _, _, _, _, rfl, flat_ok (F := F0) frI (flatB frI hok__law_numbers), rfl, hr10, rfl, rfl⟩ (fl_of (fun _ _ _ h => h)) rfl (by decide) rfl) rfl) ea_nil) (fun t9 F9 e9 h9 => (ev_cb h9 b_lenS))) o_sub) hx12) fun v15 Fs13 s13 f14 => nx_of ?_)
    obtain ⟨w16, hl17, hk18, hr19⟩ := fwd_o h
    refine sx_seq (sx_while (J := fun (s : (List (List Nat)) × (List (Int)) × (List Nat) × Int) σ F O => ∃ (v_word : V) (v_room : V), σ = [some (.ref p_rows), some v_word, some v_width, some v_lead, some v_room] ∧ O = [(p_rows, cF fS s.1), (p__law_numbers, cF V.int s.2.1)] ∧ AllB rS s.1 (List.map fS s.1) F ∧ (rS).rp s.2.2.1 v_word F ∧ (rInt).rp s.2.2.2 v_room F ∧ AllB rInt s.2.1 (List.map V.int s.2.1) F ∧ True) (Ro := (fun (r : Unit) (v : V) (F : Hp) (O : Own) => False)) hl17 ⟨v_word, v15, rfl, rfl, (flatB frS hok_rows), (Rep.mono rS s13 f_word), f14, (flatB frI (okL_I hg11)), trivial⟩ ?_ ?_ ?_ ?_)
    · refine ⟨fun s20 es21 σ9 Fe22 O9 e22 ⟨v23, v24, hs25, ho26, f27, f28, f29, f30, _⟩ => ?_, fun r9 er9 v9 F9 O9 e9 hr9 => ?_⟩
      · subst hs25 ho26
        have h := hk18 s20 es21
        refine nx_of ?_
        obtain ⟨rfl, rfl⟩ := Prod.mk.inj (Option.some.inj h)
        refine sx_ret (R := rS) (ev_v (R := rS) rfl f28) fun v31 Fs32 s32 f33 => ?_
        exact rtA_val [0, 1] k rfl (by decide) (fun _ => f33)
      · exact hr9.elim
    · rintro s34 σ9 Fe35 O9 b9 e35 ⟨v36, v37, hs38, ho39, f40, f41, f42, f43, _⟩ hc9
      subst hs38 ho39
      obtain rfl := Option.some.inj hc9
      exact (et_b (ev_op (ev_cb (ea_cons (ev_v (R := rS) rfl f41) ea_nil) b_lenS) (ev_v (R := rInt) rfl f42) o_gt))
    · rintro s47 σ9 Fe44 Fe45 O9 o9 D9 e44 e45 ⟨v48, v49, hs50, ho51, f52, f53, f54, f55, _⟩ _ h acc46
      subst hs50 ho51
      obtain ⟨r56, hr56, h⟩ := bsome h
      obtain ⟨g57, hg57, h⟩ := bsome h
      obtain ⟨c58, hc58, h⟩ := bsome h
      obtain ⟨y59, hy59, h⟩ := bsome h
      obtain ⟨hz60, he61⟩ := iteo hy59
      subst he61
      refine sx_seq (sx_appMF frS (n := 0) rfl (List.Mem.head _) rfl (AllB.mono e45 f52) (evM_op1 (evM_o (O2 := [(p_rows, cF fS s47.1), (p__law_numbers, cF V.int r56.2)]) (evM_clo (P := P__law_lead_here) (O0 := [(p__law_numbers, cF V.int s47.2.1)]) (O0' := [(p__law_numbers, (cF V.int) r56.2)]) (caps := [val rInt x_lead.1, val (rA p__law_numbers) (), val rInt x_lead.2]) [1] rfl (Rep.mono (rClo s__law_lead_here "_law_lead_here" ["_law_kind", "_law_numbers", "_law_wide"] (fun (a : Int × Int) => True) (fun a => [.int a.1, .ref p__law_numbers, .int a.2])) ((s13.trans e44).trans e45) f_lead) (eaM_l (ea_cons (ev_cb (ea_cons (ev_o (R := rS) rfl (List.Mem.head _) (AllB.mono e45 f52)) ea_nil) b_lenL) ea_nil)) (List.forall_mem_cons.mpr ⟨fl_of (fun _ _ _ h => h), (List.forall_mem_nil _)⟩) (fun h8 _ _ => ⟨rfl, rfl, rfl, trivial⟩) ⟨_, _, _, _, _, _, _, rfl, flat_ok frI (AllB.mono e45 f55), rfl, hr56, rfl, rfl⟩ (fl_of (fun _ _ _ h => h)) rfl (by decide) rfl) rfl) (ev_slS (ev_v (R := rS) rfl (Rep.mono rS e45 f53)) ep_none (ep_some (ev_v (R := rInt) rfl (Rep.mono rInt e45 f54)))) (o_catS hc58)) hz60 fun Fs62 s62 f63 => nx_of ?_)
      obtain ⟨x64, hx64, h⟩ := lt_e h
      refine sx_seq (sx_asg (R := rS) (ev_is (ev_slS (ev_v (R := rS) rfl (Rep.mono rS (e45.trans s62) f53)) (ep_some (ev_v (R := rInt) rfl (Rep.mono rInt (e45.trans s62) f54))) ep_none) hx64) fun v67 Fs65 s65 f66 => nx_of ?_)
      obtain ⟨r68, hr68, h⟩ := bsome h
      obtain ⟨g69, hg69, h⟩ := bsome h
      obtain ⟨x70, hx70, h⟩ := lt_e h
      refine sx_asgM (R := rInt) (evM_is (evM_op (evM_l (ev_v (R := rInt) rfl (Rep.mono rInt ((((s13.trans e44).trans e45).trans s62).trans s65) f_width))) (evM_args (T := fun t8 => tCB _ t8) (fun _ _ _ => rfl) (eaM_1 (evM_o (O2 := [(p_rows, cF fS (s47.1 ++ [c58])), (p__law_numbers, cF V.int r68.2)]) (evM_clo (P := P__law_lead_here) (O0 := [(p__law_numbers, cF V.int r56.2)]) (O0' := [(p__law_numbers, (cF V.int) r68.2)]) (caps := [val rInt x_lead.1, val (rA p__law_numbers) (), val rInt x_lead.2]) [1] rfl (Rep.mono (rClo s__law_lead_here "_law_lead_here" ["_law_kind", "_law_numbers", "_law_wide"] (fun (a : Int × Int) => True) (fun a => [.int a.1, .ref p__law_numbers, .int a.2])) ((((s13.trans e44).trans e45).trans s62).trans s65) f_lead) (eaM_l (ea_cons (ev_cb (ea_cons (ev_o (R := rS) rfl (List.Mem.head _) (AllB.mono s65 f63)) ea_nil) b_lenL) ea_nil)) (List.forall_mem_cons.mpr ⟨fl_of (fun _ _ _ h => h), (List.forall_mem_nil _)⟩) (fun h8 _ _ => ⟨rfl, rfl, rfl, trivial⟩) ⟨_, _, _, _, _, _, _, rfl, flat_ok (F := F0) frI (flatB frI (okL_I hg57)), rfl, hr68, rfl, rfl⟩ (fl_of (fun _ _ _ h => h)) rfl (by decide) rfl) rfl) ea_nil) (fun t9 F9 e9 h9 => (ev_cb h9 b_lenS))) o_sub) hx70) fun v73 Fs71 s71 f72 => ?_
      obtain rfl := Option.some.inj h
      exact (acc46.nx _ rfl _ _ _ ((s62.trans s65).trans s71) ⟨v67, v73, rfl, rfl, (AllB.mono (s65.trans s71) f63), (Rep.mono rS s71 f66), f72, (flatB frI (okL_I hg69)), trivial⟩).1
    · rintro s75 σ9 F8 F9 O9 ⟨v76, v77, hs78, ho79, f80, f81, f82, f83, _⟩ e74
      subst hs78 ho79
      exact ⟨v76, v77, rfl, rfl, (AllB.mono e74 f80), (Rep.mono rS e74 f81), (Rep.mono rInt e74 f82), (AllB.mono e74 f83), trivial⟩

/-! filled -/
abbrev s_filled : Stmt := top 2
abbrev N_filled : List Str := ["words", "width", "lead", "rows", "begun", "word", "room"]
theorem sc_filled : FnScope N_filled ["words", "width", "lead"] (defScope s_filled) := ⟨rfl, rfl, rfl, by decide +kernel, rfl, by decide +kernel, by decide +kernel⟩
def m_filled (x_words : List (List Nat)) (x_width : Int) (x_lead : (Int × Int)) (x__law_numbers : List (Int)) : Option ((List (List Nat)) × ((List (Int)))) := lt ([] : List (List Nat)) fun x10 => lt [] fun x14 => fwd (loop (ρ := Unit) (fun (s53 : (List (Int)) × (List Nat) × (List (List Nat))) (a54 : List Nat) => (m__law_lead_here ((s53.2.2.length : Int)) (x_lead.1) (s53.1) (x_lead.2)).bind fun r68 => (grdB (okL (fun _ => true) r68.2)).bind fun g69 => lt (x_width - (r68.1.length : Int)) fun x70 => cnd ((!decide (s53.2.1 = [])) && (decide ((((s53.2.1.length : Int) + (1 : Int)) + (a54.length : Int)) ≤ x70))) ((catS [32] a54).bind fun c77 => (catS s53.2.1 c77).bind fun c78 => some (Fw.nx (r68.2, c78, s53.2.2))) ((cnd (!decide (s53.2.1 = [])) ((m__law_lead_here ((s53.2.2.length : Int)) (x_lead.1) (r68.2) (x_lead.2)).bind fun r100 => (grdB (okL (fun _ => true) r100.2)).bind fun g101 => (catS r100.1 s53.2.1).bind fun c102 => (appO s53.2.2 c102).bind fun y103 => some (y103, r100.2)) (some (s53.2.2, r68.2))).bind fun (j82 : (List (List Nat)) × (List (Int))) => (m_cut_into (j82.1) (a54) (x_width) (x_lead) (j82.2)).bind fun r90 => (grdB (okL okS r90.2.1)).bind fun g91 => (grdB (okL (fun _ => true) r90.2.2)).bind fun g92 => lt r90.1 fun x93 => some (Fw.nx (r90.2.2, x93, r90.2.1)))) x_words (x__law_numbers, x14, x10)) (fun (s23 : (List (Int)) × (List Nat) × (List (List Nat))) => (cnd (!decide (s23.2.1 = [])) ((m__law_lead_here ((s23.2.2.length : Int)) (x_lead.1) (s23.1) (x_lead.2)).bind fun r45 => (grdB (okL (fun _ => true) r45.2)).bind fun g46 => (catS r45.1 s23.2.1).bind fun c47 => (appO s23.2.2 c47).bind fun y48 => some (y48, r45.2)) (some (s23.2.2, s23.1))).bind fun (j34 : (List (List Nat)) × (List (Int))) => some (j34.1, j34.2)) (fun (r : Unit) => none)
def P_filled (O : Own) (As : List Ar) (r : List (List Nat)) (O' : Own) : Prop := ∃ (p__law_numbers : Addr) (x_words : List (List Nat)) (x_width : Int) (x_lead : (Int × Int)) (x__law_numbers : List (Int)) (x9 : ((List (Int)))), O = [(p__law_numbers, (cF V.int) x__law_numbers)] ∧ OkL (fun _ => True) x__law_numbers ∧ As = [val (rL rS) x_words, val rInt x_width, val (rClo s__law_lead_here "_law_lead_here" ["_law_kind", "_law_numbers", "_law_wide"] (fun (a : Int × Int) => True) (fun a => [.int a.1, .ref p__law_numbers, .int a.2])) x_lead] ∧ m_filled x_words x_width x_lead x__law_numbers = some (r, x9) ∧ O' = [(p__law_numbers, (cF V.int) x9)]
theorem ok_filled (T : Top K mg) (D : Df K mg "filled" s_filled) (G__law_lead_here : CalC P w K mg base 2 s__law_lead_here "_law_lead_here" ["_law_number"] ["_law_kind", "_law_numbers", "_law_wide"] (spC 1 (spA none (P__law_lead_here)))) (G_cut_into : Cal P w K mg base 3 "cut_into" ["rows", "word", "width", "lead"] (spA none (P_cut_into))) : Cal P w K mg base 4 "filled" ["words", "width", "lead"] (spAN none rS (P_filled)) := by
  have SC := sc_filled
  refine cal_of (N := N_filled) D SC (fun _ _ _ _ _ _ us hl => match us, hl with | [_, _, _], _ => rfl) (fun vs H Q E h => ?_) (fun f cdv A outer s H vs Q E hr h => ?_)
  · obtain ⟨F0, B0, O0, As, r, O9, ⟨p__law_numbers, x_words, x_width, x_lead, x__law_numbers, x9, rfl, hok__law_numbers, rfl, h, rfl⟩, at0, ha, k⟩ := h
    exact alla_len ha
  · obtain ⟨F0, B0, O0, As, r, O9, ⟨p__law_numbers, x_words, x_width, x_lead, x__law_numbers, x9, rfl, hok__law_numbers, rfl, h, rfl⟩, at0, ha, k⟩ := h
    obtain ⟨v_words, v_width, v_lead, rfl, f_words, f_width, f_lead⟩ := alla3 ha
    refine ⟨_, (pss_cons (ps_set (i := 3) SC.nd rfl (Or.inl rfl) (pe_lst pa_nil)) (pss_cons (ps_set (i := 4) SC.nd rfl (Or.inl rfl) pe_str) (pss_cons (ps_for PassesOwn.never rfl (pi_list (pv 0)) (pg_name (i := 5) SC.nd rfl (Or.inl rfl)) (pss_cons (ps_set (i := 6) SC.nd rfl (Or.inl rfl) (pe_op op_xSub (pv 1) (pe_callB call_cLen (by rfl) T.b_len PySem.boot_len (pa_cons (pe_calC (i := 2) G__law_lead_here (hr.mono (by decide)) rfl (by first | exact Or.inl rfl | exact Or.inr (Or.inl rfl) | exact Or.inr (Or.inr rfl)) (pa_cons (pe_callB call_cLen (by rfl) T.b_len PySem.boot_len (pa_cons (pv 3) pa_nil)) pa_nil)) pa_nil)))) (pss_one (ps_if (PW.pt (pw_and (pt_cmpR op_ne (pv 4) pe_str (nomark _)) (pw_and1 (pt_cmpR op_xLe (pe_op op_xAdd (pe_op op_xAdd (pe_callB call_cLen (by rfl) T.b_len PySem.boot_len (pa_cons (pv 4) pa_nil)) pe_int) (pe_callB call_cLen (by rfl) T.b_len PySem.boot_len (pa_cons (pv 5) pa_nil))) (pv 6) (nomark _))))) (pss_one (ps_aug (i := 4) SC.nd rfl (Or.inl rfl) (pe_op op_xCatS pe_str (pv 5)) op_ipS)) (pss_cons (ps_if (pt_cmpR op_ne (pv 4) pe_str (nomark _)) (pss_one (ps_expr (pe_bm PySem.F.plainAttrs_list PySem.F.slot_list_append PySem.F.type_list_append mt_append (pv 3) (pa_cons (pe_op op_xCatS (pe_calC (i := 2) G__law_lead_here (hr.mono (by decide)) rfl (by first | exact Or.inl rfl | exact Or.inr (Or.inl rfl) | exact Or.inr (Or.inr rfl)) (pa_cons (pe_callB call_cLen (by rfl) T.b_len PySem.boot_len (pa_cons (pv 3) pa_nil)) pa_nil)) (pv 4)) pa_nil)))) pss_nil) (pss_one (ps_set (i := 4) SC.nd rfl (Or.inl rfl) (pe_cal G_cut_into (hr.mono (by decide)) rfl (pa_cons (pv 3) (pa_cons (pv 5) (pa_cons (pv 1) (pa_cons (pv 2) pa_nil)))))))))))) (pss_cons (ps_if (pt_cmpR op_ne (pv 4) pe_str (nomark _)) (pss_one (ps_expr (pe_bm PySem.F.plainAttrs_list PySem.F.slot_list_append PySem.F.type_list_append mt_append (pv 3) (pa_cons (pe_op op_xCatS (pe_calC (i := 2) G__law_lead_here (hr.mono (by decide)) rfl (by first | exact Or.inl rfl | exact Or.inr (Or.inl rfl) | exact Or.inr (Or.inr rfl)) (pa_cons (pe_callB call_cLen (by rfl) T.b_len PySem.boot_len (pa_cons (pv 3) pa_nil)) pa_nil)) (pv 4)) pa_nil)))) pss_nil) (pss_one (ps_ret (pv 3))))))), ?_⟩
    refine (show Sx ⟨F0, B0, none⟩ _ _ [some v_words, some v_width, some v_lead, none, none, none, none] F0 [(p__law_numbers, (cF V.int) x__law_numbers)] from ?_) H at0
    have f_words : ((rL rS)).rp x_words v_words F0 := f_words
    have f_width : (rInt).rp x_width v_width F0 := f_width
    have f_lead : ((rClo s__law_lead_here "_law_lead_here" ["_law_kind", "_law_numbers", "_law_wide"] (fun (a : Int × Int) => True) (fun a => [.int a.1, .ref p__law_numbers, .int a.2]))).rp x_lead v_lead F0 := f_lead
    obtain ⟨x10, hx10, h⟩ := lt_e h
    refine sx_seq (sx_asgF frS (ev_isN (ev_lst (R := rS) (as := []) ea_nil (show (0 : Nat) ≤ limL by decide)) hx10) fun p13 Fs11 s11 f12 => nx_of ?_)
    obtain ⟨x14, hx14, h⟩ := lt_e h
    refine sx_seq (sx_asg (R := rS) (ev_is (ev_s (l := []) (by decide +kernel) (by decide +kernel)) hx14) fun v17 Fs15 s15 f16 => nx_of ?_)
    refine sx_so (σ2 := [some v_words, some v_width, some v_lead, some (.ref p13), some v17, none, none]) (O2 := [(p13, cF fS x10), (p__law_numbers, cF V.int x__law_numbers)]) rfl rfl ?_
    obtain ⟨w18, hl19, hk20, hr21⟩ := fwd_o h
    refine sx_seq (sx_for (J := fun (s : (List (Int)) × (List Nat) × (List (List Nat))) σ F O => ∃ (v_begun : V) (w_word : Option V) (w_room : Option V), σ = [some v_words, some v_width, some v_lead, some (.ref p13), some v_begun, w_word, w_room] ∧ O = [(p13, cF fS s.2.2), (p__law_numbers, cF V.int s.1)] ∧ AllB rS s.2.2 (List.map fS s.2.2) F ∧ (rS).rp s.2.1 v_begun F ∧ AllB rInt s.1 (List.map V.int s.1) F ∧ True) (Ro := (fun (r : Unit) (v : V) (F : Hp) (O : Own) => False)) hl19 (ei_list (ev_v (R := (rL rS)) rfl (Rep.mono (rL rS) (s11.trans s15) f_words))) tg_n (fun Fe22 e22 => ⟨v17, _, _, rfl, rfl, (AllB.mono (s15.trans e22) f12), (Rep.mono rS e22 f16), (flatB frI hok__law_numbers), trivial⟩) ?_ ?_)
    · refine ⟨fun s23 es24 σ9 Fe25 O9 e25 ⟨v26, w27, w28, hs29, ho30, f31, f32, f33, _⟩ => ?_, fun r9 er9 v9 F9 O9 e9 hr9 => ?_⟩
      · subst hs29 ho30
        have h := hk20 s23 es24
        refine nx_of ?_
        obtain ⟨j34, hj36, h⟩ := bsome h
        refine sx_join (fun (s : (List (List Nat)) × (List (Int))) σ F O => ∃ (_ : Unit), σ = [some v_words, some v_width, some v_lead, some (.ref p13), some v26, w27, w28] ∧ O = [(p13, cF fS s.1), (p__law_numbers, cF V.int s.2)] ∧ AllB rS s.1 (List.map fS s.1) F ∧ AllB rInt s.2 (List.map V.int s.2) F ∧ True) j34 (fun σ9 Fs37 O9 s37 ⟨_, hs38, ho39, f40, f41, _⟩ => ?_) (fun hJ35 => ?_)
        · subst hs38 ho39
          obtain ⟨rfl, rfl⟩ := Prod.mk.inj (Option.some.inj h)
          refine sx_retO rfl ?_
          exact rtA_own [0, 1] k rfl (by decide) f40
        · refine sx_if (et_b (ev_op (ev_v (R := rS) rfl f32) (ev_s (l := []) (by decide +kernel) (by decide +kernel)) o_neS)) (fun z42 Fs43 s43 => ?_) (fun z42 Fs44 s44 => ?_)
          · have hj36 := cnd_t hj36 z42
            obtain ⟨r45, hr45, hj36⟩ := bsome hj36
            obtain ⟨g46, hg46, hj36⟩ := bsome hj36
            obtain ⟨c47, hc47, hj36⟩ := bsome hj36
            obtain ⟨y48, hy48, hj36⟩ := bsome hj36
            obtain ⟨hz49, he50⟩ := iteo hy48
            subst he50
            refine sx_appMF frS (n := 0) rfl (List.Mem.head _) rfl (AllB.mono s43 f31) (evM_op1 (evM_o (O2 := [(p13, cF fS s23.2.2), (p__law_numbers, cF V.int r45.2)]) (evM_clo (P := P__law_lead_here) (O0 := [(p__law_numbers, cF V.int s23.1)]) (O0' := [(p__law_numbers, (cF V.int) r45.2)]) (caps := [val rInt x_lead.1, val (rA p__law_numbers) (), val rInt x_lead.2]) [1] rfl (Rep.mono (rClo s__law_lead_here "_law_lead_here" ["_law_kind", "_law_numbers", "_law_wide"] (fun (a : Int × Int) => True) (fun a => [.int a.1, .ref p__law_numbers, .int a.2])) (((s11.trans s15).trans e25).trans s43) f_lead) (eaM_l (ea_cons (ev_cb (ea_cons (ev_o (R := rS) rfl (List.Mem.head _) (AllB.mono s43 f31)) ea_nil) b_lenL) ea_nil)) (List.forall_mem_cons.mpr ⟨fl_of (fun _ _ _ h => h), (List.forall_mem_nil _)⟩) (fun h8 _ _ => ⟨rfl, rfl, rfl, trivial⟩) ⟨_, _, _, _, _, _, _, rfl, flat_ok frI (AllB.mono s43 f33), rfl, hr45, rfl, rfl⟩ (fl_of (fun _ _ _ h => h)) rfl (by decide) rfl) rfl) (ev_v (R := rS) rfl (Rep.mono rS s43 f32)) (o_catS hc47)) hz49 fun Fs51 s51 f52 => ?_
            obtain rfl := Option.some.inj hj36
            exact hJ35 _ _ _ (s43.trans s51) ⟨(), rfl, rfl, f52, (flatB frI (okL_I hg46)), trivial⟩
          · have hj36 := cnd_f hj36 z42
            refine sx_next ?_
            obtain rfl := Option.some.inj hj36
            exact hJ35 _ _ _ s44 ⟨(), rfl, rfl, (AllB.mono s44 f31), (AllB.mono s44 f33), trivial⟩
      · exact hr9.elim
    · rintro s53 a54 σ9 σ8 Fe55 Fe56 O9 o9 D9 ha9 e55 e56 ⟨v58, w59, w60, hs61, ho62, f63, f64, f65, _⟩ ⟨v66, zs, f67⟩ h acc57
      subst hs61 ho62
      subst zs
      obtain ⟨r68, hr68, h⟩ := bsome h
      obtain ⟨g69, hg69, h⟩ := bsome h
      obtain ⟨x70, hx70, h⟩ := lt_e h
      refine sx_seq (sx_asgM (R := rInt) (evM_is (evM_op (evM_l (ev_v (R := rInt) rfl (Rep.mono rInt (((s11.trans s15).trans e55).trans e56) f_width))) (evM_args (T := fun t8 => tCB _ t8) (fun _ _ _ => rfl) (eaM_1 (evM_o (O2 := [(p13, cF fS s53.2.2), (p__law_numbers, cF V.int r68.2)]) (evM_clo (P := P__law_lead_here) (O0 := [(p__law_numbers, cF V.int s53.1)]) (O0' := [(p__law_numbers, (cF V.int) r68.2)]) (caps := [val rInt x_lead.1, val (rA p__law_numbers) (), val rInt x_lead.2]) [1] rfl (Rep.mono (rClo s__law_lead_here "_law_lead_here" ["_law_kind", "_law_numbers", "_law_wide"] (fun (a : Int × Int) => True) (fun a => [.int a.1, .ref p__law_numbers, .int a.2])) (((s11.trans s15).trans e55).trans e56) f_lead) (eaM_l (ea_cons (ev_cb (ea_cons (ev_o (R := rS) rfl (List.Mem.head _) (AllB.mono e56 f63)) ea_nil) b_lenL) ea_nil)) (List.forall_mem_cons.mpr ⟨fl_of (fun _ _ _ h => h), (List.forall_mem_nil _)⟩) (fun h8 _ _ => ⟨rfl, rfl, rfl, trivial⟩) ⟨_, _, _, _, _, _, _, rfl, flat_ok frI (AllB.mono e56 f65), rfl, hr68, rfl, rfl⟩ (fl_of (fun _ _ _ h => h)) rfl (by decide) rfl) rfl) ea_nil) (fun t9 F9 e9 h9 => (ev_cb h9 b_lenS))) o_sub) hx70) fun v73 Fs71 s71 f72 => nx_of ?_)
      refine sx_if (et_andP (et_b (ev_op (ev_v (R := rS) rfl (Rep.mono rS (e56.trans s71) f64)) (ev_s (l := []) (by decide +kernel) (by decide +kernel)) o_neS)) (fun _ => (et_b (ev_op (ev_op (ev_op (ev_cb (ea_cons (ev_v (R := rS) rfl (Rep.mono rS (e56.trans s71) f64)) ea_nil) b_lenS) ev_i o_add) (ev_cb (ea_cons (ev_v (R := rS) rfl (Rep.mono rS s71 f67)) ea_nil) b_lenS) o_add) (ev_v (R := rInt) rfl f72) o_le)))) (fun z74 Fs75 s75 => ?_) (fun z74 Fs76 s76 => ?_)
      · have h := cnd_t h z74
        obtain ⟨c77, hc77, h⟩ := bsome h
        obtain ⟨c78, hc78, h⟩ := bsome h
        refine sx_aug (R := rS) (Rc := rS) rfl (Rep.mono rS ((e56.trans s71).trans s75) f64) (ev_op (ev_cs (ev_ch (c := 32) (by decide +kernel) (by decide))) (ev_v (R := rS) rfl (Rep.mono rS (s71.trans s75) f67)) (o_catS hc77)) (o_catS hc78) fun v79 Fs80 s80 f81 => ?_
        obtain rfl := Option.some.inj h
        exact (acc57.nx _ rfl _ _ _ ((s71.trans s75).trans s80) ⟨v79, _, _, rfl, rfl, (AllB.mono (((e56.trans s71).trans s75).trans s80) f63), f81, (flatB frI (okL_I hg69)), trivial⟩).1
      · have h := cnd_f h z74
        obtain ⟨j82, hj84, h⟩ := bsome h
        refine sx_join (fun (s : (List (List Nat)) × (List (Int))) σ F O => ∃ (_ : Unit), σ = [some v_words, some v_width, some v_lead, some (.ref p13), some v58, some v66, some v73] ∧ O = [(p13, cF fS s.1), (p__law_numbers, cF V.int s.2)] ∧ AllB rS s.1 (List.map fS s.1) F ∧ AllB rInt s.2 (List.map V.int s.2) F ∧ True) j82 (fun σ9 Fs85 O9 s85 ⟨_, hs86, ho87, f88, f89, _⟩ => ?_) (fun hJ83 => ?_)
        · subst hs86 ho87
          obtain ⟨r90, hr90, h⟩ := bsome h
          obtain ⟨g91, hg91, h⟩ := bsome h
          obtain ⟨g92, hg92, h⟩ := bsome h
          obtain ⟨x93, hx93, h⟩ := lt_e h
          refine sx_asgM (R := rS) (evM_is (evM_o (O2 := [(p13, cF fS r90.2.1), (p__law_numbers, cF V.int r90.2.2)]) (evA_call (P := P_cut_into) (O0 := [(p13, cF fS j82.1), (p__law_numbers, cF V.int j82.2)]) (O0' := [(p13, (cF fS) r90.2.1), (p__law_numbers, (cF V.int) r90.2.2)]) [0, 1] (eaM_l (ea_cons (ev_v (R := rA p13) rfl rfl) (ea_cons (ev_v (R := rS) rfl (Rep.mono rS ((s71.trans s76).trans s85) f67)) (ea_cons (ev_v (R := rInt) rfl (Rep.mono rInt ((((((s11.trans s15).trans e55).trans e56).trans s71).trans s76).trans s85) f_width)) (ea_cons (ev_v (R := (rClo s__law_lead_here "_law_lead_here" ["_law_kind", "_law_numbers", "_law_wide"] (fun (a : Int × Int) => True) (fun a => [.int a.1, .ref p__law_numbers, .int a.2]))) rfl (Rep.mono (rClo s__law_lead_here "_law_lead_here" ["_law_kind", "_law_numbers", "_law_wide"] (fun (a : Int × Int) => True) (fun a => [.int a.1, .ref p__law_numbers, .int a.2])) ((((((s11.trans s15).trans e55).trans e56).trans s71).trans s76).trans s85) f_lead)) ea_nil))))) ⟨_, _, _, _, _, _, _, _, _, rfl, flat_ok frS f88, flat_ok frI f89, rfl, hr90, rfl, rfl⟩ rfl (by decide) rfl (Or.inl rfl)) rfl) hx93) fun v96 Fs94 s94 f95 => ?_
          obtain rfl := Option.some.inj h
          exact (acc57.nx _ rfl _ _ _ (((s71.trans s76).trans s85).trans s94) ⟨v96, _, _, rfl, rfl, (flatB frS (okL_S hg91)), f95, (flatB frI (okL_I hg92)), trivial⟩).1
        · refine sx_if (et_b (ev_op (ev_v (R := rS) rfl (Rep.mono rS ((e56.trans s71).trans s76) f64)) (ev_s (l := []) (by decide +kernel) (by decide +kernel)) o_neS)) (fun z97 Fs98 s98 => ?_) (fun z97 Fs99 s99 => ?_)
          · have hj84 := cnd_t hj84 z97
            obtain ⟨r100, hr100, hj84⟩ := bsome hj84
            obtain ⟨g101, hg101, hj84⟩ := bsome hj84
            obtain ⟨c102, hc102, hj84⟩ := bsome hj84
            obtain ⟨y103, hy103, hj84⟩ := bsome hj84
            obtain ⟨hz104, he105⟩ := iteo hy103
            subst he105
            refine sx_appMF frS (n := 0) rfl (List.Mem.head _) rfl (AllB.mono (((e56.trans s71).trans s76).trans s98) f63) (evM_op1 (evM_o (O2 := [(p13, cF fS s53.2.2), (p__law_numbers, cF V.int r100.2)]) (evM_clo (P := P__law_lead_here) (O0 := [(p__law_numbers, cF V.int r68.2)]) (O0' := [(p__law_numbers, (cF V.int) r100.2)]) (caps := [val rInt x_lead.1, val (rA p__law_numbers) (), val rInt x_lead.2]) [1] rfl (Rep.mono (rClo s__law_lead_here "_law_lead_here" ["_law_kind", "_law_numbers", "_law_wide"] (fun (a : Int × Int) => True) (fun a => [.int a.1, .ref p__law_numbers, .int a.2])) ((((((s11.trans s15).trans e55).trans e56).trans s71).trans s76).trans s98) f_lead) (eaM_l (ea_cons (ev_cb (ea_cons (ev_o (R := rS) rfl (List.Mem.head _) (AllB.mono (((e56.trans s71).trans s76).trans s98) f63)) ea_nil) b_lenL) ea_nil)) (List.forall_mem_cons.mpr ⟨fl_of (fun _ _ _ h => h), (List.forall_mem_nil _)⟩) (fun h8 _ _ => ⟨rfl, rfl, rfl, trivial⟩) ⟨_, _, _, _, _, _, _, rfl, flat_ok (F := F0) frI (flatB frI (okL_I hg69)), rfl, hr100, rfl, rfl⟩ (fl_of (fun _ _ _ h => h)) rfl (by decide) rfl) rfl) (ev_v (R := rS) rfl (Rep.mono rS (((e56.trans s71).trans s76).trans s98) f64)) (o_catS hc102)) hz104 fun Fs106 s106 f107 => ?_
            obtain rfl := Option.some.inj hj84
            exact hJ83 _ _ _ (s98.trans s106) ⟨(), rfl, rfl, f107, (flatB frI (okL_I hg101)), trivial⟩
          · have hj84 := cnd_f hj84 z97
            refine sx_next ?_
            obtain rfl := Option.some.inj hj84
            exact hJ83 _ _ _ s99 ⟨(), rfl, rfl, (AllB.mono (((e56.trans s71).trans s76).trans s99) f63), (flatB frI (okL_I hg69)), trivial⟩

/-! _law_draw -/
abbrev s__law_draw : Stmt := top 4
abbrev N__law_draw : List Str := ["_law_script", "_law_tape", "_law_many", "_law_seed", "_law_cell"]
theorem sc__law_draw : FnScope N__law_draw ["_law_script", "_law_tape", "_law_many"] (defScope s__law_draw) := ⟨rfl, rfl, rfl, by decide +kernel, rfl, by decide +kernel, by decide +kernel⟩
def m__law_draw (x__law_script : List Int) (x__law_tape : Int) (x__law_many : Int) : Option ((Int) × (Int)) := lt (x__law_tape + (1 : Int)) fun x11 => cnd (decide (x11 ≤ (x__law_script.length : Int))) ((ixO x__law_script (x11 - (1 : Int))).bind fun c15 => (modO c15 x__law_many).bind fun c16 => some (c16, x11)) (lt (x__law_script.length : Int) fun x20 => fwd (loop (ρ := Unit) (fun (s44 : Int) (a45 : Int) => (mulO s44 (131 : Int)).bind fun c56 => (modO (c56 + a45) (1000003 : Int)).bind fun c57 => lt c57 fun x58 => some (Fw.nx x58)) (cutL x__law_script none (some (4 : Int))) x20) (fun (s29 : Int) => (mulO x11 x11).bind fun c37 => (mulO (s29 + (7 : Int)) (c37 + (48271 : Int))).bind fun c38 => (modO c38 (1000003 : Int)).bind fun c39 => (modO c39 x__law_many).bind fun c40 => some (c40, x11)) (fun (r : Unit) => none))
def P__law_draw (K : PySem.W.Frag) (p_tape : Addr) (As : List Ar) (x__law_tape : (Int)) (C : Ar) (x9 : (Int)) : Prop := ∃ (x__law_script : List Int) (x__law_many : Int) (r : Int), As = [val (rScr K) x__law_script, val (rA p_tape) (), val rInt x__law_many] ∧ m__law_draw x__law_script x__law_tape x__law_many = some (r, x9) ∧ C = val rInt r
theorem ok__law_draw (T : Top K mg) (D : Df K mg "_law_draw" s__law_draw)  : Cal P w K mg base 1 "_law_draw" ["_law_script", "_law_tape", "_law_many"] (spM tp (P__law_draw K)) := by
  have SC := sc__law_draw
  refine cal_of (N := N__law_draw) D SC (fun _ _ _ _ _ _ us hl => match us, hl with | [_, _, _], _ => rfl) (fun vs H Q E h => ?_) (fun f cdv A outer s H vs Q E hr h => ?_)
  · obtain ⟨F0, p_tape, As, x__law_tape, C, x9, ⟨x__law_script, x__law_many, r, rfl, h, rfl⟩, e0, hF0, hH0, ha, k⟩ := h
    exact alla_len ha
  · obtain ⟨F0, p_tape, As, x__law_tape, C, x9, ⟨x__law_script, x__law_many, r, rfl, h, rfl⟩, e0, hF0, hH0, ha, k⟩ := h
    obtain ⟨v__law_script, v__law_tape, v__law_many, rfl, f__law_script, f__law_tape, f__law_many⟩ := alla3 ha
    have f__law_tape : v__law_tape = V.ref p_tape := f__law_tape
    subst f__law_tape
    refine ⟨_, (pss_cons (ps_asg (pe_op op_xAdd (pe_ix ix_list (pv 1) pe_int (fun _ _ => rfl)) pe_int) (pg_sub (pv 1) pe_int set_list)) (pss_cons (ps_if (pt_cmpR op_xLe (pe_ix ix_list (pv 1) pe_int (fun _ _ => rfl)) (pe_callB call_cLen (by rfl) T.b_len PySem.boot_len (pa_cons (pv 0) pa_nil)) (nomark _)) (pss_one (ps_ret (pe_op op_xMod (pe_ix ix_list (pv 0) (pe_op op_xSub (pe_ix ix_list (pv 1) pe_int (fun _ _ => rfl)) pe_int) (fun _ _ => rfl)) (pv 2)))) pss_nil) (pss_cons (ps_set (i := 3) SC.nd rfl (Or.inl rfl) (pe_callB call_cLen (by rfl) T.b_len PySem.boot_len (pa_cons (pv 0) pa_nil))) (pss_cons (ps_for PassesOwn.never rfl (pi_list (pe_slice sl_list (pv 0) po_none (po_some pe_int))) (pg_name (i := 4) SC.nd rfl (Or.inl rfl)) (pss_one (ps_set (i := 3) SC.nd rfl (Or.inl rfl) (pe_op op_xMod (pe_op op_xAdd (pe_op op_xMul (pv 3) pe_int) (pv 4)) pe_int)))) (pss_one (ps_ret (pe_op op_xMod (pe_op op_xMod (pe_op op_xMul (pe_op op_xAdd (pv 3) pe_int) (pe_op op_xAdd (pe_op op_xMul (pe_ix ix_list (pv 1) pe_int (fun _ _ => rfl)) (pe_ix ix_list (pv 1) pe_int (fun _ _ => rfl))) pe_int)) pe_int) (pv 2)))))))), ?_⟩
    refine (show Sx ⟨F0, but p_tape H, none⟩ _ _ [some v__law_script, some (.ref p_tape), some v__law_many, none, none] F0 [(p_tape, tp x__law_tape)] from ?_) H (At.startT e0 hF0 hH0)
    have f__law_script : ((rScr K)).rp x__law_script v__law_script F0 := f__law_script
    have f__law_many : (rInt).rp x__law_many v__law_many F0 := f__law_many
    obtain ⟨x11, hx11, h⟩ := lt_e h
    refine sx_seq (sx_tape (n := 0) rfl rfl (ev_is (ev_op (ev_tape rfl (List.Mem.head _) ev_i) ev_i o_add) hx11) ev_i fun Fs10 s10 => nx_of ?_)
    refine sx_seq (sx_if (et_b (ev_op (ev_tape rfl (List.Mem.head _) ev_i) (ev_cb (ea_cons (ev_v (R := (rScr K)) rfl (Rep.mono (rScr K) s10 f__law_script)) ea_nil) b_lenK) o_le)) (fun z12 Fs13 s13 => ?_) (fun z12 Fs14 s14 => ?_))
    · have h := cnd_t h z12
      obtain ⟨c15, hc15, h⟩ := bsome h
      obtain ⟨c16, hc16, h⟩ := bsome h
      obtain ⟨rfl, rfl⟩ := Prod.mk.inj (Option.some.inj h)
      refine sx_ret (R := rInt) (ev_op (ev_op (ev_v (R := (rScr K)) rfl (Rep.mono (rScr K) (s10.trans s13) f__law_script)) (ev_op (ev_tape rfl (List.Mem.head _) ev_i) ev_i o_sub) (o_ixK hc15)) (ev_v (R := rInt) rfl (Rep.mono rInt (s10.trans s13) f__law_many)) (o_modO hc16)) fun v17 Fs18 s18 f19 => ?_
      exact rtM_val k (List.Mem.head _) (fun _ => f19)
    · have h := cnd_f h z12
      refine sx_next ?_
      refine nx_of ?_
      obtain ⟨x20, hx20, h⟩ := lt_e h
      refine sx_seq (sx_asg (R := rInt) (ev_is (ev_cb (ea_cons (ev_v (R := (rScr K)) rfl (Rep.mono (rScr K) (s10.trans s14) f__law_script)) ea_nil) b_lenK) hx20) fun v23 Fs21 s21 f22 => nx_of ?_)
      obtain ⟨w24, hl25, hk26, hr27⟩ := fwd_o h
      refine sx_seq (sx_for (J := fun (s : Int) σ F O => ∃ (v__law_seed : V) (w__law_cell : Option V), σ = [some v__law_script, some (.ref p_tape), some v__law_many, some v__law_seed, w__law_cell] ∧ O = [(p_tape, tp x11)] ∧ (rInt).rp s v__law_seed F ∧ True) (Ro := (fun (r : Unit) (v : V) (F : Hp) (O : Own) => False)) hl25 (ei_list (ev_frz (ev_slK (ev_v (R := (rScr K)) rfl (Rep.mono (rScr K) ((s10.trans s14).trans s21) f__law_script)) ep_none (ep_some ev_i)))) tg_n (fun Fe28 e28 => ⟨v23, _, rfl, rfl, (Rep.mono rInt e28 f22), trivial⟩) ?_ ?_)
      · refine ⟨fun s29 es30 σ9 Fe31 O9 e31 ⟨v32, w33, hs34, ho35, f36, _⟩ => ?_, fun r9 er9 v9 F9 O9 e9 hr9 => ?_⟩
        · subst hs34 ho35
          have h := hk26 s29 es30
          refine nx_of ?_
          obtain ⟨c37, hc37, h⟩ := bsome h
          obtain ⟨c38, hc38, h⟩ := bsome h
          obtain ⟨c39, hc39, h⟩ := bsome h
          obtain ⟨c40, hc40, h⟩ := bsome h
          obtain ⟨rfl, rfl⟩ := Prod.mk.inj (Option.some.inj h)
          refine sx_ret (R := rInt) (ev_op (ev_op (ev_op (ev_op (ev_v (R := rInt) rfl f36) ev_i o_add) (ev_op (ev_op (ev_tape rfl (List.Mem.head _) ev_i) (ev_tape rfl (List.Mem.head _) ev_i) (o_mulO hc37)) ev_i o_add) (o_mulO hc38)) ev_i (o_modO hc39)) (ev_v (R := rInt) rfl (Rep.mono rInt (((s10.trans s14).trans s21).trans e31) f__law_many)) (o_modO hc40)) fun v41 Fs42 s42 f43 => ?_
          exact rtM_val k (List.Mem.head _) (fun _ => f43)
        · exact hr9.elim
      · rintro s44 a45 σ9 σ8 Fe46 Fe47 O9 o9 D9 ha9 e46 e47 ⟨v49, w50, hs51, ho52, f53, _⟩ ⟨v54, zs, f55⟩ h acc48
        subst hs51 ho52
        subst zs
        obtain ⟨c56, hc56, h⟩ := bsome h
        obtain ⟨c57, hc57, h⟩ := bsome h
        obtain ⟨x58, hx58, h⟩ := lt_e h
        refine sx_asg (R := rInt) (ev_is (ev_op (ev_op (ev_op (ev_v (R := rInt) rfl (Rep.mono rInt e47 f53)) ev_i (o_mulO hc56)) (ev_v (R := rInt) rfl f55) o_add) ev_i (o_modO hc57)) hx58) fun v61 Fs59 s59 f60 => ?_
        obtain rfl := Option.some.inj h
        exact (acc48.nx _ rfl _ _ _ s59 ⟨v61, _, rfl, rfl, f60, trivial⟩).1

/-! _law_whole -/
abbrev s__law_whole : Stmt := top 5
abbrev N__law_whole : List Str := ["_law_found"]
theorem sc__law_whole : FnScope N__law_whole ["_law_found"] (defScope s__law_whole) := ⟨rfl, rfl, rfl, by decide +kernel, rfl, by decide +kernel, by decide +kernel⟩
def m__law_whole (x__law_found : Int) : Option (Bool) := some (true && (!false))
def P__law_whole (As : List Ar) (C : Ar) : Prop := ∃ (x__law_found : Int) (r : Bool), As = [val rInt x__law_found] ∧ m__law_whole x__law_found = some r ∧ C = val rB r
theorem ok__law_whole (T : Top K mg) (D : Df K mg "_law_whole" s__law_whole)  : Cal P w K mg base 1 "_law_whole" ["_law_found"] (spG (P__law_whole)) := by
  have SC := sc__law_whole
  refine cal_of (N := N__law_whole) D SC (fun _ _ _ _ _ _ us hl => match us, hl with | [_], _ => rfl) (fun vs H Q E h => ?_) (fun f cdv A outer s H vs Q E hr h => ?_)
  · obtain ⟨F0, As, C, ⟨x__law_found, r, rfl, h, rfl⟩, e0, ha, k⟩ := h
    exact alla_len ha
  · obtain ⟨F0, As, C, ⟨x__law_found, r, rfl, h, rfl⟩, e0, ha, k⟩ := h
    obtain ⟨v__law_found, rfl, f__law_found⟩ := alla1 ha
    refine ⟨_, (pss_one (ps_ret (pe_and (pe_callB call_isi (by rfl) T.b_isinstance (by decide +kernel) (pa_cons (pv 0) (pa_cons (pe_bltn (v := V.ty "int") (by rfl) T.b_int (by decide +kernel) rfl) pa_nil))) (pe_one (pe_not (pe_callB call_isi (by rfl) T.b_isinstance (by decide +kernel) (pa_cons (pv 0) (pa_cons (pe_bltn (v := V.ty "bool") (by rfl) T.b_bool (by decide +kernel) rfl) pa_nil)))))))), ?_⟩
    refine (show Sx ⟨F0, H, none⟩ _ _ [some v__law_found] F0 [] from ?_) H (At.start e0)
    have f__law_found : (rInt).rp x__law_found v__law_found F0 := f__law_found
    obtain rfl := Option.some.inj h
    refine sx_ret (R := rB) (ev_andP (ev_cb (ea_cons (ev_v (R := rInt) rfl f__law_found) (ea_cons ev_ty ea_nil)) (b_isi (b := true) tI (by decide +kernel))) (fun _ => (ev_not (ev_cb (ea_cons (ev_v (R := rInt) rfl f__law_found) (ea_cons ev_ty ea_nil)) (b_isi (b := false) tI (by decide +kernel)))))) fun v10 Fs11 s11 f12 => ?_
    exact rt_val k (fun _ => f12)

/-! _law_word -/
abbrev s__law_word : Stmt := top 6
abbrev N__law_word : List Str := ["_law_script", "_law_tape", "_law_size", "_law_signs", "_law_begin", "_law_step", "_law_k"]
theorem sc__law_word : FnScope N__law_word ["_law_script", "_law_tape", "_law_size"] (defScope s__law_word) := ⟨rfl, rfl, rfl, by decide +kernel, rfl, by decide +kernel, by decide +kernel⟩
def m__law_word (x__law_script : List Int) (x__law_tape : Int) (x__law_size : Int) : Option ((List Nat) × (Int)) := lt ([33, 34, 35, 36, 38, 39, 40, 41, 42, 43, 44, 45, 46, 47, 48, 49, 50, 51, 52, 53, 54, 55, 56, 57, 58, 59, 60, 61, 62, 63, 64, 65, 66, 67, 68, 69, 70, 71, 72, 73, 74, 75, 76, 77, 78, 79, 80, 81, 82, 83, 84, 85, 86, 87, 88, 89, 90, 91, 92, 93, 94, 95, 96, 97, 98, 99, 100, 101, 102, 103, 104, 105, 106, 107, 108, 109, 110, 111, 112, 113, 114, 115, 116, 117, 118, 119, 120, 121, 122, 123, 124, 125, 126]) fun x10 => (m__law_draw (x__law_script) (x__law_tape) ((93 : Int))).bind fun r14 => lt r14.1 fun x15 => (m__law_draw (x__law_script) (r14.2) ((93 : Int))).bind fun r19 => lt r19.1 fun x20 => (rngO 0 x__law_size).bind fun c24 => (mapF (fun (a25 : Int) => (mulO x20 a25).bind fun c33 => (mulO a25 a25).bind fun c34 => (modO ((x15 + c33) + c34) (93 : Int)).bind fun c35 => (ixO x10 c35).bind fun c36 => some (some [c36])) c24).bind fun y38 => (joinO [] y38).bind fun c39 => some (c39, r19.2)
def P__law_word (K : PySem.W.Frag) (p_tape : Addr) (As : List Ar) (x__law_tape : (Int)) (C : Ar) (x9 : (Int)) : Prop := ∃ (x__law_script : List Int) (x__law_size : Int) (r : List Nat), As = [val (rScr K) x__law_script, val (rA p_tape) (), val rInt x__law_size] ∧ m__law_word x__law_script x__law_tape x__law_size = some (r, x9) ∧ C = val rS r
theorem ok__law_word (T : Top K mg) (D : Df K mg "_law_word" s__law_word) (G__law_draw : Cal P w K mg base 1 "_law_draw" ["_law_script", "_law_tape", "_law_many"] (spM tp (P__law_draw K))) : Cal P w K mg base 2 "_law_word" ["_law_script", "_law_tape", "_law_size"] (spM tp (P__law_word K)) := by
  have SC := sc__law_word
  refine cal_of (N := N__law_word) D SC (fun _ _ _ _ _ _ us hl => match us, hl with | [_, _, _], _ => rfl) (fun vs H Q E h => ?_) (fun f cdv A outer s H vs Q E hr h => ?_)
  · obtain ⟨F0, p_tape, As, x__law_tape, C, x9, ⟨x__law_script, x__law_size, r, rfl, h, rfl⟩, e0, hF0, hH0, ha, k⟩ := h
    exact alla_len ha
  · obtain ⟨F0, p_tape, As, x__law_tape, C, x9, ⟨x__law_script, x__law_size, r, rfl, h, rfl⟩, e0, hF0, hH0, ha, k⟩ := h
    obtain ⟨v__law_script, v__law_tape, v__law_size, rfl, f__law_script, f__law_tape, f__law_size⟩ := alla3 ha
    have f__law_tape : v__law_tape = V.ref p_tape := f__law_tape
    subst f__law_tape
    refine ⟨_, (pss_cons (ps_set (i := 3) SC.nd rfl (Or.inr rfl) pe_str) (pss_cons (ps_set (i := 4) SC.nd rfl (Or.inr rfl) (pe_cal G__law_draw (hr.mono (by decide)) rfl (pa_cons (pv 0) (pa_cons (pv 1) (pa_cons pe_int pa_nil))))) (pss_cons (ps_set (i := 5) SC.nd rfl (Or.inr rfl) (pe_cal G__law_draw (hr.mono (by decide)) rfl (pa_cons (pv 0) (pa_cons (pv 1) (pa_cons pe_int pa_nil))))) (pss_one (ps_ret (pe_bm PySem.F.plainAttrs_str PySem.F.slot_str_join PySem.F.type_str_join mt_mJoin pe_str (pa_cons (pe_lc (own := [("_law_k", 6)]) (g := gName 6) (tt := tYes) rfl SC.nd (pi_range1 (by rfl) T.b_range (pa_cons (pv 2) pa_nil)) (blkOk_by (own := [("_law_k", 6)]) (N := N__law_word) (sc := defScope s__law_word) (by decide +kernel)) (fun _ _ _ _ _ => (pg_name (i := 6) SC.nd rfl (Or.inl rfl))) (fun _ _ _ _ _ => pts_nil) (fun _ _ _ _ _ => (pe_ix ix_str (pv 3) (pe_op op_xMod (pe_op op_xAdd (pe_op op_xAdd (pv 4) (pe_op op_xMul (pv 5) (pv 6))) (pe_op op_xMul (pv 6) (pv 6))) pe_int) (fun _ _ => rfl)))) pa_nil))))))), ?_⟩
    refine (show Sx ⟨F0, but p_tape H, none⟩ _ _ [some v__law_script, some (.ref p_tape), some v__law_size, none, none, none, none] F0 [(p_tape, tp x__law_tape)] from ?_) H (At.startT e0 hF0 hH0)
    have f__law_script : ((rScr K)).rp x__law_script v__law_script F0 := f__law_script
    have f__law_size : (rInt).rp x__law_size v__law_size F0 := f__law_size
    obtain ⟨x10, hx10, h⟩ := lt_e h
    refine sx_seq (sx_asg (R := rS) (ev_is (ev_s (l := [33, 34, 35, 36, 38, 39, 40, 41, 42, 43, 44, 45, 46, 47, 48, 49, 50, 51, 52, 53, 54, 55, 56, 57, 58, 59, 60, 61, 62, 63, 64, 65, 66, 67, 68, 69, 70, 71, 72, 73, 74, 75, 76, 77, 78, 79, 80, 81, 82, 83, 84, 85, 86, 87, 88, 89, 90, 91, 92, 93, 94, 95, 96, 97, 98, 99, 100, 101, 102, 103, 104, 105, 106, 107, 108, 109, 110, 111, 112, 113, 114, 115, 116, 117, 118, 119, 120, 121, 122, 123, 124, 125, 126]) (by decide +kernel) (by decide +kernel)) hx10) fun v13 Fs11 s11 f12 => nx_of ?_)
    obtain ⟨r14, hr14, h⟩ := bsome h
    obtain ⟨x15, hx15, h⟩ := lt_e h
    refine sx_seq (sx_asgM (R := rInt) (evM_is (evM_call (P := P__law_draw K) (n := 0) (k' := r14.2) (eaM_l (ea_cons (ev_v (R := (rScr K)) rfl (Rep.mono (rScr K) s11 f__law_script)) (ea_cons (ev_v (R := rA p_tape) rfl rfl) (ea_cons ev_i ea_nil)))) ⟨_, _, _, rfl, hr14, rfl⟩ rfl) hx15) fun v18 Fs16 s16 f17 => nx_of ?_)
    refine sx_so (σ2 := [some v__law_script, some (.ref p_tape), some v__law_size, some v13, some v18, none, none]) (O2 := [(p_tape, tp r14.2)]) rfl rfl ?_
    obtain ⟨r19, hr19, h⟩ := bsome h
    obtain ⟨x20, hx20, h⟩ := lt_e h
    refine sx_seq (sx_asgM (R := rInt) (evM_is (evM_call (P := P__law_draw K) (n := 0) (k' := r19.2) (eaM_l (ea_cons (ev_v (R := (rScr K)) rfl (Rep.mono (rScr K) (s11.trans s16) f__law_script)) (ea_cons (ev_v (R := rA p_tape) rfl rfl) (ea_cons ev_i ea_nil)))) ⟨_, _, _, rfl, hr19, rfl⟩ rfl) hx20) fun v23 Fs21 s21 f22 => nx_of ?_)
    obtain ⟨c24, hc24, h⟩ := bsome h
    obtain ⟨y38, hy38, h⟩ := bsome h
    obtain ⟨c39, hc39, h⟩ := bsome h
    obtain ⟨rfl, rfl⟩ := Prod.mk.inj (Option.some.inj h)
    refine sx_ret (R := rS) (ev_m (ev_s (l := []) (by decide +kernel) (by decide +kernel)) (ea_cons (ev_nspn (ev_lc (R' := rS) hy38 (ei_rng1O (ea_cons (ev_v (R := rInt) rfl (Rep.mono rInt ((s11.trans s16).trans s21) f__law_size)) ea_nil) hc24) tg_n (fun a25 σ9 F26 F27 ob ha9 e28 e29 ⟨v30, zs, f31⟩ hb32 => by
    subst zs
    obtain ⟨c33, hc33, hb32⟩ := bsome hb32
    obtain ⟨c34, hc34, hb32⟩ := bsome hb32
    obtain ⟨c35, hc35, hb32⟩ := bsome hb32
    obtain ⟨c36, hc36, hb32⟩ := bsome hb32
    obtain rfl := Option.some.inj hb32
    exact ⟨rfl, et_yes, fun b eb => by cases eb; exact (ev_cs (ev_op (ev_v (R := rS) rfl (Rep.mono rS (((s16.trans s21).trans e28).trans e29) f12)) (ev_op (ev_op (ev_op (ev_v (R := rInt) rfl (Rep.mono rInt ((s21.trans e28).trans e29) f17)) (ev_op (ev_v (R := rInt) rfl (Rep.mono rInt (e28.trans e29) f22)) (ev_v (R := rInt) rfl f31) (o_mulO hc33)) o_add) (ev_op (ev_v (R := rInt) rfl f31) (ev_v (R := rInt) rfl f31) (o_mulO hc34)) o_add) ev_i (o_modO hc35)) (o_ixS hc36)))⟩))) ea_nil) (m_join hc39)) fun v40 Fs41 s41 f42 => ?_
    exact rtM_val k (List.Mem.head _) (fun _ => f42)

/-! _law_words -/
abbrev s__law_words : Stmt := top 7
abbrev N__law_words : List Str := ["_law_script", "_law_tape", "_law_width", "_law_many", "_law_words_here", "_law_k", "_law_way", "_law_size"]
theorem sc__law_words : FnScope N__law_words ["_law_script", "_law_tape", "_law_width", "_law_many"] (defScope s__law_words) := ⟨rfl, rfl, rfl, by decide +kernel, rfl, by decide +kernel, by decide +kernel⟩
def m__law_words (x__law_script : List Int) (x__law_tape : Int) (x__law_width : Int) (x__law_many : Int) : Option ((List (List Nat)) × (Int)) := lt ([] : List (List Nat)) fun x10 => (rngO 0 x__law_many).bind fun c15 => fwd (loop (ρ := Unit) (fun (s31 : Int × (List (List Nat))) (a32 : Int) => (m__law_draw (x__law_script) (s31.1) ((8 : Int))).bind fun r45 => lt r45.1 fun x46 => (m__law_draw (x__law_script) (r45.2) ((6 : Int))).bind fun r50 => lt ((1 : Int) + r50.1) fun x51 => (cnd ((decide (x46 = (5 : Int))) || (decide (x46 = (6 : Int)))) ((m__law_draw (x__law_script) (r50.2) ((6 : Int))).bind fun r90 => lt (max (1 : Int) ((x__law_width - (3 : Int)) + r90.1)) fun x91 => some (x91, r90.2)) (some (x51, r50.2))).bind fun (j55 : Int × Int) => (cnd (decide (x46 = (7 : Int))) ((mulO (3 : Int) x__law_width).bind fun c81 => (m__law_draw (x__law_script) (j55.2) ((c81 + (2 : Int)))).bind fun r82 => lt ((1 : Int) + r82.1) fun x83 => some (x83, r82.2)) (some (j55.1, j55.2))).bind fun (j63 : Int × Int) => (m__law_word (x__law_script) (j63.2) (j63.1)).bind fun r71 => (appO s31.2 r71.1).bind fun y72 => some (Fw.nx (r71.2, y72))) c15 (x__law_tape, x10)) (fun (s21 : Int × (List (List Nat))) => some (s21.2, s21.1)) (fun (r : Unit) => none)
def P__law_words (K : PySem.W.Frag) (p_tape : Addr) (As : List Ar) (x__law_tape : (Int)) (r : List (List Nat)) (x9 : (Int)) : Prop := ∃ (x__law_script : List Int) (x__law_width : Int) (x__law_many : Int), As = [val (rScr K) x__law_script, val (rA p_tape) (), val rInt x__law_width, val rInt x__law_many] ∧ m__law_words x__law_script x__law_tape x__law_width x__law_many = some (r, x9)
theorem ok__law_words (T : Top K mg) (D : Df K mg "_law_words" s__law_words) (G__law_draw : Cal P w K mg base 1 "_law_draw" ["_law_script", "_law_tape", "_law_many"] (spM tp (P__law_draw K))) (G__law_word : Cal P w K mg base 2 "_law_word" ["_law_script", "_law_tape", "_law_size"] (spM tp (P__law_word K))) : Cal P w K mg base 3 "_law_words" ["_law_script", "_law_tape", "_law_width", "_law_many"] (spMN tp rS (P__law_words K)) := by
  have SC := sc__law_words
  refine cal_of (N := N__law_words) D SC (fun _ _ _ _ _ _ us hl => match us, hl with | [_, _, _, _], _ => rfl) (fun vs H Q E h => ?_) (fun f cdv A outer s H vs Q E hr h => ?_)
  · obtain ⟨F0, p_tape, As, x__law_tape, r, x9, ⟨x__law_script, x__law_width, x__law_many, rfl, h⟩, e0, hF0, hH0, ha, k⟩ := h
    exact alla_len ha
  · obtain ⟨F0, p_tape, As, x__law_tape, r, x9, ⟨x__law_script, x__law_width, x__law_many, rfl, h⟩, e0, hF0, hH0, ha, k⟩ := h
    obtain ⟨v__law_script, v__law_tape, v__law_width, v__law_many, rfl, f__law_script, f__law_tape, f__law_width, f__law_many⟩ := alla4 ha
    have f__law_tape : v__law_tape = V.ref p_tape := f__law_tape
    subst f__law_tape
    refine ⟨_, (pss_cons (ps_set (i := 4) SC.nd rfl (Or.inl rfl) (pe_lst pa_nil)) (pss_cons (ps_for PassesOwn.never rfl (pi_range1 (by rfl) T.b_range (pa_cons (pv 3) pa_nil)) (pg_name (i := 5) SC.nd rfl (Or.inl rfl)) (pss_cons (ps_set (i := 6) SC.nd rfl (Or.inl rfl) (pe_cal G__law_draw (hr.mono (by decide)) rfl (pa_cons (pv 0) (pa_cons (pv 1) (pa_cons pe_int pa_nil))))) (pss_cons (ps_set (i := 7) SC.nd rfl (Or.inl rfl) (pe_op op_xAdd pe_int (pe_cal G__law_draw (hr.mono (by decide)) rfl (pa_cons (pv 0) (pa_cons (pv 1) (pa_cons pe_int pa_nil)))))) (pss_cons (ps_if (PW.pt (pw_or (pt_cmpR op_eq (pv 6) pe_int (nomark _)) (pw_or1 (pt_cmpR op_eq (pv 6) pe_int (nomark _))))) (pss_one (ps_set (i := 7) SC.nd rfl (Or.inl rfl) (pe_callB (call_cMax2 rfl) (by rfl) T.b_max (by decide +kernel) (pa_cons pe_int (pa_cons (pe_op op_xAdd (pe_op op_xSub (pv 2) pe_int) (pe_cal G__law_draw (hr.mono (by decide)) rfl (pa_cons (pv 0) (pa_cons (pv 1) (pa_cons pe_int pa_nil))))) pa_nil))))) pss_nil) (pss_cons (ps_if (pt_cmpR op_eq (pv 6) pe_int (nomark _)) (pss_one (ps_set (i := 7) SC.nd rfl (Or.inl rfl) (pe_op op_xAdd pe_int (pe_cal G__law_draw (hr.mono (by decide)) rfl (pa_cons (pv 0) (pa_cons (pv 1) (pa_cons (pe_op op_xAdd (pe_op op_xMul pe_int (pv 2)) pe_int) pa_nil))))))) pss_nil) (pss_one (ps_expr (pe_bm PySem.F.plainAttrs_list PySem.F.slot_list_append PySem.F.type_list_append mt_append (pv 4) (pa_cons (pe_cal G__law_word (hr.mono (by decide)) rfl (pa_cons (pv 0) (pa_cons (pv 1) (pa_cons (pv 7) pa_nil)))) pa_nil))))))))) (pss_one (ps_ret (pv 4))))), ?_⟩
    refine (show Sx ⟨F0, but p_tape H, none⟩ _ _ [some v__law_script, some (.ref p_tape), some v__law_width, some v__law_many, none, none, none, none] F0 [(p_tape, tp x__law_tape)] from ?_) H (At.startT e0 hF0 hH0)
    have f__law_script : ((rScr K)).rp x__law_script v__law_script F0 := f__law_script
    have f__law_width : (rInt).rp x__law_width v__law_width F0 := f__law_width
    have f__law_many : (rInt).rp x__law_many v__law_many F0 := f__law_many
    obtain ⟨x10, hx10, h⟩ := lt_e h
    refine sx_seq (sx_asgN (ev_isN (ev_lst (R := rS) (as := []) ea_nil (show (0 : Nat) ≤ limL by decide)) hx10) fun p13 xs14 Fs11 s11 f12 => nx_of ?_)
    obtain ⟨c15, hc15, h⟩ := bsome h
    obtain ⟨w16, hl17, hk18, hr19⟩ := fwd_o h
    refine sx_seq (sx_for (J := fun (s : Int × (List (List Nat))) σ F O => ∃ (x__law_words_here : List V) (w__law_k : Option V) (w__law_way : Option V) (w__law_size : Option V), σ = [some v__law_script, some (.ref p_tape), some v__law_width, some v__law_many, some (.ref p13), w__law_k, w__law_way, w__law_size] ∧ O = [(p13, .lst x__law_words_here), (p_tape, tp s.1)] ∧ AllB rS s.2 x__law_words_here F ∧ True) (Ro := (fun (r : Unit) (v : V) (F : Hp) (O : Own) => False)) hl17 (ei_rng1O (ea_cons (ev_v (R := rInt) rfl (Rep.mono rInt s11 f__law_many)) ea_nil) hc15) tg_n (fun Fe20 e20 => ⟨xs14, _, _, _, rfl, rfl, (AllB.mono e20 f12), trivial⟩) ?_ ?_)
    · refine ⟨fun s21 es22 σ9 Fe23 O9 e23 ⟨xs24, w25, w26, w27, hs28, ho29, f30, _⟩ => ?_, fun r9 er9 v9 F9 O9 e9 hr9 => ?_⟩
      · subst hs28 ho29
        have h := hk18 s21 es22
        refine nx_of ?_
        obtain ⟨rfl, rfl⟩ := Prod.mk.inj (Option.some.inj h)
        refine sx_retO rfl ?_
        exact rtM_own k (i := 1) (j := 0) rfl rfl (by decide) f30
      · exact hr9.elim
    · rintro s31 a32 σ9 σ8 Fe33 Fe34 O9 o9 D9 ha9 e33 e34 ⟨xs36, w37, w38, w39, hs40, ho41, f42, _⟩ ⟨v43, zs, f44⟩ h acc35
      subst hs40 ho41
      subst zs
      obtain ⟨r45, hr45, h⟩ := bsome h
      obtain ⟨x46, hx46, h⟩ := lt_e h
      refine sx_seq (sx_asgM (R := rInt) (evM_is (evM_call (P := P__law_draw K) (n := 1) (k' := r45.2) (eaM_l (ea_cons (ev_v (R := (rScr K)) rfl (Rep.mono (rScr K) ((s11.trans e33).trans e34) f__law_script)) (ea_cons (ev_v (R := rA p_tape) rfl rfl) (ea_cons ev_i ea_nil)))) ⟨_, _, _, rfl, hr45, rfl⟩ rfl) hx46) fun v49 Fs47 s47 f48 => nx_of ?_)
      obtain ⟨r50, hr50, h⟩ := bsome h
      obtain ⟨x51, hx51, h⟩ := lt_e h
      refine sx_seq (sx_asgM (R := rInt) (evM_is (evM_op (evM_l ev_i) (evM_call (P := P__law_draw K) (n := 1) (k' := r50.2) (eaM_l (ea_cons (ev_v (R := (rScr K)) rfl (Rep.mono (rScr K) (((s11.trans e33).trans e34).trans s47) f__law_script)) (ea_cons (ev_v (R := rA p_tape) rfl rfl) (ea_cons ev_i ea_nil)))) ⟨_, _, _, rfl, hr50, rfl⟩ rfl) o_add) hx51) fun v54 Fs52 s52 f53 => nx_of ?_)
      refine sx_so (σ2 := [some v__law_script, some (.ref p_tape), some v__law_width, some v__law_many, some (.ref p13), some v43, some v49, some v54]) (O2 := [(p13, .lst xs36), (p_tape, tp r50.2)]) rfl rfl ?_
      obtain ⟨j55, hj57, h⟩ := bsome h
      refine sx_join (fun (s : Int × Int) σ F O => ∃ (v__law_size : V), σ = [some v__law_script, some (.ref p_tape), some v__law_width, some v__law_many, some (.ref p13), some v43, some v49, some v__law_size] ∧ O = [(p13, .lst xs36), (p_tape, tp s.2)] ∧ (rInt).rp s.1 v__law_size F ∧ True) j55 (fun σ9 Fs58 O9 s58 ⟨v59, hs60, ho61, f62, _⟩ => ?_) (fun hJ56 => ?_)
      · subst hs60 ho61
        obtain ⟨j63, hj65, h⟩ := bsome h
        refine sx_join (fun (s : Int × Int) σ F O => ∃ (v__law_size : V), σ = [some v__law_script, some (.ref p_tape), some v__law_width, some v__law_many, some (.ref p13), some v43, some v49, some v__law_size] ∧ O = [(p13, .lst xs36), (p_tape, tp s.2)] ∧ (rInt).rp s.1 v__law_size F ∧ True) j63 (fun σ9 Fs66 O9 s66 ⟨v67, hs68, ho69, f70, _⟩ => ?_) (fun hJ64 => ?_)
        · subst hs68 ho69
          obtain ⟨r71, hr71, h⟩ := bsome h
          obtain ⟨y72, hy72, h⟩ := bsome h
          obtain ⟨hz73, he74⟩ := iteo hy72
          refine sx_appM (n := 0) rfl ⟨_, (List.Mem.head _), rfl⟩ rfl (AllB.mono ((((e34.trans s47).trans s52).trans s58).trans s66) f42) (evM_call (P := P__law_word K) (n := 1) (k' := r71.2) (eaM_l (ea_cons (ev_v (R := (rScr K)) rfl (Rep.mono (rScr K) ((((((s11.trans e33).trans e34).trans s47).trans s52).trans s58).trans s66) f__law_script)) (ea_cons (ev_v (R := rA p_tape) rfl rfl) (ea_cons (ev_v (R := rInt) rfl f70) ea_nil)))) ⟨_, _, _, rfl, hr71, rfl⟩ rfl) hz73 fun v75 Fs76 s76 f77 => ?_
          obtain rfl := Option.some.inj h
          exact (acc35.nx _ rfl _ _ _ ((((s47.trans s52).trans s58).trans s66).trans s76) ⟨(xs36 ++ [v75]), _, _, _, rfl, rfl, (he74 ▸ f77), trivial⟩).1
        · refine sx_if (et_b (ev_op (ev_v (R := rInt) rfl (Rep.mono rInt (s52.trans s58) f48)) ev_i o_eqI)) (fun z78 Fs79 s79 => ?_) (fun z78 Fs80 s80 => ?_)
          · have hj65 := cnd_t hj65 z78
            obtain ⟨c81, hc81, hj65⟩ := bsome hj65
            obtain ⟨r82, hr82, hj65⟩ := bsome hj65
            obtain ⟨x83, hx83, hj65⟩ := lt_e hj65
            refine sx_asgM (R := rInt) (evM_is (evM_op (evM_l ev_i) (evM_call (P := P__law_draw K) (n := 1) (k' := r82.2) (eaM_l (ea_cons (ev_v (R := (rScr K)) rfl (Rep.mono (rScr K) ((((((s11.trans e33).trans e34).trans s47).trans s52).trans s58).trans s79) f__law_script)) (ea_cons (ev_v (R := rA p_tape) rfl rfl) (ea_cons (ev_op (ev_op ev_i (ev_v (R := rInt) rfl (Rep.mono rInt ((((((s11.trans e33).trans e34).trans s47).trans s52).trans s58).trans s79) f__law_width)) (o_mulO hc81)) ev_i o_add) ea_nil)))) ⟨_, _, _, rfl, hr82, rfl⟩ rfl) o_add) hx83) fun v86 Fs84 s84 f85 => ?_
            obtain rfl := Option.some.inj hj65
            exact hJ64 _ _ _ (s79.trans s84) ⟨v86, rfl, rfl, f85, trivial⟩
          · have hj65 := cnd_f hj65 z78
            refine sx_next ?_
            obtain rfl := Option.some.inj hj65
            exact hJ64 _ _ _ s80 ⟨v59, rfl, rfl, (Rep.mono rInt s80 f62), trivial⟩
      · refine sx_if (et_orP (et_b (ev_op (ev_v (R := rInt) rfl (Rep.mono rInt s52 f48)) ev_i o_eqI)) (fun _ => (et_b (ev_op (ev_v (R := rInt) rfl (Rep.mono rInt s52 f48)) ev_i o_eqI)))) (fun z87 Fs88 s88 => ?_) (fun z87 Fs89 s89 => ?_)
        · have hj57 := cnd_t hj57 z87
          obtain ⟨r90, hr90, hj57⟩ := bsome hj57
          obtain ⟨x91, hx91, hj57⟩ := lt_e hj57
          refine sx_asgM (R := rInt) (evM_is (evM_args (T := fun t8 => tCB _ t8) (fun _ _ _ => rfl) (eaM_c (evM_l ev_i) (eaM_1 (evM_op (evM_l (ev_op (ev_v (R := rInt) rfl (Rep.mono rInt (((((s11.trans e33).trans e34).trans s47).trans s52).trans s88) f__law_width)) ev_i o_sub)) (evM_call (P := P__law_draw K) (n := 1) (k' := r90.2) (eaM_l (ea_cons (ev_v (R := (rScr K)) rfl (Rep.mono (rScr K) (((((s11.trans e33).trans e34).trans s47).trans s52).trans s88) f__law_script)) (ea_cons (ev_v (R := rA p_tape) rfl rfl) (ea_cons ev_i ea_nil)))) ⟨_, _, _, rfl, hr90, rfl⟩ rfl) o_add) ea_nil)) (fun t9 F9 e9 h9 => (ev_cb h9 b_max2))) hx91) fun v94 Fs92 s92 f93 => ?_
          obtain rfl := Option.some.inj hj57
          exact hJ56 _ _ _ (s88.trans s92) ⟨v94, rfl, rfl, f93, trivial⟩
        · have hj57 := cnd_f hj57 z87
          refine sx_next ?_
          obtain rfl := Option.some.inj hj57
          exact hJ56 _ _ _ s89 ⟨v54, rfl, rfl, (Rep.mono rInt s89 f53), trivial⟩

/-! _law_rows_right -/
abbrev s__law_rows_right : Stmt := top 9
abbrev N__law_rows_right : List Str := ["_law_words_here", "_law_width", "_law_kind", "_law_wide", "_law_rows", "_law_left", "_law_number", "_law_row", "_law_ahead", "_law_room", "_law_due"]
theorem sc__law_rows_right : FnScope N__law_rows_right ["_law_words_here", "_law_width", "_law_kind", "_law_wide", "_law_rows"] (defScope s__law_rows_right) := ⟨rfl, rfl, rfl, by decide +kernel, rfl, by decide +kernel, by decide +kernel⟩
def m__law_rows_right (x__law_words_here : List (List Nat)) (x__law_width : Int) (x__law_kind : Int) (x__law_wide : Int) (x__law_rows : List (List Nat)) : Option (Bool) := lt x__law_words_here fun x10 => fwd (loop (ρ := Bool) (fun (s36 : (List (List Nat))) (a37 : (Int × List Nat)) => (m__law_lead (x__law_kind) (x__law_wide) (a37.1)).bind fun r54 => lt r54 fun x55 => lt (x__law_width - (x55.length : Int)) fun x59 => (cnd (!true) (some true) ((cnd (!decide ((cutL a37.2 none (some (x55.length : Int))) = x55)) (some true) ((eqO (PyData.list (List.map encS s36)) (PyData.list (List.map encS ([] : List (List Nat))))).bind fun c63 => some c63)).bind fun c64 => some c64)).bind fun c65 => cnd c65 (some (Fw.rt false)) ((ixO s36 (0 : Int)).bind fun c72 => (cnd (decide (x59 < (c72.length : Int))) ((ixO s36 (0 : Int)).bind fun c93 => lt (cutL c93 none (some x59)) fun x94 => (ixO s36 (0 : Int)).bind fun c98 => (setO s36 (0 : Int) (cutL c98 (some x59) none)).bind fun y99 => some (x94, y99)) ((pop0O s36).bind fun c106 => lt c106.1 fun x107 => fwd (whileN (ρ := Unit) (fun (s124 : (List Nat) × (List (List Nat))) => (eqO (PyData.list (List.map encS s124.2)) (PyData.list (List.map encS ([] : List (List Nat))))).bind fun c132 => (cnd (!c132) ((ixO s124.2 (0 : Int)).bind fun c133 => some (decide ((((s124.1.length : Int) + (1 : Int)) + (c133.length : Int)) ≤ x59))) (some false)).bind fun c134 => some c134) (fun (s138 : (List Nat) × (List (List Nat))) => (catS s138.1 [32]).bind fun c145 => (pop0O s138.2).bind fun c146 => (catS c145 c146.1).bind fun c147 => lt c147 fun x148 => some (Fw.nx (x148, c146.2))) (List.length c106.2 + 1) (x107, c106.2)) (fun (s115 : (List Nat) × (List (List Nat))) => some (s115.1, s115.2)) (fun (r : Unit) => none))).bind fun (j73 : (List Nat) × (List (List Nat))) => (catS x55 j73.1).bind fun c83 => cnd (!decide (a37.2 = c83)) (some (Fw.rt false)) (some (Fw.nx j73.2)))) (enumL x__law_rows) x10) (fun (s20 : (List (List Nat))) => (eqO (PyData.list (List.map encS s20)) (PyData.list (List.map encS ([] : List (List Nat))))).bind fun c32 => some c32) (fun (r : Bool) => some r)
def P__law_rows_right (As : List Ar) (C : Ar) : Prop := ∃ (x__law_words_here : List (List Nat)) (x__law_width : Int) (x__law_kind : Int) (x__law_wide : Int) (x__law_rows : List (List Nat)) (r : Bool), As = [val (rL rS) x__law_words_here, val rInt x__law_width, val rInt x__law_kind, val rInt x__law_wide, val (rL rS) x__law_rows] ∧ m__law_rows_right x__law_words_here x__law_width x__law_kind x__law_wide x__law_rows = some r ∧ C = val rB r
theorem ok__law_rows_right (T : Top K mg) (D : Df K mg "_law_rows_right" s__law_rows_right) (G__law_lead : Cal P w K mg base 1 "_law_lead" ["_law_kind", "_law_wide", "_law_number"] (spG (P__law_lead))) : Cal P w K mg base 2 "_law_rows_right" ["_law_words_here", "_law_width", "_law_kind", "_law_wide", "_law_rows"] (spG (P__law_rows_right)) := by
  have SC := sc__law_rows_right
  refine cal_of (N := N__law_rows_right) D SC (fun _ _ _ _ _ _ us hl => match us, hl with | [_, _, _, _, _], _ => rfl) (fun vs H Q E h => ?_) (fun f cdv A outer s H vs Q E hr h => ?_)
  · obtain ⟨F0, As, C, ⟨x__law_words_here, x__law_width, x__law_kind, x__law_wide, x__law_rows, r, rfl, h, rfl⟩, e0, ha, k⟩ := h
    exact alla_len ha
  · obtain ⟨F0, As, C, ⟨x__law_words_here, x__law_width, x__law_kind, x__law_wide, x__law_rows, r, rfl, h, rfl⟩, e0, ha, k⟩ := h
    obtain ⟨v__law_words_here, v__law_width, v__law_kind, v__law_wide, v__law_rows, rfl, f__law_words_here, f__law_width, f__law_kind, f__law_wide, f__law_rows⟩ := alla5 ha
    refine ⟨_, (pss_cons (ps_set (i := 5) SC.nd rfl (Or.inl rfl) (pe_callTy call_cList (by rfl) T.b_list (by decide +kernel) (pa_cons (pv 0) pa_nil))) (pss_cons (ps_for PassesOwn.never rfl (pi_enum (by rfl) T.b_enumerate (pa_cons (pv 4) pa_nil)) (pg_tup rfl (pgs_cons (pg_name (i := 6) SC.nd rfl (Or.inl rfl)) (pgs_cons (pg_name (i := 7) SC.nd rfl (Or.inl rfl)) pgs_nil))) (pss_cons (ps_set (i := 8) SC.nd rfl (Or.inl rfl) (pe_cal G__law_lead (hr.mono (by decide)) rfl (pa_cons (pv 2) (pa_cons (pv 3) (pa_cons (pv 6) pa_nil))))) (pss_cons (ps_set (i := 9) SC.nd rfl (Or.inl rfl) (pe_op op_xSub (pv 1) (pe_callB call_cLen (by rfl) T.b_len PySem.boot_len (pa_cons (pv 8) pa_nil)))) (pss_cons (ps_if (PW.pt (pw_or (pt_not (pt_val (pe_callB call_isi (by rfl) T.b_isinstance (by decide +kernel) (pa_cons (pv 7) (pa_cons (pe_bltn (v := V.ty "str") (by rfl) T.b_str (by decide +kernel) rfl) pa_nil))))) (pw_or (pt_cmpR op_ne (pe_slice sl_str (pv 7) po_none (po_some (pe_callB call_cLen (by rfl) T.b_len PySem.boot_len (pa_cons (pv 8) pa_nil)))) (pv 8) (nomark _)) (pw_or1 (pt_cmpR (op_eqD hr.units) (pv 5) (pe_lst pa_nil) (nomark _)))))) (pss_one (ps_ret pe_bl)) pss_nil) (pss_cons (ps_if (pt_cmpR op_xGt (pe_callB call_cLen (by rfl) T.b_len PySem.boot_len (pa_cons (pe_ix ix_list (pv 5) pe_int (fun _ _ => rfl)) pa_nil)) (pv 9) (nomark _)) (pss_cons (ps_set (i := 10) SC.nd rfl (Or.inl rfl) (pe_slice sl_str (pe_ix ix_list (pv 5) pe_int (fun _ _ => rfl)) po_none (po_some (pv 9)))) (pss_one (ps_asg (pe_slice sl_str (pe_ix ix_list (pv 5) pe_int (fun _ _ => rfl)) (po_some (pv 9)) po_none) (pg_sub (pv 5) pe_int set_list)))) (pss_cons (ps_set (i := 10) SC.nd rfl (Or.inl rfl) (pe_bm PySem.F.plainAttrs_list PySem.F.slot_list_pop PySem.F.type_list_pop mt_popAt (pv 5) (pa_cons pe_int pa_nil))) (pss_one (ps_while PassesOwn.never (PW.pt (pw_and (pt_cmpR (op_neD hr.units) (pv 5) (pe_lst pa_nil) (nomark _)) (pw_and1 (pt_cmpR op_xLe (pe_op op_xAdd (pe_op op_xAdd (pe_callB call_cLen (by rfl) T.b_len PySem.boot_len (pa_cons (pv 10) pa_nil)) pe_int) (pe_callB call_cLen (by rfl) T.b_len PySem.boot_len (pa_cons (pe_ix ix_list (pv 5) pe_int (fun _ _ => rfl)) pa_nil))) (pv 9) (nomark _))))) (pss_one (ps_set (i := 10) SC.nd rfl (Or.inl rfl) (pe_op op_xCatS (pe_op op_xCatS (pv 10) pe_str) (pe_bm PySem.F.plainAttrs_list PySem.F.slot_list_pop PySem.F.type_list_pop mt_popAt (pv 5) (pa_cons pe_int pa_nil))))))))) (pss_one (ps_if (pt_cmpR op_ne (pv 7) (pe_op op_xCatS (pv 8) (pv 10)) (nomark _)) (pss_one (ps_ret pe_bl)) pss_nil))))))) (pss_one (ps_ret (pe_cmpR (op_eqD hr.units) (pv 5) (pe_lst pa_nil) (nomark _)))))), ?_⟩
    refine (show Sx ⟨F0, H, none⟩ _ _ [some v__law_words_here, some v__law_width, some v__law_kind, some v__law_wide, some v__law_rows, none, none, none, none, none, none] F0 [] from ?_) H (At.start e0)
    have f__law_words_here : ((rL rS)).rp x__law_words_here v__law_words_here F0 := f__law_words_here
    have f__law_width : (rInt).rp x__law_width v__law_width F0 := f__law_width
    have f__law_kind : (rInt).rp x__law_kind v__law_kind F0 := f__law_kind
    have f__law_wide : (rInt).rp x__law_wide v__law_wide F0 := f__law_wide
    have f__law_rows : ((rL rS)).rp x__law_rows v__law_rows F0 := f__law_rows
    obtain ⟨x10, hx10, h⟩ := lt_e h
    refine sx_seq (sx_asgN (ev_isN (ev_cbN (ea_cons (ev_spn (ev_v (R := (rL rS)) rfl f__law_words_here)) ea_nil) b_list) hx10) fun p13 xs14 Fs11 s11 f12 => nx_of ?_)
    obtain ⟨w15, hl16, hk17, hr18⟩ := fwd_o h
    refine sx_seq (sx_for (J := fun (s : (List (List Nat))) σ F O => ∃ (x__law_left : List V) (w__law_number : Option V) (w__law_row : Option V) (w__law_ahead : Option V) (w__law_room : Option V) (w__law_due : Option V), σ = [some v__law_words_here, some v__law_width, some v__law_kind, some v__law_wide, some v__law_rows, some (.ref p13), w__law_number, w__law_row, w__law_ahead, w__law_room, w__law_due] ∧ O = [(p13, .lst x__law_left)] ∧ AllB rS s x__law_left F ∧ True) (Ro := (fun (r : Bool) v F (O : Own) => (rB).rp r v F)) hl16 (ei_enum (ea_cons (ev_v (R := (rL rS)) rfl (Rep.mono (rL rS) s11 f__law_rows)) ea_nil)) tg_2 (fun Fe19 e19 => ⟨xs14, _, _, _, _, _, rfl, rfl, (AllB.mono e19 f12), trivial⟩) ?_ ?_)
    · refine ⟨fun s20 es21 σ9 Fe22 O9 e22 ⟨xs23, w24, w25, w26, w27, w28, hs29, ho30, f31, _⟩ => ?_, fun r9 er9 v9 F9 O9 e9 hr9 => ?_⟩
      · subst hs29 ho30
        have h := hk17 s20 es21
        refine nx_of ?_
        obtain ⟨c32, hc32, h⟩ := bsome h
        obtain rfl := Option.some.inj h
        refine sx_ret (R := rB) (ev_op (ev_o (R := rS) rfl (List.Mem.head _) f31) (ev_nspn (ev_lst (R := rS) (as := []) ea_nil (show (0 : Nat) ≤ limL by decide))) (by have z := eqO_e hc32; have z1 := dt_l eS (K := K) (R := rS) z.1; have z2 := dt_l eS (K := K) (R := rS) z.2.1; have z3 := o_eqD z1 z2; rw [z.2.2] at z3; exact z3)) fun v33 Fs34 s34 f35 => ?_
        exact rt_val k (fun _ => f35)
      · have h := hr18 r9 er9
        obtain rfl := Option.some.inj h
        exact rt_val k (fun _ => hr9)
    · rintro s36 a37 σ9 σ8 Fe38 Fe39 O9 o9 D9 ha9 e38 e39 ⟨xs41, w42, w43, w44, w45, w46, hs47, ho48, f49, _⟩ ⟨v50, v52, zs, f51, f53⟩ h acc40
      subst hs47 ho48
      subst zs
      obtain ⟨r54, hr54, h⟩ := bsome h
      obtain ⟨x55, hx55, h⟩ := lt_e h
      refine sx_seq (sx_asg (R := rS) (ev_is (ev_call (P := P__law_lead) (ea_cons (ev_v (R := rInt) rfl (Rep.mono rInt ((s11.trans e38).trans e39) f__law_kind)) (ea_cons (ev_v (R := rInt) rfl (Rep.mono rInt ((s11.trans e38).trans e39) f__law_wide)) (ea_cons (ev_v (R := rInt) rfl f51) ea_nil))) ⟨_, _, _, _, rfl, hr54, rfl⟩) hx55) fun v58 Fs56 s56 f57 => nx_of ?_)
      obtain ⟨x59, hx59, h⟩ := lt_e h
      refine sx_seq (sx_asg (R := rInt) (ev_is (ev_op (ev_v (R := rInt) rfl (Rep.mono rInt (((s11.trans e38).trans e39).trans s56) f__law_width)) (ev_cb (ea_cons (ev_v (R := rS) rfl f57) ea_nil) b_lenS) o_sub) hx59) fun v62 Fs60 s60 f61 => nx_of ?_)
      refine sx_so (σ2 := [some v__law_words_here, some v__law_width, some v__law_kind, some v__law_wide, some v__law_rows, some (.ref p13), some v50, some v52, some v58, some v62, w46]) (O2 := [(p13, .lst xs41)]) rfl rfl ?_
      obtain ⟨c65, hc65, h⟩ := bsome h
      refine sx_seq (sx_if (et_or (b := c65) (et_not (et_B (ev_cb (ea_cons (ev_v (R := rS) rfl (Rep.mono rS (s56.trans s60) f53)) (ea_cons ev_ty ea_nil)) (b_isi (b := true) tS (by decide +kernel))))) (fun z => by
    have h' := cnd_f hc65 z
    obtain ⟨c64, hc64, h'⟩ := bsome h'
    exact et_is (et_or (b := c64) (et_b (ev_op (ev_slS (ev_v (R := rS) rfl (Rep.mono rS (s56.trans s60) f53)) ep_none (ep_some (ev_cb (ea_cons (ev_v (R := rS) rfl (Rep.mono rS s60 f57)) ea_nil) b_lenS))) (ev_v (R := rS) rfl (Rep.mono rS s60 f57)) o_neS)) (fun z => by
      have h'' := cnd_f hc64 z
      obtain ⟨c63, hc63, h''⟩ := bsome h''
      exact et_is (et_b (ev_op (ev_o (R := rS) rfl (List.Mem.head _) (AllB.mono ((e39.trans s56).trans s60) f49)) (ev_nspn (ev_lst (R := rS) (as := []) ea_nil (show (0 : Nat) ≤ limL by decide))) (by have z := eqO_e hc63; have z1 := dt_l eS (K := K) (R := rS) z.1; have z2 := dt_l eS (K := K) (R := rS) z.2.1; have z3 := o_eqD z1 z2; rw [z.2.2] at z3; exact z3))) (Option.some.inj h'')) (fun z => (Option.some.inj (cnd_t hc64 z)).symm)) (Option.some.inj h')) (fun z => (Option.some.inj (cnd_t hc65 z)).symm)) (fun z66 Fs67 s67 => ?_) (fun z66 Fs68 s68 => ?_))
      · have h := cnd_t h z66
        obtain rfl := Option.some.inj h
        refine sx_ret (R := rB) ev_b fun v69 Fs70 s70 f71 => ?_
        exact acc40.rt _ rfl _ _ _ (((s56.trans s60).trans s67).trans s70) f71
      · have h := cnd_f h z66
        refine sx_next ?_
        refine nx_of ?_
        obtain ⟨c72, hc72, h⟩ := bsome h
        obtain ⟨j73, hj75, h⟩ := bsome h
        refine sx_join (fun (s : (List Nat) × (List (List Nat))) σ F O => ∃ (x__law_left : List V) (v__law_due : V), σ = [some v__law_words_here, some v__law_width, some v__law_kind, some v__law_wide, some v__law_rows, some (.ref p13), some v50, some v52, some v58, some v62, some v__law_due] ∧ O = [(p13, .lst x__law_left)] ∧ AllB rS s.2 x__law_left F ∧ (rS).rp s.1 v__law_due F ∧ True) j73 (fun σ9 Fs76 O9 s76 ⟨xs77, v78, hs79, ho80, f81, f82, _⟩ => ?_) (fun hJ74 => ?_)
        · subst hs79 ho80
          obtain ⟨c83, hc83, h⟩ := bsome h
          refine sx_if (et_b (ev_op (ev_v (R := rS) rfl (Rep.mono rS (((s56.trans s60).trans s68).trans s76) f53)) (ev_op (ev_v (R := rS) rfl (Rep.mono rS ((s60.trans s68).trans s76) f57)) (ev_v (R := rS) rfl f82) (o_catS hc83)) o_neS)) (fun z84 Fs85 s85 => ?_) (fun z84 Fs86 s86 => ?_)
          · have h := cnd_t h z84
            obtain rfl := Option.some.inj h
            refine sx_ret (R := rB) ev_b fun v87 Fs88 s88 f89 => ?_
            exact acc40.rt _ rfl _ _ _ (((((s56.trans s60).trans s68).trans s76).trans s85).trans s88) f89
          · have h := cnd_f h z84
            refine sx_next ?_
            obtain rfl := Option.some.inj h
            exact (acc40.nx _ rfl _ _ _ ((((s56.trans s60).trans s68).trans s76).trans s86) ⟨xs77, _, _, _, _, _, rfl, rfl, (AllB.mono s86 f81), trivial⟩).1
        · refine sx_if (et_b (ev_op (ev_cb (ea_cons (ev_op (ev_o (R := rS) rfl (List.Mem.head _) (AllB.mono (((e39.trans s56).trans s60).trans s68) f49)) ev_i (o_ixL hc72)) ea_nil) b_lenS) (ev_v (R := rInt) rfl (Rep.mono rInt s68 f61)) o_gt)) (fun z90 Fs91 s91 => ?_) (fun z90 Fs92 s92 => ?_)
          · have hj75 := cnd_t hj75 z90
            obtain ⟨c93, hc93, hj75⟩ := bsome hj75
            obtain ⟨x94, hx94, hj75⟩ := lt_e hj75
            refine sx_seq (sx_asg (R := rS) (ev_is (ev_slS (ev_op (ev_o (R := rS) rfl (List.Mem.head _) (AllB.mono ((((e39.trans s56).trans s60).trans s68).trans s91) f49)) ev_i (o_ixL hc93)) ep_none (ep_some (ev_v (R := rInt) rfl (Rep.mono rInt (s68.trans s91) f61)))) hx94) fun v97 Fs95 s95 f96 => nx_of ?_)
            obtain ⟨c98, hc98, hj75⟩ := bsome hj75
            obtain ⟨y99, hy99, hj75⟩ := bsome hj75
            obtain ⟨m100, hm102, he101⟩ := setO_e hy99
            refine sx_setL (n := 0) rfl rfl (AllB.mono (((((e39.trans s56).trans s60).trans s68).trans s91).trans s95) f49) (ev_slS (ev_op (ev_o (R := rS) rfl (List.Mem.head _) (AllB.mono (((((e39.trans s56).trans s60).trans s68).trans s91).trans s95) f49)) ev_i (o_ixL hc98)) (ep_some (ev_v (R := rInt) rfl (Rep.mono rInt ((s68.trans s91).trans s95) f61))) ep_none) ev_i hm102 fun v103 Fs104 s104 f105 => ?_
            obtain rfl := Option.some.inj hj75
            exact hJ74 _ _ _ ((s91.trans s95).trans s104) ⟨(List.set xs41 m100 v103), v97, rfl, rfl, (he101 ▸ f105), (Rep.mono rS s104 f96), trivial⟩
          · have hj75 := cnd_f hj75 z90
            obtain ⟨c106, hc106, hj75⟩ := bsome hj75
            obtain ⟨x107, hx107, hj75⟩ := lt_e hj75
            refine sx_seq (sx_asgM (R := rS) (evM_is (evM_pop0 (n := 0) (x := c106) rfl rfl (AllB.mono ((((e39.trans s56).trans s60).trans s68).trans s92) f49) hc106 ev_i) hx107) fun v110 Fs108 s108 f109 => nx_of ?_)
            obtain ⟨w111, hl112, hk113, hr114⟩ := fwd_o hj75
            refine sx_while (J := fun (s : (List Nat) × (List (List Nat))) σ F O => ∃ (x__law_left : List V) (v__law_due : V), σ = [some v__law_words_here, some v__law_width, some v__law_kind, some v__law_wide, some v__law_rows, some (.ref p13), some v50, some v52, some v58, some v62, some v__law_due] ∧ O = [(p13, .lst x__law_left)] ∧ AllB rS s.2 x__law_left F ∧ (rS).rp s.1 v__law_due F ∧ True) (Ro := (fun (r : Unit) (v : V) (F : Hp) (O : Own) => False)) hl112 ⟨(List.tail xs41), v110, rfl, rfl, (AllB.mono (((((e39.trans s56).trans s60).trans s68).trans s92).trans s108) (pop0_all (x := c106) f49 hc106)), f109, trivial⟩ ?_ ?_ ?_ ?_
            · refine ⟨fun s115 es116 σ9 Fe117 O9 e117 ⟨xs118, v119, hs120, ho121, f122, f123, _⟩ => ?_, fun r9 er9 v9 F9 O9 e9 hr9 => ?_⟩
              · subst hs120 ho121
                have hj75 := hk113 s115 es116
                obtain rfl := Option.some.inj hj75
                exact hJ74 _ _ _ ((s92.trans s108).trans e117) ⟨xs118, v119, rfl, rfl, f122, f123, trivial⟩
              · exact hr9.elim
            · rintro s124 σ9 Fe125 O9 b9 e125 ⟨xs126, v127, hs128, ho129, f130, f131, _⟩ hc9
              subst hs128 ho129
              obtain ⟨c132, hc132, hc9⟩ := bsome hc9
              obtain ⟨c134, hc134, hc9⟩ := bsome hc9
              obtain rfl := Option.some.inj hc9
              exact (et_and (b := c134) (et_b (ev_op (ev_o (R := rS) rfl (List.Mem.head _) f130) (ev_nspn (ev_lst (R := rS) (as := []) ea_nil (show (0 : Nat) ≤ limL by decide))) (by have z := eqO_e hc132; have z1 := dt_l eS (K := K) (R := rS) z.1; have z2 := dt_l eS (K := K) (R := rS) z.2.1; have z3 := o_neD z1 z2; rw [z.2.2] at z3; exact z3))) (fun z => by
    have hc9' := cnd_t hc134 z
    obtain ⟨c133, hc133, hc9'⟩ := bsome hc9'
    exact et_is (et_b (ev_op (ev_op (ev_op (ev_cb (ea_cons (ev_v (R := rS) rfl f131) ea_nil) b_lenS) ev_i o_add) (ev_cb (ea_cons (ev_op (ev_o (R := rS) rfl (List.Mem.head _) f130) ev_i (o_ixL hc133)) ea_nil) b_lenS) o_add) (ev_v (R := rInt) rfl (Rep.mono rInt (((s68.trans s92).trans s108).trans e125) f61)) o_le)) (Option.some.inj hc9')) (fun z => (Option.some.inj (cnd_f hc134 z)).symm))
            · rintro s138 σ9 Fe135 Fe136 O9 o9 D9 e135 e136 ⟨xs139, v140, hs141, ho142, f143, f144, _⟩ _ h acc137
              subst hs141 ho142
              obtain ⟨c145, hc145, h⟩ := bsome h
              obtain ⟨c146, hc146, h⟩ := bsome h
              obtain ⟨c147, hc147, h⟩ := bsome h
              obtain ⟨x148, hx148, h⟩ := lt_e h
              refine sx_asgM (R := rS) (evM_is (evM_op (evM_l (ev_op (ev_v (R := rS) rfl (Rep.mono rS e136 f144)) (ev_cs (ev_ch (c := 32) (by decide +kernel) (by decide))) (o_catS hc145))) (evM_pop0 (n := 0) (x := c146) rfl rfl (AllB.mono e136 f143) hc146 ev_i) (o_catS hc147)) hx148) fun v151 Fs149 s149 f150 => ?_
              obtain rfl := Option.some.inj h
              exact (acc137.nx _ rfl _ _ _ s149 ⟨(List.tail xs139), v151, rfl, rfl, (AllB.mono (e136.trans s149) (pop0_all (x := c146) f143 hc146)), f150, trivial⟩).1
            · rintro s153 σ9 F8 F9 O9 ⟨xs154, v155, hs156, ho157, f158, f159, _⟩ e152
              subst hs156 ho157
              exact ⟨xs154, v155, rfl, rfl, (AllB.mono e152 f158), (Rep.mono rS e152 f159), trivial⟩

/-! _law_told -/
abbrev s__law_told : Stmt := top 10
abbrev N__law_told : List Str := ["_law_words_here", "_law_width", "_law_kind", "_law_wide", "_law_numbers", "_law_lead_here"]
theorem sc__law_told : FnScope N__law_told ["_law_words_here", "_law_width", "_law_kind", "_law_wide", "_law_numbers"] (defScope s__law_told) := ⟨rfl, rfl, rfl, by decide +kernel, rfl, by decide +kernel, by decide +kernel⟩
abbrev env__law_told (K : PySem.W.Frag) (n : Nat) (f : Addr) : Env := envOfC "_law_told" (defScope s__law_told) n f (.ref (He.cT K ("_law_told", none)).1)
def nm__law_told (K : PySem.W.Frag) : Nat → Nat → Str := fun l _ => if l = 77 then (env__law_told K 0 0).qual ++ "_law_lead_here" else ""
def tT (K : PySem.W.Frag) : Tb := some ((He.cT K ("_law_told", none)).2, nm__law_told K)
def m__law_told (x__law_words_here : List (List Nat)) (x__law_width : Int) (x__law_kind : Int) (x__law_wide : Int) (x__law_numbers : List (Int)) : Option ((List (List Nat)) × ((List (Int)))) := (m_filled (x__law_words_here) (x__law_width) ((x__law_kind, x__law_wide)) (x__law_numbers)).bind fun r16 => (grdB (okL (fun _ => true) r16.2)).bind fun g17 => some (r16.1, r16.2)
def P__law_told (K : PySem.W.Frag) (O : Own) (As : List Ar) (r : List (List Nat)) (O' : Own) : Prop := ∃ (p__law_numbers : Addr) (x__law_words_here : List (List Nat)) (x__law_width : Int) (x__law_kind : Int) (x__law_wide : Int) (x__law_numbers : List (Int)) (x9 : ((List (Int)))), O = [(p__law_numbers, (cF V.int) x__law_numbers)] ∧ OkL (fun _ => True) x__law_numbers ∧ As = [val (rL rS) x__law_words_here, val rInt x__law_width, val rInt x__law_kind, val rInt x__law_wide, val (rA p__law_numbers) ()] ∧ m__law_told x__law_words_here x__law_width x__law_kind x__law_wide x__law_numbers = some (r, x9) ∧ O' = [(p__law_numbers, (cF V.int) x9)]
theorem ok__law_told (T : Top K mg) (D : DfT K mg "_law_told" s__law_told) (TB : LamX.TabB base mg (He.cT K ("_law_told", none)).1 (He.cT K ("_law_told", none)).2) (G__law_lead_here : CalC P w K mg base 2 s__law_lead_here "_law_lead_here" ["_law_number"] ["_law_kind", "_law_numbers", "_law_wide"] (spC 1 (spA none (P__law_lead_here)))) (G_filled : Cal P w K mg base 4 "filled" ["words", "width", "lead"] (spAN none rS (P_filled))) : Cal P w K mg base 5 "_law_told" ["_law_words_here", "_law_width", "_law_kind", "_law_wide", "_law_numbers"] (spAN (tT K) rS (P__law_told K)) := by
  have SC := sc__law_told
  refine cal_ofT (N := N__law_told) D SC (fun _ _ _ _ _ _ us hl => match us, hl with | [_, _, _, _, _], _ => rfl) (fun vs H Q E h => ?_) (fun f A outer s H vs Q E hr h => ?_)
  · obtain ⟨F0, B0, O0, As, r, O9, ⟨p__law_numbers, x__law_words_here, x__law_width, x__law_kind, x__law_wide, x__law_numbers, x9, rfl, hok__law_numbers, rfl, h, rfl⟩, at0, ha, k⟩ := h
    exact alla_len ha
  · obtain ⟨F0, B0, O0, As, r, O9, ⟨p__law_numbers, x__law_words_here, x__law_width, x__law_kind, x__law_wide, x__law_numbers, x9, rfl, hok__law_numbers, rfl, h, rfl⟩, at0, ha, k⟩ := h
    obtain ⟨v__law_words_here, v__law_width, v__law_kind, v__law_wide, v__law_numbers, rfl, f__law_words_here, f__law_width, f__law_kind, f__law_wide, f__law_numbers⟩ := alla5 ha
    have f__law_numbers : v__law_numbers = V.ref p__law_numbers := f__law_numbers
    subst f__law_numbers
    refine ⟨_, (pss_cons (ps_ndefO (st := s__law_lead_here) (nm := nm__law_told K) (i := 5) rfl TB rfl rfl (NdefX.ndef_free (fr := ["_law_kind", "_law_numbers", "_law_wide"]) nd__law_lead_here) rfl rfl rfl SC.nd rfl (Or.inl rfl) (.inl rfl)) (pss_one (ps_ret (pe_calH G_filled (hr.mono (by decide)) (fun _ => rfl) (ck_of (by decide +kernel)) rfl (pa_cons (pv 0) (pa_cons (pv 1) (pa_cons (pv 5) pa_nil))))))), ?_⟩
    refine (show Sx ⟨F0, B0, (tT K)⟩ _ _ [some v__law_words_here, some v__law_width, some v__law_kind, some v__law_wide, some (.ref p__law_numbers), none] F0 [(p__law_numbers, (cF V.int) x__law_numbers)] from ?_) H at0
    have f__law_words_here : ((rL rS)).rp x__law_words_here v__law_words_here F0 := f__law_words_here
    have f__law_width : (rInt).rp x__law_width v__law_width F0 := f__law_width
    have f__law_kind : (rInt).rp x__law_kind v__law_kind F0 := f__law_kind
    have f__law_wide : (rInt).rp x__law_wide v__law_wide F0 := f__law_wide
    refine sx_seq (sx_ndefT rfl rfl fun f10 c11 Fs12 s12 h13 h14 => nx_of ?_)
    obtain ⟨r16, hr16, h⟩ := bsome h
    obtain ⟨g17, hg17, h⟩ := bsome h
    obtain ⟨rfl, rfl⟩ := Prod.mk.inj (Option.some.inj h)
    refine sx_retMN (evMN_o (O2 := [(p__law_numbers, cF V.int r16.2)]) (evM_handN (P := P_filled) (O0 := [(p__law_numbers, cF V.int x__law_numbers)]) (O0' := [(p__law_numbers, (cF V.int) r16.2)]) (fun _ _ _ _ h => h) [0] (eaM_l (ea_cons (ev_v (R := (rL rS)) rfl (Rep.mono (rL rS) s12 f__law_words_here)) (ea_cons (ev_v (R := rInt) rfl (Rep.mono rInt s12 f__law_width)) (ea_cons (ev_v (R := (rClo0 s__law_lead_here "_law_lead_here" ((env__law_told K s.heap.objs.size f).qual ++ "_law_lead_here") (cloFrom (env__law_told K s.heap.objs.size f).cells (defScope s__law_lead_here).names []))) rfl (show ((rClo0 s__law_lead_here "_law_lead_here" ((env__law_told K s.heap.objs.size f).qual ++ "_law_lead_here") (cloFrom (env__law_told K s.heap.objs.size f).cells (defScope s__law_lead_here).names []))).rp () (.ref f10) Fs12 from ⟨f10, c11, rfl, h13, h14⟩)) ea_nil)))) (hand_c (hand_c (hand_clo (x := (x__law_kind, x__law_wide)) [2, 4, 3] hand_nil trivial (NdefX.ndef_free (fr := ["_law_kind", "_law_numbers", "_law_wide"]) nd__law_lead_here) (NdefX.ndef_fr nd__law_lead_here) rfl (by obtain rfl := ((Rep.mono rInt s12 f__law_kind)); obtain rfl := ((Rep.mono rInt s12 f__law_wide)); rfl)))) ⟨_, _, _, _, _, _, rfl, flat_ok (F := F0) frI (flatB frI hok__law_numbers), rfl, hr16, rfl⟩ rfl (by decide) rfl (Or.inl rfl)) rfl) fun p18 xs19 Fs20 s20 f21 => ?_
    exact rtA_own [0, 1] k rfl (by decide) f21

/-! _law_drawn -/
abbrev s__law_drawn : Stmt := top 11
abbrev N__law_drawn : List Str := ["_law_script", "_law_tape", "_law_most", "_law_width", "_law_kind", "_law_wide"]
theorem sc__law_drawn : FnScope N__law_drawn ["_law_script", "_law_tape", "_law_most"] (defScope s__law_drawn) := ⟨rfl, rfl, rfl, by decide +kernel, rfl, by decide +kernel, by decide +kernel⟩
def m__law_drawn (x__law_script : List Int) (x__law_tape : Int) (x__law_most : Int) : Option (((List (List Nat) × Int × Int × Int)) × (Int)) := (m__law_draw (x__law_script) (x__law_tape) ((39 : Int))).bind fun r10 => lt ((2 : Int) + r10.1) fun x11 => (m__law_draw (x__law_script) (r10.2) ((4 : Int))).bind fun r15 => lt r15.1 fun x16 => (m__law_draw (x__law_script) (r15.2) ((min (9 : Int) x11))).bind fun r20 => lt r20.1 fun x21 => (m__law_draw (x__law_script) (r20.2) (x__law_most)).bind fun r25 => (m__law_words (x__law_script) (r25.2) (x11) (r25.1)).bind fun r26 => some ((r26.1, x11, x16, x21), r26.2)
def P__law_drawn (K : PySem.W.Frag) (p_tape : Addr) (As : List Ar) (x__law_tape : (Int)) (C : Ar) (x9 : (Int)) : Prop := ∃ (x__law_script : List Int) (x__law_most : Int) (r : (List (List Nat) × Int × Int × Int)), As = [val (rScr K) x__law_script, val (rA p_tape) (), val rInt x__law_most] ∧ m__law_drawn x__law_script x__law_tape x__law_most = some (r, x9) ∧ C = val (rT4 (rL rS) rInt rInt rInt) r
theorem ok__law_drawn (T : Top K mg) (D : Df K mg "_law_drawn" s__law_drawn) (G__law_draw : Cal P w K mg base 1 "_law_draw" ["_law_script", "_law_tape", "_law_many"] (spM tp (P__law_draw K))) (G__law_words : Cal P w K mg base 3 "_law_words" ["_law_script", "_law_tape", "_law_width", "_law_many"] (spMN tp rS (P__law_words K))) : Cal P w K mg base 4 "_law_drawn" ["_law_script", "_law_tape", "_law_most"] (spM tp (P__law_drawn K)) := by
  have SC := sc__law_drawn
  refine cal_of (N := N__law_drawn) D SC (fun _ _ _ _ _ _ us hl => match us, hl with | [_, _, _], _ => rfl) (fun vs H Q E h => ?_) (fun f cdv A outer s H vs Q E hr h => ?_)
  · obtain ⟨F0, p_tape, As, x__law_tape, C, x9, ⟨x__law_script, x__law_most, r, rfl, h, rfl⟩, e0, hF0, hH0, ha, k⟩ := h
    exact alla_len ha
  · obtain ⟨F0, p_tape, As, x__law_tape, C, x9, ⟨x__law_script, x__law_most, r, rfl, h, rfl⟩, e0, hF0, hH0, ha, k⟩ := h
    obtain ⟨v__law_script, v__law_tape, v__law_most, rfl, f__law_script, f__law_tape, f__law_most⟩ := alla3 ha
    have f__law_tape : v__law_tape = V.ref p_tape := f__law_tape
    subst f__law_tape
    refine ⟨_, (pss_cons (ps_set (i := 3) SC.nd rfl (Or.inl rfl) (pe_op op_xAdd pe_int (pe_cal G__law_draw (hr.mono (by decide)) rfl (pa_cons (pv 0) (pa_cons (pv 1) (pa_cons pe_int pa_nil)))))) (pss_cons (ps_set (i := 4) SC.nd rfl (Or.inl rfl) (pe_cal G__law_draw (hr.mono (by decide)) rfl (pa_cons (pv 0) (pa_cons (pv 1) (pa_cons pe_int pa_nil))))) (pss_cons (ps_set (i := 5) SC.nd rfl (Or.inl rfl) (pe_cal G__law_draw (hr.mono (by decide)) rfl (pa_cons (pv 0) (pa_cons (pv 1) (pa_cons (pe_callB (call_cMin2 rfl) (by rfl) T.b_min (by decide +kernel) (pa_cons pe_int (pa_cons (pv 3) pa_nil))) pa_nil))))) (pss_one (ps_ret (pe_tup (pa_cons (pe_cal G__law_words (hr.mono (by decide)) rfl (pa_cons (pv 0) (pa_cons (pv 1) (pa_cons (pv 3) (pa_cons (pe_cal G__law_draw (hr.mono (by decide)) rfl (pa_cons (pv 0) (pa_cons (pv 1) (pa_cons (pv 2) pa_nil)))) pa_nil))))) (pa_cons (pv 3) (pa_cons (pv 4) (pa_cons (pv 5) pa_nil)))))))))), ?_⟩
    refine (show Sx ⟨F0, but p_tape H, none⟩ _ _ [some v__law_script, some (.ref p_tape), some v__law_most, none, none, none] F0 [(p_tape, tp x__law_tape)] from ?_) H (At.startT e0 hF0 hH0)
    have f__law_script : ((rScr K)).rp x__law_script v__law_script F0 := f__law_script
    have f__law_most : (rInt).rp x__law_most v__law_most F0 := f__law_most
    obtain ⟨r10, hr10, h⟩ := bsome h
    obtain ⟨x11, hx11, h⟩ := lt_e h
    refine sx_seq (sx_asgM (R := rInt) (evM_is (evM_op (evM_l ev_i) (evM_call (P := P__law_draw K) (n := 0) (k' := r10.2) (eaM_l (ea_cons (ev_v (R := (rScr K)) rfl f__law_script) (ea_cons (ev_v (R := rA p_tape) rfl rfl) (ea_cons ev_i ea_nil)))) ⟨_, _, _, rfl, hr10, rfl⟩ rfl) o_add) hx11) fun v14 Fs12 s12 f13 => nx_of ?_)
    obtain ⟨r15, hr15, h⟩ := bsome h
    obtain ⟨x16, hx16, h⟩ := lt_e h
    refine sx_seq (sx_asgM (R := rInt) (evM_is (evM_call (P := P__law_draw K) (n := 0) (k' := r15.2) (eaM_l (ea_cons (ev_v (R := (rScr K)) rfl (Rep.mono (rScr K) s12 f__law_script)) (ea_cons (ev_v (R := rA p_tape) rfl rfl) (ea_cons ev_i ea_nil)))) ⟨_, _, _, rfl, hr15, rfl⟩ rfl) hx16) fun v19 Fs17 s17 f18 => nx_of ?_)
    refine sx_so (σ2 := [some v__law_script, some (.ref p_tape), some v__law_most, some v14, some v19, none]) (O2 := [(p_tape, tp r15.2)]) rfl rfl ?_
    obtain ⟨r20, hr20, h⟩ := bsome h
    obtain ⟨x21, hx21, h⟩ := lt_e h
    refine sx_seq (sx_asgM (R := rInt) (evM_is (evM_call (P := P__law_draw K) (n := 0) (k' := r20.2) (eaM_l (ea_cons (ev_v (R := (rScr K)) rfl (Rep.mono (rScr K) (s12.trans s17) f__law_script)) (ea_cons (ev_v (R := rA p_tape) rfl rfl) (ea_cons (ev_cb (ea_cons ev_i (ea_cons (ev_v (R := rInt) rfl (Rep.mono rInt s17 f13)) ea_nil)) b_min2) ea_nil)))) ⟨_, _, _, rfl, hr20, rfl⟩ rfl) hx21) fun v24 Fs22 s22 f23 => nx_of ?_)
    obtain ⟨r25, hr25, h⟩ := bsome h
    obtain ⟨r26, hr26, h⟩ := bsome h
    obtain ⟨rfl, rfl⟩ := Prod.mk.inj (Option.some.inj h)
    refine sx_retM (R := (rT4 (rL rS) rInt rInt rInt)) (evM_args (T := fun t8 => tTup t8) (fun _ _ _ => rfl) (eaM_1 (evM_frz (evM_callN (P := P__law_words K) (n := 0) (k' := r26.2) (eaM_c (evM_l (ev_v (R := (rScr K)) rfl (Rep.mono (rScr K) ((s12.trans s17).trans s22) f__law_script))) (eaM_c (evM_l (ev_v (R := rA p_tape) rfl rfl)) (eaM_c (evM_l (ev_v (R := rInt) rfl (Rep.mono rInt (s17.trans s22) f13))) (eaM_1 (evM_call (P := P__law_draw K) (n := 0) (k' := r25.2) (eaM_l (ea_cons (ev_v (R := (rScr K)) rfl (Rep.mono (rScr K) ((s12.trans s17).trans s22) f__law_script)) (ea_cons (ev_v (R := rA p_tape) rfl rfl) (ea_cons (ev_v (R := rInt) rfl (Rep.mono rInt ((s12.trans s17).trans s22) f__law_most)) ea_nil)))) ⟨_, _, _, rfl, hr25, rfl⟩ rfl) ea_nil)))) ⟨_, _, _, rfl, hr26⟩ rfl)) (ea_cons (ev_v (R := rInt) rfl (Rep.mono rInt (s17.trans s22) f13)) (ea_cons (ev_v (R := rInt) rfl (Rep.mono rInt s22 f18)) (ea_cons (ev_v (R := rInt) rfl f23) ea_nil)))) (fun t9 F9 e9 h9 => (ev_tup4 h9))) fun v27 Fs28 s28 f29 => ?_
    exact rtM_val k (List.Mem.head _) (fun _ => f29)

/-! law -/
abbrev s_law : Stmt := top 12
abbrev N_law : List Str := ["_law_script", "_law_tape", "_law_words_here", "_law_width", "_law_kind", "_law_wide", "_law_others", "_law_far", "_law_sort", "_law_long", "_law_handed", "_law_numbers", "_law_found", "_law_kept", "_law_between", "_law_number"]
theorem sc_law : FnScope N_law ["_law_script"] (defScope s_law) := ⟨rfl, rfl, rfl, by decide +kernel, rfl, by decide +kernel, by decide +kernel⟩
def m_law (x__law_script : List Int) : Option (Bool) := (m__law_drawn (x__law_script) ((0 : Int)) ((19 : Int))).bind fun r12 => lt r12.1 fun x13 => (m__law_drawn (x__law_script) (r12.2) ((8 : Int))).bind fun r23 => lt r23.1 fun x24 => lt x13.1 fun x34 => lt ([] : List (Int)) fun x38 => (m__law_told (x34) (x13.2.1) (x13.2.2.1) (x13.2.2.2) (x38)).bind fun r42 => (grdB (okL (fun _ => true) r42.2)).bind fun g43 => lt r42.1 fun x44 => (cnd (!true) (some true) ((m__law_rows_right (x13.1) (x13.2.1) (x13.2.2.1) (x13.2.2.2) (x44)).bind fun r51 => (cnd (!r51) (some true) ((eqO ((fun as => PyData.list (List.map encS as)) x34) ((fun as => PyData.list (List.map encS as)) x13.1)).bind fun c52 => some (!c52))).bind fun c53 => some c53)).bind fun c54 => cnd c54 (some false) (lt x44 fun x61 => (m__law_told (x24.1) (x24.2.1) (x24.2.2.1) (x24.2.2.2) (r42.2)).bind fun r65 => (grdB (okL (fun _ => true) r65.2)).bind fun g66 => lt r65.1 fun x67 => (cnd (!true) (some true) ((m__law_rows_right (x24.1) (x24.2.1) (x24.2.2.1) (x24.2.2.2) (x67)).bind fun r71 => (cnd (!r71) (some true) ((eqO (PyData.list (List.map encS x44)) ((fun as => PyData.list (List.map encS as)) x61)).bind fun c72 => some (!c72))).bind fun c73 => some c73)).bind fun c74 => cnd c74 (some false) ((appO x44 [109, 111, 114, 101]).bind fun y81 => (m__law_told (x34) (x13.2.1) (x13.2.2.1) (x13.2.2.2) (r65.2)).bind fun r87 => (grdB (okL (fun _ => true) r87.2)).bind fun g88 => (eqO (PyData.list (List.map encS r87.1)) ((fun as => PyData.list (List.map encS as)) x61)).bind fun c89 => (cnd (!c89) (some true) ((catO x61 ([[109, 111, 114, 101]] : List (List Nat))).bind fun c90 => (eqO (PyData.list (List.map encS y81)) (PyData.list (List.map encS c90))).bind fun c91 => some (!c91))).bind fun c92 => cnd c92 (some false) ((m__law_told (([] : List (List Nat))) ((9 : Int)) ((3 : Int)) ((4 : Int)) (r87.2)).bind fun r99 => (grdB (okL (fun _ => true) r99.2)).bind fun g100 => (eqO (PyData.list (List.map encS r99.1)) (PyData.list (List.map encS ([] : List (List Nat))))).bind fun c101 => cnd (!c101) (some false) ((mapF (fun (a109 : Int) => (m__law_whole (a109)).bind fun r117 => cnd ((!r117) || (decide (a109 < (0 : Int)))) (some (some a109)) (some none)) r99.2).bind fun y119 => (eqO (PyData.list (List.map PyData.int y119)) (PyData.list (List.map PyData.int ([] : List (Int))))).bind fun c120 => some c120))))
def P_law (K : PySem.W.Frag) (O : Own) (As : List Ar) (C : Ar) (O' : Own) : Prop := ∃  (x__law_script : List Int) (r : Bool), O = [] ∧ As = [val (rScr K) x__law_script] ∧ m_law x__law_script = some r ∧ C = val rB r ∧ O' = []
theorem ok_law (T : Top K mg) (D : Df K mg "law" s_law) (G__law_drawn : Cal P w K mg base 4 "_law_drawn" ["_law_script", "_law_tape", "_law_most"] (spM tp (P__law_drawn K))) (G__law_told : Cal P w K mg base 5 "_law_told" ["_law_words_here", "_law_width", "_law_kind", "_law_wide", "_law_numbers"] (spAN (tT K) rS (P__law_told K))) (G__law_rows_right : Cal P w K mg base 2 "_law_rows_right" ["_law_words_here", "_law_width", "_law_kind", "_law_wide", "_law_rows"] (spG (P__law_rows_right))) (G__law_whole : Cal P w K mg base 1 "_law_whole" ["_law_found"] (spG (P__law_whole))) : Cal P w K mg base 6 "law" ["_law_script"] (spA (tT K) (P_law K)) := by
  have SC := sc_law
  refine cal_of (N := N_law) D SC (fun _ _ _ _ _ _ us hl => match us, hl with | [_], _ => rfl) (fun vs H Q E h => ?_) (fun f cdv A outer s H vs Q E hr h => ?_)
  · obtain ⟨F0, B0, O0, As, C, O9, ⟨x__law_script, r, rfl, rfl, h, rfl, rfl⟩, at0, ha, k⟩ := h
    exact alla_len ha
  · obtain ⟨F0, B0, O0, As, C, O9, ⟨x__law_script, r, rfl, rfl, h, rfl, rfl⟩, at0, ha, k⟩ := h
    obtain ⟨v__law_script, rfl, f__law_script⟩ := alla1 ha
    refine ⟨_, (pss_cons (ps_set (i := 1) SC.nd rfl (Or.inl rfl) (pe_lst (pa_cons pe_int pa_nil))) (pss_cons (ps_asg (pe_cal G__law_drawn (hr.mono (by decide)) rfl (pa_cons (pv 0) (pa_cons (pv 1) (pa_cons pe_int pa_nil)))) (pg_tup rfl (pgs_cons (pg_name (i := 2) SC.nd rfl (Or.inl rfl)) (pgs_cons (pg_name (i := 3) SC.nd rfl (Or.inl rfl)) (pgs_cons (pg_name (i := 4) SC.nd rfl (Or.inl rfl)) (pgs_cons (pg_name (i := 5) SC.nd rfl (Or.inl rfl)) pgs_nil)))))) (pss_cons (ps_asg (pe_cal G__law_drawn (hr.mono (by decide)) rfl (pa_cons (pv 0) (pa_cons (pv 1) (pa_cons pe_int pa_nil)))) (pg_tup rfl (pgs_cons (pg_name (i := 6) SC.nd rfl (Or.inl rfl)) (pgs_cons (pg_name (i := 7) SC.nd rfl (Or.inl rfl)) (pgs_cons (pg_name (i := 8) SC.nd rfl (Or.inl rfl)) (pgs_cons (pg_name (i := 9) SC.nd rfl (Or.inl rfl)) pgs_nil)))))) (pss_cons (ps_set (i := 10) SC.nd rfl (Or.inl rfl) (pe_callTy call_cList (by rfl) T.b_list (by decide +kernel) (pa_cons (pv 2) pa_nil))) (pss_cons (ps_set (i := 11) SC.nd rfl (Or.inl rfl) (pe_lst pa_nil)) (pss_cons (ps_set (i := 12) SC.nd rfl (Or.inl rfl) (pe_cal G__law_told (hr.mono (by decide)) rfl (pa_cons (pv 10) (pa_cons (pv 3) (pa_cons (pv 4) (pa_cons (pv 5) (pa_cons (pv 11) pa_nil))))))) (pss_cons (ps_if (PW.pt (pw_or (pt_not (pt_val (pe_callB call_isi (by rfl) T.b_isinstance (by decide +kernel) (pa_cons (pv 12) (pa_cons (pe_bltn (v := V.ty "list") (by rfl) T.b_list (by decide +kernel) rfl) pa_nil))))) (pw_or (pt_not (pt_val (pe_cal G__law_rows_right (hr.mono (by decide)) rfl (pa_cons (pv 2) (pa_cons (pv 3) (pa_cons (pv 4) (pa_cons (pv 5) (pa_cons (pv 12) pa_nil)))))))) (pw_or1 (pt_cmpR (op_neD hr.units) (pv 10) (pv 2) (nomark _)))))) (pss_one (ps_ret pe_bl)) pss_nil) (pss_cons (ps_set (i := 13) SC.nd rfl (Or.inl rfl) (pe_callTy call_cList (by rfl) T.b_list (by decide +kernel) (pa_cons (pv 12) pa_nil))) (pss_cons (ps_set (i := 14) SC.nd rfl (Or.inl rfl) (pe_cal G__law_told (hr.mono (by decide)) rfl (pa_cons (pe_callTy call_cList (by rfl) T.b_list (by decide +kernel) (pa_cons (pv 6) pa_nil)) (pa_cons (pv 7) (pa_cons (pv 8) (pa_cons (pv 9) (pa_cons (pv 11) pa_nil))))))) (pss_cons (ps_if (PW.pt (pw_or (pt_not (pt_val (pe_callB call_isi (by rfl) T.b_isinstance (by decide +kernel) (pa_cons (pv 14) (pa_cons (pe_bltn (v := V.ty "list") (by rfl) T.b_list (by decide +kernel) rfl) pa_nil))))) (pw_or (pt_not (pt_val (pe_cal G__law_rows_right (hr.mono (by decide)) rfl (pa_cons (pv 6) (pa_cons (pv 7) (pa_cons (pv 8) (pa_cons (pv 9) (pa_cons (pv 14) pa_nil)))))))) (pw_or1 (pt_cmpR (op_neD hr.units) (pv 12) (pv 13) (nomark _)))))) (pss_one (ps_ret pe_bl)) pss_nil) (pss_cons (ps_expr (pe_bm PySem.F.plainAttrs_list PySem.F.slot_list_append PySem.F.type_list_append mt_append (pv 12) (pa_cons pe_str pa_nil))) (pss_cons (ps_if (PW.pt (pw_or (pt_cmpR (op_neD hr.units) (pe_cal G__law_told (hr.mono (by decide)) rfl (pa_cons (pv 10) (pa_cons (pv 3) (pa_cons (pv 4) (pa_cons (pv 5) (pa_cons (pv 11) pa_nil)))))) (pv 13) (nomark _)) (pw_or1 (pt_cmpR (op_neD hr.units) (pv 12) (pe_op op_cat (pv 13) (pe_lst (pa_cons pe_str pa_nil))) (nomark _))))) (pss_one (ps_ret pe_bl)) pss_nil) (pss_cons (ps_if (pt_cmpR (op_neD hr.units) (pe_cal G__law_told (hr.mono (by decide)) rfl (pa_cons (pe_lst pa_nil) (pa_cons pe_int (pa_cons pe_int (pa_cons pe_int (pa_cons (pv 11) pa_nil)))))) (pe_lst pa_nil) (nomark _)) (pss_one (ps_ret pe_bl)) pss_nil) (pss_one (ps_ret (pe_cmpR (op_eqD hr.units) (pe_lc (own := [("_law_number", 15)]) (g := gName 15) (tt := _) rfl SC.nd (pi_list (pv 11)) (blkOk_by (own := [("_law_number", 15)]) (N := N_law) (sc := defScope s_law) (by decide +kernel)) (fun _ _ _ _ _ => (pg_name (i := 15) SC.nd rfl (Or.inl rfl))) (fun _ _ _ _ _ => (pts_one (PW.pt (pw_or (pt_not (pt_val (pe_cal G__law_whole (hr.mono (by decide)) rfl (pa_cons (pv 15) pa_nil)))) (pw_or1 (pt_cmpR op_xLt (pv 15) pe_int (nomark _))))))) (fun _ _ _ _ _ => (pv 15))) (pe_lst pa_nil) (nomark _))))))))))))))))), ?_⟩
    refine (show Sx ⟨F0, B0, (tT K)⟩ _ _ [some v__law_script, none, none, none, none, none, none, none, none, none, none, none, none, none, none, none] F0 [] from ?_) H at0
    have f__law_script : ((rScr K)).rp x__law_script v__law_script F0 := f__law_script
    refine sx_seq (sx_asgT (ev_lst (R := rInt) (as := [(0 : Int)]) (ea_cons ev_i ea_nil) (show (1 : Nat) ≤ limL by decide)) fun p10 Fs11 s11 => nx_of ?_)
    obtain ⟨r12, hr12, h⟩ := bsome h
    obtain ⟨x13, hx13, h⟩ := lt_e h
    refine sx_seq (sx_asgM4 (evM_is (evM_call (P := P__law_drawn K) (n := 0) (k' := r12.2) (eaM_l (ea_cons (ev_v (R := (rScr K)) rfl (Rep.mono (rScr K) s11 f__law_script)) (ea_cons (ev_v (R := rA p10) rfl rfl) (ea_cons ev_i ea_nil)))) ⟨_, _, _, rfl, hr12, rfl⟩ rfl) hx13) fun v15 v17 v19 v21 Fs14 s14 f16 f18 f20 f22 => nx_of ?_)
    refine sx_so (σ2 := [some v__law_script, some (.ref p10), some v15, some v17, some v19, some v21, none, none, none, none, none, none, none, none, none, none]) (O2 := [(p10, tp r12.2)]) rfl rfl ?_
    obtain ⟨r23, hr23, h⟩ := bsome h
    obtain ⟨x24, hx24, h⟩ := lt_e h
    refine sx_seq (sx_asgM4 (evM_is (evM_call (P := P__law_drawn K) (n := 0) (k' := r23.2) (eaM_l (ea_cons (ev_v (R := (rScr K)) rfl (Rep.mono (rScr K) (s11.trans s14) f__law_script)) (ea_cons (ev_v (R := rA p10) rfl rfl) (ea_cons ev_i ea_nil)))) ⟨_, _, _, rfl, hr23, rfl⟩ rfl) hx24) fun v26 v28 v30 v32 Fs25 s25 f27 f29 f31 f33 => nx_of ?_)
    refine sx_so (σ2 := [some v__law_script, some (.ref p10), some v15, some v17, some v19, some v21, some v26, some v28, some v30, some v32, none, none, none, none, none, none]) (O2 := [(p10, tp r23.2)]) rfl rfl ?_
    obtain ⟨x34, hx34, h⟩ := lt_e h
    refine sx_seq (sx_asg (R := (rL rS)) (ev_is (ev_frz (ev_cbN (ea_cons (ev_spn (ev_v (R := (rL rS)) rfl (Rep.mono (rL rS) s25 f16))) ea_nil) b_list)) hx34) fun v37 Fs35 s35 f36 => nx_of ?_)
    obtain ⟨x38, hx38, h⟩ := lt_e h
    refine sx_seq (sx_asgF frI (ev_isN (ev_lst (R := rInt) (as := []) ea_nil (show (0 : Nat) ≤ limL by decide)) hx38) fun p41 Fs39 s39 f40 => nx_of ?_)
    refine sx_so (σ2 := [some v__law_script, some (.ref p10), some v15, some v17, some v19, some v21, some v26, some v28, some v30, some v32, some v37, some (.ref p41), none, none, none, none]) (O2 := [(p41, cF V.int x38), (p10, tp r23.2)]) rfl rfl ?_
    obtain ⟨r42, hr42, h⟩ := bsome h
    obtain ⟨g43, hg43, h⟩ := bsome h
    obtain ⟨x44, hx44, h⟩ := lt_e h
    refine sx_seq (sx_asgMN (evMN_is (evMN_o (O2 := [(p41, cF V.int r42.2), (p10, tp r23.2)]) (evA_callN (P := P__law_told K) (O0 := [(p41, cF V.int x38)]) (O0' := [(p41, (cF V.int) r42.2)]) [0] (eaM_l (ea_cons (ev_v (R := (rL rS)) rfl (Rep.mono (rL rS) s39 f36)) (ea_cons (ev_v (R := rInt) rfl (Rep.mono rInt ((s25.trans s35).trans s39) f18)) (ea_cons (ev_v (R := rInt) rfl (Rep.mono rInt ((s25.trans s35).trans s39) f20)) (ea_cons (ev_v (R := rInt) rfl (Rep.mono rInt ((s25.trans s35).trans s39) f22)) (ea_cons (ev_v (R := rA p41) rfl rfl) ea_nil)))))) ⟨_, _, _, _, _, _, _, rfl, flat_ok frI f40, rfl, hr42, rfl⟩ rfl (by decide) rfl (Or.inr rfl)) rfl) hx44) fun p47 xs48 Fs45 s45 f46 => nx_of ?_)
    obtain ⟨c54, hc54, h⟩ := bsome h
    refine sx_seq (sx_if (et_or (b := c54) (et_not (et_B (ev_cb (ea_cons (ev_o (R := rS) rfl (List.Mem.head _) f46) (ea_cons ev_ty ea_nil)) (b_isi (b := true) tP (by decide +kernel))))) (fun z => by
    have h' := cnd_f hc54 z
    obtain ⟨r51, hr51, h'⟩ := bsome h'
    obtain ⟨c53, hc53, h'⟩ := bsome h'
    exact et_is (et_or (b := c53) (et_not (et_B (ev_peekP flB (fun e49 hP50 => (ev_call (P := P__law_rows_right) (ea_cons (ev_v (R := (rL rS)) rfl (Rep.mono (rL rS) ((((s25.trans s35).trans s39).trans s45).trans e49) f16)) (ea_cons (ev_v (R := rInt) rfl (Rep.mono rInt ((((s25.trans s35).trans s39).trans s45).trans e49) f18)) (ea_cons (ev_v (R := rInt) rfl (Rep.mono rInt ((((s25.trans s35).trans s39).trans s45).trans e49) f20)) (ea_cons (ev_v (R := rInt) rfl (Rep.mono rInt ((((s25.trans s35).trans s39).trans s45).trans e49) f22)) (ea_cons (ev_v (R := (rL rS)) rfl ⟨_, _, rfl, hP50 _ (List.Mem.head _), (AllB.mono e49 f46)⟩) ea_nil))))) ⟨_, _, _, _, _, _, rfl, hr51, rfl⟩))))) (fun z => by
      have h'' := cnd_f hc53 z
      obtain ⟨c52, hc52, h''⟩ := bsome h''
      exact et_is (et_b (ev_op (ev_v (R := (rL rS)) rfl (Rep.mono (rL rS) (s39.trans s45) f36)) (ev_v (R := (rL rS)) rfl (Rep.mono (rL rS) (((s25.trans s35).trans s39).trans s45) f16)) (by have z := eqO_e hc52; have z1 := dt_v (eL eS) (K := K) (R := (rL rS)) z.1; have z2 := dt_v (eL eS) (K := K) (R := (rL rS)) z.2.1; have z3 := o_neD z1 z2; rw [z.2.2] at z3; exact z3))) (Option.some.inj h'')) (fun z => (Option.some.inj (cnd_t hc53 z)).symm)) (Option.some.inj h')) (fun z => (Option.some.inj (cnd_t hc54 z)).symm)) (fun z55 Fs56 s56 => ?_) (fun z55 Fs57 s57 => ?_))
    · have h := cnd_t h z55
      obtain rfl := Option.some.inj h
      refine sx_ret (R := rB) ev_b fun v58 Fs59 s59 f60 => ?_
      exact rtA_val [] k rfl (by decide) (fun _ => f60)
    · have h := cnd_f h z55
      refine sx_next ?_
      refine nx_of ?_
      obtain ⟨x61, hx61, h⟩ := lt_e h
      refine sx_seq (sx_asg (R := (rL rS)) (ev_is (ev_frz (ev_cbN (ea_cons (ev_o (R := rS) rfl (List.Mem.head _) (AllB.mono s57 f46)) ea_nil) b_list)) hx61) fun v64 Fs62 s62 f63 => nx_of ?_)
      refine sx_so (σ2 := [some v__law_script, some (.ref p10), some v15, some v17, some v19, some v21, some v26, some v28, some v30, some v32, some v37, some (.ref p41), some (.ref p47), some v64, none, none]) (O2 := [(p47, .lst xs48), (p41, cF V.int r42.2), (p10, tp r23.2)]) rfl rfl ?_
      obtain ⟨r65, hr65, h⟩ := bsome h
      obtain ⟨g66, hg66, h⟩ := bsome h
      obtain ⟨x67, hx67, h⟩ := lt_e h
      refine sx_seq (sx_asgM (R := (rL rS)) (evM_is (evM_frz (evMN_o (O2 := [(p47, .lst xs48), (p41, cF V.int r65.2), (p10, tp r23.2)]) (evA_callN (P := P__law_told K) (O0 := [(p41, cF V.int r42.2)]) (O0' := [(p41, (cF V.int) r65.2)]) [1] (eaM_l (ea_cons (ev_frz (ev_cbN (ea_cons (ev_spn (ev_v (R := (rL rS)) rfl (Rep.mono (rL rS) ((((s35.trans s39).trans s45).trans s57).trans s62) f27))) ea_nil) b_list)) (ea_cons (ev_v (R := rInt) rfl (Rep.mono rInt ((((s35.trans s39).trans s45).trans s57).trans s62) f29)) (ea_cons (ev_v (R := rInt) rfl (Rep.mono rInt ((((s35.trans s39).trans s45).trans s57).trans s62) f31)) (ea_cons (ev_v (R := rInt) rfl (Rep.mono rInt ((((s35.trans s39).trans s45).trans s57).trans s62) f33)) (ea_cons (ev_v (R := rA p41) rfl rfl) ea_nil)))))) ⟨_, _, _, _, _, _, _, rfl, flat_ok (F := F0) frI (flatB frI (okL_I hg43)), rfl, hr65, rfl⟩ rfl (by decide) rfl (Or.inr rfl)) rfl)) hx67) fun v70 Fs68 s68 f69 => nx_of ?_)
      obtain ⟨c74, hc74, h⟩ := bsome h
      refine sx_seq (sx_if (et_or (b := c74) (et_not (et_B (ev_cb (ea_cons (ev_v (R := (rL rS)) rfl f69) (ea_cons ev_ty ea_nil)) (b_isi (b := true) tL (by decide +kernel))))) (fun z => by
    have h' := cnd_f hc74 z
    obtain ⟨r71, hr71, h'⟩ := bsome h'
    obtain ⟨c73, hc73, h'⟩ := bsome h'
    exact et_is (et_or (b := c73) (et_not (et_B (ev_call (P := P__law_rows_right) (ea_cons (ev_v (R := (rL rS)) rfl (Rep.mono (rL rS) (((((s35.trans s39).trans s45).trans s57).trans s62).trans s68) f27)) (ea_cons (ev_v (R := rInt) rfl (Rep.mono rInt (((((s35.trans s39).trans s45).trans s57).trans s62).trans s68) f29)) (ea_cons (ev_v (R := rInt) rfl (Rep.mono rInt (((((s35.trans s39).trans s45).trans s57).trans s62).trans s68) f31)) (ea_cons (ev_v (R := rInt) rfl (Rep.mono rInt (((((s35.trans s39).trans s45).trans s57).trans s62).trans s68) f33)) (ea_cons (ev_v (R := (rL rS)) rfl f69) ea_nil))))) ⟨_, _, _, _, _, _, rfl, hr71, rfl⟩))) (fun z => by
      have h'' := cnd_f hc73 z
      obtain ⟨c72, hc72, h''⟩ := bsome h''
      exact et_is (et_b (ev_op (ev_o (R := rS) rfl (List.Mem.head _) (AllB.mono ((s57.trans s62).trans s68) f46)) (ev_v (R := (rL rS)) rfl (Rep.mono (rL rS) s68 f63)) (by have z := eqO_e hc72; have z1 := dt_l eS (K := K) (R := rS) z.1; have z2 := dt_v (eL eS) (K := K) (R := (rL rS)) z.2.1; have z3 := o_neD z1 z2; rw [z.2.2] at z3; exact z3))) (Option.some.inj h'')) (fun z => (Option.some.inj (cnd_t hc73 z)).symm)) (Option.some.inj h')) (fun z => (Option.some.inj (cnd_t hc74 z)).symm)) (fun z75 Fs76 s76 => ?_) (fun z75 Fs77 s77 => ?_))
      · have h := cnd_t h z75
        obtain rfl := Option.some.inj h
        refine sx_ret (R := rB) ev_b fun v78 Fs79 s79 f80 => ?_
        exact rtA_val [] k rfl (by decide) (fun _ => f80)
      · have h := cnd_f h z75
        refine sx_next ?_
        refine nx_of ?_
        obtain ⟨y81, hy81, h⟩ := bsome h
        obtain ⟨hz82, he83⟩ := iteo hy81
        refine sx_seq (sx_app (n := 0) rfl rfl (AllB.mono (((s57.trans s62).trans s68).trans s77) f46) (ev_s (l := [109, 111, 114, 101]) (by decide +kernel) (by decide +kernel)) hz82 fun v84 Fs85 s85 f86 => nx_of ?_)
        obtain ⟨r87, hr87, h⟩ := bsome h
        obtain ⟨g88, hg88, h⟩ := bsome h
        obtain ⟨c89, hc89, h⟩ := bsome h
        obtain ⟨c92, hc92, h⟩ := bsome h
        refine sx_seq (sx_ifM (etM_or (b := c92) (etM_un (T := fun t8 => tTest t8) (fun _ _ _ => rfl) (evM_op1 (evM_nspn (evMN_o (O2 := [(p47, .lst (xs48 ++ [v84])), (p41, cF V.int r87.2), (p10, tp r23.2)]) (evA_callN (P := P__law_told K) (O0 := [(p41, cF V.int r65.2)]) (O0' := [(p41, (cF V.int) r87.2)]) [1] (eaM_l (ea_cons (ev_v (R := (rL rS)) rfl (Rep.mono (rL rS) ((((((s39.trans s45).trans s57).trans s62).trans s68).trans s77).trans s85) f36)) (ea_cons (ev_v (R := rInt) rfl (Rep.mono rInt ((((((((s25.trans s35).trans s39).trans s45).trans s57).trans s62).trans s68).trans s77).trans s85) f18)) (ea_cons (ev_v (R := rInt) rfl (Rep.mono rInt ((((((((s25.trans s35).trans s39).trans s45).trans s57).trans s62).trans s68).trans s77).trans s85) f20)) (ea_cons (ev_v (R := rInt) rfl (Rep.mono rInt ((((((((s25.trans s35).trans s39).trans s45).trans s57).trans s62).trans s68).trans s77).trans s85) f22)) (ea_cons (ev_v (R := rA p41) rfl rfl) ea_nil)))))) ⟨_, _, _, _, _, _, _, rfl, flat_ok (F := F0) frI (flatB frI (okL_I hg66)), rfl, hr87, rfl⟩ rfl (by decide) rfl (Or.inr rfl)) rfl)) (ev_v (R := (rL rS)) rfl (Rep.mono (rL rS) ((s68.trans s77).trans s85) f63)) (by have z := eqO_e hc89; have z1 := dt_l eS (K := K) (R := rS) z.1; have z2 := dt_v (eL eS) (K := K) (R := (rL rS)) z.2.1; have z3 := o_neD z1 z2; rw [z.2.2] at z3; exact z3)) (fun t9 F9 e9 h9 => (et_b h9))) (fun z => by
    have h' := cnd_f hc92 z
    obtain ⟨c90, hc90, h'⟩ := bsome h'
    obtain ⟨c91, hc91, h'⟩ := bsome h'
    exact etM_is (etM_l (et_b (ev_op (ev_o (R := rS) rfl (List.Mem.head _) (he83 ▸ f86)) (ev_nspn (ev_opN (ev_spn (ev_v (R := (rL rS)) rfl (Rep.mono (rL rS) ((s68.trans s77).trans s85) f63))) (ev_nspn (ev_lst (R := rS) (as := [[109, 111, 114, 101]]) (ea_cons (ev_s (l := [109, 111, 114, 101]) (by decide +kernel) (by decide +kernel)) ea_nil) (show (1 : Nat) ≤ limL by decide))) (o_catLO hc90))) (by have z := eqO_e hc91; have z1 := dt_l eS (K := K) (R := rS) z.1; have z2 := dt_l eS (K := K) (R := rS) z.2.1; have z3 := o_neD z1 z2; rw [z.2.2] at z3; exact z3)))) (Option.some.inj h')) (fun z => ⟨(Option.some.inj (cnd_t hc92 z)).symm, rfl⟩)) (fun z93 Fs94 s94 => ?_) (fun z93 Fs95 s95 => ?_))
        · have h := cnd_t h z93
          obtain rfl := Option.some.inj h
          refine sx_ret (R := rB) ev_b fun v96 Fs97 s97 f98 => ?_
          exact rtA_val [] k rfl (by decide) (fun _ => f98)
        · have h := cnd_f h z93
          refine sx_next ?_
          refine nx_of ?_
          obtain ⟨r99, hr99, h⟩ := bsome h
          obtain ⟨g100, hg100, h⟩ := bsome h
          obtain ⟨c101, hc101, h⟩ := bsome h
          refine sx_seq (sx_ifM (etM_un (T := fun t8 => tTest t8) (fun _ _ _ => rfl) (evM_op1 (evM_nspn (evMN_o (O2 := [(p47, .lst (xs48 ++ [v84])), (p41, cF V.int r99.2), (p10, tp r23.2)]) (evA_callN (P := P__law_told K) (O0 := [(p41, cF V.int r87.2)]) (O0' := [(p41, (cF V.int) r99.2)]) [1] (eaM_l (ea_cons (ev_frz (ev_lst (R := rS) (as := []) ea_nil (show (0 : Nat) ≤ limL by decide))) (ea_cons ev_i (ea_cons ev_i (ea_cons ev_i (ea_cons (ev_v (R := rA p41) rfl rfl) ea_nil)))))) ⟨_, _, _, _, _, _, _, rfl, flat_ok (F := F0) frI (flatB frI (okL_I hg88)), rfl, hr99, rfl⟩ rfl (by decide) rfl (Or.inr rfl)) rfl)) (ev_nspn (ev_lst (R := rS) (as := []) ea_nil (show (0 : Nat) ≤ limL by decide))) (by have z := eqO_e hc101; have z1 := dt_l eS (K := K) (R := rS) z.1; have z2 := dt_l eS (K := K) (R := rS) z.2.1; have z3 := o_neD z1 z2; rw [z.2.2] at z3; exact z3)) (fun t9 F9 e9 h9 => (et_b h9))) (fun z102 Fs103 s103 => ?_) (fun z102 Fs104 s104 => ?_))
          · have h := cnd_t h z102
            obtain rfl := Option.some.inj h
            refine sx_ret (R := rB) ev_b fun v105 Fs106 s106 f107 => ?_
            exact rtA_val [] k rfl (by decide) (fun _ => f107)
          · have h := cnd_f h z102
            refine sx_next ?_
            refine nx_of ?_
            refine sx_frzI (n := 1) rfl fun n108 => ?_
            obtain ⟨y119, hy119, h⟩ := bsome h
            obtain ⟨c120, hc120, h⟩ := bsome h
            obtain rfl := Option.some.inj h
            refine sx_ret (R := rB) (ev_op (ev_nspn (ev_lc (R' := rInt) hy119 (ei_list (ev_v (R := (rL rInt)) rfl (rp_frz n108 (flatB frI (okL_I hg100))))) tg_n (fun a109 σ9 F110 F111 ob ha9 e112 e113 ⟨v114, zs, f115⟩ hb116 => by
    subst zs
    obtain ⟨r117, hr117, hb116⟩ := bsome hb116
    by_cases z118 : ((!r117) || (decide (a109 < (0 : Int)))) = true
    · have hb116 := cnd_t hb116 z118
      obtain rfl := Option.some.inj hb116
      exact ⟨rfl, et_is (et_orP (et_not (et_B (ev_call (P := P__law_whole) (ea_cons (ev_v (R := rInt) rfl f115) ea_nil) ⟨_, _, rfl, hr117, rfl⟩))) (fun _ => (et_b (ev_op (ev_v (R := rInt) rfl f115) ev_i o_lt)))) z118, fun b eb => by cases eb; exact (ev_v (R := rInt) rfl f115)⟩
    · have z118 := Bool.eq_false_iff.mpr z118
      have hb116 := cnd_f hb116 z118
      obtain rfl := Option.some.inj hb116
      exact ⟨rfl, et_is (et_orP (et_not (et_B (ev_call (P := P__law_whole) (ea_cons (ev_v (R := rInt) rfl f115) ea_nil) ⟨_, _, rfl, hr117, rfl⟩))) (fun _ => (et_b (ev_op (ev_v (R := rInt) rfl f115) ev_i o_lt)))) z118, fun b eb => by cases eb⟩))) (ev_nspn (ev_lst (R := rInt) (as := []) ea_nil (show (0 : Nat) ≤ limL by decide))) (by have z := eqO_e hc120; have z1 := dt_l eI (K := K) (R := rInt) z.1; have z2 := dt_l eI (K := K) (R := rInt) z.2.1; have z3 := o_eqD z1 z2; rw [z.2.2] at z3; exact z3)) fun v121 Fs122 s122 f123 => ?_
            exact rtA_val [] k rfl (by decide) (fun _ => f123)

end
end Law
namespace Law
open PySem PySem.Spec Lm
/-! the draw of a number (k08, k09, k10, k22 and later) -/
theorem seed_ok (as : List Int) (s : Int) (hs : 0 ≤ s ∧ s < 1000003) : ∃ s', loop (ρ := Unit) (fun (s35 : Int) (a36 : Int) => (mulO s35 (131 : Int)).bind fun c47 => (modO (c47 + a36) (1000003 : Int)).bind fun c48 => lt c48 fun x49 => some (Fw.nx x49)) as s = some (.nx s') ∧ 0 ≤ s' ∧ s' < 1000003 := by
  have := loop_all (I := fun _ s => 0 ≤ s ∧ s < 1000003) (as := as) (i := 0) (s := s) hs (f := fun (s35 : Int) (a36 : Int) => (mulO s35 (131 : Int)).bind fun c47 => (modO (c47 + a36) (1000003 : Int)).bind fun c48 => lt c48 fun x49 => some (Fw.nx (ρ := Unit) x49)) fun j s a _ h => by
    refine ⟨(s * 131 + a) % 1000003, ?_, ?_⟩
    · rw [mulO_s (by omega) (by omega)]
      rw [bind_some, modO_s (by omega)]
      rfl
    · exact ⟨Int.emod_nonneg _ (by omega), Int.emod_lt_of_pos _ (by omega)⟩
  obtain ⟨s', h1, h2⟩ := this
  exact ⟨s', h1, h2⟩
theorem draw_ok (ns : List Int) (hn : ns.length ≤ 63) (k many : Int) (h0 : 0 ≤ k ∧ k < 1000000000) (hm : 0 < many) : ∃ v, m__law_draw ns k many = some (v, k + 1) ∧ 0 ≤ v ∧ v < many := by
  unfold m__law_draw
  rw [lt_eq]
  by_cases h : k + 1 ≤ (ns.length : Int)
  · rw [decide_eq_true h, cnd_true]
    have e : k + 1 - 1 = k := by omega
    rw [e, ixO_pos h0.1 (by omega)]
    have h2 : k.toNat < ns.length := by omega
    rw [List.getElem?_eq_getElem h2, bind_some, modO_s hm]
    exact ⟨_, rfl, Int.emod_nonneg _ (by omega), Int.emod_lt_of_pos _ hm⟩
  · rw [decide_eq_false h, cnd_false, lt_eq]
    obtain ⟨s', e, h1, h2⟩ := seed_ok (cutL ns none (some (4 : Int))) (ns.length : Int) (by omega)
    rw [e, fwd_nx]
    have hk2 : 0 ≤ (k + 1) * (k + 1) ∧ (k + 1) * (k + 1) ≤ 1000000000 * 1000000000 := ⟨Int.mul_nonneg (by omega) (by omega), Int.mul_le_mul (by omega) (by omega) (by omega) (by omega)⟩
    rw [mulO_s (by omega) (by omega), bind_some, mulO_s (by omega) (by omega), bind_some, modO_s (by omega), bind_some, modO_s hm]
    exact ⟨_, rfl, Int.emod_nonneg _ (by omega), Int.emod_lt_of_pos _ hm⟩
/-! what stands ahead of a row -/
def ld (kind wide n : Nat) : List Nat := if kind = 0 then [] else if kind = 1 then List.replicate wide 43 else if kind = 2 then (if 0 < n then List.replicate wide 32 else List.replicate wide 45) else List.replicate ((wide + 5 * n) % (wide + 1)) 62
theorem ld_len (kind wide n : Nat) : (ld kind wide n).length ≤ wide := by
  unfold ld
  have := Nat.mod_lt (wide + 5 * n) (show 0 < wide + 1 by omega)
  split
  · exact Nat.zero_le _
  · split
    · rw [List.length_replicate]; exact Nat.le_refl _
    · split
      · split <;> (rw [List.length_replicate]; exact Nat.le_refl _)
      · rw [List.length_replicate]; omega
theorem ld_lt (kind wide n : Nat) : ∀ c ∈ ld kind wide n, c < 128 := by
  intro c hc
  unfold ld at hc
  split at hc
  · cases hc
  · split at hc
    · rw [(List.mem_replicate.mp hc).2]; decide
    · split at hc
      · split at hc <;> (rw [(List.mem_replicate.mp hc).2]; decide)
      · rw [(List.mem_replicate.mp hc).2]; decide
theorem lead_ok {kind wide n : Nat} (hk : kind < 4) (hw : wide ≤ 100) (hn : n ≤ 1000000) : m__law_lead (kind : Int) (wide : Int) (n : Int) = some (ld kind wide n) := by
  unfold m__law_lead ld
  by_cases h0 : kind = 0
  · rw [if_pos h0]
    exact cndT (decT (by omega)) rfl
  · rw [if_neg h0]
    refine cndF (decF (by omega)) ?_
    by_cases h1 : kind = 1
    · rw [if_pos h1]
      refine cndT (decT (by omega)) (bindE (repS_s (by omega) (by omega)) ?_)
      rw [Int.toNat_natCast]
    · rw [if_neg h1]
      refine cndF (decF (by omega)) ?_
      by_cases h2 : kind = 2
      · rw [if_pos h2]
        refine cndT (decT (by omega)) (bindE (repS_s (by omega) (by omega)) (bindE (repS_s (by omega) (by omega)) ?_))
        rw [Int.toNat_natCast]
        by_cases hz : 0 < n
        · rw [if_pos hz, if_pos (decT (by omega))]
          exact bindE (ixO_nat (i := 1) rfl) rfl
        · rw [if_neg hz, if_neg (by rw [decF (by omega)]; exact Bool.noConfusion)]
          exact bindE (ixO_nat (i := 0) rfl) rfl
      · rw [if_neg h2]
        have hm := Nat.mod_lt (wide + 5 * n) (show 0 < wide + 1 by omega)
        have e : ((wide : Int) + 5 * (n : Int)) % ((wide : Int) + 1) = (((wide + 5 * n) % (wide + 1) : Nat) : Int) := by
          rw [Int.natCast_emod]
          congr 1
        refine cndF (decF (by omega)) (bindE (mulO_s (by omega) (by omega)) (bindE (modO_s (by omega)) ?_))
        rw [e]
        refine bindE (repS_s (by omega) (by omega)) ?_
        rw [Int.toNat_natCast]
/-! the numbers that lead is handed -/
def Nk (k : Nat) (nums : List Int) : Prop := nums.length ≤ k ∧ ∀ x ∈ nums, 0 ≤ x
theorem Nk.mono {k j : Nat} {nums : List Int} (h : Nk k nums) (hj : k ≤ j) : Nk j nums := ⟨Nat.le_trans h.1 hj, h.2⟩
theorem Nk.g {k : Nat} {nums : List Int} (h : Nk k nums) (hk : k ≤ 4000000) : grdB (okL (fun _ => true) nums) = some () := by
  unfold grdB
  rw [if_pos]
  unfold okL
  rw [Bool.and_eq_true, decide_eq_true_eq, List.all_eq_true]
  exact ⟨Nat.le_trans h.1 hk, fun a m => rfl⟩
theorem here_ok {kind wide n k : Nat} {nums : List Int} (hk : kind < 4) (hw : wide ≤ 100) (hn : n ≤ 1000000) (h : Nk k nums) (hj : k < 3000000) :
    m__law_lead_here (n : Int) (kind : Int) nums (wide : Int) = some (ld kind wide n, nums ++ [(n : Int)]) ∧ Nk (k + 1) (nums ++ [(n : Int)]) := by
  refine ⟨?_, by rw [List.length_append, List.length_singleton]; exact Nat.succ_le_succ h.1, fun x m => ?_⟩
  · unfold m__law_lead_here
    exact bindE (appO_s (Nat.lt_of_le_of_lt h.1 (by omega))) (bindE (lead_ok hk hw hn) rfl)
  · rcases List.mem_append.mp m with m | m
    · exact h.2 x m
    · rw [List.mem_singleton.mp m]; omega
/-! words in pieces, numbers beside -/
theorem cut_whileN {W : Nat} {L : Nat → List Nat} {c : List (List Nat) × List Int × List Nat × Int → Option Bool} {f : List (List Nat) × List Int × List Nat × Int → Option (Fw Unit (List (List Nat) × List Int × List Nat × Int))} {B M : Nat} (h : ∀ n, 1 ≤ rm W L n)
    (hc : ∀ s, c s = some (decide (s.2.2.2 < (s.2.2.1.length : Int))))
    (hf : ∀ (rows : List (List Nat)) (nums : List Int) (word : List Nat) (j : Nat), Nk j nums → j ≤ M → rows.length + word.length ≤ B → rm W L rows.length < word.length →
      ∃ nums', Nk (j + 2) nums' ∧ f (rows, nums, word, (rm W L rows.length : Int)) = some (.nx (rows ++ [L rows.length ++ word.take (rm W L rows.length)], nums', word.drop (rm W L rows.length), (rm W L (rows.length + 1) : Int)))) :
    ∀ (k : Nat) (rows : List (List Nat)) (nums : List Int) (word : List Nat) (j : Nat), word.length ≤ k → rows.length + word.length ≤ B → Nk j nums → j + 2 * k ≤ M →
      ∃ z nums', whileN c f (k + 1) (rows, nums, word, (rm W L rows.length : Int)) = some (.nx (rows ++ (cutG W L word.length rows.length word).1, nums', (cutG W L word.length rows.length word).2, z)) ∧ Nk (j + 2 * k) nums' := by
  intro k
  induction k with
  | zero =>
    intro rows nums word j hk hB hN hM
    have e : word = [] := List.eq_nil_of_length_eq_zero (by omega)
    subst e
    refine ⟨(rm W L rows.length : Int), nums, (whileF ?_).trans ?_, hN⟩
    · rw [hc]
      exact congrArg some (decF (by simp))
    · simp [cutG]
  | succ k ih =>
    intro rows nums word j hk hB hN hM
    have hn := h rows.length
    by_cases hy : rm W L rows.length < word.length
    · obtain ⟨nums1, hN1, e1⟩ := hf rows nums word j hN (by omega) hB hy
      obtain ⟨z, nums2, e, hN2⟩ := ih (rows ++ [L rows.length ++ word.take (rm W L rows.length)]) nums1 (word.drop (rm W L rows.length)) (j + 2) (by rw [List.length_drop]; omega) (by rw [List.length_drop, List.length_append, List.length_singleton]; omega) hN1 (by omega)
      refine ⟨z, nums2, whileT ?_ e1 ?_, hN2.mono (by omega)⟩
      · rw [hc]
        congr 1
        exact decT (by show (rm W L rows.length : Int) < (word.length : Int); omega)
      · rw [List.length_append, List.length_singleton] at e
        rw [e, cutG_gt h hy, List.append_assoc]
        rfl
    · refine ⟨(rm W L rows.length : Int), nums, (whileF ?_).trans ?_, hN.mono (by omega)⟩
      · rw [hc]
        congr 1
        exact decF (by show ¬(rm W L rows.length : Int) < (word.length : Int); omega)
      · rw [cutG_le h (by omega), List.append_nil]
theorem fill_loopN {W : Nat} {L : Nat → List Nat} {f : List Int × List Nat × List (List Nat) → List Nat → Option (Fw Unit (List Int × List Nat × List (List Nat)))} {P : List Nat → Prop} {B M : Nat} (h : ∀ n, 1 ≤ rm W L n) (hW : ∀ n, rm W L n ≤ W) (hP : ∀ n z, Ends z → z.length ≤ rm W L n → P (L n ++ z))
    (hf1 : ∀ j nums b rows x, Nk j nums → j + 3 * (x.length + 1) ≤ M → b ≠ [] → rows.length + x.length ≤ B → b.length + 1 + x.length ≤ rm W L rows.length → ∃ nums', Nk (j + 3 * (x.length + 1)) nums' ∧ f (nums, b, rows) x = some (.nx (nums', b ++ 32 :: x, rows)))
    (hf2 : ∀ j nums rows x, Nk j nums → j + 3 * (x.length + 1) ≤ M → NB x → x ≠ [] → (∀ r ∈ rows ++ (cutG W L x.length rows.length x).1, P r) → rows.length + x.length + 1 ≤ B → ∃ nums', Nk (j + 3 * (x.length + 1)) nums' ∧ f (nums, [], rows) x = some (.nx (nums', (cutG W L x.length rows.length x).2, rows ++ (cutG W L x.length rows.length x).1)))
    (hf3 : ∀ j nums b rows x, Nk j nums → j + 3 * (x.length + 1) ≤ M → b ≠ [] → b.length ≤ rm W L rows.length → NB x → x ≠ [] → ¬(b.length + 1 + x.length ≤ rm W L rows.length) → (∀ r ∈ (rows ++ [L rows.length ++ b]) ++ (cutG W L x.length (rows.length + 1) x).1, P r) → rows.length + x.length + 2 ≤ B →
      ∃ nums', Nk (j + 3 * (x.length + 1)) nums' ∧ f (nums, b, rows) x = some (.nx (nums', (cutG W L x.length (rows.length + 1) x).2, (rows ++ [L rows.length ++ b]) ++ (cutG W L x.length (rows.length + 1) x).1))) :
    ∀ (ws : List (List Nat)) (j : Nat) (nums : List Int) (b : List Nat) (rows : List (List Nat)), Nk j nums → j + 3 * sumL ws ≤ M → (∀ x ∈ ws, NB x ∧ x ≠ []) → (b ≠ [] → Ends b ∧ b.length ≤ rm W L rows.length) → (∀ r ∈ rows, P r) → rows.length + sumL ws + 2 ≤ B →
      ∃ nums' b' rows', loop f ws (nums, b, rows) = some (.nx (nums', b', rows')) ∧ rows' ++ (if b' = [] then [] else [L rows'.length ++ b']) = rows ++ out W L rows.length b ws ∧ (b' ≠ [] → Ends b' ∧ b'.length ≤ rm W L rows'.length) ∧ (∀ r ∈ rows', P r) ∧ rows'.length ≤ rows.length + sumL ws + 1 ∧ Nk (j + 3 * sumL ws) nums'
  | [], j, nums, b, rows, hN, _, _, hb, hr, _ => ⟨nums, b, rows, rfl, by simp only [out], hb, hr, by omega, hN⟩
  | x :: xs, j, nums, b, rows, hN, hM, hw, hb, hr, hB => by
    have hx := hw x (List.mem_cons_self ..)
    have hxs := fun y m => hw y (List.mem_cons_of_mem _ m)
    have es : sumL (x :: xs) = x.length + 1 + sumL xs := rfl
    have cu := fun m => cutG_all h hW (P := P) x.length x m (Nat.le_refl _) hx.2 hx.1 fun n z hz hz0 hzl => hP n z (hz.ends hz0) hzl
    by_cases c : b ≠ [] ∧ b.length + 1 + x.length ≤ rm W L rows.length
    · obtain ⟨n1, hN1, e1⟩ := hf1 j nums b rows x hN (by omega) c.1 (by omega) c.2
      obtain ⟨n2, b', rows', e, e2, e3, e4, e5, e6⟩ := fill_loopN h hW hP hf1 hf2 hf3 xs _ n1 (b ++ 32 :: x) rows hN1 (by omega) hxs (fun _ => ⟨(hb c.1).1.cat (hx.1.ends hx.2), by rw [List.length_append, List.length_cons]; omega⟩) hr (by omega)
      refine ⟨n2, b', rows', loopE e1 e, ?_, e3, e4, by omega, e6.mono (by omega)⟩
      rw [e2]
      simp only [out]
      rw [if_pos c]
    · by_cases d : b = []
      · subst d
        obtain ⟨c1, c2, c3, c4, c5⟩ := cu rows.length
        have hr' : ∀ r ∈ rows ++ (cutG W L x.length rows.length x).1, P r := fun r m => (List.mem_append.mp m).elim (hr r) (c1 r)
        obtain ⟨n1, hN1, e1⟩ := hf2 j nums rows x hN (by omega) hx.1 hx.2 hr' (by omega)
        obtain ⟨n2, b', rows', e, e2, e3, e4, e5, e6⟩ := fill_loopN h hW hP hf1 hf2 hf3 xs _ n1 (cutG W L x.length rows.length x).2 (rows ++ (cutG W L x.length rows.length x).1) hN1 (by omega) hxs (fun _ => ⟨c2.ends c3, by rw [List.length_append]; exact c4⟩) hr' (by rw [List.length_append]; omega)
        refine ⟨n2, b', rows', loopE e1 e, ?_, e3, e4, by rw [List.length_append] at e5; omega, e6.mono (by omega)⟩
        rw [e2]
        simp only [out]
        rw [if_neg c, if_pos trivial, List.append_assoc, List.length_append]
      · obtain ⟨c1, c2, c3, c4, c5⟩ := cu (rows.length + 1)
        have hbP := hP rows.length b (hb d).1 (hb d).2
        have hr' : ∀ r ∈ (rows ++ [L rows.length ++ b]) ++ (cutG W L x.length (rows.length + 1) x).1, P r := fun r m => (List.mem_append.mp m).elim (fun m => (List.mem_append.mp m).elim (hr r) (fun m => by rw [List.mem_singleton.mp m]; exact hbP)) (c1 r)
        have hl1 : ((rows ++ [L rows.length ++ b]) ++ (cutG W L x.length (rows.length + 1) x).1).length = rows.length + 1 + (cutG W L x.length (rows.length + 1) x).1.length := by rw [List.length_append, List.length_append, List.length_singleton]
        obtain ⟨n1, hN1, e1⟩ := hf3 j nums b rows x hN (by omega) d (hb d).2 hx.1 hx.2 (fun z => c ⟨d, z⟩) hr' (by omega)
        obtain ⟨n2, b', rows', e, e2, e3, e4, e5, e6⟩ := fill_loopN h hW hP hf1 hf2 hf3 xs _ n1 (cutG W L x.length (rows.length + 1) x).2 ((rows ++ [L rows.length ++ b]) ++ (cutG W L x.length (rows.length + 1) x).1) hN1 (by omega) hxs (fun _ => ⟨c2.ends c3, by rw [hl1]; exact c4⟩) hr' (by rw [hl1]; omega)
        refine ⟨n2, b', rows', loopE e1 e, ?_, e3, e4, by rw [hl1] at e5; omega, e6.mono (by omega)⟩
        rw [e2, hl1]
        simp only [out]
        rw [if_neg c, if_neg d, List.append_assoc, List.append_assoc]
        rfl
/-! the program's rows -/
structure Lk (W kind wide : Nat) : Prop where
  k : kind < 4
  w : wide < W
  h : wide ≤ 100
  b : W ≤ 10000
section
variable {W kind wide : Nat}
theorem Lk.rm1 (h : Lk W kind wide) (n : Nat) : 1 ≤ rm W (ld kind wide) n := by
  have h1 := ld_len kind wide n
  have h2 := h.w
  unfold rm
  omega
theorem Lk.rmW (h : Lk W kind wide) (n : Nat) : rm W (ld kind wide) n ≤ W := Nat.sub_le _ _
theorem Lk.rmi (h : Lk W kind wide) (n : Nat) : (W : Int) - ((ld kind wide n).length : Int) = (rm W (ld kind wide) n : Int) := by
  have h1 := ld_len kind wide n
  have h2 := h.w
  unfold rm
  omega
theorem Lk.okS (h : Lk W kind wide) (n : Nat) (z : List Nat) (hz : Ends z) (hl : z.length ≤ rm W (ld kind wide) n) : OkS (ld kind wide n ++ z) := by
  have h1 := ld_len kind wide n
  have h2 := h.rmW n
  have h3 := h.h
  have h4 := h.b
  refine ⟨by show (ld kind wide n ++ z).length ≤ 1000000; rw [List.length_append]; omega, fun c m => ?_⟩
  rcases List.mem_append.mp m with m | m
  · exact ld_lt _ _ _ c m
  · exact hz.ok c m
theorem cut_ok (h : Lk W kind wide) (rows : List (List Nat)) (word : List Nat) (nums : List Int) (j : Nat) (hB : rows.length + word.length ≤ 100000) (hN : Nk j nums) (hj : j ≤ 1000000) :
    ∃ nums', Nk (j + 1 + 2 * word.length) nums' ∧ m_cut_into rows word (W : Int) ((kind : Int), (wide : Int)) nums = some ((cutG W (ld kind wide) word.length rows.length word).2, (rows ++ (cutG W (ld kind wide) word.length rows.length word).1, nums')) := by
  obtain ⟨e1, hN1⟩ := here_ok (n := rows.length) h.k h.h (by omega) hN (by omega)
  have key := fun c f hc hf => cut_whileN (W := W) (L := ld kind wide) (c := c) (f := f) (B := 100000) (M := 2000000) h.rm1 hc hf word.length rows _ word (j + 1) (Nat.le_refl _) hB hN1 (by omega)
  suffices hs : ∃ nums', m_cut_into rows word (W : Int) ((kind : Int), (wide : Int)) nums = some ((cutG W (ld kind wide) word.length rows.length word).2, (rows ++ (cutG W (ld kind wide) word.length rows.length word).1, nums')) ∧ Nk (j + 1 + 2 * word.length) nums' from hs.elim fun n q => ⟨n, q.2, q.1⟩
  unfold m_cut_into
  dsimp only
  rw [bind_e e1]
  rw [bind_e (hN1.g (by omega))]
  rw [lt_eq]
  dsimp only
  rw [h.rmi]
  refine (key _ _ (fun s => rfl) ?_).elim fun z hz => hz.elim fun n2 hz => ⟨n2, fwdE hz.1 rfl, hz.2⟩
  · intro rows nums word j hN hj hB hlt
    obtain ⟨e1, hN1⟩ := here_ok (n := rows.length) h.k h.h (by omega) hN (by omega)
    obtain ⟨e2, hN2⟩ := here_ok (n := (rows ++ [ld kind wide rows.length ++ word.take (rm W (ld kind wide) rows.length)]).length) h.k h.h (by rw [List.length_append, List.length_singleton]; omega) hN1 (by omega)
    refine ⟨_, hN2, bindE e1 (bindE (hN1.g (by omega)) ?_)⟩
    dsimp only
    rw [cut_take, cut_drop]
    have hl : (word.take (rm W (ld kind wide) rows.length)).length ≤ 100000 := by rw [List.length_take]; omega
    have h1 := ld_len kind wide rows.length
    have h2 := h.h
    refine bindE (catS_s (by omega)) (bindE (appO_s (by omega)) (ltE (bindE e2 (bindE (hN2.g (by omega)) (ltE ?_)))))
    dsimp only
    rw [h.rmi, List.length_append, List.length_singleton]
theorem filled_ok (h : Lk W kind wide) (ws : List (List Nat)) (hws : ∀ x ∈ ws, NB x ∧ x ≠ []) (hs : sumL ws ≤ 10000) (nums : List Int) (j : Nat) (hN : Nk j nums) (hj : j ≤ 500000) :
    ∃ nums', Nk (j + 3 * sumL ws + 1) nums' ∧ m_filled ws (W : Int) ((kind : Int), (wide : Int)) nums = some (out W (ld kind wide) 0 [] ws, nums') := by
  have hb := h.b
  have hh := h.h
  have key := fun f hf1 hf2 hf3 => fill_loopN (W := W) (L := ld kind wide) (f := f) (B := 20000) (M := 1000000) (P := OkS) h.rm1 h.rmW h.okS hf1 hf2 hf3 ws j nums [] [] hN (by omega) hws (fun z => absurd rfl z) (fun _ m => by cases m) (by simp only [List.length_nil]; omega)
  suffices hs : ∃ nums', m_filled ws (W : Int) ((kind : Int), (wide : Int)) nums = some (out W (ld kind wide) 0 [] ws, nums') ∧ Nk (j + 3 * sumL ws + 1) nums' from hs.elim fun n q => ⟨n, q.2, q.1⟩
  unfold m_filled
  have fin : ∀ {n1 : List Int} {b' : List Nat} {rows' : List (List Nat)}, rows' ++ (if b' = [] then [] else [ld kind wide rows'.length ++ b']) = [] ++ out W (ld kind wide) ([] : List (List Nat)).length [] ws → (b' ≠ [] → Ends b' ∧ b'.length ≤ rm W (ld kind wide) rows'.length) → rows'.length ≤ ([] : List (List Nat)).length + sumL ws + 1 → Nk (j + 3 * sumL ws) n1 →
      ∃ nums', ((cnd (!decide (b' = [])) ((m__law_lead_here ((rows'.length : Int)) (kind : Int) n1 (wide : Int)).bind fun r45 => (grdB (okL (fun _ => true) r45.2)).bind fun g46 => (catS r45.1 b').bind fun c47 => (appO rows' c47).bind fun y48 => some (y48, r45.2)) (some (rows', n1))).bind fun (j34 : (List (List Nat)) × (List (Int))) => some (j34.1, j34.2)) = some (out W (ld kind wide) 0 [] ws, nums') ∧ Nk (j + 3 * sumL ws + 1) nums' := by
    intro n1 b' rows' h2 h3 h5 h6
    simp only [List.nil_append, List.length_nil] at h2 h5
    rw [← h2]
    by_cases c : b' = []
    · rw [if_pos c, List.append_nil]
      exact ⟨n1, bindE (cndF (ndecF c) rfl) rfl, h6.mono (by omega)⟩
    · rw [if_neg c]
      have hl := (h3 c).2
      have h8 := h.rmW rows'.length
      have h9 := ld_len kind wide rows'.length
      obtain ⟨e1, hN1⟩ := here_ok (n := rows'.length) h.k h.h (by omega) h6 (by omega)
      exact ⟨_, bindE (cndT (ndecT c) (bindE e1 (bindE (hN1.g (by omega)) (bindE (catS_s (by simp; omega)) (bindE (appO_s (by show rows'.length < 4000000; omega)) rfl))))) rfl, hN1⟩
  have hbs : ∀ x : List Nat, x.length ≤ 20000 → ([32] ++ x).length ≤ 20001 := fun x h => by rw [List.length_append]; simp; omega
  refine (key _ ?_ ?_ ?_).elim fun n1 hz => hz.elim fun b' hz => hz.elim fun rows' hz => (fin hz.2.1 hz.2.2.1 hz.2.2.2.2.1 hz.2.2.2.2.2).elim fun n2 q => ⟨n2, ltE (ltE (fwdE hz.1 q.1)), q.2⟩
  · intro j nums b rows x hN hM hb0 hx hfit
    have h8 := h.rmW rows.length
    obtain ⟨e1, hN1⟩ := here_ok (n := rows.length) h.k h.h (by omega) hN (by omega)
    refine ⟨_, hN1.mono (by omega), bindE e1 (bindE (hN1.g (by omega)) (ltE ?_))⟩
    dsimp only
    rw [h.rmi]
    refine cndT ?_ ?_
    · rw [ndecT hb0, Bool.true_and]
      exact decT (by omega)
    · refine bindE (catS_s (by simp; omega)) (bindE (catS_s (by have := hbs x (by omega); simp at this ⊢; omega)) ?_)
      rfl
  · intro j nums rows x hN hM hx hx0 hr' hB
    obtain ⟨e1, hN1⟩ := here_ok (n := rows.length) h.k h.h (by omega) hN (by omega)
    obtain ⟨n2, hN2, e2⟩ := cut_ok h rows x _ (j + 1) (by omega) hN1 (by omega)
    refine ⟨n2, hN2.mono (by omega), bindE e1 (bindE (hN1.g (by omega)) (ltE (cndF ?_ ?_)))⟩
    · rw [ndecF rfl, Bool.false_and]
    · refine bindE (cndF (ndecF rfl) rfl) (bindE e2 ?_)
      have hc := cutG_all (W := W) (L := ld kind wide) h.rm1 h.rmW (P := fun _ => True) x.length x rows.length (Nat.le_refl _) hx0 hx (fun _ _ _ _ _ => trivial)
      refine bindE (okL_of (by rw [List.length_append]; omega) hr') (bindE (hN2.g (by omega)) (ltE rfl))
  · intro j nums b rows x hN hM hb0 hbl hx hx0 hno hr' hB
    have h8 := h.rmW rows.length
    have h9 := ld_len kind wide rows.length
    obtain ⟨e1, hN1⟩ := here_ok (n := rows.length) h.k h.h (by omega) hN (by omega)
    obtain ⟨e2, hN2⟩ := here_ok (n := rows.length) h.k h.h (by omega) hN1 (by omega)
    have hl1 : (rows ++ [ld kind wide rows.length ++ b]).length = rows.length + 1 := by rw [List.length_append, List.length_singleton]
    obtain ⟨n3, hN3, e3⟩ := cut_ok h (rows ++ [ld kind wide rows.length ++ b]) x _ (j + 1 + 1) (by rw [hl1]; omega) hN2 (by omega)
    refine ⟨n3, hN3.mono (by omega), bindE e1 (bindE (hN1.g (by omega)) (ltE (cndF ?_ ?_)))⟩
    · dsimp only
      rw [h.rmi, ndecT hb0, Bool.true_and]
      exact decF (by omega)
    · refine bindE (cndT (ndecT hb0) (bindE e2 (bindE (hN2.g (by omega)) (bindE (catS_s (by simp; omega)) (bindE (appO_s (by show rows.length < 4000000; omega)) rfl))))) ?_
      refine bindE e3 ?_
      have hc := cutG_all (W := W) (L := ld kind wide) h.rm1 h.rmW (P := fun _ => True) x.length x (rows.length + 1) (Nat.le_refl _) hx0 hx (fun _ _ _ _ _ => trivial)
      rw [hl1]
      refine bindE (okL_of (by rw [List.length_append, hl1]; omega) hr') (bindE (hN3.g (by omega)) (ltE rfl))
theorem rows_loopN {W : Nat} {L : Nat → List Nat} {B : Nat} {f : List (List Nat) → Int × List Nat → Option (Fw Bool (List (List Nat)))}
    (hf1 : ∀ n x xs, n ≤ B → (∀ y ∈ x :: xs, OkS y) → rm W L n < x.length → f (x :: xs) ((n : Int), L n ++ x.take (rm W L n)) = some (.nx (x.drop (rm W L n) :: xs)))
    (hf2 : ∀ n x xs, n ≤ B → (∀ y ∈ x :: xs, OkS y) → ¬(rm W L n < x.length) → f (x :: xs) ((n : Int), L n ++ (grab (rm W L n) x xs).1) = some (.nx (grab (rm W L n) x xs).2)) :
    ∀ (rows : List (List Nat)) (n : Nat) (left : List (List Nat)), n + rows.length ≤ B → (∀ y ∈ left, OkS y) → Rr W L rows n left → loop f (enumFrom n rows) left = some (.nx [])
  | [], n, left, _, _, h => by
    have e : left = [] := h
    subst e
    rfl
  | r :: rs, n, [], _, _, h => h.elim
  | r :: rs, n, x :: xs, hB, ho, h => by
    rw [List.length_cons] at hB
    simp only [Rr] at h
    by_cases c : rm W L n < x.length
    · rw [if_pos c] at h
      obtain ⟨rfl, h2⟩ := h
      refine loopE (hf1 n x xs (by omega) ho c) (rows_loopN hf1 hf2 rs (n + 1) _ (by omega) (fun y m => ?_) h2)
      rcases List.mem_cons.mp m with e | m
      · subst e
        have := ho x (List.mem_cons_self ..)
        exact ⟨Nat.le_trans (by rw [List.length_drop]; omega) this.1, fun c m => this.2 c (List.mem_of_mem_drop m)⟩
      · exact ho y (List.mem_cons_of_mem _ m)
    · rw [if_neg c] at h
      obtain ⟨rfl, h2⟩ := h
      exact loopE (hf2 n x xs (by omega) ho c) (rows_loopN hf1 hf2 rs (n + 1) _ (by omega) (fun y m => ho y (List.mem_cons_of_mem _ (grab_sub _ xs x y m))) h2)
theorem rows_right_ok (h : Lk W kind wide) (ws rows : List (List Nat)) (hok : ∀ x ∈ ws, OkS x) (hn : rows.length ≤ 100000) (hR : Rr W (ld kind wide) rows 0 ws) : m__law_rows_right ws (W : Int) (kind : Int) (wide : Int) rows = some true := by
  have hb := h.b
  have hh := h.h
  unfold m__law_rows_right
  rw [enumL_from]
  refine ltE (fwdE (rows_loopN (W := W) (L := ld kind wide) (B := 100000) ?_ ?_ rows 0 ws (by omega) hok hR) ?_)
  · intro n x xs hnB ho hlt
    have h8 := h.rmW n
    have h9 := ld_len kind wide n
    refine bindE (lead_ok h.k h.h (by omega)) (ltE (ltE ?_))
    dsimp only
    rw [h.rmi]
    have e0 : cutL (ld kind wide n ++ x.take (rm W (ld kind wide) n)) none (some ((ld kind wide n).length : Int)) = ld kind wide n := by rw [cut_take, List.take_left]
    refine bindE (cndF rfl (bindE (cndF (ndecF e0) (bindE (eqO_nil ho) rfl)) rfl)) (cndF rfl ?_)
    refine bindE (ixO_nat (i := 0) rfl) ?_
    refine bindE (cndT (decT (by omega)) (bindE (ixO_nat (i := 0) rfl) (ltE (bindE (ixO_nat (i := 0) rfl) (bindE (setO_nat (i := 0) (by simp)) rfl))))) ?_
    dsimp only
    rw [cut_take, cut_drop]
    refine bindE (catS_s (by rw [List.length_take]; omega)) (cndF (ndecF rfl) rfl)
  · intro n x xs hnB ho hge
    have h8 := h.rmW n
    have h9 := ld_len kind wide n
    refine bindE (lead_ok h.k h.h (by omega)) (ltE (ltE ?_))
    dsimp only
    rw [h.rmi]
    have e0 : cutL (ld kind wide n ++ (grab (rm W (ld kind wide) n) x xs).1) none (some ((ld kind wide n).length : Int)) = ld kind wide n := by rw [cut_take, List.take_left]
    refine bindE (cndF rfl (bindE (cndF (ndecF e0) (bindE (eqO_nil ho) rfl)) rfl)) (cndF rfl ?_)
    refine bindE (ixO_nat (i := 0) rfl) ?_
    refine bindE (cndF (decF (by omega)) (bindE (show pop0O (x :: xs) = some (x, xs) from rfl) (ltE (fwdE (grab_while (r := rm W (ld kind wide) n) (by omega) ?_ ?_ ?_ xs xs.length x (fun y m => ho y (List.mem_cons_of_mem _ m)) (Nat.le_refl _)) rfl)))) ?_
    · intro due
      dsimp only
      refine bindE (eqO_strs (fun _ m => by cases m) (fun _ m => by cases m)) ?_
      rfl
    · intro due y ys hy
      dsimp only
      refine bindE (eqO_nil hy) (bindE (cndT rfl (bindE (ixO_nat (i := 0) rfl) rfl)) rfl)
    · intro due y ys hfit
      dsimp only
      refine bindE (catS_s (by simp; omega)) (bindE (show pop0O (y :: ys) = some (y, ys) from rfl) (bindE (catS_s (by simp; omega)) (ltE ?_)))
      rw [List.append_assoc]
      rfl
    · dsimp only
      have hg : ∀ (ys : List (List Nat)) (due : List Nat), due.length ≤ 10000 → (grab (rm W (ld kind wide) n) due ys).1.length ≤ 10000 := by
        intro ys
        induction ys with
        | nil => intro due h; exact h
        | cons y ys ih =>
          intro due h
          simp only [grab]
          by_cases d : due.length + 1 + y.length ≤ rm W (ld kind wide) n
          · rw [if_pos d]
            exact ih _ (by rw [List.length_append, List.length_cons]; omega)
          · rw [if_neg d]; exact h
      have := hg xs x (by omega)
      refine bindE (catS_s (by omega)) (cndF (ndecF rfl) rfl)
  · exact bindE (eqO_strs (fun _ m => by cases m) (fun _ m => by cases m)) rfl
end
/-! words of drawn signs -/
theorem word_ok (ns : List Int) (hn : ns.length ≤ 63) (k size : Int) (h0 : 0 ≤ k ∧ k < 100000000) (hs : 1 ≤ size ∧ size ≤ 1000) : ∃ x, m__law_word ns k size = some (x, k + 2) ∧ x.length = size.toNat ∧ NB x := by
  obtain ⟨v1, e1, h1a, h1b⟩ := draw_ok ns hn k 93 (by omega) (by omega)
  obtain ⟨v2, e2, h2a, h2b⟩ := draw_ok ns hn (k + 1) 93 (by omega) (by omega)
  obtain ⟨bs, e3, hl, hb⟩ := mapF_all (P := fun x : List Nat => ∃ c, x = [c] ∧ 32 < c ∧ c < 128) (as := rng 0 size) (f := fun (a25 : Int) => (mulO v2 a25).bind fun c33 => (mulO a25 a25).bind fun c34 => (modO ((v1 + c33) + c34) (93 : Int)).bind fun c35 => (ixO ([33, 34, 35, 36, 38, 39, 40, 41, 42, 43, 44, 45, 46, 47, 48, 49, 50, 51, 52, 53, 54, 55, 56, 57, 58, 59, 60, 61, 62, 63, 64, 65, 66, 67, 68, 69, 70, 71, 72, 73, 74, 75, 76, 77, 78, 79, 80, 81, 82, 83, 84, 85, 86, 87, 88, 89, 90, 91, 92, 93, 94, 95, 96, 97, 98, 99, 100, 101, 102, 103, 104, 105, 106, 107, 108, 109, 110, 111, 112, 113, 114, 115, 116, 117, 118, 119, 120, 121, 122, 123, 124, 125, 126] : List Nat) c35).bind fun c36 => some (some [c36])) fun a ha => by
    have ha2 := mem_rng ha
    have m1 : mulO v2 a = some (v2 * a) := mulO_s (by omega) (by omega)
    have m2 : mulO a a = some (a * a) := mulO_s (by omega) (by omega)
    have hm := Int.emod_nonneg (v1 + v2 * a + a * a) (b := 93) (by omega)
    have hm2 := Int.emod_lt_of_pos (v1 + v2 * a + a * a) (b := 93) (by omega)
    have tab : ∀ i : Nat, i < 93 → ∃ c, ([33, 34, 35, 36, 38, 39, 40, 41, 42, 43, 44, 45, 46, 47, 48, 49, 50, 51, 52, 53, 54, 55, 56, 57, 58, 59, 60, 61, 62, 63, 64, 65, 66, 67, 68, 69, 70, 71, 72, 73, 74, 75, 76, 77, 78, 79, 80, 81, 82, 83, 84, 85, 86, 87, 88, 89, 90, 91, 92, 93, 94, 95, 96, 97, 98, 99, 100, 101, 102, 103, 104, 105, 106, 107, 108, 109, 110, 111, 112, 113, 114, 115, 116, 117, 118, 119, 120, 121, 122, 123, 124, 125, 126] : List Nat)[i]? = some c ∧ 32 < c ∧ c < 128 := by
      intro i hi
      have hh := List.getElem?_eq_getElem (l := ([33, 34, 35, 36, 38, 39, 40, 41, 42, 43, 44, 45, 46, 47, 48, 49, 50, 51, 52, 53, 54, 55, 56, 57, 58, 59, 60, 61, 62, 63, 64, 65, 66, 67, 68, 69, 70, 71, 72, 73, 74, 75, 76, 77, 78, 79, 80, 81, 82, 83, 84, 85, 86, 87, 88, 89, 90, 91, 92, 93, 94, 95, 96, 97, 98, 99, 100, 101, 102, 103, 104, 105, 106, 107, 108, 109, 110, 111, 112, 113, 114, 115, 116, 117, 118, 119, 120, 121, 122, 123, 124, 125, 126] : List Nat)) (i := i) hi
      refine ⟨_, hh, ?_⟩
      have hall : ∀ c ∈ ([33, 34, 35, 36, 38, 39, 40, 41, 42, 43, 44, 45, 46, 47, 48, 49, 50, 51, 52, 53, 54, 55, 56, 57, 58, 59, 60, 61, 62, 63, 64, 65, 66, 67, 68, 69, 70, 71, 72, 73, 74, 75, 76, 77, 78, 79, 80, 81, 82, 83, 84, 85, 86, 87, 88, 89, 90, 91, 92, 93, 94, 95, 96, 97, 98, 99, 100, 101, 102, 103, 104, 105, 106, 107, 108, 109, 110, 111, 112, 113, 114, 115, 116, 117, 118, 119, 120, 121, 122, 123, 124, 125, 126] : List Nat), 32 < c ∧ c < 128 := by decide
      exact hall _ (List.getElem_mem _)
    obtain ⟨c, hc, hc1⟩ := tab ((v1 + v2 * a + a * a) % 93).toNat (by omega)
    have ei : (v1 + v2 * a + a * a) % 93 = ((((v1 + v2 * a + a * a) % 93).toNat : Nat) : Int) := by omega
    refine ⟨[c], bindE m1 (bindE m2 (bindE (modO_s (by omega)) (bindE (a := c) ?_ rfl))), c, rfl, hc1⟩
    rw [ei]
    exact ixO_nat hc
  rw [rng_len] at hl
  have h1 : ∀ p ∈ bs, p.length = 1 := fun p m => by
    obtain ⟨c, e, _⟩ := hb p m
    rw [e]; rfl
  have hj := join_ones bs h1
  refine ⟨joinS [] bs, ?_, by rw [hj, hl]; congr 1; omega, fun c m => ?_⟩
  · unfold m__law_word
    refine ltE (bindE e1 (ltE (bindE e2 (ltE (bindE (rngO_s (by omega) (by omega)) (bindE e3 (bindE (joinO_s (by rw [hj, hl]; omega)) ?_)))))))
    have e9 : k + 1 + 1 = k + 2 := by omega
    rw [← e9]
  · rcases joinS_mem [] bs c m with z | ⟨p, hp, hc⟩
    · cases z
    · obtain ⟨d, e, hd⟩ := hb p hp
      rw [e] at hc
      rw [List.mem_singleton.mp hc]
      exact hd
theorem words_ok (ns : List Int) (hn : ns.length ≤ 63) (k width many : Int) (h0 : 0 ≤ k ∧ k < 10000000) (hw : 1 ≤ width ∧ width ≤ 100) (hm : 0 ≤ many ∧ many ≤ 100) :
    ∃ ws k', m__law_words ns k width many = some (ws, k') ∧ (∀ x ∈ ws, NB x ∧ x ≠ [] ∧ x.length ≤ 400) ∧ ws.length = many.toNat ∧ k ≤ k' ∧ k' ≤ k + 10 * many := by
  have key := loop_all (ρ := Unit) (as := rng 0 many) (i := 0) (s := (k, ([] : List (List Nat)))) (I := fun i s => k ≤ s.1 ∧ s.1 ≤ k + 10 * (i : Int) ∧ s.2.length = i ∧ ∀ x ∈ s.2, NB x ∧ x ≠ [] ∧ x.length ≤ 400)
    (f := fun (s31 : Int × (List (List Nat))) (a32 : Int) => (m__law_draw (ns) (s31.1) ((8 : Int))).bind fun r45 => lt r45.1 fun x46 => (m__law_draw (ns) (r45.2) ((6 : Int))).bind fun r50 => lt ((1 : Int) + r50.1) fun x51 => (cnd ((decide (x46 = (5 : Int))) || (decide (x46 = (6 : Int)))) ((m__law_draw (ns) (r50.2) ((6 : Int))).bind fun r90 => lt (max (1 : Int) ((width - (3 : Int)) + r90.1)) fun x91 => some (x91, r90.2)) (some (x51, r50.2))).bind fun (j55 : Int × Int) => (cnd (decide (x46 = (7 : Int))) ((mulO (3 : Int) width).bind fun c81 => (m__law_draw (ns) (j55.2) ((c81 + (2 : Int)))).bind fun r82 => lt ((1 : Int) + r82.1) fun x83 => some (x83, r82.2)) (some (j55.1, j55.2))).bind fun (j63 : Int × Int) => (m__law_word (ns) (j63.2) (j63.1)).bind fun r71 => (appO s31.2 r71.1).bind fun y72 => some (Fw.nx (r71.2, y72)))
    ⟨by omega, by omega, rfl, fun _ m => by cases m⟩ fun j s a ha hI => by
      obtain ⟨i1, i2, i3, i4⟩ := hI
      have hj : j < (rng 0 many).length := (List.getElem?_eq_some_iff.mp ha).1
      rw [rng_len] at hj
      obtain ⟨v1, e1, h1a, h1b⟩ := draw_ok ns hn s.1 8 (by omega) (by omega)
      obtain ⟨v2, e2, h2a, h2b⟩ := draw_ok ns hn (s.1 + 1) 6 (by omega) (by omega)
      obtain ⟨v3, e3, h3a, h3b⟩ := draw_ok ns hn (s.1 + 1 + 1) 6 (by omega) (by omega)
      -- the size, the tape behind it
      have S : ∃ j55 : Int × Int, (cnd ((decide (v1 = (5 : Int))) || (decide (v1 = (6 : Int)))) ((m__law_draw (ns) (s.1 + 1 + 1) ((6 : Int))).bind fun r90 => lt (max (1 : Int) ((width - (3 : Int)) + r90.1)) fun x91 => some (x91, r90.2)) (some (1 + v2, s.1 + 1 + 1))) = some j55 ∧ 1 ≤ j55.1 ∧ j55.1 ≤ 400 ∧ s.1 + 2 ≤ j55.2 ∧ j55.2 ≤ s.1 + 3 := by
        cases hc : ((decide (v1 = (5 : Int))) || (decide (v1 = (6 : Int)))) with
        | true => exact ⟨_, cndT rfl (bindE e3 (ltE rfl)), by show 1 ≤ max _ _; omega, by show max _ _ ≤ 400; omega, by show _ ≤ s.1 + 1 + 1 + 1; omega, by show s.1 + 1 + 1 + 1 ≤ _; omega⟩
        | false => exact ⟨_, cndF rfl rfl, by show 1 ≤ 1 + v2; omega, by show 1 + v2 ≤ 400; omega, by show _ ≤ s.1 + 1 + 1; omega, by show s.1 + 1 + 1 ≤ _; omega⟩
      obtain ⟨j55, e4, s1, s2, s3, s4⟩ := S
      obtain ⟨v5, e5, h5a, h5b⟩ := draw_ok ns hn j55.2 (3 * width + 2) (by omega) (by omega)
      have S2 : ∃ j63 : Int × Int, (cnd (decide (v1 = (7 : Int))) ((mulO (3 : Int) width).bind fun c81 => (m__law_draw (ns) (j55.2) ((c81 + (2 : Int)))).bind fun r82 => lt ((1 : Int) + r82.1) fun x83 => some (x83, r82.2)) (some (j55.1, j55.2))) = some j63 ∧ 1 ≤ j63.1 ∧ j63.1 ≤ 400 ∧ s.1 + 2 ≤ j63.2 ∧ j63.2 ≤ s.1 + 4 := by
        cases hc : (decide (v1 = (7 : Int))) with
        | true => exact ⟨_, cndT rfl (bindE (mulO_s (by omega) (by omega)) (bindE e5 (ltE rfl))), by show 1 ≤ 1 + v5; omega, by show 1 + v5 ≤ 400; omega, by show _ ≤ j55.2 + 1; omega, by show j55.2 + 1 ≤ _; omega⟩
        | false => exact ⟨_, cndF rfl rfl, s1, s2, s3, by show j55.2 ≤ _; omega⟩
      obtain ⟨j63, e6, t1, t2, t3, t4⟩ := S2
      obtain ⟨x, e7, hx1, hx2⟩ := word_ok ns hn j63.2 j63.1 (by omega) (by omega)
      refine ⟨(j63.2 + 2, s.2 ++ [x]), bindE e1 (ltE (bindE e2 (ltE (bindE e4 (bindE e6 (bindE e7 (bindE (appO_s (by omega)) rfl))))))), by show k ≤ j63.2 + 2; omega, by show j63.2 + 2 ≤ k + 10 * ((0 + j + 1 : Nat) : Int); omega, by show (s.2 ++ [x]).length = _; rw [List.length_append, i3]; rfl, fun y m => ?_⟩
      rcases List.mem_append.mp m with m | m
      · exact i4 y m
      · rw [List.mem_singleton.mp m]
        refine ⟨hx2, fun z => ?_, by omega⟩
        rw [z] at hx1
        simp at hx1
        omega
  obtain ⟨s', e, i1, i2, i3, i4⟩ := key
  have hl : (rng 0 many).length = many.toNat := by rw [rng_len]; congr 1; omega
  rw [hl] at i2 i3
  refine ⟨s'.2, s'.1, ?_, i4, by omega, i1, by omega⟩
  unfold m__law_words
  exact ltE (bindE (rngO_s (by omega) (by omega)) (fwdE e rfl))
theorem sumL_le : ∀ ws : List (List Nat), (∀ x ∈ ws, x.length ≤ 400) → sumL ws ≤ 401 * ws.length
  | [], _ => Nat.le_refl _
  | x :: xs, h => by
    have h1 := h x (List.mem_cons_self ..)
    have h2 := sumL_le xs fun y m => h y (List.mem_cons_of_mem _ m)
    simp only [sumL, List.length_cons]
    omega
theorem drawn_ok (ns : List Int) (hn : ns.length ≤ 63) (k most : Int) (h0 : 0 ≤ k ∧ k < 1000000) (hm : 1 ≤ most ∧ most ≤ 19) :
    ∃ (ws : List (List Nat)) (W kind wide : Nat) (k' : Int), m__law_drawn ns k most = some ((ws, (W : Int), (kind : Int), (wide : Int)), k') ∧ Lk W kind wide ∧ (∀ x ∈ ws, NB x ∧ x ≠ [] ∧ x.length ≤ 400) ∧ ws.length ≤ 18 ∧ k ≤ k' ∧ k' ≤ k + 400 := by
  obtain ⟨v1, e1, h1a, h1b⟩ := draw_ok ns hn k 39 (by omega) (by omega)
  obtain ⟨v2, e2, h2a, h2b⟩ := draw_ok ns hn (k + 1) 4 (by omega) (by omega)
  obtain ⟨v3, e3, h3a, h3b⟩ := draw_ok ns hn (k + 1 + 1) (min 9 (2 + v1)) (by omega) (by omega)
  obtain ⟨v4, e4, h4a, h4b⟩ := draw_ok ns hn (k + 1 + 1 + 1) most (by omega) (by omega)
  obtain ⟨ws, k', e5, hws, hl, hk, hk'⟩ := words_ok ns hn (k + 1 + 1 + 1 + 1) (2 + v1) v4 (by omega) (by omega) (by omega)
  obtain ⟨W, hW⟩ : ∃ W : Nat, (W : Int) = 2 + v1 := ⟨(2 + v1).toNat, by omega⟩
  obtain ⟨kind, hkind⟩ : ∃ W : Nat, (W : Int) = v2 := ⟨v2.toNat, by omega⟩
  obtain ⟨wide, hwide⟩ : ∃ W : Nat, (W : Int) = v3 := ⟨v3.toNat, by omega⟩
  refine ⟨ws, W, kind, wide, k', ?_, ⟨by omega, by omega, by omega, by omega⟩, hws, by omega, by omega, by omega⟩
  unfold m__law_drawn
  rw [hW, hkind, hwide]
  exact bindE e1 (ltE (bindE e2 (ltE (bindE e3 (ltE (bindE e4 (bindE e5 rfl)))))))
section
variable {W kind wide : Nat}
theorem told_ok (h : Lk W kind wide) (ws : List (List Nat)) (hws : ∀ x ∈ ws, NB x ∧ x ≠ [] ∧ x.length ≤ 400) (hl : ws.length ≤ 18) (nums : List Int) (j : Nat) (hN : Nk j nums) (hj : j ≤ 200000) :
    ∃ nums', Nk (j + 30000) nums' ∧ m__law_told ws (W : Int) (kind : Int) (wide : Int) nums = some (out W (ld kind wide) 0 [] ws, nums') := by
  have hs := sumL_le ws fun x m => (hws x m).2.2
  obtain ⟨n1, hN1, e1⟩ := filled_ok h ws (fun x m => ⟨(hws x m).1, (hws x m).2.1⟩) (by omega) nums j hN (by omega)
  refine ⟨n1, hN1.mono (by omega), ?_⟩
  unfold m__law_told
  exact bindE e1 (bindE (hN1.g (by omega)) rfl)
theorem full (h : Lk W kind wide) {ws : List (List Nat)} (hws : ∀ x ∈ ws, NB x ∧ x ≠ [] ∧ x.length ≤ 400) (hl : ws.length ≤ 18) :
    (∀ r ∈ out W (ld kind wide) 0 [] ws, OkS r) ∧ (out W (ld kind wide) 0 [] ws).length ≤ 8000 ∧ (∀ x ∈ ws, OkS x) ∧ m__law_rows_right ws (W : Int) (kind : Int) (wide : Int) (out W (ld kind wide) 0 [] ws) = some true := by
  have hs := sumL_le ws fun x m => (hws x m).2.2
  have hw : ∀ x ∈ ws, NB x ∧ x ≠ [] := fun x m => ⟨(hws x m).1, (hws x m).2.1⟩
  obtain ⟨o1, o2⟩ := out_all (W := W) (L := ld kind wide) h.rm1 h.rmW (P := OkS) h.okS ws 0 [] hw (fun z => absurd rfl z)
  have ok : ∀ x ∈ ws, OkS x := fun x m => ⟨by show x.length ≤ 1000000; have := (hws x m).2.2; omega, fun c hc => ((hws x m).1 c hc).2⟩
  exact ⟨o1, by omega, ok, rows_right_ok h ws _ ok (by omega) (fill_R h.rm1 fun x m => (hw x m).2)⟩
end
theorem mapF_none {α β : Type} {f : α → Option (Option β)} : ∀ {as : List α}, (∀ a ∈ as, f a = some none) → mapF f as = some []
  | [], _ => rfl
  | a :: as, h => by
    have e := h a (List.mem_cons_self ..)
    have e2 := mapF_none (as := as) fun c m => h c (List.mem_cons_of_mem _ m)
    simp only [mapF, e, e2]
theorem pure_law (ns : List Int) (hn : ns.length ≤ 63) : m_law ns = some true := by
  obtain ⟨ws, W, kind, wide, k1, e1, L1, hws, hl, hk1, hk1'⟩ := drawn_ok ns hn 0 19 (by omega) (by omega)
  obtain ⟨vs, V, sort, long, k2, e2, L2, hvs, hvl, _, _⟩ := drawn_ok ns hn k1 8 (by omega) (by omega)
  obtain ⟨a1, a2, a3, a4⟩ := full L1 hws hl
  obtain ⟨b1, b2, b3, b4⟩ := full L2 hvs hvl
  obtain ⟨n1, hN1, t1⟩ := told_ok L1 ws hws hl [] 0 ⟨Nat.le_refl _, fun _ m => by cases m⟩ (by omega)
  obtain ⟨n2, hN2, t2⟩ := told_ok L2 vs hvs hvl n1 _ hN1 (by omega)
  obtain ⟨n3, hN3, t3⟩ := told_ok L1 ws hws hl n2 _ hN2 (by omega)
  obtain ⟨n4, hN4, t4⟩ := told_ok (W := 9) (kind := 3) (wide := 4) ⟨by omega, by omega, by omega, by omega⟩ [] (fun _ m => by cases m) (by simp) n3 _ hN3 (by omega)
  have t4 : m__law_told ([] : List (List Nat)) (9 : Int) (3 : Int) (4 : Int) n3 = some (([] : List (List Nat)), n4) := by
    rw [show out 9 (ld 3 4) 0 [] [] = [] from by simp [out]] at t4
    exact t4
  have c1 : ∀ x ∈ out W (ld kind wide) 0 [] ws ++ [[109, 111, 114, 101]], OkS x := fun x m => by
    rcases List.mem_append.mp m with m | m
    · exact a1 x m
    · rw [List.mem_singleton.mp m]
      exact ⟨by decide, by decide⟩
  unfold m_law
  refine bindE e1 (ltE (bindE e2 (ltE (ltE (ltE (bindE t1 (bindE (hN1.g (by omega)) (ltE ?_))))))))
  refine bindE (cndF rfl (bindE a4 (bindE (cndF rfl (bindE (eqO_strs a3 a3) rfl)) rfl))) (cndF (ndecF rfl) (ltE ?_))
  refine bindE t2 (bindE (hN2.g (by omega)) (ltE ?_))
  refine bindE (cndF rfl (bindE b4 (bindE (cndF rfl (bindE (eqO_strs a1 a1) rfl)) rfl))) (cndF (ndecF rfl) ?_)
  refine bindE (appO_s (by show (out W (ld kind wide) 0 [] ws).length < 4000000; omega)) (bindE t3 (bindE (hN3.g (by omega)) ?_))
  refine bindE (eqO_strs a1 a1) (bindE (cndF (ndecF rfl) (bindE (catO_s (by rw [List.length_singleton]; show (out W (ld kind wide) 0 [] ws).length + 1 ≤ 4000000; omega)) (bindE (eqO_strs c1 c1) rfl))) (cndF (ndecF rfl) ?_))
  refine bindE t4 (bindE (hN4.g (by omega)) (bindE (eqO_strs (fun _ m => by cases m) (fun _ m => by cases m)) (cndF (ndecF rfl) ?_)))
  refine bindE (mapF_none fun a ha => ?_) (bindE (eqO_ints _ _) rfl)
  have h0 := hN4.2 a ha
  unfold m__law_whole
  exact bindE rfl (cndF (by rw [decF (by omega)]; rfl) rfl)
end Law
namespace Law
open PySem PySem.Spec PyProof.Rows L2 Lm

/-! the head -/
def d__law_lead : He.DefD := ⟨("_law_lead", none), "_law_lead", "_law_lead", defArgs s__law_lead, defBody s__law_lead, defScope s__law_lead, [], []⟩
def d_cut_into : He.DefD := ⟨("cut_into", none), "cut_into", "cut_into", defArgs s_cut_into, defBody s_cut_into, defScope s_cut_into, [], []⟩
def d_filled : He.DefD := ⟨("filled", none), "filled", "filled", defArgs s_filled, defBody s_filled, defScope s_filled, [], []⟩
def d__law_draw : He.DefD := ⟨("_law_draw", none), "_law_draw", "_law_draw", defArgs s__law_draw, defBody s__law_draw, defScope s__law_draw, [], []⟩
def d__law_whole : He.DefD := ⟨("_law_whole", none), "_law_whole", "_law_whole", defArgs s__law_whole, defBody s__law_whole, defScope s__law_whole, [], []⟩
def d__law_word : He.DefD := ⟨("_law_word", none), "_law_word", "_law_word", defArgs s__law_word, defBody s__law_word, defScope s__law_word, [], []⟩
def d__law_words : He.DefD := ⟨("_law_words", none), "_law_words", "_law_words", defArgs s__law_words, defBody s__law_words, defScope s__law_words, [], []⟩
def d__law_rows_right : He.DefD := ⟨("_law_rows_right", none), "_law_rows_right", "_law_rows_right", defArgs s__law_rows_right, defBody s__law_rows_right, defScope s__law_rows_right, [], []⟩
def d__law_told : He.DefD := ⟨("_law_told", none), "_law_told", "_law_told", defArgs s__law_told, defBody s__law_told, defScope s__law_told, [], []⟩
def d__law_drawn : He.DefD := ⟨("_law_drawn", none), "_law_drawn", "_law_drawn", defArgs s__law_drawn, defBody s__law_drawn, defScope s__law_drawn, [], []⟩
def d_law : He.DefD := ⟨("law", none), "law", "law", defArgs s_law, defBody s_law, defScope s_law, [], []⟩
def fn : List He.DefD := [d__law_lead, d_cut_into, d_filled, d__law_draw, d__law_whole, d__law_word, d__law_words, d__law_rows_right, d__law_told, d__law_drawn, d_law]
def fa : List He.Fa := [.glo "_law_lead", .glo "cut_into", .glo "filled", .glo "_law_draw", .glo "_law_whole", .glo "_law_word", .glo "_law_words", .glo "_law_rows_right", .glo "_law_told", .glo "_law_drawn", .glo "law", .free "bool", .free "enumerate", .free "int", .free "isinstance", .free "len", .free "list", .free "max", .free "min", .free "range", .free "str"]
def tf : List He.Defn := [("_law_told", none)]
abbrev R : PySem.W.OpenRow := PySem.W.OpenLaw.row PySem.Challenge.rw_lightmark_k08_whole_filled
abbrev hk : PySem.W.Hook := He.hookX 4 fa fn [] tf (fun _ => true)
def ob (s : PySem.W.SharedT) : He.AlX := He.obsX 4 fa fn [] tf (fun _ => true) (HandSHeadRun.getT s)
theorem ob_eq (s : PySem.W.SharedT) : ob s = hk.obs s.abs := He.obsX_eq (HandSHeadRun.getT_eq s)
theorem run (w : World) : HandSHeadRun.RunEq R (PySem.W.view R.prog [12]) hk ob 1760 ["cut_into", "filled", "_law_draw", "_law_whole", "_law_word", "_law_words", "_law_lead", "_law_rows_right", "_law_told", "_law_drawn"] w := by
  intro os
  kernel_rfl
theorem calls {P : Program} {w : World} {K : PySem.W.Frag} {h base : Heap} {mg : Str → Option Value} (X : K.In h) (G : h.Ns mainGlobals mg) (c : He.SaysD fa fn K) (TB : LamX.TabB base mg (He.cT K ("_law_told", none)).1 (He.cT K ("_law_told", none)).2) : Cal P w K mg base 6 "law" ["_law_script"] (spA (tT K) (P_law K)) := by
  have T : Top K mg := ⟨He.free_ok X G (c.fact 11 (f := .free "bool") rfl), He.free_ok X G (c.fact 12 (f := .free "enumerate") rfl), He.free_ok X G (c.fact 13 (f := .free "int") rfl), He.free_ok X G (c.fact 14 (f := .free "isinstance") rfl), He.free_ok X G (c.fact 15 (f := .free "len") rfl), He.free_ok X G (c.fact 16 (f := .free "list") rfl), He.free_ok X G (c.fact 17 (f := .free "max") rfl), He.free_ok X G (c.fact 18 (f := .free "min") rfl), He.free_ok X G (c.fact 19 (f := .free "range") rfl), He.free_ok X G (c.fact 20 (f := .free "str") rfl)⟩
  have D__law_lead : Df K mg "_law_lead" s__law_lead := ⟨(c.def_ 0 (d := d__law_lead) rfl).elim fun fd F => ⟨_, fd, F, He.glo_ok X G (c.fact 0 (f := .glo "_law_lead") rfl)⟩⟩
  have D_cut_into : Df K mg "cut_into" s_cut_into := ⟨(c.def_ 1 (d := d_cut_into) rfl).elim fun fd F => ⟨_, fd, F, He.glo_ok X G (c.fact 1 (f := .glo "cut_into") rfl)⟩⟩
  have D_filled : Df K mg "filled" s_filled := ⟨(c.def_ 2 (d := d_filled) rfl).elim fun fd F => ⟨_, fd, F, He.glo_ok X G (c.fact 2 (f := .glo "filled") rfl)⟩⟩
  have D__law_draw : Df K mg "_law_draw" s__law_draw := ⟨(c.def_ 3 (d := d__law_draw) rfl).elim fun fd F => ⟨_, fd, F, He.glo_ok X G (c.fact 3 (f := .glo "_law_draw") rfl)⟩⟩
  have D__law_whole : Df K mg "_law_whole" s__law_whole := ⟨(c.def_ 4 (d := d__law_whole) rfl).elim fun fd F => ⟨_, fd, F, He.glo_ok X G (c.fact 4 (f := .glo "_law_whole") rfl)⟩⟩
  have D__law_word : Df K mg "_law_word" s__law_word := ⟨(c.def_ 5 (d := d__law_word) rfl).elim fun fd F => ⟨_, fd, F, He.glo_ok X G (c.fact 5 (f := .glo "_law_word") rfl)⟩⟩
  have D__law_words : Df K mg "_law_words" s__law_words := ⟨(c.def_ 6 (d := d__law_words) rfl).elim fun fd F => ⟨_, fd, F, He.glo_ok X G (c.fact 6 (f := .glo "_law_words") rfl)⟩⟩
  have D__law_rows_right : Df K mg "_law_rows_right" s__law_rows_right := ⟨(c.def_ 7 (d := d__law_rows_right) rfl).elim fun fd F => ⟨_, fd, F, He.glo_ok X G (c.fact 7 (f := .glo "_law_rows_right") rfl)⟩⟩
  have D__law_told : DfT K mg "_law_told" s__law_told := (c.def_ 8 (d := d__law_told) rfl).elim fun fd F => dfT_of F (He.glo_ok X G (c.fact 8 (f := .glo "_law_told") rfl))
  have D__law_drawn : Df K mg "_law_drawn" s__law_drawn := ⟨(c.def_ 9 (d := d__law_drawn) rfl).elim fun fd F => ⟨_, fd, F, He.glo_ok X G (c.fact 9 (f := .glo "_law_drawn") rfl)⟩⟩
  have D_law : Df K mg "law" s_law := ⟨(c.def_ 10 (d := d_law) rfl).elim fun fd F => ⟨_, fd, F, He.glo_ok X G (c.fact 10 (f := .glo "law") rfl)⟩⟩
  have C__law_lead : Cal P w K mg base 1 "_law_lead" ["_law_kind", "_law_wide", "_law_number"] (spG (P__law_lead)) := ok__law_lead T D__law_lead 
  have C__law_lead_here : CalC P w K mg base 2 s__law_lead_here "_law_lead_here" ["_law_number"] ["_law_kind", "_law_numbers", "_law_wide"] (spC 1 (spA none (P__law_lead_here))) := ok__law_lead_here T  C__law_lead
  have C_cut_into : Cal P w K mg base 3 "cut_into" ["rows", "word", "width", "lead"] (spA none (P_cut_into)) := ok_cut_into T D_cut_into C__law_lead_here
  have C_filled : Cal P w K mg base 4 "filled" ["words", "width", "lead"] (spAN none rS (P_filled)) := ok_filled T D_filled C__law_lead_here C_cut_into
  have C__law_draw : Cal P w K mg base 1 "_law_draw" ["_law_script", "_law_tape", "_law_many"] (spM tp (P__law_draw K)) := ok__law_draw T D__law_draw 
  have C__law_whole : Cal P w K mg base 1 "_law_whole" ["_law_found"] (spG (P__law_whole)) := ok__law_whole T D__law_whole 
  have C__law_word : Cal P w K mg base 2 "_law_word" ["_law_script", "_law_tape", "_law_size"] (spM tp (P__law_word K)) := ok__law_word T D__law_word C__law_draw
  have C__law_words : Cal P w K mg base 3 "_law_words" ["_law_script", "_law_tape", "_law_width", "_law_many"] (spMN tp rS (P__law_words K)) := ok__law_words T D__law_words C__law_draw C__law_word
  have C__law_rows_right : Cal P w K mg base 2 "_law_rows_right" ["_law_words_here", "_law_width", "_law_kind", "_law_wide", "_law_rows"] (spG (P__law_rows_right)) := ok__law_rows_right T D__law_rows_right C__law_lead
  have C__law_told : Cal P w K mg base 5 "_law_told" ["_law_words_here", "_law_width", "_law_kind", "_law_wide", "_law_numbers"] (spAN (tT K) rS (P__law_told K)) := ok__law_told T D__law_told TB C__law_lead_here C_filled
  have C__law_drawn : Cal P w K mg base 4 "_law_drawn" ["_law_script", "_law_tape", "_law_most"] (spM tp (P__law_drawn K)) := ok__law_drawn T D__law_drawn C__law_draw C__law_words
  have C_law : Cal P w K mg base 6 "law" ["_law_script"] (spA (tT K) (P_law K)) := ok_law T D_law C__law_drawn C__law_told C__law_rows_right C__law_whole
  exact C_law
end Law
open PySem PySem.W PySem.Calls PyProof.Rows in
theorem PySem.Challenge.cw_lightmark_k08_whole_filled_holds : PySem.Challenge.rw_lightmark_k08_whole_filled.Holds := by
  w_on; o_law
  refine HandSHeadRun.head_any (r := OpenLaw.row PySem.Challenge.rw_lightmark_k08_whole_filled) (q := view (OpenLaw.row PySem.Challenge.rw_lightmark_k08_whole_filled).prog [12]) (H := Law.hk) (ob := Law.ob) (M := 1760) (loose := ["cut_into", "filled", "_law_draw", "_law_whole", "_law_word", "_law_words", "_law_lead", "_law_rows_right", "_law_told", "_law_drawn"]) (d := HandSHeadRun.topDef (OpenLaw.row PySem.Challenge.rw_lightmark_k08_whole_filled).prog 12) (kwd := []) Law.ob_eq
    (by kernel_rfl) (fun s => by kernel_rfl) Law.run (by kernel_rfl) (by kernel_rfl) (by kernel_rfl) (by rfl) (by first | assumption | decide +kernel) (by decide +kernel) ⟨rfl, rfl, rfl, rfl, rfl, by decide +kernel⟩ ?hw ?hc
  case hw => w_witness2
  case hc =>
    refine LamX.walk_ofTsE (l := PySem.Challenge.rw_lightmark_k08_whole_filled) (n := 63) (k := 6) (x := "_law_script") (CX := fun _ => L2.CX0) rfl (by decide) (by kernel_rfl) ⟨rfl, by decide, by decide⟩ ?F (fun _ _ _ _ _ z => z)
    intro w mg fa h Y G hmg0
    obtain ⟨K, KX, c⟩ := Y
    have hmg : mg ("law" : PySem.Str) = some (.ref fa) := by
      have e : (HandSHeadRun.topDef (OpenLaw.row PySem.Challenge.rw_lightmark_k08_whole_filled).prog 12).name = ("law" : PySem.Str) := by kernel_rfl
      rw [← e]
      exact hmg0
    have cd := c.t.d
    have m : (("_law_told" : PySem.Str), (none : Option PySem.Str)) ∈ Law.tf := List.mem_singleton.mpr rfl
    have D : Lm.Df K mg "law" Law.s_law := ⟨(cd.def_ 10 (d := Law.d_law) rfl).elim fun fd F => ⟨_, fd, F, He.glo_ok KX G (cd.fact 10 (f := .glo "law") rfl)⟩⟩
    exact ⟨K, KX, Lm.law_atT (y := "_law_told") (nm := Law.nm__law_told K) (P := Law.P_law K) (c.empty _ m) (c.out _ m) (codeHd_of_K KX (c.hd _ m)) hmg (fun base TB => Law.calls KX G cd TB) D (fun _ _ _ _ _ _ us hl => match us, hl with | [_], _ => rfl) (fun ns hl hb => ⟨ns, true, rfl, rfl, Law.pure_law ns hl, rfl, rfl⟩) (by decide)⟩

