import PyProof.Rows.All
import PySem.Challenge.RW_lightmark_k09_shares
import Wide.All
import OpenK.AllK
import Wide.FinOn
import KE.KStateDown
import Lean
import HandS.ForMost
import HandS.StrMore
import HandS.Style
import HandS.IsInst
import HandS.Replace
import HandS.Wide
import HandS.Defaults
import HandS.HeadHook1
import HandS.HeadHook2
import HandS.HeadEnd
import HandS.Head0
import HandS.Head1
import HandS.Head2
import HandS.MapJoin
import HandS.Deep
set_option Elab.async false
set_option linter.all false
set_option maxRecDepth 100000
set_option maxHeartbeats 4000000
/-! Lm: readings over a frozen heap F and owned lists O. -/
namespace Lm
open PySem PySem.Spec L2

/-! ### heaps -/
theorem free_of {F H : Hp} (e : Same F H) {p : Addr} (h : H p = none) : F p = none := e.free h
theorem same_new {H : Hp} {p : Addr} {o : HO} (h : H p = none) : Same H (upd H p o) := fun b x e => by
  rw [upd_ne (ne_of_none e h)]
  exact e
theorem same_mut {F H : Hp} {p : Addr} {o : HO} (e : Same F H) (h : F p = none) : Same F (upd H p o) := fun a u ha => by
  rw [upd_ne (ne_of_none ha h)]
  exact e a u ha

/-- F grew to F', H to H': nothing of H changed, what is new in F' is new in H -/
structure Gr (F H F' H' : Hp) : Prop where
  f : Same F F'
  h : Same H H'
  fh : Same F' H'
  nw : ∀ a, F a = none → H a ≠ none → F' a = none
theorem Gr.refl {F H : Hp} (e : Same F H) : Gr F H F H := ⟨Same.refl F, Same.refl H, e, fun _ h _ => h⟩
theorem Gr.trans {F H F1 H1 F2 H2 : Hp} (a : Gr F H F1 H1) (b : Gr F1 H1 F2 H2) : Gr F H F2 H2 :=
  ⟨a.f.trans b.f, a.h.trans b.h, b.fh, fun x h1 h2 => b.nw x (a.nw x h1 h2) (by
    cases e : H x with
    | none => exact absurd e h2
    | some o => rw [a.h x o e]; exact fun z => by cases z)⟩
/-- a new object that is frozen at once -/
theorem Gr.frz {F H : Hp} {p : Addr} {o : HO} (e : Same F H) (h : H p = none) : Gr F H (upd F p o) (upd H p o) := by
  have hf := free_of e h
  refine ⟨same_new hf, same_new h, fun a u ha => ?_, fun a h1 h2 => ?_⟩
  · by_cases q : a = p
    · subst q; rw [upd_same] at ha ⊢; exact ha
    · rw [upd_ne q] at ha ⊢; exact e a u ha
  · rw [upd_ne (fun q => h2 (by rw [q]; exact h))]
    exact h1
/-- a new object that is not kept in F -/
theorem Gr.gar {F H : Hp} {p : Addr} {o : HO} (e : Same F H) (h : H p = none) : Gr F H F (upd H p o) :=
  ⟨Same.refl F, same_new h, e.trans (same_new h), fun _ q _ => q⟩

/-- owned objects -/
abbrev Own := List (Addr × HO)
structure Ok (F : Hp) (O : Own) (H : Hp) : Prop where
  ex : Same F H
  own : ∀ q ∈ O, F q.1 = none ∧ H q.1 = some q.2
theorem Ok.gr {F H F' H' : Hp} {O : Own} (k : Ok F O H) (g : Gr F H F' H') : Ok F' O H' :=
  ⟨g.fh, fun q m => ⟨g.nw _ (k.own q m).1 (by rw [(k.own q m).2]; exact fun z => by cases z), g.h _ _ (k.own q m).2⟩⟩

/-! ### what a value stands for -/
structure Rep (α : Type) where
  rp : α → V → Hp → Prop
  mono : ∀ {a v F F'}, Same F F' → rp a v F → rp a v F'
abbrev mk (l : List Nat) : Str := ⟨l.toArray⟩
def rInt : Rep Int := ⟨fun i v _ => v = .int i, fun _ h => h⟩
def rB : Rep Bool := ⟨fun i v _ => v = .bl i, fun _ h => h⟩
/-- texts are of signs below 128, and no longer than a million -/
abbrev lim : Nat := 1000000
/-- lists are no longer than this -/
abbrev limL : Nat := 4000000
def OkS (l : List Nat) : Prop := l.length ≤ lim ∧ ∀ c ∈ l, c < 128
def okS (l : List Nat) : Bool := decide (l.length ≤ lim) && l.all fun c => decide (c < 128)
theorem okS_iff {l : List Nat} : okS l = true ↔ OkS l := by
  unfold okS OkS
  rw [Bool.and_eq_true, decide_eq_true_eq, List.all_eq_true]
  simp only [decide_eq_true_eq]
def rS : Rep (List Nat) := ⟨fun l v _ => v = .str (mk l) ∧ OkS l, fun _ h => h⟩
/-- one sign -/
def rC : Rep Nat := ⟨fun c v _ => v = .str (mk [c]) ∧ c < 128, fun _ h => h⟩
def rN : Rep Unit := ⟨fun _ v _ => v = .non, fun _ h => h⟩
def rV (v : V) : Rep Unit := ⟨fun _ w _ => w = v, fun _ h => h⟩
def All2 {α : Type} (R : Rep α) : List α → List V → Hp → Prop
  | [], [], _ => True
  | a :: as, v :: vs, F => R.rp a v F ∧ All2 R as vs F
  | _, _, _ => False
section
variable {α β γ : Type} {R : Rep α} {R' : Rep β}
theorem All2.mono {F F' : Hp} (e : Same F F') : ∀ {as : List α} {vs : List V}, All2 R as vs F → All2 R as vs F'
  | [], [], _ => trivial
  | _ :: _, _ :: _, h => ⟨R.mono e h.1, All2.mono e h.2⟩
  | [], _ :: _, h => h.elim
  | _ :: _, [], h => h.elim
theorem All2.len {F : Hp} : ∀ {as : List α} {vs : List V}, All2 R as vs F → as.length = vs.length
  | [], [], _ => rfl
  | _ :: _, _ :: _, h => by rw [List.length_cons, List.length_cons, All2.len h.2]
  | [], _ :: _, h => h.elim
  | _ :: _, [], h => h.elim
theorem All2.get {F : Hp} : ∀ {as : List α} {vs : List V} {i : Nat} {a : α}, All2 R as vs F → as[i]? = some a → ∃ v, vs[i]? = some v ∧ R.rp a v F
  | [], _, _, _, _, e => by simp at e
  | a :: as, [], _, _, h, _ => h.elim
  | a :: as, v :: vs, 0, b, h, e => by
    have e1 : a = b := Option.some.inj e
    subst e1
    exact ⟨v, rfl, h.1⟩
  | a :: as, v :: vs, i + 1, b, h, e => All2.get (i := i) h.2 e
theorem All2.getv {F : Hp} : ∀ {as : List α} {vs : List V} {i : Nat} {v : V}, All2 R as vs F → vs[i]? = some v → ∃ a, as[i]? = some a ∧ R.rp a v F
  | [], [], _, _, _, e => by simp at e
  | [], _ :: _, _, _, h, _ => h.elim
  | a :: as, [], _, _, h, _ => h.elim
  | a :: as, v :: vs, 0, b, h, e => by
    have e1 : v = b := Option.some.inj e
    subst e1
    exact ⟨a, rfl, h.1⟩
  | a :: as, v :: vs, i + 1, b, h, e => All2.getv (i := i) h.2 e
theorem All2.app {F : Hp} : ∀ {as bs : List α} {vs ws : List V}, All2 R as vs F → All2 R bs ws F → All2 R (as ++ bs) (vs ++ ws) F
  | [], _, [], _, _, h => h
  | _ :: _, _, _ :: _, _, h1, h2 => ⟨h1.1, All2.app h1.2 h2⟩
  | [], _, _ :: _, _, h, _ => h.elim
  | _ :: _, _, [], _, h, _ => h.elim
theorem All2.one {F : Hp} {a : α} {v : V} (h : R.rp a v F) : All2 R [a] [v] F := ⟨h, trivial⟩
theorem All2.take {F : Hp} : ∀ (n : Nat) {as : List α} {vs : List V}, All2 R as vs F → All2 R (as.take n) (vs.take n) F
  | 0, _, _, _ => trivial
  | _ + 1, [], [], _ => trivial
  | n + 1, _ :: _, _ :: _, h => ⟨h.1, All2.take n h.2⟩
  | _ + 1, [], _ :: _, h => h.elim
  | _ + 1, _ :: _, [], h => h.elim
theorem All2.drop {F : Hp} : ∀ (n : Nat) {as : List α} {vs : List V}, All2 R as vs F → All2 R (as.drop n) (vs.drop n) F
  | 0, _, _, h => h
  | _ + 1, [], [], _ => trivial
  | n + 1, _ :: _, _ :: _, h => All2.drop n h.2
  | _ + 1, [], _ :: _, h => h.elim
  | _ + 1, _ :: _, [], h => h.elim
theorem All2.set {F : Hp} {a : α} {v : V} (hr : R.rp a v F) : ∀ (n : Nat) {as : List α} {vs : List V}, All2 R as vs F → All2 R (as.set n a) (vs.set n v) F
  | _, [], [], _ => trivial
  | 0, _ :: _, _ :: _, h => ⟨hr, h.2⟩
  | n + 1, _ :: _, _ :: _, h => ⟨h.1, All2.set hr n h.2⟩
  | _, [], _ :: _, h => h.elim
  | _, _ :: _, [], h => h.elim
theorem All2.rev {F : Hp} : ∀ {as : List α} {vs : List V}, All2 R as vs F → All2 R as.reverse vs.reverse F
  | [], [], _ => trivial
  | a :: as, v :: vs, h => by
    rw [List.reverse_cons, List.reverse_cons]
    exact All2.app (All2.rev h.2) (All2.one h.1)
  | [], _ :: _, h => h.elim
  | _ :: _, [], h => h.elim
/-- a kind whose values are told by a function -/
structure Fl (R : Rep α) (f : α → V) : Prop where
  to : ∀ {a v F}, R.rp a v F → v = f a
  of : ∀ a F, R.rp a (f a) F
theorem flI : Fl rInt V.int := ⟨fun h => h, fun _ _ => rfl⟩
theorem flB : Fl rB V.bl := ⟨fun h => h, fun _ _ => rfl⟩
theorem All2.strs {F : Hp} : ∀ {as : List (List Nat)} {vs : List V}, All2 rS as vs F → vs = (as.map mk).map V.str
  | [], [], _ => rfl
  | _ :: _, _ :: _, q => by
    have e := q.1.1
    rw [List.map_cons, List.map_cons, ← All2.strs q.2, e]
  | [], _ :: _, q => q.elim
  | _ :: _, [], q => q.elim
theorem All2.of_strs {F : Hp} : ∀ (as : List (List Nat)), (∀ a ∈ as, OkS a) → All2 rS as ((as.map mk).map V.str) F
  | [], _ => trivial
  | a :: as, h => ⟨⟨rfl, h a (List.mem_cons_self ..)⟩, All2.of_strs as fun b m => h b (List.mem_cons_of_mem _ m)⟩
theorem All2.oks {F : Hp} : ∀ {as : List (List Nat)} {vs : List V}, All2 rS as vs F → ∀ a ∈ as, OkS a
  | [], _, _, _, m => by cases m
  | b :: bs, [], h, _, _ => h.elim
  | b :: bs, v :: vs, h, a, m => by
    rcases List.mem_cons.mp m with e | m
    · subst e; exact h.1.2
    · exact All2.oks h.2 a m
theorem All2.map {f : α → V} (h : Fl R f) {F : Hp} : ∀ {as : List α} {vs : List V}, All2 R as vs F → vs = as.map f
  | [], [], _ => rfl
  | _ :: _, _ :: _, q => by rw [List.map_cons, h.to q.1, All2.map h q.2]
  | [], _ :: _, q => q.elim
  | _ :: _, [], q => q.elim
theorem All2.of_map {f : α → V} (h : Fl R f) {F : Hp} : ∀ (as : List α), All2 R as (as.map f) F
  | [] => trivial
  | a :: as => ⟨h.of a F, All2.of_map h as⟩
/-- .. and not too many -/
structure AllB (R : Rep α) (as : List α) (xs : List V) (F : Hp) : Prop where
  all : All2 R as xs F
  len : as.length ≤ limL
theorem AllB.mono {F F' : Hp} {as : List α} {xs : List V} (e : Same F F') (h : AllB R as xs F) : AllB R as xs F' := ⟨h.all.mono e, h.len⟩
theorem AllB.sz {F : Hp} {as : List α} {xs : List V} (h : AllB R as xs F) : xs.length ≤ limL := by
  rw [← h.all.len]
  exact h.len
theorem sz_lim {n : Nat} (h : n ≤ lim) : n ≤ limL := Nat.le_trans h (by decide)
theorem sz_line {n : Nat} (h : n ≤ limL) : n ≤ sizeLine := Nat.le_trans h (by decide)
theorem sz_lt {n : Nat} (h : n ≤ limL) : n < sizeLine := Nat.lt_of_le_of_lt h (by decide)
/-- a frozen list, tuples -/
def rL (R : Rep α) : Rep (List α) := ⟨fun as v F => ∃ p xs, v = .ref p ∧ F p = some (.lst xs) ∧ AllB R as xs F,
  fun e ⟨p, xs, h1, h2, h3⟩ => ⟨p, xs, h1, e _ _ h2, h3.mono e⟩⟩
/-- a tuple of things of one kind -/
def rTL (R : Rep α) : Rep (List α) := ⟨fun as v F => ∃ p xs, v = .ref p ∧ F p = some (.tup xs) ∧ AllB R as xs F,
  fun e ⟨p, xs, h1, h2, h3⟩ => ⟨p, xs, h1, e _ _ h2, h3.mono e⟩⟩
def rT2 (R : Rep α) (R' : Rep β) : Rep (α × β) := ⟨fun t v F => ∃ p x y, v = .ref p ∧ F p = some (.tup [x, y]) ∧ R.rp t.1 x F ∧ R'.rp t.2 y F,
  fun e ⟨p, x, y, h1, h2, h3, h4⟩ => ⟨p, x, y, h1, e _ _ h2, R.mono e h3, R'.mono e h4⟩⟩
def rT3 (R : Rep α) (R' : Rep β) (R'' : Rep γ) : Rep (α × β × γ) := ⟨fun t v F => ∃ p x y z, v = .ref p ∧ F p = some (.tup [x, y, z]) ∧ R.rp t.1 x F ∧ R'.rp t.2.1 y F ∧ R''.rp t.2.2 z F,
  fun e ⟨p, x, y, z, h1, h2, h3, h4, h5⟩ => ⟨p, x, y, z, h1, e _ _ h2, R.mono e h3, R'.mono e h4, R''.mono e h5⟩⟩
/-- the script: a list of ints that is only read -/
def rScr (K : PySem.W.Frag) : Rep (List Int) := ⟨fun ns v F => ∃ p, v = .ref p ∧ SqL K F p (ns.map V.int) ∧ ns.length ≤ limL, fun e ⟨p, h1, h2, h3⟩ => ⟨p, h1, e.seq h2, h3⟩⟩
/-- None or another thing -/
def rO (R : Rep α) : Rep (Option α) := ⟨fun o v F => match o with | none => v = .non | some a => R.rp a v F ∧ v ≠ .non, fun {o} {_} {_} {_} e h => by
  cases o with
  | none => exact h
  | some a => exact ⟨R.mono e h.1, h.2⟩⟩
end

/-! ### what an expression evaluates to -/
structure Ar where
  p : V → Hp → Hp → Prop
  mono : ∀ {v F H F' H'}, Same F F' → Same H H' → p v F H → p v F' H'
def val {α : Type} (R : Rep α) (a : α) : Ar := ⟨fun v F _ => R.rp a v F, fun e _ h => R.mono e h⟩
/-- a list whose spine is read: frozen, owned or just made -/
def spn {α : Type} (R : Rep α) (as : List α) : Ar := ⟨fun v F H => ∃ p xs, v = .ref p ∧ H p = some (.lst xs) ∧ AllB R as xs F,
  fun e e' ⟨p, xs, h1, h2, h3⟩ => ⟨p, xs, h1, e' _ _ h2, h3.mono e⟩⟩

def Ev (te : TE) (σ : L2.St) (F : Hp) (O : Own) (A : Ar) : Prop := ∀ H, Ok F O H → ∀ Q : VK, (∀ v F' H', Gr F H F' H' → A.p v F' H' → Q v H') → te σ H Q
def EvT (tt : TT) (σ : L2.St) (F : Hp) (O : Own) (b : Bool) : Prop := ∀ H, Ok F O H → ∀ Q : Bool → Hp → Prop, (∀ F' H', Gr F H F' H' → Q b H') → tt σ H Q
/-- a new list -/
def EvN {α : Type} (te : TE) (σ : L2.St) (F : Hp) (O : Own) (R : Rep α) (as : List α) : Prop := ∀ H, Ok F O H → ∀ Q : VK,
  (∀ p xs F' H', Gr F H F' H' → H p = none → F' p = none → H' p = some (.lst xs) → AllB R as xs F' → Q (.ref p) H') → te σ H Q
def AllA : List Ar → List V → Hp → Hp → Prop
  | [], [], _, _ => True
  | A :: as, v :: vs, F, H => A.p v F H ∧ AllA as vs F H
  | _, _, _, _ => False
theorem AllA.mono {F H F' H' : Hp} (e : Same F F') (e' : Same H H') : ∀ {as : List Ar} {vs : List V}, AllA as vs F H → AllA as vs F' H'
  | [], [], _ => trivial
  | A :: _, _ :: _, h => ⟨A.mono e e' h.1, AllA.mono e e' h.2⟩
  | [], _ :: _, h => h.elim
  | _ :: _, [], h => h.elim
def EvA (ta : TA) (σ : L2.St) (F : Hp) (O : Own) (as : List Ar) : Prop := ∀ H, Ok F O H → ∀ Q : List V → Hp → Prop, (∀ vs F' H', Gr F H F' H' → AllA as vs F' H' → Q vs H') → ta σ H Q

/-- two heaps laid one over the other -/
def un (F G : Hp) : Hp := fun a => match F a with | some o => some o | none => G a
theorem un_l {F G : Hp} : Same F (un F G) := fun a o e => by unfold un; rw [e]
theorem un_r {F G H : Hp} (e : Same F H) (e' : Same G H) : Same G (un F G) := fun a o h => by
  unfold un
  cases q : F a with
  | none => exact h
  | some u =>
    have h1 := e a u q
    have h2 := e' a o h
    rw [h1] at h2
    exact h2
theorem un_h {F G H : Hp} (e : Same F H) (e' : Same G H) : Same (un F G) H := fun a o h => by
  unfold un at h
  cases q : F a with
  | none => rw [q] at h; exact e' a o h
  | some u => rw [q] at h; cases h; exact e a o q
/-- known at F, known at more -/
theorem gr_un {F F1 H F' H' : Hp} (e : Same F F1) (k : Same F1 H) (g : Gr F H F' H') : Gr F1 H (un F1 F') H' := by
  have k' : Same F1 H' := k.trans g.h
  refine ⟨un_l, g.h, un_h k' g.fh, fun a h1 h2 => ?_⟩
  unfold un
  rw [h1]
  exact g.nw a (e.free h1) h2
theorem Ok.less {F F1 : Hp} {O : Own} {H : Hp} (e : Same F F1) (k : Ok F1 O H) : Ok F O H := ⟨e.trans k.ex, fun q m => ⟨e.free (k.own q m).1, (k.own q m).2⟩⟩

section
variable {α β γ δ : Type} {R : Rep α} {R' : Rep β} {σ : L2.St} {F F1 : Hp} {O : Own} {ta tb tc te : TE} {A B C : Ar} {K : PySem.W.Frag}
theorem Ev.mono (h : Ev te σ F O A) (e : Same F F1) : Ev te σ F1 O A := fun H k Q q =>
  h H (k.less e) Q fun v F' H' g a => q v (un F1 F') H' (gr_un e k.ex g) (A.mono (un_r (k.ex.trans g.h) g.fh) (Same.refl _) a)
theorem EvN.mono {as : List α} (h : EvN te σ F O R as) (e : Same F F1) : EvN te σ F1 O R as := fun H k Q q =>
  h H (k.less e) Q fun p xs F' H' g n f x a => q p xs (un F1 F') H' (gr_un e k.ex g) n (by
    unfold un
    rw [k.ex.free n]
    exact f) x (a.mono (un_r (k.ex.trans g.h) g.fh))
theorem EvT.mono {tt : TT} {b : Bool} (h : EvT tt σ F O b) (e : Same F F1) : EvT tt σ F1 O b := fun H k Q q =>
  h H (k.less e) Q fun F' H' g => q (un F1 F') H' (gr_un e k.ex g)
theorem EvA.mono {ta : TA} {as : List Ar} (h : EvA ta σ F O as) (e : Same F F1) : EvA ta σ F1 O as := fun H k Q q =>
  h H (k.less e) Q fun v F' H' g a => q v (un F1 F') H' (gr_un e k.ex g) (a.mono (un_r (k.ex.trans g.h) g.fh) (Same.refl _))
/-- fewer owned lists are asked -/
theorem Ev.sub {O' : Own} (h : Ev te σ F O A) (s : ∀ q ∈ O, q ∈ O') : Ev te σ F O' A := fun H k Q q => h H ⟨k.ex, fun p m => k.own p (s p m)⟩ Q q

/-! ### names, constants -/
theorem ev_v {i : Nat} {v : V} {a : α} (h : σ[i]? = some (some v)) (r : R.rp a v F) : Ev (tVar i) σ F O (val R a) := fun H k _ q => ⟨v, h, q v F H (Gr.refl k.ex) r⟩
theorem ev_o {i : Nat} {p : Addr} {xs : List V} {as : List α} (h : σ[i]? = some (some (.ref p))) (m : (p, HO.lst xs) ∈ O) (r : AllB R as xs F) : Ev (tVar i) σ F O (spn R as) := fun H k _ q =>
  ⟨.ref p, h, q _ F H (Gr.refl k.ex) ⟨p, xs, rfl, (k.own _ m).2, r⟩⟩
theorem ev_c {v : V} {a : α} (r : ∀ F, R.rp a v F) : Ev (tC v) σ F O (val R a) := fun H k _ q => q v F H (Gr.refl k.ex) (r F)
theorem ev_i {i : Int} : Ev (tC (.int i)) σ F O (val rInt i) := ev_c fun _ => rfl
theorem ev_b {i : Bool} : Ev (tC (.bl i)) σ F O (val rB i) := ev_c fun _ => rfl
theorem ev_n : Ev (tC .non) σ F O (val rN ()) := ev_c fun _ => rfl
theorem ev_s {x : Str} {l : List Nat} (h : x = mk l) (k : okS l = true) : Ev (tC (.str x)) σ F O (val rS l) := ev_c fun _ => ⟨by rw [h], okS_iff.mp k⟩
theorem ev_ch {x : Str} {c : Nat} (h : x = mk [c]) (k : c < 128) : Ev (tC (.str x)) σ F O (val rC c) := ev_c fun _ => ⟨by rw [h], k⟩
theorem ev_cs {c : Nat} (h : Ev te σ F O (val rC c)) : Ev te σ F O (val rS [c]) := fun H k Q q => h H k Q fun v F' H' g a => q v F' H' g ⟨a.1, by
  refine ⟨by show 1 ≤ lim; decide, fun d m => ?_⟩
  rw [List.mem_singleton.mp m]
  exact a.2⟩
/-- other forms of the same -/
theorem ev_is {a b : α} (h : Ev te σ F O (val R a)) (e : a = b) : Ev te σ F O (val R b) := e ▸ h
theorem ev_spn {as : List α} (h : Ev te σ F O (val (rL R) as)) : Ev te σ F O (spn R as) := fun H k Q q =>
  h H k Q fun v F' H' g ⟨p, xs, h1, h2, h3⟩ => q v F' H' g ⟨p, xs, h1, g.fh _ _ h2, h3⟩
theorem ev_nspn {as : List α} (h : EvN te σ F O R as) : Ev te σ F O (spn R as) := fun H k Q q =>
  h H k Q fun p xs F' H' g _ _ h2 h3 => q _ F' H' g ⟨p, xs, rfl, h2, h3⟩
theorem ev_frz {as : List α} (h : EvN te σ F O R as) : Ev te σ F O (val (rL R) as) := fun H k Q q =>
  h H k Q fun p xs F' H' g n f h2 h3 => q _ (upd F' p (.lst xs)) H' ⟨g.f.trans (same_new f), g.h, fun a u e => by
    by_cases z : a = p
    · subst z; rw [upd_same] at e; cases e; exact h2
    · rw [upd_ne z] at e; exact g.fh a u e, fun a h1 h4 => by
    rw [upd_ne (fun z => h4 (by rw [z]; exact n))]
    exact g.nw a h1 h4⟩ ⟨p, xs, rfl, upd_same, h3.mono (same_new f)⟩

/-! ### operators -/
theorem two (ha : Ev ta σ F O A) (hb : Ev tb σ F O B) {H : Hp} (k : Ok F O H) {Q : V → V → Hp → Prop} (q : ∀ v w F' H', Gr F H F' H' → Same F' H' → A.p v F' H' → B.p w F' H' → Q v w H') : ta σ H fun x H1 => tb σ H1 fun y H2 => Q x y H2 :=
  ha H k _ fun v F1 H1 g1 a => (hb.mono g1.f) H1 (k.gr g1) _ fun w F2 H2 g2 b => q v w F2 H2 (g1.trans g2) g2.fh (A.mono g2.f g2.h a) b
def Op2 (r : R2) (A B C : Ar) : Prop := ∀ v w F H (Q : VK), Same F H → A.p v F H → B.p w F H → (∀ u F' H', Gr F H F' H' → C.p u F' H' → Q u H') → r v w H Q
def Op2N {α : Type} (r : R2) (A B : Ar) (R : Rep α) (as : List α) : Prop := ∀ v w F H (Q : VK), Same F H → A.p v F H → B.p w F H →
  (∀ p xs F' H', Gr F H F' H' → H p = none → F' p = none → H' p = some (.lst xs) → AllB R as xs F' → Q (.ref p) H') → r v w H Q
theorem ev_op {r : R2} (ha : Ev ta σ F O A) (hb : Ev tb σ F O B) (ho : Op2 r A B C) : Ev (tOp r ta tb) σ F O C := fun H k Q q =>
  two ha hb k fun v w F1 H1 g e a b => ho v w F1 H1 Q e a b fun u F2 H2 g2 c => q u F2 H2 (g.trans g2) c
theorem gr_none {F H F' H' : Hp} (g : Gr F H F' H') {p : Addr} (h : H' p = none) : H p = none := g.h.free h
theorem ev_opN {r : R2} {as : List α} (ha : Ev ta σ F O A) (hb : Ev tb σ F O B) (ho : Op2N r A B R as) : EvN (tOp r ta tb) σ F O R as := fun H k Q q =>
  two ha hb k fun v w F1 H1 g e a b => ho v w F1 H1 Q e a b fun p xs F2 H2 g2 n f x c => q p xs F2 H2 (g.trans g2) (gr_none g n) f x c
/-- where the answer is a scalar -/
theorem op_sc {r : R2} {c : γ} {Rc : Rep γ} {f : γ → V} (hf : Fl Rc f) (h : ∀ v w F H (Q : VK), Same F H → A.p v F H → B.p w F H → Q (f c) H → r v w H Q) : Op2 r A B (val Rc c) := fun v w F H Q e a b q =>
  h v w F H Q e a b (q _ F H (Gr.refl e) (hf.of c F))
theorem o_ii {g : Int → Int → V} {Rc : Rep γ} {f : γ → V} {c : Int → Int → γ} (hf : Fl Rc f) (e : ∀ i j, g i j = f (c i j)) {i j : Int} : Op2 (rI0 g) (val rInt i) (val rInt j) (val Rc (c i j)) :=
  op_sc hf fun _ _ _ _ Q _ a b q => ⟨i, j, a, b, by rw [e]; exact q⟩
theorem o_iic {P : Int → Int → Prop} {g : Int → Int → V} {Rc : Rep γ} {f : γ → V} {c : Int → Int → γ} (hf : Fl Rc f) (e : ∀ i j, g i j = f (c i j)) {i j : Int} (h : P i j) : Op2 (rI P g) (val rInt i) (val rInt j) (val Rc (c i j)) :=
  op_sc hf fun _ _ _ _ Q _ a b q => ⟨i, j, a, b, h, by rw [e]; exact q⟩
end
end Lm
/-! Lm: statements, loops, calls. -/
namespace Lm
open PySem PySem.Spec L2

/-- what a def began with: the frozen heap, all that must stand -/
structure Bs where
  F0 : Hp
  B : Hp
structure At (Z : Bs) (F : Hp) (O : Own) (H : Hp) : Prop where
  ok : Ok F O H
  b : Same Z.B H
  f0 : Same Z.F0 F
  sep : ∀ a, Z.F0 a = none → Z.B a ≠ none → F a = none
  ob : ∀ q ∈ O, Z.B q.1 = none
  nd : (O.map (·.1)).Nodup
section
variable {Z : Bs} {F H F' H' : Hp} {O : Own} {p : Addr} {o o' : HO}
theorem At.gr (k : At Z F O H) (g : Gr F H F' H') : At Z F' O H' :=
  ⟨k.ok.gr g, k.b.trans g.h, k.f0.trans g.f, fun a h1 h2 => g.nw a (k.sep a h1 h2) (by
    cases e : Z.B a with
    | none => exact absurd e h2
    | some u => rw [k.b a u e]; exact fun z => by cases z), k.ob, k.nd⟩
theorem At.new (k : At Z F O H) (g : Gr F H F' H') (hn : H p = none) (hf : F' p = none) (hx : H' p = some o) : At Z F' ((p, o) :: O) H' := by
  have k' := k.gr g
  refine ⟨⟨k'.ok.ex, fun q m => ?_⟩, k'.b, k'.f0, k'.sep, fun q m => ?_, ?_⟩
  · rcases List.mem_cons.mp m with e | m
    · subst e; exact ⟨hf, hx⟩
    · exact k'.ok.own q m
  · rcases List.mem_cons.mp m with e | m
    · subst e; exact k.b.free hn
    · exact k.ob q m
  · rw [List.map_cons, List.nodup_cons]
    refine ⟨fun m => ?_, k.nd⟩
    obtain ⟨q, m, e⟩ := List.mem_map.mp m
    have e2 := (k.ok.own q m).2
    rw [e, hn] at e2
    cases e2
theorem At.frz (k : At Z F ((p, o) :: O) H) : At Z (upd F p o) O H := by
  have hp := k.ok.own (p, o) (List.mem_cons_self ..)
  have nd := List.nodup_cons.mp (show ((p, o) :: O |>.map (·.1)).Nodup from k.nd)
  refine ⟨⟨fun a u e => ?_, fun q m => ?_⟩, k.b, k.f0.trans (same_new hp.1), fun a h1 h2 => ?_, fun q m => k.ob q (List.mem_cons_of_mem _ m), nd.2⟩
  · by_cases z : a = p
    · subst z; rw [upd_same] at e; cases e; exact hp.2
    · rw [upd_ne z] at e; exact k.ok.ex a u e
  · have h1 := k.ok.own q (List.mem_cons_of_mem _ m)
    refine ⟨?_, h1.2⟩
    rw [upd_ne (fun z => nd.1 (List.mem_map.mpr ⟨q, m, z⟩))]
    exact h1.1
  · rw [upd_ne (fun z => h2 (by rw [z]; exact k.ob (p, o) (List.mem_cons_self ..)))]
    exact k.sep a h1 h2
theorem At.drop (k : At Z F ((p, o) :: O) H) : At Z F O H :=
  ⟨⟨k.ok.ex, fun q m => k.ok.own q (List.mem_cons_of_mem _ m)⟩, k.b, k.f0, k.sep, fun q m => k.ob q (List.mem_cons_of_mem _ m), (List.nodup_cons.mp (show ((p, o) :: O |>.map (·.1)).Nodup from k.nd)).2⟩
theorem At.write {n : Nat} (k : At Z F O H) (h : O[n]? = some (p, o)) : At Z F (O.set n (p, o')) (upd H p o') := by
  have hp := k.ok.own (p, o) (List.mem_of_getElem? h)
  have em : (O.set n (p, o')).map (·.1) = O.map (·.1) := by
    rw [List.map_set]
    apply List.ext_getElem?
    intro i
    rw [List.getElem?_set]
    split
    · next e =>
      subst e
      rw [List.length_map]
      have hn := (List.getElem?_eq_some_iff.mp h).1
      rw [if_pos hn, List.getElem?_map, h]
      rfl
    · rfl
  refine ⟨⟨same_mut k.ok.ex hp.1, fun q m => ?_⟩, same_mut k.b (k.ob _ (List.mem_of_getElem? h)), k.f0, k.sep, fun q m => ?_, by rw [em]; exact k.nd⟩
  · obtain ⟨i, hi⟩ := List.getElem?_of_mem m
    rw [List.getElem?_set] at hi
    by_cases e : n = i
    · rw [if_pos e] at hi
      split at hi
      · cases hi
        exact ⟨hp.1, upd_same⟩
      · cases hi
    · rw [if_neg e] at hi
      have h1 := k.ok.own q (List.mem_of_getElem? hi)
      refine ⟨h1.1, ?_⟩
      rw [upd_ne]
      · exact h1.2
      · intro z
        have a1 : (O.map (·.1))[n]? = some p := by rw [List.getElem?_map, h]; rfl
        have a2 : (O.map (·.1))[i]? = some p := by rw [List.getElem?_map, hi, ← z]; rfl
        have l1 := (List.getElem?_eq_some_iff.mp a1)
        have l2 := (List.getElem?_eq_some_iff.mp a2)
        exact e ((List.getElem_inj k.nd).mp (l1.2.trans l2.2.symm))
  · obtain ⟨u, e⟩ : ∃ u, u ∈ O ∧ u.1 = q.1 := by
      have : q.1 ∈ (O.set n (p, o')).map (·.1) := List.mem_map.mpr ⟨q, m, rfl⟩
      rw [em] at this
      obtain ⟨u, a, b⟩ := List.mem_map.mp this
      exact ⟨u, a, b⟩
    rw [← e.2]
    exact k.ob u e.1
/-- at a def's entry -/
theorem At.start (e : Same F H) : At ⟨F, H⟩ F [] H := ⟨⟨e, fun _ m => (by cases m)⟩, Same.refl _, Same.refl _, fun _ h _ => h, fun _ m => (by cases m), List.nodup_nil⟩
/-- at its end -/
theorem At.done (k : At ⟨F, H⟩ F' O H') : Gr F H F' H' := ⟨k.f0, k.b, k.ok.ex, k.sep⟩
end

def Sx (Z : Bs) (ts : TS) (D : Ends) (σ : L2.St) (F : Hp) (O : Own) : Prop := ∀ H, At Z F O H → ts D σ H
def Nx (Z : Bs) (D : Ends) (σ : L2.St) (F : Hp) (O : Own) : Prop := ∀ H, At Z F O H → D.nx σ H
def Ct (Z : Bs) (D : Ends) (σ : L2.St) (F : Hp) (O : Own) : Prop := ∀ H, At Z F O H → D.ct σ H
def Bk (Z : Bs) (D : Ends) (σ : L2.St) (F : Hp) (O : Own) : Prop := ∀ H, At Z F O H → D.bk σ H
def Rt (Z : Bs) (D : Ends) (v : V) (F : Hp) (O : Own) : Prop := ∀ H, At Z F O H → D.rt v H

section
variable {α β γ : Type} {R : Rep α} {R' : Rep β} {Z : Bs} {D : Ends} {σ : L2.St} {F : Hp} {O : Own} {t u : TS} {te ta tb : TE} {tt : TT} {A B C : Ar} {K : PySem.W.Frag} {i : Nat} {p : Addr} {o : HO}
theorem sx_seq (h : Sx Z t { D with nx := u D } σ F O) : Sx Z (tSeq t u) D σ F O := h
theorem nx_of (h : Sx Z u D σ F O) : Nx Z { D with nx := u D } σ F O := h
theorem sx_next (h : Nx Z D σ F O) : Sx Z tNext D σ F O := h
theorem sx_brk (h : Bk Z D σ F O) : Sx Z tBreak D σ F O := h
theorem sx_cont (h : Ct Z D σ F O) : Sx Z tCont D σ F O := h
theorem sx_asg {a : α} (h : Ev te σ F O (val R a)) (k : ∀ v F', Same F F' → R.rp a v F' → Nx Z D (σ.set i (some v)) F' O) : Sx Z (tAsg te (gName i)) D σ F O := fun H at0 =>
  h H at0.ok _ fun v F' H' g r => k v F' g.f r H' (at0.gr g)
theorem sx_asgN {as : List α} (h : EvN te σ F O R as) (k : ∀ p xs F', Same F F' → AllB R as xs F' → Nx Z D (σ.set i (some (.ref p))) F' ((p, .lst xs) :: O)) : Sx Z (tAsg te (gName i)) D σ F O := fun H at0 =>
  h H at0.ok _ fun p xs F' H' g n f x r => k p xs F' g.f r H' (at0.new g n f x)
theorem sx_drop (h : Ev te σ F O A) (k : ∀ F', Same F F' → Nx Z D σ F' O) : Sx Z (tDrop te) D σ F O := fun H at0 =>
  h H at0.ok _ fun v F' H' g _ => k F' g.f H' (at0.gr g)
theorem sx_ret {a : α} (h : Ev te σ F O (val R a)) (k : ∀ v F', Same F F' → R.rp a v F' → Rt Z D v F' O) : Sx Z (tRet te) D σ F O := fun H at0 =>
  h H at0.ok _ fun v F' H' g r => k v F' g.f r H' (at0.gr g)
theorem sx_retN {as : List α} (h : EvN te σ F O R as) (k : ∀ p xs F', Same F F' → AllB R as xs F' → Rt Z D (.ref p) F' ((p, .lst xs) :: O)) : Sx Z (tRet te) D σ F O := fun H at0 =>
  h H at0.ok _ fun p xs F' H' g n f x r => k p xs F' g.f r H' (at0.new g n f x)
/-- return of an owned list's name -/
theorem sx_retO {j : Nat} {v : V} (h : σ[j]? = some (some v)) (k : Rt Z D v F O) : Sx Z (tRet (tVar j)) D σ F O := fun H at0 => ⟨v, h, k H at0⟩
theorem sx_retn (k : Rt Z D .non F O) : Sx Z tRetN D σ F O := fun H at0 => k H at0
theorem sx_if {b : Bool} (h : EvT tt σ F O b) (h1 : b = true → ∀ F', Same F F' → Sx Z t D σ F' O) (h2 : b = false → ∀ F', Same F F' → Sx Z u D σ F' O) : Sx Z (tIfS tt t u) D σ F O := fun H at0 =>
  h H at0.ok _ fun F' H' g => by
    cases b with
    | true =>
      show t D σ H'
      exact h1 rfl F' g.f H' (at0.gr g)
    | false =>
      show u D σ H'
      exact h2 rfl F' g.f H' (at0.gr g)
/-- an owned list is frozen, forgotten -/
theorem sx_frz (h : Sx Z t D σ (upd F p o) O) : Sx Z t D σ F ((p, o) :: O) := fun H at0 => h H at0.frz
theorem nx_frz (h : Nx Z D σ (upd F p o) O) : Nx Z D σ F ((p, o) :: O) := fun H at0 => h H at0.frz
theorem sx_forget (h : Sx Z t D σ F O) : Sx Z t D σ F ((p, o) :: O) := fun H at0 => h H at0.drop
/-- a frozen owned list as a value -/
theorem rp_frz {as : List α} {xs : List V} (hf : F p = none) (h : AllB R as xs F) : (rL R).rp as (.ref p) (upd F p (.lst xs)) := ⟨p, xs, rfl, upd_same, h.mono (same_new hf)⟩
theorem sx_own (h : (∀ q ∈ O, F q.1 = none) → Sx Z t D σ F O) : Sx Z t D σ F O := fun H at0 => h (fun q m => (at0.ok.own q m).1) H at0
/-- xs.append(e) -/
theorem sx_app {n : Nat} {xs : List V} {as : List α} {a : α} {j : Nat} (hj : σ[j]? = some (some (.ref p))) (hO : O[n]? = some (p, .lst xs)) (hx : AllB R as xs F) (h : Ev te σ F O (val R a)) (hz : (as ++ [a]).length ≤ limL)
    (k : ∀ v F', Same F F' → AllB R (as ++ [a]) (xs ++ [v]) F' → Nx Z D σ F' (O.set n (p, .lst (xs ++ [v])))) : Sx Z (tDrop (tBM K "list" rAppend (tVar j) (tCons te tNil))) D σ F O := fun H at0 => by
  have hp := at0.ok.own (p, .lst xs) (List.mem_of_getElem? hO)
  refine ⟨.ref p, hj, Or.inl ⟨rfl, xs, Or.inl (Or.inl hp.2)⟩, h H at0.ok _ fun v F' H' g r => ?_⟩
  refine ⟨p, xs, v, rfl, rfl, g.h _ _ hp.2, sz_lt hx.sz, k v F' g.f ⟨All2.app (hx.all.mono g.f) (All2.one r), hz⟩ _ (At.write (at0.gr g) hO)⟩
/-- xs[i] = e -/
theorem sx_setL {n m : Nat} {xs : List V} {as : List α} {a : α} {j : Nat} {z : Int} (hj : σ[j]? = some (some (.ref p))) (hO : O[n]? = some (p, .lst xs)) (hx : AllB R as xs F) (h : Ev te σ F O (val R a)) (hi : Ev tb σ F O (val rInt z))
    (hm : ixN as.length z = some m) (k : ∀ v F', Same F F' → AllB R (as.set m a) (xs.set m v) F' → Nx Z D σ F' (O.set n (p, .lst (xs.set m v)))) : Sx Z (tAsg te (gSub (tVar j) tb rSetL)) D σ F O := fun H at0 => by
  have hp := at0.ok.own (p, .lst xs) (List.mem_of_getElem? hO)
  refine h H at0.ok _ fun v F1 H1 g1 r => ⟨.ref p, hj, (hi.mono g1.f) H1 (at0.ok.gr g1) _ fun w F2 H2 g2 e => ?_⟩
  have g := g1.trans g2
  have e' : w = .int z := e
  subst e'
  refine ⟨p, xs, z, m, rfl, rfl, g.h _ _ hp.2, by rw [← hx.all.len]; exact hm, k v F2 g.f ⟨All2.set (R.mono g2.f r) m (hx.all.mono g.f), by rw [List.length_set]; exact hx.len⟩ _ (At.write (at0.gr g) hO)⟩

/-! ### loops -/
inductive Fw (ρ S : Type) where
  | nx (s : S) | rt (r : ρ) | bk (s : S)
def loop {α ρ S : Type} (f : S → α → Option (Fw ρ S)) : List α → S → Option (Fw ρ S)
  | [], s => some (.nx s)
  | a :: as, s => match f s a with
    | some (.nx s') => loop f as s'
    | some (.rt r) => some (.rt r)
    | some (.bk s') => some (.nx s')
    | none => none
/-- what a turn may end with -/
structure Acc {ρ S : Type} (Z : Bs) (D : Ends) (J : S → L2.St → Hp → Own → Prop) (Ro : ρ → V → Hp → Own → Prop) (F : Hp) (o : Fw ρ S) : Prop where
  nx : ∀ s, o = .nx s → ∀ σ F' O', Same F F' → J s σ F' O' → Nx Z D σ F' O' ∧ Ct Z D σ F' O'
  bk : ∀ s, o = .bk s → ∀ σ F' O', Same F F' → J s σ F' O' → Bk Z D σ F' O'
  rt : ∀ r, o = .rt r → ∀ v F' O', Same F F' → Ro r v F' O' → Rt Z D v F' O'
/-- what a loop may end with -/
structure AccL {ρ S : Type} (Z : Bs) (D : Ends) (J : S → L2.St → Hp → Own → Prop) (Ro : ρ → V → Hp → Own → Prop) (F : Hp) (o : Fw ρ S) : Prop where
  nx : ∀ s, o = .nx s → ∀ σ F' O', Same F F' → J s σ F' O' → Nx Z D σ F' O'
  rt : ∀ r, o = .rt r → ∀ v F' O', Same F F' → Ro r v F' O' → Rt Z D v F' O'
section
variable {ρ S : Type} {f : S → α → Option (Fw ρ S)} {s0 : S} {out : Fw ρ S} {J : S → L2.St → Hp → Own → Prop} {Ro : ρ → V → Hp → Own → Prop} {g : TG} {body : TS}
/-- the word of a loop: what is left to do -/
def Lw (Z : Bs) (f : S → α → Option (Fw ρ S)) (J : S → L2.St → Hp → Own → Prop) (out : Fw ρ S) (as : List α) (F : Hp) (i : Nat) (σ : L2.St) (H : Hp) : Prop :=
  ∃ s F' O', Same F F' ∧ J s σ F' O' ∧ At Z F' O' H ∧ loop f (as.drop i) s = some out
theorem lw_turn {as : List α} {a : α} (acc : AccL Z D J Ro F out) {k : Nat} (ha : as[k]? = some a) {σ' : L2.St} {H' : Hp} (w : Lw Z f J out as F k σ' H') {P : Prop}
    (h : ∀ s F' O' o, Same F F' → J s σ' F' O' → At Z F' O' H' → f s a = some o → Acc Z { D with nx := Lw Z f J out as F (k + 1), ct := Lw Z f J out as F (k + 1), bk := D.nx } J Ro F' o → P) : P := by
  obtain ⟨s, F', O', e, j, at0, hl⟩ := w
  have hk := (List.getElem?_eq_some_iff.mp ha)
  have ed : as.drop k = a :: as.drop (k + 1) := by
    rw [List.drop_eq_getElem_cons hk.1, hk.2]
  rw [ed] at hl
  cases hf : f s a with
  | none =>
    simp only [loop, hf] at hl
    cases hl
  | some o =>
    refine h s F' O' o e j at0 hf ⟨fun s' eo σ2 F2 O2 e2 j2 => ?_, fun s' eo σ2 F2 O2 e2 j2 H2 at2 => ?_, fun r eo v F2 O2 e2 r2 H2 at2 => ?_⟩
    · subst eo
      have hl' : loop f (as.drop (k + 1)) s' = some out := by
        simp only [loop, hf] at hl
        exact hl
      exact ⟨fun H2 at2 => ⟨s', F2, O2, e.trans e2, j2, at2, hl'⟩, fun H2 at2 => ⟨s', F2, O2, e.trans e2, j2, at2, hl'⟩⟩
    · subst eo
      have hl' : Fw.nx s' = out := by
        simp only [loop, hf] at hl
        exact Option.some.inj hl
      exact acc.nx s' hl'.symm σ2 F2 O2 (e.trans e2) j2 H2 at2
    · subst eo
      have hl' : Fw.rt r = out := by
        simp only [loop, hf] at hl
        exact Option.some.inj hl
      exact acc.rt r hl'.symm v F2 O2 (e.trans e2) r2 H2 at2
theorem lw_end {as : List α} {n : Nat} (hn : n = as.length) (acc : AccL Z D J Ro F out) {σ' : L2.St} {H' : Hp} (w : Lw Z f J out as F n σ' H') : D.nx σ' H' := by
  obtain ⟨s, F', O', e, j, at0, hl⟩ := w
  rw [hn, List.drop_length] at hl
  exact acc.nx s (Option.some.inj hl).symm σ' F' O' e j H' at0
end
end
end Lm
/-! Lm: operators, built-ins, lists, calls. -/
namespace Lm
open PySem PySem.Spec L2

/-! ### operators by names -/
def xAdd : R2 := rI0 fun i j => .int (i + j)
def xSub : R2 := rI0 fun i j => .int (i - j)
/-- * of numbers of together less than four million bits -/
def MulC (i j : Int) : Prop := i.natAbs.log2 + j.natAbs.log2 < 4000000
theorem MulC.ok {i j : Int} (h : MulC i j) : IntMulOk i j := by
  have b : ∀ x : Int, Builtin.Int.intBits x ≤ x.natAbs.log2 + 1 := fun x => by
    unfold Builtin.Int.intBits
    split <;> omega
  have h1 := b i
  have h2 := b j
  have h3 : i.natAbs.log2 + j.natAbs.log2 < 4000000 := h
  have e : bitsLine = 134217728 := by decide
  unfold IntMulOk
  intro z
  rw [Bool.and_eq_true] at z
  have z2 := z.2
  unfold Builtin.Int.intTooBig at z2
  have z3 := of_decide_eq_true z2
  rw [e] at z3
  omega
def xMul : R2 := rI MulC fun i j => .int (i * j)
def xDiv : R2 := rI CDiv fun i j => .int (i / j)
def xMod : R2 := rI (fun _ j => 0 < j) fun i j => .int (i % j)
def xLt : R2 := rI0 fun i j => .bl (decide (i < j))
def xLe : R2 := rI0 fun i j => .bl (decide (i ≤ j))
def xGt : R2 := rI0 fun i j => .bl (decide (j < i))
def xGe : R2 := rI0 fun i j => .bl (decide (j ≤ i))
def xIsN : R2 := fun x y H Q => y = .non ∧ Q (.bl (decide (x = .non))) H
def xNotN : R2 := fun x y H Q => y = .non ∧ Q (.bl (!decide (x = .non))) H
section
variable {X : Cx}
theorem op_xAdd : OpR X (binaryOp .Add) xAdd := op_add
theorem op_xSub : OpR X (binaryOp .Sub) xSub := op_sub
theorem op_xMul : OpR X (binaryOp .Mult) xMul := opI fun _ _ _ _ _ _ _ hc q => PyProof.Rows.mul_int q hc.ok
theorem op_xDiv : OpR X (binaryOp .FloorDiv) xDiv := op_fdiv
theorem op_xMod : OpR X (binaryOp .Mod) xMod := op_mod
theorem op_xLt : OpR X (compareOp .Lt) xLt := op_lt
theorem op_xLe : OpR X (compareOp .LtE) xLe := op_le
theorem op_xGt : OpR X (compareOp .Gt) xGt := op_gt
theorem op_xGe : OpR X (compareOp .GtE) xGe := op_ge
theorem op_xIsN : OpR X (compareOp .Is) xIsN := op_isN
theorem op_xNotN : OpR X (compareOp .IsNot) xNotN := op_notN
end
section
variable {α β γ : Type} {R : Rep α} {R' : Rep β} {σ : L2.St} {F F1 : Hp} {O : Own} {ta tb tc te : TE} {tt tu : TT} {A B C : Ar} {K : PySem.W.Frag} {i j : Int}
theorem o_add : Op2 xAdd (val rInt i) (val rInt j) (val rInt (i + j)) := o_ii (c := fun i j => i + j) flI fun _ _ => rfl
theorem o_sub : Op2 xSub (val rInt i) (val rInt j) (val rInt (i - j)) := o_ii (c := fun i j => i - j) flI fun _ _ => rfl
theorem o_mul (h : MulC i j) : Op2 xMul (val rInt i) (val rInt j) (val rInt (i * j)) := o_iic (c := fun i j => i * j) flI (fun _ _ => rfl) h
theorem o_div (h : CDiv i j) : Op2 xDiv (val rInt i) (val rInt j) (val rInt (i / j)) := o_iic (c := fun i j => i / j) flI (fun _ _ => rfl) h
theorem o_mod (h : 0 < j) : Op2 xMod (val rInt i) (val rInt j) (val rInt (i % j)) := o_iic (c := fun i j => i % j) flI (fun _ _ => rfl) h
theorem o_lt : Op2 xLt (val rInt i) (val rInt j) (val rB (decide (i < j))) := o_ii (c := fun i j => decide (i < j)) flB fun _ _ => rfl
theorem o_le : Op2 xLe (val rInt i) (val rInt j) (val rB (decide (i ≤ j))) := o_ii (c := fun i j => decide (i ≤ j)) flB fun _ _ => rfl
theorem o_gt : Op2 xGt (val rInt i) (val rInt j) (val rB (decide (j < i))) := o_ii (c := fun i j => decide (j < i)) flB fun _ _ => rfl
theorem o_ge : Op2 xGe (val rInt i) (val rInt j) (val rB (decide (j ≤ i))) := o_ii (c := fun i j => decide (j ≤ i)) flB fun _ _ => rfl
theorem vint_dec (i j : Int) : decide (V.int i = V.int j) = decide (i = j) := by
  by_cases e : i = j
  · subst e; simp
  · rw [decide_eq_false e, decide_eq_false (fun h => e (V.int.inj h))]
theorem vbl_dec (i j : Bool) : decide (V.bl i = V.bl j) = decide (i = j) := by
  by_cases e : i = j
  · subst e; simp
  · rw [decide_eq_false e, decide_eq_false (fun h => e (V.bl.inj h))]
theorem mk_inj {l m : List Nat} (h : mk l = mk m) : l = m := by
  have := congrArg (fun s : Str => s.cps.toList) h
  simpa using this
theorem vstr_dec (l m : List Nat) : decide (V.str (mk l) = V.str (mk m)) = decide (l = m) := by
  by_cases e : l = m
  · subst e; simp
  · rw [decide_eq_false e, decide_eq_false (fun h => e (mk_inj (V.str.inj h)))]
theorem o_eqI : Op2 rEq (val rInt i) (val rInt j) (val rB (decide (i = j))) := op_sc flB fun v w _ _ Q _ a b q => by
  have a' : v = .int i := a
  have b' : w = .int j := b
  subst a' b'
  exact ⟨rfl, by rw [vint_dec]; exact q⟩
theorem o_neI : Op2 rNe (val rInt i) (val rInt j) (val rB (!decide (i = j))) := op_sc flB fun v w _ _ Q _ a b q => by
  have a' : v = .int i := a
  have b' : w = .int j := b
  subst a' b'
  exact ⟨rfl, by rw [vint_dec]; exact q⟩
theorem o_eqB {i j : Bool} : Op2 rEq (val rB i) (val rB j) (val rB (decide (i = j))) := op_sc flB fun v w _ _ Q _ a b q => by
  have a' : v = .bl i := a
  have b' : w = .bl j := b
  subst a' b'
  exact ⟨rfl, by rw [vbl_dec]; exact q⟩
theorem o_eqS {l m : List Nat} : Op2 rEq (val rS l) (val rS m) (val rB (decide (l = m))) := op_sc flB fun v w _ _ Q _ a b q => by
  rw [a.1, b.1]
  exact ⟨rfl, by rw [vstr_dec]; exact q⟩
theorem o_neS {l m : List Nat} : Op2 rNe (val rS l) (val rS m) (val rB (!decide (l = m))) := op_sc flB fun v w _ _ Q _ a b q => by
  rw [a.1, b.1]
  exact ⟨rfl, by rw [vstr_dec]; exact q⟩
theorem one_dec (c d : Nat) : decide (([c] : List Nat) = [d]) = decide (c = d) := by
  by_cases e : c = d
  · subst e; simp
  · rw [decide_eq_false e, decide_eq_false (fun h => e (List.cons.inj h).1)]
theorem o_eqC {c d : Nat} : Op2 rEq (val rC c) (val rC d) (val rB (decide (c = d))) := op_sc flB fun v w _ _ Q _ a b q => by
  rw [a.1, b.1]
  exact ⟨rfl, by rw [vstr_dec, one_dec]; exact q⟩
theorem o_neC {c d : Nat} : Op2 rNe (val rC c) (val rC d) (val rB (!decide (c = d))) := op_sc flB fun v w _ _ Q _ a b q => by
  rw [a.1, b.1]
  exact ⟨rfl, by rw [vstr_dec, one_dec]; exact q⟩
theorem o_isN {o : Option α} : Op2 xIsN (val (rO R) o) (val rN ()) (val rB o.isNone) := op_sc flB fun v w _ _ Q _ a b q => by
  refine ⟨b, ?_⟩
  cases o with
  | none =>
    have e : v = .non := a
    rw [decide_eq_true e]
    exact q
  | some x => rw [decide_eq_false a.2]; exact q
theorem o_notN {o : Option α} : Op2 xNotN (val (rO R) o) (val rN ()) (val rB o.isSome) := op_sc flB fun v w _ _ Q _ a b q => by
  refine ⟨b, ?_⟩
  cases o with
  | none =>
    have e : v = .non := a
    rw [decide_eq_true e]
    exact q
  | some x => rw [decide_eq_false a.2]; exact q

/-! ### tests -/
theorem et_b {b : Bool} (h : Ev te σ F O (val rB b)) : EvT (tTest te) σ F O b := fun H k Q q => h H k _ fun v F' H' g e => ⟨b, e, q F' H' g⟩
theorem et_B {b : Bool} (h : Ev te σ F O (val rB b)) : EvT (tB te) σ F O b := fun H k Q q => h H k _ fun v F' H' g e => ⟨b, e, q F' H' g⟩
theorem et_not {b : Bool} (h : EvT tt σ F O b) : EvT (tNot tt) σ F O (!b) := fun H k Q q => h H k _ fun F' H' g => q F' H' g
theorem Ok.at {F H F' H' : Hp} {O : Own} (k : Ok F O H) (g : Gr F H F' H') : Ok F' O H' := k.gr g
theorem et_and {a b : Bool} (h1 : EvT tt σ F O a) (h2 : a = true → EvT tu σ F O b) (h3 : a = false → b = false) : EvT (tAnd tt tu) σ F O b := fun H k Q q => h1 H k _ fun F' H' g => by
  cases a with
  | true =>
    show tu σ H' Q
    exact (h2 rfl).mono g.f H' (k.gr g) Q fun F2 H2 g2 => q F2 H2 (g.trans g2)
  | false =>
    show Q false H'
    rw [← h3 rfl]
    exact q F' H' g
theorem et_or {a b : Bool} (h1 : EvT tt σ F O a) (h2 : a = false → EvT tu σ F O b) (h3 : a = true → b = true) : EvT (tOr tt tu) σ F O b := fun H k Q q => h1 H k _ fun F' H' g => by
  cases a with
  | false =>
    show tu σ H' Q
    exact (h2 rfl).mono g.f H' (k.gr g) Q fun F2 H2 g2 => q F2 H2 (g.trans g2)
  | true =>
    show Q true H'
    rw [← h3 rfl]
    exact q F' H' g
theorem ev_and {a b : Bool} (h1 : Ev ta σ F O (val rB a)) (h2 : a = true → Ev tb σ F O (val rB b)) (h3 : a = false → b = false) : Ev (tAndV ta tb) σ F O (val rB b) := fun H k Q q => h1 H k _ fun v F' H' g e => ⟨a, e, by
  cases a with
  | true =>
    show tb σ H' Q
    exact (h2 rfl).mono g.f H' (k.gr g) Q fun v F2 H2 g2 => q v F2 H2 (g.trans g2)
  | false =>
    show Q (.bl false) H'
    exact q _ F' H' g (by rw [h3 rfl]; rfl)⟩
theorem ev_or {a b : Bool} (h1 : Ev ta σ F O (val rB a)) (h2 : a = false → Ev tb σ F O (val rB b)) (h3 : a = true → b = true) : Ev (tOrV ta tb) σ F O (val rB b) := fun H k Q q => h1 H k _ fun v F' H' g e => ⟨a, e, by
  cases a with
  | false =>
    show tb σ H' Q
    exact (h2 rfl).mono g.f H' (k.gr g) Q fun v F2 H2 g2 => q v F2 H2 (g.trans g2)
  | true =>
    show Q (.bl true) H'
    exact q _ F' H' g (by rw [h3 rfl]; rfl)⟩
theorem ev_not {b : Bool} (h : Ev te σ F O (val rB b)) : Ev (tNotV te) σ F O (val rB (!b)) := fun H k Q q => h H k _ fun v F' H' g e => ⟨b, e, q _ F' H' g rfl⟩
theorem ev_if {b : Bool} (h : EvT tt σ F O b) (h1 : b = true → Ev ta σ F O A) (h2 : b = false → Ev tb σ F O A) : Ev (tIf tt ta tb) σ F O A := fun H k Q q => h H k _ fun F' H' g => by
  cases b with
  | true =>
    show ta σ H' Q
    exact (h1 rfl).mono g.f H' (k.gr g) Q fun v F2 H2 g2 => q v F2 H2 (g.trans g2)
  | false =>
    show tb σ H' Q
    exact (h2 rfl).mono g.f H' (k.gr g) Q fun v F2 H2 g2 => q v F2 H2 (g.trans g2)
/-- a < b < c -/
theorem ev_chain {r r' : R2} {b1 b2 : Bool} (ha : Ev ta σ F O A) (hb : Ev tb σ F O B) (ho : Op2 r A B (val rB b1)) (hc : b1 = true → Ev tc σ F O C) (ho2 : b1 = true → Op2 r' B C (val rB b2)) (h3 : b1 = false → b2 = false) : Ev (tChain r r' ta tb tc) σ F O (val rB b2) := fun H k Q q =>
  two ha hb k fun v w F1 H1 g e a b => ho v w F1 H1 _ e a b fun u F2 H2 g2 c => ⟨b1, c, by
    cases b1 with
    | true =>
      show tc σ H2 _
      exact (hc rfl).mono (g.trans g2).f H2 (k.gr (g.trans g2)) _ fun z F3 H3 g3 cz => ho2 rfl w z F3 H3 Q g3.fh (B.mono (g2.trans g3).f (g2.trans g3).h b) cz fun x F4 H4 g4 cx => q x F4 H4 ((g.trans g2).trans (g3.trans g4)) cx
    | false =>
      show Q (.bl false) H2
      exact q _ F2 H2 (g.trans g2) (by rw [h3 rfl]; rfl)⟩

/-! ### arguments, built-ins, calls -/
theorem ea_nil : EvA tNil σ F O [] := fun H k Q q => q [] F H (Gr.refl k.ex) trivial
theorem ea_cons {tr : TA} {as : List Ar} (h : Ev te σ F O A) (hr : EvA tr σ F O as) : EvA (tCons te tr) σ F O (A :: as) := fun H k Q q =>
  h H k _ fun v F1 H1 g1 a => hr.mono g1.f H1 (k.gr g1) _ fun vs F2 H2 g2 b => q (v :: vs) F2 H2 (g1.trans g2) ⟨A.mono g2.f g2.h a, b⟩
def Cb (r : List V → Hp → VK → Prop) (as : List Ar) (C : Ar) : Prop := ∀ vs F H (Q : VK), Same F H → AllA as vs F H → (∀ u F' H', Gr F H F' H' → C.p u F' H' → Q u H') → r vs H Q
def CbN {α : Type} (r : List V → Hp → VK → Prop) (as : List Ar) (R : Rep α) (bs : List α) : Prop := ∀ vs F H (Q : VK), Same F H → AllA as vs F H →
  (∀ p xs F' H', Gr F H F' H' → H p = none → F' p = none → H' p = some (.lst xs) → AllB R bs xs F' → Q (.ref p) H') → r vs H Q
theorem ev_cb {r : List V → Hp → VK → Prop} {ta : TA} {as : List Ar} (h : EvA ta σ F O as) (hr : Cb r as C) : Ev (tCB r ta) σ F O C := fun H k Q q =>
  h H k _ fun vs F1 H1 g1 a => hr vs F1 H1 Q g1.fh a fun u F2 H2 g2 c => q u F2 H2 (g1.trans g2) c
theorem ev_cbN {r : List V → Hp → VK → Prop} {ta : TA} {as : List Ar} {bs : List α} (h : EvA ta σ F O as) (hr : CbN r as R bs) : EvN (tCB r ta) σ F O R bs := fun H k Q q =>
  h H k _ fun vs F1 H1 g1 a => hr vs F1 H1 Q g1.fh a fun p xs F2 H2 g2 n f x c => q p xs F2 H2 (g1.trans g2) (gr_none g1 n) f x c
theorem cb_sc {r : List V → Hp → VK → Prop} {as : List Ar} {c : γ} {Rc : Rep γ} {f : γ → V} (hf : Fl Rc f) (h : ∀ vs F H (Q : VK), Same F H → AllA as vs F H → Q (f c) H → r vs H Q) : Cb r as (val Rc c) := fun vs F H Q e a q =>
  h vs F H Q e a (q _ F H (Gr.refl e) (hf.of c F))
/-- what one, two arguments are -/
theorem alla1 {F H : Hp} {vs : List V} {A : Ar} (h : AllA [A] vs F H) : ∃ v, vs = [v] ∧ A.p v F H := by
  match vs, h with
  | [v], h => exact ⟨v, rfl, h.1⟩
theorem alla2 {F H : Hp} {vs : List V} {A B : Ar} (h : AllA [A, B] vs F H) : ∃ v w, vs = [v, w] ∧ A.p v F H ∧ B.p w F H := by
  match vs, h with
  | [v, w], h => exact ⟨v, w, rfl, h.1, h.2.1⟩
theorem alla3 {F H : Hp} {vs : List V} {A B C : Ar} (h : AllA [A, B, C] vs F H) : ∃ v w x, vs = [v, w, x] ∧ A.p v F H ∧ B.p w F H ∧ C.p x F H := by
  match vs, h with
  | [v, w, x], h => exact ⟨v, w, x, rfl, h.1, h.2.1, h.2.2.1⟩
theorem sq_of {H : Hp} {p : Addr} {xs : List V} (h : H p = some (.lst xs)) : SqL K H p xs := Or.inl (Or.inl h)
theorem st_of {H : Hp} {p : Addr} {xs : List V} (h : H p = some (.tup xs)) : SqT K H p xs := Or.inl (Or.inl h)

def cLen (K : PySem.W.Frag) : List V → Hp → VK → Prop := fun xs H Q => ∃ x n, xs = [x] ∧ LenV K x H n ∧ Q (.int n) H
theorem call_cLen {X : Cx} : CallR X (.builtin "len") (cLen X.K) := call_len
theorem mk_len (l : List Nat) : (mk l).length = l.length := by
  show l.toArray.size = l.length
  simp
theorem b_lenS {l : List Nat} : Cb (cLen K) [val rS l] (val rInt (l.length : Int)) := cb_sc flI fun vs F H Q e a q => by
  obtain ⟨v, rfl, a2⟩ := alla1 a
  have a3 : v = .str (mk l) ∧ OkS l := a2
  refine ⟨v, l.length, rfl, ?_, q⟩
  rw [a3.1]
  exact ⟨by rw [mk_len]; exact sz_line (sz_lim a3.2.1), (mk_len l).symm⟩
theorem b_lenL {as : List α} : Cb (cLen K) [spn R as] (val rInt (as.length : Int)) := cb_sc flI fun vs F H Q e a q => by
  obtain ⟨v, rfl, p, xs, rfl, h, hx⟩ := alla1 a
  exact ⟨_, as.length, rfl, Or.inl ⟨xs, sq_of h, hx.all.len⟩, q⟩
theorem b_lenT {as : List α} : Cb (cLen K) [val (rTL R) as] (val rInt (as.length : Int)) := cb_sc flI fun vs F H Q e a q => by
  obtain ⟨v, rfl, p, xs, rfl, h, hx⟩ := alla1 a
  exact ⟨_, as.length, rfl, Or.inr ⟨xs, st_of (e _ _ h), hx.all.len⟩, q⟩
theorem b_lenK {ns : List Int} : Cb (cLen K) [val (rScr K) ns] (val rInt (ns.length : Int)) := cb_sc flI fun vs F H Q e a q => by
  obtain ⟨v, rfl, p, rfl, h, hz⟩ := alla1 a
  exact ⟨_, ns.length, rfl, Or.inl ⟨_, e.seq h, by rw [List.length_map]⟩, q⟩
/-- an int list's sum, greatest -/
theorem b_sum {ns : List Int} : Cb (rSum K) [spn rInt ns] (val rInt ns.sum) := cb_sc flI fun vs F H Q e a q => by
  obtain ⟨v, rfl, p, xs, rfl, h, hx⟩ := alla1 a
  refine ⟨p, ns, rfl, ?_, q⟩
  rw [← hx.all.map flI]
  exact sq_of h
theorem b_max {ns : List Int} {m : Int} (hm : m ∈ ns) (hle : ∀ y ∈ ns, y ≤ m) : Cb (rMax K) [spn rInt ns] (val rInt m) := cb_sc flI fun vs F H Q e a q => by
  obtain ⟨v, rfl, p, xs, rfl, h, hx⟩ := alla1 a
  refine ⟨p, ns, rfl, ?_, List.length_pos_of_mem hm, fun m' h1 h2 => ?_⟩
  · rw [← hx.all.map flI]
    exact sq_of h
  · rw [Int.le_antisymm (hle _ h1) (h2 _ hm)]
    exact q
theorem b_min {ns : List Int} {m : Int} (hm : m ∈ ns) (hle : ∀ y ∈ ns, m ≤ y) : Cb (rMin K) [spn rInt ns] (val rInt m) := cb_sc flI fun vs F H Q e a q => by
  obtain ⟨v, rfl, p, xs, rfl, h, hx⟩ := alla1 a
  refine ⟨p, ns, rfl, ?_, List.length_pos_of_mem hm, fun m' h1 h2 => ?_⟩
  · rw [← hx.all.map flI]
    exact sq_of h
  · rw [Int.le_antisymm (h2 _ hm) (hle _ h1)]
    exact q
theorem b_all {bs : List Bool} : Cb (rAll K) [spn rB bs] (val rB (bs.all id)) := cb_sc flB fun vs F H Q e a q => by
  obtain ⟨v, rfl, p, xs, rfl, h, hx⟩ := alla1 a
  refine ⟨p, bs, rfl, ?_, q⟩
  rw [← hx.all.map flB]
  exact sq_of h
theorem b_any {bs : List Bool} : Cb (rAny K) [spn rB bs] (val rB (bs.any id)) := cb_sc flB fun vs F H Q e a q => by
  obtain ⟨v, rfl, p, xs, rfl, h, hx⟩ := alla1 a
  refine ⟨p, bs, rfl, ?_, q⟩
  rw [← hx.all.map flB]
  exact sq_of h
def cMax2 : List V → Hp → VK → Prop := fun xs H Q => ∃ i j, xs = [.int i, .int j] ∧ Q (.int (if j > i then j else i)) H
def cMin2 : List V → Hp → VK → Prop := fun xs H Q => ∃ i j, xs = [.int i, .int j] ∧ Q (.int (if j < i then j else i)) H
theorem call_cMax2 {X : Cx} (hc : X.calm = true) : CallR X (.builtin "max") cMax2 := call_max2 hc
theorem call_cMin2 {X : Cx} (hc : X.calm = true) : CallR X (.builtin "min") cMin2 := call_min2 hc
theorem b_max2 : Cb cMax2 [val rInt i, val rInt j] (val rInt (max i j)) := cb_sc flI fun vs F H Q e a q => by
  obtain ⟨v, w, rfl, a, b⟩ := alla2 a
  have a' : v = .int i := a
  have b' : w = .int j := b
  subst a' b'
  refine ⟨i, j, rfl, ?_⟩
  have e : (if j > i then j else i) = max i j := by
    by_cases h : j > i
    · rw [if_pos h]; omega
    · rw [if_neg h]; omega
  rw [e]
  exact q
theorem b_min2 : Cb cMin2 [val rInt i, val rInt j] (val rInt (min i j)) := cb_sc flI fun vs F H Q e a q => by
  obtain ⟨v, w, rfl, a, b⟩ := alla2 a
  have a' : v = .int i := a
  have b' : w = .int j := b
  subst a' b'
  refine ⟨i, j, rfl, ?_⟩
  have e : (if j < i then j else i) = min i j := by
    by_cases h : j < i
    · rw [if_pos h]; omega
    · rw [if_neg h]; omega
  rw [e]
  exact q
def cInt : List V → Hp → VK → Prop := fun xs H Q => (∃ i, xs = [.int i] ∧ Q (.int i) H) ∨ ∃ k, xs = [.bl k] ∧ Q (.int (if k then 1 else 0)) H
theorem call_cInt {X : Cx} : CallR X (.type "int") cInt := call_int1
theorem b_intB {b : Bool} : Cb cInt [val rB b] (val rInt (if b then 1 else 0)) := cb_sc flI fun vs F H Q e a q => by
  obtain ⟨v, rfl, a2⟩ := alla1 a
  have a3 : v = .bl b := a2
  subst a3
  exact Or.inr ⟨b, rfl, q⟩
/-- a list that was there is made new -/
def cList (K : PySem.W.Frag) : List V → Hp → VK → Prop := fun xs H Q => ∃ p ys, xs = [.ref p] ∧ (SqL K H p ys ∨ SqT K H p ys) ∧ ∀ l, H l = none → Q (.ref l) (upd H l (.lst ys))
theorem call_cList {X : Cx} : CallR X (.type "list") (cList X.K) := call_list_of
theorem new_post {F H : Hp} {Q : VK} {xs : List V} {as : List α} (e : Same F H) (hx : AllB R as xs F) (q : ∀ p xs F' H', Gr F H F' H' → H p = none → F' p = none → H' p = some (.lst xs) → AllB R as xs F' → Q (.ref p) H') :
    ∀ l, H l = none → Q (.ref l) (upd H l (.lst xs)) := fun l hl => q l xs F _ (Gr.gar e hl) hl (free_of e hl) upd_same hx
theorem b_list {as : List α} : CbN (cList K) [spn R as] R as := fun vs F H Q e a q => by
  obtain ⟨v, rfl, p, xs, rfl, h, hx⟩ := alla1 a
  exact ⟨p, xs, rfl, Or.inl (sq_of h), new_post e hx q⟩
theorem b_listT {as : List α} : CbN (cList K) [val (rTL R) as] R as := fun vs F H Q e a q => by
  obtain ⟨v, rfl, p, xs, rfl, h, hx⟩ := alla1 a
  exact ⟨p, xs, rfl, Or.inr (st_of (e _ _ h)), new_post e hx q⟩

/-! ### displays, slices, subscripts -/
def AllV (R : Rep α) : List α → List Ar := fun as => as.map (val R)
theorem alla_all {F H : Hp} : ∀ {as : List α} {vs : List V}, AllA (AllV R as) vs F H → All2 R as vs F
  | [], [], _ => trivial
  | _ :: _, _ :: _, h => ⟨h.1, alla_all h.2⟩
  | [], _ :: _, h => h.elim
  | _ :: _, [], h => h.elim
theorem ev_lst {ta : TA} {as : List α} (h : EvA ta σ F O (AllV R as)) (hl : as.length ≤ limL) : EvN (tLst ta) σ F O R as := fun H k Q q =>
  h H k _ fun vs F1 H1 g1 a => by
    have b : AllB R as vs F1 := ⟨alla_all a, hl⟩
    exact ⟨sz_line b.sz, fun p hp => q p vs F1 _ (g1.trans (Gr.gar g1.fh hp)) (gr_none g1 hp) (free_of g1.fh hp) upd_same b⟩
theorem ev_tupL {ta : TA} {as : List α} (h : EvA ta σ F O (AllV R as)) (hl : as.length ≤ limL) : Ev (tTup ta) σ F O (val (rTL R) as) := fun H k Q q =>
  h H k _ fun vs F1 H1 g1 a => by
    have b : AllB R as vs F1 := ⟨alla_all a, hl⟩
    exact ⟨sz_line b.sz, fun p hp => q (.ref p) (upd F1 p (.tup vs)) _ (g1.trans (Gr.frz g1.fh hp)) ⟨p, vs, rfl, upd_same, b.mono (same_new (free_of g1.fh hp))⟩⟩
theorem ev_tup2 {ta : TA} {a : α} {b : β} (h : EvA ta σ F O [val R a, val R' b]) : Ev (tTup ta) σ F O (val (rT2 R R') (a, b)) := fun H k Q q =>
  h H k _ fun vs F1 H1 g1 a => by
    obtain ⟨v, w, rfl, h1, h2⟩ := alla2 a
    refine ⟨by show 2 ≤ sizeLine; decide, fun p hp => q (.ref p) (upd F1 p (.tup [v, w])) _ (g1.trans (Gr.frz g1.fh hp)) ⟨p, v, w, rfl, upd_same, R.mono (same_new (free_of g1.fh hp)) h1, R'.mono (same_new (free_of g1.fh hp)) h2⟩⟩
theorem ev_tup3 {δ : Type} {R'' : Rep δ} {ta : TA} {a : α} {b : β} {c : δ} (h : EvA ta σ F O [val R a, val R' b, val R'' c]) : Ev (tTup ta) σ F O (val (rT3 R R' R'') (a, b, c)) := fun H k Q q =>
  h H k _ fun vs F1 H1 g1 a => by
    obtain ⟨v, w, x, rfl, h1, h2, h3⟩ := alla3 a
    refine ⟨by show 3 ≤ sizeLine; decide, fun p hp => q (.ref p) (upd F1 p (.tup [v, w, x])) _ (g1.trans (Gr.frz g1.fh hp)) ⟨p, v, w, x, rfl, upd_same, R.mono (same_new (free_of g1.fh hp)) h1, R'.mono (same_new (free_of g1.fh hp)) h2, R''.mono (same_new (free_of g1.fh hp)) h3⟩⟩
/-- a slice -/
def cutL {α : Type} (as : List α) (lo hi : Option Int) : List α := (as.drop (HT.sIx as.length 0 lo)).take (HT.sIx as.length as.length hi - HT.sIx as.length 0 lo)
theorem cutL_len {α : Type} (as : List α) (lo hi : Option Int) : (cutL as lo hi).length ≤ as.length := by
  unfold cutL
  rw [List.length_take, List.length_drop]
  omega
theorem cut_all {F : Hp} {as : List α} {xs : List V} (h : AllB R as xs F) (lo hi : Option Int) : AllB R (cutL as lo hi) (cutV xs lo hi) F := by
  refine ⟨?_, Nat.le_trans (cutL_len _ _ _) h.len⟩
  unfold cutL cutV
  rw [h.all.len]
  exact (h.all.drop _).take _
def EvO (to : TO) (σ : L2.St) (F : Hp) (O : Own) (o : Option Int) : Prop := ∀ H, Ok F O H → ∀ Q : Option Int → Hp → Prop, (∀ F' H', Gr F H F' H' → Q o H') → to σ H Q
theorem EvO.mono {to : TO} {o : Option Int} (h : EvO to σ F O o) (e : Same F F1) : EvO to σ F1 O o := fun H k Q q =>
  h H (k.less e) Q fun F' H' g => q (un F1 F') H' (gr_un e k.ex g)
theorem ep_none : EvO tNoPart σ F O none := fun H k Q q => q F H (Gr.refl k.ex)
theorem ep_some (h : Ev te σ F O (val rInt i)) : EvO (tPart te) σ F O (some i) := fun H k Q q => h H k _ fun v F' H' g e => ⟨i, e, q F' H' g⟩
theorem three {to th : TO} {lo hi : Option Int} (h : Ev te σ F O A) (h1 : EvO to σ F O lo) (h2 : EvO th σ F O hi) {H : Hp} (k : Ok F O H) {Q : V → Option Int → Option Int → Hp → Prop}
    (q : ∀ v F' H', Gr F H F' H' → Same F' H' → A.p v F' H' → Q v lo hi H') : te σ H fun x H1 => to σ H1 fun l H2 => th σ H2 fun u H3 => Q x l u H3 :=
  h H k _ fun v F1 H1 g1 a => (h1.mono g1.f) H1 (k.gr g1) _ fun F2 H2 g2 => (h2.mono (g1.trans g2).f) H2 (k.gr (g1.trans g2)) _ fun F3 H3 g3 => q v F3 H3 ((g1.trans g2).trans g3) g3.fh (A.mono (g2.trans g3).f (g2.trans g3).h a)
theorem ev_slL {to th : TO} {lo hi : Option Int} {as : List α} (h : Ev te σ F O (spn R as)) (h1 : EvO to σ F O lo) (h2 : EvO th σ F O hi) : EvN (tSl (rSlL K) te to th) σ F O R (cutL as lo hi) := fun H k Q q =>
  three h h1 h2 k fun v F1 H1 g e ⟨p, xs, ev, hp, hx⟩ => ⟨p, xs, ev, sq_of hp, fun l hl => q l _ F1 _ (g.trans (Gr.gar e hl)) (gr_none g hl) (free_of e hl) upd_same (cut_all hx lo hi)⟩
theorem ev_slK {to th : TO} {lo hi : Option Int} {ns : List Int} (h : Ev te σ F O (val (rScr K) ns)) (h1 : EvO to σ F O lo) (h2 : EvO th σ F O hi) : EvN (tSl (rSlL K) te to th) σ F O rInt (cutL ns lo hi) := fun H k Q q =>
  three h h1 h2 k fun v F1 H1 g e ⟨p, ev, hp, hz⟩ => ⟨p, _, ev, e.seq hp, fun l hl => q l _ F1 _ (g.trans (Gr.gar e hl)) (gr_none g hl) (free_of e hl) upd_same (cut_all ⟨All2.of_map flI ns, hz⟩ lo hi)⟩
theorem ev_slS {to th : TO} {lo hi : Option Int} {l : List Nat} (h : Ev te σ F O (val rS l)) (h1 : EvO to σ F O lo) (h2 : EvO th σ F O hi) : Ev (tSl rSlS te to th) σ F O (val rS (cutL l lo hi)) := fun H k Q q =>
  three h h1 h2 k fun v F1 H1 g e a => by
    refine ⟨mk l, a.1, by rw [mk_len]; exact sz_line (sz_lim a.2.1), q _ F1 H1 g ⟨?_, Nat.le_trans (cutL_len _ _ _) a.2.1, fun c m => ?_⟩⟩
    · unfold cutS cutL
      rw [mk_len]
    · exact a.2.2 c (List.mem_of_mem_drop (List.mem_of_mem_take m))
/-- xs[::-1] -/
theorem ev_rev {as : List α} (h : Ev te σ F O (spn R as)) : EvN (tRevL K te) σ F O R as.reverse := fun H k Q q =>
  h H k _ fun v F1 H1 g ⟨p, xs, ev, hp, hx⟩ => ⟨p, xs, ev, sq_of hp, fun l hl => q l _ F1 _ (g.trans (Gr.gar g.fh hl)) (gr_none g hl) (free_of g.fh hl) upd_same ⟨hx.all.rev, by rw [List.length_reverse]; exact hx.len⟩⟩
theorem atI_get {F : Hp} {as : List α} {xs : List V} {a : α} (h : All2 R as xs F) (e : atI as i = some a) : ∃ v, atI xs i = some v ∧ R.rp a v F := by
  unfold atI at e ⊢
  rw [← h.len]
  cases q : ixN as.length i with
  | none => rw [q] at e; cases e
  | some j =>
    rw [q] at e
    exact h.get e
theorem o_ixL {as : List α} {a : α} (e : atI as i = some a) : Op2 (rIxL K) (spn R as) (val rInt i) (val R a) := fun v w F H Q k ⟨p, xs, ev, hp, hx⟩ b q => by
  obtain ⟨y, e1, r⟩ := atI_get hx.all e
  exact ⟨p, xs, i, y, ev, b, sq_of hp, e1, q y F H (Gr.refl k) r⟩
theorem o_ixTL {as : List α} {a : α} (e : atI as i = some a) : Op2 (rIxT K) (val (rTL R) as) (val rInt i) (val R a) := fun v w F H Q k ⟨p, xs, ev, hp, hx⟩ b q => by
  obtain ⟨y, e1, r⟩ := atI_get hx.all e
  exact ⟨p, xs, i, y, ev, b, st_of (k _ _ hp), e1, q y F H (Gr.refl k) r⟩
theorem o_ixK {ns : List Int} {a : Int} (e : atI ns i = some a) : Op2 (rIxL K) (val (rScr K) ns) (val rInt i) (val rInt a) := fun v w F H Q k ⟨p, ev, hp, hz⟩ b q => by
  obtain ⟨y, e1, r⟩ := atI_get (All2.of_map flI (F := F) ns) e
  exact ⟨p, _, i, y, ev, b, k.seq hp, e1, q y F H (Gr.refl k) r⟩
theorem o_ixS {l : List Nat} {c : Nat} (e : atI l i = some c) : Op2 rIxS (val rS l) (val rInt i) (val rC c) := fun v w F H Q k a b q => by
  have hc : c < 128 := a.2.2 c (by
    unfold atI at e
    cases z : ixN l.length i with
    | none => rw [z] at e; cases e
    | some j =>
      rw [z] at e
      exact List.mem_of_getElem? e)
  exact ⟨mk l, i, c, a.1, b, by rw [mk_len]; exact sz_line (sz_lim a.2.1), e, q _ F H (Gr.refl k) ⟨rfl, hc⟩⟩
theorem o_ixA {a : α} {b : β} : Op2 (rIxT K) (val (rT2 R R') (a, b)) (val rInt 0) (val R a) := fun v w F H Q k ⟨p, x, y, ev, hp, h1, h2⟩ e q =>
  ⟨p, _, 0, x, ev, e, st_of (k _ _ hp), rfl, q x F H (Gr.refl k) h1⟩
theorem o_ixB {a : α} {b : β} : Op2 (rIxT K) (val (rT2 R R') (a, b)) (val rInt 1) (val R' b) := fun v w F H Q k ⟨p, x, y, ev, hp, h1, h2⟩ e q =>
  ⟨p, _, 1, y, ev, e, st_of (k _ _ hp), rfl, q y F H (Gr.refl k) h2⟩
/-- list + list, list * n -/
theorem o_catL {as bs : List α} (hz : (as ++ bs).length ≤ limL) : Op2N rCat (spn R as) (spn R bs) R (as ++ bs) := fun v w F H Q e ⟨p, xs, ev, hp, hx⟩ ⟨r, ys, ew, hr, hy⟩ q => by
  have b : AllB R (as ++ bs) (xs ++ ys) F := ⟨hx.all.app hy.all, hz⟩
  exact ⟨p, r, xs, ys, ev, ew, hp, hr, by have := b.sz; rw [List.length_append] at this; exact sz_line this, new_post e b q⟩
theorem all_rep {F : Hp} {as : List α} {xs : List V} (h : All2 R as xs F) : ∀ n : Nat, All2 R (List.replicate n as).flatten (List.replicate n xs).flatten F
  | 0 => trivial
  | n + 1 => by
    rw [List.replicate_succ, List.replicate_succ, List.flatten_cons, List.flatten_cons]
    exact h.app (all_rep h n)
theorem sum_rep (k : Nat) : ∀ n : Nat, (List.replicate n k).sum = n * k
  | 0 => by simp
  | n + 1 => by rw [List.replicate_succ, List.sum_cons, sum_rep k n, Nat.succ_mul, Nat.add_comm]
theorem o_repL {as : List α} {n : Int} (h0 : -(2 ^ 63) ≤ n) (h1 : n < 2 ^ 63) (hz : ((List.replicate n.toNat as).flatten).length ≤ limL) : Op2N rRep (spn R as) (val rInt n) R (List.replicate n.toNat as).flatten := fun v w F H Q e ⟨p, xs, ev, hp, hx⟩ ew q => by
  have b : AllB R (List.replicate n.toNat as).flatten (List.replicate n.toNat xs).flatten F := ⟨all_rep hx.all _, hz⟩
  refine ⟨p, n, xs, ev, ew, hp, h0, h1, ?_, new_post e b q⟩
  have := b.sz
  rw [List.length_flatten, List.map_replicate, sum_rep] at this
  exact sz_line (by rw [Nat.mul_comm]; exact this)

/-! ### calls of the text's defs -/
/-- what a def is worth: by what its arguments stand for -/
def spG (P : List Ar → Ar → Prop) : Sp := fun vs H Q _ => ∃ F As C, P As C ∧ Same F H ∧ AllA As vs F H ∧ ∀ v F' H', Gr F H F' H' → C.p v F' H' → Q v H'
def spN {α : Type} (R : Rep α) (P : List Ar → List α → Prop) : Sp := fun vs H Q _ => ∃ F As bs, P As bs ∧ Same F H ∧ AllA As vs F H ∧
  ∀ p xs F' H', Gr F H F' H' → H p = none → F' p = none → H' p = some (.lst xs) → AllB R bs xs F' → Q (.ref p) H'
theorem ev_call {P : List Ar → Ar → Prop} {E : XK} {ta : TA} {as : List Ar} (h : EvA ta σ F O as) (hp : P as C) : Ev (tCall (spG P) [] E ta) σ F O C := fun H k Q q =>
  h H k _ fun vs F1 H1 g1 a => ⟨F1, as, C, hp, g1.fh, by rw [List.append_nil]; exact a, fun v F2 H2 g2 c => q v F2 H2 (g1.trans g2) c⟩
theorem ev_callN {P : List Ar → List α → Prop} {E : XK} {ta : TA} {as : List Ar} {bs : List α} (h : EvA ta σ F O as) (hp : P as bs) : EvN (tCall (spN R P) [] E ta) σ F O R bs := fun H k Q q =>
  h H k _ fun vs F1 H1 g1 a => ⟨F1, as, bs, hp, g1.fh, by rw [List.append_nil]; exact a, fun p xs F2 H2 g2 n f x c => q p xs F2 H2 (g1.trans g2) (gr_none g1 n) f x c⟩
/-- a list's arguments are as many as the values -/
theorem alla_len {F H : Hp} : ∀ {as : List Ar} {vs : List V}, AllA as vs F H → vs.length = as.length
  | [], [], _ => rfl
  | _ :: _, _ :: _, h => by rw [List.length_cons, List.length_cons, alla_len h.2]
  | [], _ :: _, h => h.elim
  | _ :: _, [], h => h.elim
/-- with all owned things frozen for a while: where the answer is a scalar -/
def frzA (F : Hp) : Own → Hp
  | [] => F
  | q :: O => upd (frzA F O) q.1 q.2
theorem frz_same : ∀ {O : Own} {H : Hp}, Ok F O H → Same (frzA F O) H
  | [], _, k => k.ex
  | q :: O, H, k => fun a u e => by
    have ih := frz_same (O := O) ⟨k.ex, fun r m => k.own r (List.mem_cons_of_mem _ m)⟩
    by_cases z : a = q.1
    · subst z
      have e2 : upd (frzA F O) q.1 q.2 q.1 = some u := e
      rw [upd_same] at e2
      cases e2
      exact (k.own q (List.mem_cons_self ..)).2
    · have e2 : upd (frzA F O) q.1 q.2 a = some u := e
      rw [upd_ne z] at e2
      exact ih a u e2
theorem ev_peek {c : γ} {Rc : Rep γ} {f : γ → V} (hf : Fl Rc f) (h : Ev te σ (frzA F O) [] (val Rc c)) : Ev te σ F O (val Rc c) := fun H k Q q =>
  h H ⟨frz_same k, fun _ m => (by cases m)⟩ Q fun v F' H' g a => by
    rw [hf.to a]
    exact q _ F H' ⟨Same.refl _, g.h, k.ex.trans g.h, fun _ n _ => n⟩ (hf.of c F)
theorem et_peek {b : Bool} (h : EvT tt σ (frzA F O) [] b) : EvT tt σ F O b := fun H k Q q =>
  h H ⟨frz_same k, fun _ m => (by cases m)⟩ Q fun F' H' g => q F H' ⟨Same.refl _, g.h, k.ex.trans g.h, fun _ n _ => n⟩
end
end Lm
/-! Lm: what is walked, for, comprehensions, while. -/
namespace Lm
open PySem PySem.Spec L2

/-- an iterator yields the things as, one by one -/
def Wk {α : Type} (J : It) (F : Hp) (R : Rep α) (as : List α) : Prop := as.length ≤ limL ∧ ∀ i F' H', Same F F' → Same F' H' →
  (∀ a, as[i]? = some a → J.go i H' ∧ ∀ x H2, J.yld i H' x H2 → ∃ F2, Gr F' H' F2 H2 ∧ R.rp a x F2) ∧ (as.length ≤ i → J.stop i H')
def EvI {α : Type} (wi : TI) (σ : L2.St) (F : Hp) (O : Own) (R : Rep α) (as : List α) : Prop := ∀ H, Ok F O H → ∀ Q : It → Hp → Prop, (∀ J F' H', Gr F H F' H' → Wk J F' R as → Q J H') → wi σ H Q
/-- a target takes a thing -/
def Tg {α : Type} (g : TG) (R : Rep α) (P : α → L2.St → L2.St → Hp → Prop) : Prop := ∀ a x σ F H (Q : L2.St → Hp → Prop), R.rp a x F → Same F H → (∀ σ', P a σ σ' F → Q σ' H) → g x σ H Q
section
variable {α β γ ρ S : Type} {R : Rep α} {R' : Rep β} {Z : Bs} {D : Ends} {σ : L2.St} {F : Hp} {O : Own} {te tl ta tb : TE} {tt : TT} {K : PySem.W.Frag} {i j : Nat}
theorem tg_n : Tg (gName j) R fun a σ σ' F => ∃ v, σ' = σ.set j (some v) ∧ R.rp a v F := fun a x σ F H Q r _ q => q _ ⟨x, rfl, r⟩
theorem tg_2 : Tg (gTup K 2 (gCons (gName i) (gCons (gName j) gNil))) (rT2 R R') fun a σ σ' F => ∃ v w, σ' = (σ.set i (some v)).set j (some w) ∧ R.rp a.1 v F ∧ R'.rp a.2 w F := fun a x σ F H Q ⟨p, v, w, ev, hp, h1, h2⟩ e q =>
  ⟨p, [v, w], ev, st_of (e _ _ hp), rfl, v, [w], rfl, w, [], rfl, rfl, q _ ⟨v, w, rfl, h1, h2⟩⟩
theorem tg_3 {δ : Type} {R'' : Rep δ} {k : Nat} : Tg (gTup K 3 (gCons (gName i) (gCons (gName j) (gCons (gName k) gNil)))) (rT3 R R' R'') fun a σ σ' F => ∃ v w x, σ' = ((σ.set i (some v)).set j (some w)).set k (some x) ∧ R.rp a.1 v F ∧ R'.rp a.2.1 w F ∧ R''.rp a.2.2 x F := fun a x σ F H Q ⟨p, v, w, y, ev, hp, h1, h2, h3⟩ e q =>
  ⟨p, [v, w, y], ev, st_of (e _ _ hp), rfl, v, [w, y], rfl, w, [y], rfl, y, [], rfl, rfl, q _ ⟨v, w, y, rfl, h1, h2, h3⟩⟩

/-! ### what is walked -/
theorem ei_list {as : List α} (h : Ev tl σ F O (val (rL R) as)) : EvI (iList K tl) σ F O R as := fun H k Q q =>
  h H k _ fun v F1 H1 g ⟨p, xs, ev, hp, hx⟩ => by
    refine ⟨p, ev, ⟨xs, sq_of (g.fh _ _ hp)⟩, q _ F1 H1 g ⟨hx.len, fun i F' H' e e' => ⟨fun a ha => ?_, fun hi => ?_⟩⟩⟩
    · have hq : SqL K H' p xs := sq_of (e' _ _ (e _ _ hp))
      obtain ⟨y, hy, r⟩ := hx.all.get ha
      refine ⟨⟨xs, y, hq, hy⟩, fun x H2 ⟨e1, f⟩ => ?_⟩
      subst e1
      have ex : x = y := Option.some.inj ((f xs hq).symm.trans hy)
      subst ex
      exact ⟨F', Gr.refl e', R.mono e r⟩
    · exact ⟨xs, sq_of (e' _ _ (e _ _ hp)), by rw [← hx.all.len]; exact hi⟩
theorem ei_tup {as : List α} (h : Ev tl σ F O (val (rTL R) as)) : EvI (iTup K tl) σ F O R as := fun H k Q q =>
  h H k _ fun v F1 H1 g ⟨p, xs, ev, hp, hx⟩ => by
    refine ⟨p, ev, ⟨xs, st_of (g.fh _ _ hp)⟩, q _ F1 H1 g ⟨hx.len, fun i F' H' e e' => ⟨fun a ha => ?_, fun hi => ?_⟩⟩⟩
    · have hq : SqT K H' p xs := st_of (e' _ _ (e _ _ hp))
      obtain ⟨y, hy, r⟩ := hx.all.get ha
      refine ⟨⟨xs, y, hq, hy⟩, fun x H2 ⟨e1, f⟩ => ?_⟩
      subst e1
      have ex : x = y := Option.some.inj ((f xs hq).symm.trans hy)
      subst ex
      exact ⟨F', Gr.refl e', R.mono e r⟩
    · exact ⟨xs, st_of (e' _ _ (e _ _ hp)), by rw [← hx.all.len]; exact hi⟩
/-- the script itself -/
theorem ei_scr {ns : List Int} (h : Ev tl σ F O (val (rScr K) ns)) : EvI (iList K tl) σ F O rInt ns := fun H k Q q =>
  h H k _ fun v F1 H1 g ⟨p, ev, hp, hz⟩ => by
    refine ⟨p, ev, ⟨_, g.fh.seq hp⟩, q _ F1 H1 g ⟨hz, fun i F' H' e e' => ⟨fun a ha => ?_, fun hi => ?_⟩⟩⟩
    · have hq : SqL K H' p (ns.map V.int) := e'.seq (e.seq hp)
      have hy : (ns.map V.int)[i]? = some (.int a) := by rw [List.getElem?_map, ha]; rfl
      refine ⟨⟨_, _, hq, hy⟩, fun x H2 ⟨e1, f⟩ => ?_⟩
      subst e1
      have ex : x = .int a := Option.some.inj ((f _ hq).symm.trans hy)
      subst ex
      exact ⟨F', Gr.refl e', rfl⟩
    · exact ⟨_, e'.seq (e.seq hp), by rw [List.length_map]; exact hi⟩
/-- lo, lo + 1, .. below hi -/
def rng (lo hi : Int) : List Int := (List.range (hi - lo).toNat).map fun (i : Nat) => lo + (i : Int)
theorem rng_get {lo hi : Int} {i : Nat} {a : Int} (h : (rng lo hi)[i]? = some a) : i < (hi - lo).toNat ∧ a = lo + (i : Int) := by
  unfold rng at h
  rw [List.getElem?_map] at h
  cases e : (List.range (hi - lo).toNat)[i]? with
  | none => rw [e] at h; cases h
  | some j =>
    rw [e] at h
    obtain ⟨h1, h2⟩ := List.getElem?_eq_some_iff.mp e
    rw [List.getElem_range] at h2
    rw [List.length_range] at h1
    subst h2
    exact ⟨h1, (Option.some.inj h).symm⟩
theorem rng_len (lo hi : Int) : (rng lo hi).length = (hi - lo).toNat := by
  unfold rng
  rw [List.length_map, List.length_range]
theorem wk_rng {F : Hp} {lo hi : Int} (hz : (hi - lo).toNat ≤ limL) : Wk (Itr lo (hi - lo).toNat) F rInt (rng lo hi) := ⟨by rw [rng_len]; exact hz, fun i F' H' e e' => ⟨fun a ha => by
  obtain ⟨h1, h2⟩ := rng_get ha
  refine ⟨h1, fun x H2 ⟨e1, f⟩ => ?_⟩
  subst e1 f h2
  exact ⟨F', Gr.refl e', rfl⟩, fun hi => by
  unfold rng at hi
  rw [List.length_map, List.length_range] at hi
  exact hi⟩⟩
theorem ei_rng1 {ta : TA} {n : Int} (h : EvA ta σ F O [val rInt n]) (h1 : -(2 ^ 62) ≤ n) (h2 : n ≤ (limL : Int)) : EvI (iRng1 ta) σ F O rInt (rng 0 n) := fun H k Q q =>
  h H k _ fun vs F1 H1 g a => by
    obtain ⟨v, rfl, a2⟩ := alla1 a
    have a3 : v = .int n := a2
    subst a3
    refine ⟨n, rfl, h1, by have e9 : (limL : Int) = 4000000 := rfl; omega, ?_⟩
    have e : n.toNat = (n - 0).toNat := by omega
    rw [e]
    exact q _ F1 H1 g (wk_rng (by omega))
theorem ei_rng2 {ta : TA} {lo n : Int} (h : EvA ta σ F O [val rInt lo, val rInt n]) (h1 : -(2 ^ 61) ≤ lo ∧ lo < 2 ^ 61 ∧ -(2 ^ 61) ≤ n ∧ n < 2 ^ 61) (hz : (n - lo).toNat ≤ limL) : EvI (iRng2 ta) σ F O rInt (rng lo n) := fun H k Q q =>
  h H k _ fun vs F1 H1 g a => by
    obtain ⟨v, w, rfl, a2, b2⟩ := alla2 a
    have a3 : v = .int lo := a2
    have b3 : w = .int n := b2
    subst a3 b3
    exact ⟨lo, n, rfl, ⟨by omega, by omega, by omega, by omega⟩, q _ F1 H1 g (wk_rng hz)⟩
theorem ei_str {l : List Nat} (h : Ev tl σ F O (val rS l)) : EvI (iStr tl) σ F O rC l := fun H k Q q =>
  h H k _ fun v F1 H1 g a => by
    refine ⟨mk l, a.1, q _ F1 H1 g ⟨sz_lim a.2.1, fun i F' H' e e' => ⟨fun c hc => ?_, fun hi => ?_⟩⟩⟩
    · have hs : i < (mk l).cps.size := by
        show i < l.toArray.size
        rw [List.size_toArray]
        exact (List.getElem?_eq_some_iff.mp hc).1
      refine ⟨hs, fun x H2 ⟨e1, c', h1, h2⟩ => ?_⟩
      subst e1
      have h3 : l[i]? = some c' := by simpa using h1
      rw [hc] at h3
      cases h3
      exact ⟨F', Gr.refl e', h2, a.2.2 c (List.mem_of_getElem? hc)⟩
    · show l.toArray.size ≤ i
      rw [List.size_toArray]
      exact hi
/-- each with its place -/
def enumL (as : List α) : List (Int × α) := (List.range as.length).zipWith (fun (i : Nat) a => ((i : Int), a)) as
theorem enumL_get {as : List α} {i : Nat} {t : Int × α} (h : (enumL as)[i]? = some t) : as[i]? = some t.2 ∧ t.1 = (i : Int) := by
  unfold enumL at h
  rw [List.getElem?_zipWith] at h
  cases e : as[i]? with
  | none =>
    rw [e] at h
    cases e2 : (List.range as.length)[i]? <;> rw [e2] at h <;> cases h
  | some a =>
    rw [e] at h
    have h1 := (List.getElem?_eq_some_iff.mp e).1
    rw [List.getElem?_range h1] at h
    cases h
    exact ⟨rfl, rfl⟩
theorem enumL_len (as : List α) : (enumL as).length = as.length := by
  unfold enumL
  rw [List.length_zipWith, List.length_range, Nat.min_self]
theorem ei_enum {ta : TA} {as : List α} (h : EvA ta σ F O [val (rL R) as]) : EvI (iEnum K ta) σ F O (rT2 rInt R) (enumL as) := fun H k Q q =>
  h H k _ fun vs F1 H1 g a => by
    obtain ⟨v, rfl, p, xs, ev, hp, hx⟩ := alla1 a
    subst ev
    refine ⟨p, xs, rfl, sq_of (g.fh _ _ hp), q _ F1 H1 g ⟨by rw [enumL_len]; exact hx.len, fun i F' H' e e' => ⟨fun t ht => ?_, fun hi => ?_⟩⟩⟩
    · have hq : SqL K H' p xs := sq_of (e' _ _ (e _ _ hp))
      obtain ⟨ht1, ht2⟩ := enumL_get ht
      obtain ⟨y, hy, r⟩ := hx.all.get ht1
      refine ⟨⟨xs, y, hq, hy⟩, fun x H2 ⟨T, z, ex, hT, e1, f⟩ => ?_⟩
      have ez : z = y := Option.some.inj ((f xs hq).symm.trans hy)
      subst ez ex e1
      refine ⟨upd F' T (.tup [.int (i : Nat), z]), Gr.frz e' hT, T, _, _, rfl, upd_same, ?_, R.mono (e.trans (same_new (free_of e' hT))) r⟩
      show V.int (i : Nat) = V.int t.1
      rw [ht2]
    · rw [enumL_len] at hi
      exact ⟨xs, sq_of (e' _ _ (e _ _ hp)), by rw [← hx.all.len]; exact hi⟩
theorem zip_get {as : List α} {bs : List β} {i : Nat} {t : α × β} (h : (as.zip bs)[i]? = some t) : as[i]? = some t.1 ∧ bs[i]? = some t.2 := by
  rw [List.zip, List.getElem?_zipWith] at h
  cases e : as[i]? with
  | none =>
    rw [e] at h
    cases h
  | some a =>
    cases e2 : bs[i]? with
    | none => rw [e, e2] at h; cases h
    | some b =>
      rw [e, e2] at h
      cases h
      exact ⟨rfl, rfl⟩
theorem ei_zip {ta : TA} {as : List α} {bs : List β} (h : EvA ta σ F O [val (rL R) as, val (rL R') bs]) : EvI (iZip K ta) σ F O (rT2 R R') (as.zip bs) := fun H k Q q =>
  h H k _ fun vs F1 H1 g a => by
    obtain ⟨v, w, rfl, ⟨p, xs, ev, hp, hx⟩, r, ys, ew, hr, hy⟩ := alla2 a
    subst ev ew
    refine ⟨p, r, xs, ys, rfl, sq_of (g.fh _ _ hp), sq_of (g.fh _ _ hr), q _ F1 H1 g ⟨by rw [List.zip, List.length_zipWith]; exact Nat.le_trans (Nat.min_le_left _ _) hx.len, fun i F' H' e e' => ⟨fun t ht => ?_, fun hi => ?_⟩⟩⟩
    · have hq1 : SqL K H' p xs := sq_of (e' _ _ (e _ _ hp))
      have hq2 : SqL K H' r ys := sq_of (e' _ _ (e _ _ hr))
      obtain ⟨ht1, ht2⟩ := zip_get ht
      obtain ⟨y1, hy1, r1⟩ := hx.all.get ht1
      obtain ⟨y2, hy2, r2⟩ := hy.all.get ht2
      refine ⟨⟨xs, ys, y1, y2, hq1, hq2, hy1, hy2⟩, fun x H2 ⟨T, z1, z2, ex, hT, e1, f1, f2⟩ => ?_⟩
      have ez1 : z1 = y1 := Option.some.inj ((f1 xs hq1).symm.trans hy1)
      have ez2 : z2 = y2 := Option.some.inj ((f2 ys hq2).symm.trans hy2)
      subst ez1 ez2 ex e1
      have em := e.trans (same_new (o := .tup [z1, z2]) (free_of e' hT))
      exact ⟨upd F' T (.tup [z1, z2]), Gr.frz e' hT, T, _, _, rfl, upd_same, R.mono em r1, R'.mono em r2⟩
    · rw [List.zip, List.length_zipWith] at hi
      refine ⟨xs, ys, sq_of (e' _ _ (e _ _ hp)), sq_of (e' _ _ (e _ _ hr)), ?_⟩
      rw [← hx.all.len, ← hy.all.len]
      omega

/-! ### for -/
theorem sx_for {f : S → α → Option (Fw ρ S)} {s0 : S} {out : Fw ρ S} {J : S → L2.St → Hp → Own → Prop} {Ro : ρ → V → Hp → Own → Prop} {g : TG} {body : TS} {wi : TI} {as : List α} {P : α → L2.St → L2.St → Hp → Prop}
    (hm : loop f as s0 = some out) (hi : EvI wi σ F O R as) (hg : Tg g R P) (h0 : ∀ F', Same F F' → J s0 σ F' O) (acc : AccL Z D J Ro F out)
    (turn : ∀ s a σ' σ2 F' F2 O' o D', a ∈ as → Same F F' → Same F' F2 → J s σ' F' O' → P a σ' σ2 F2 → f s a = some o → Acc Z D' J Ro F2 o → Sx Z body D' σ2 F2 O') : Sx Z (tFor wi g body) D σ F O := fun H at0 => by
  refine hi H at0.ok _ fun J' F1 H1 g1 wk => ?_
  have acc1 : AccL Z D J Ro F1 out := ⟨fun s e σ2 F2 O2 e2 => acc.nx s e σ2 F2 O2 (g1.f.trans e2), fun r e v F2 O2 e2 => acc.rt r e v F2 O2 (g1.f.trans e2)⟩
  refine ⟨fun k m σ' H' => m = as.length - k ∧ k ≤ as.length ∧ Lw Z f J out as F1 k σ' H', ⟨as.length, by simp, Nat.zero_le _, s0, F1, O, Same.refl _, h0 F1 g1.f, at0.gr g1, hm⟩, fun k m σ' H' ⟨em, hk, w⟩ => ?_⟩
  subst em
  have w' := w
  obtain ⟨_, F', O', e, _, at', _⟩ := w'
  by_cases hlt : k < as.length
  · have ha : as[k]? = some as[k] := List.getElem?_eq_getElem hlt
    obtain ⟨hgo, hy⟩ := (wk.2 k F' H' e at'.ok.ex).1 _ ha
    refine Or.inr ⟨hgo, Lw Z f J out as F1 (k + 1), fun σ2 H2 w2 => ⟨as.length - (k + 1), by omega, rfl, hlt, w2⟩, fun x H2 y => ?_⟩
    refine lw_turn acc1 ha w fun s F' O' o e j2 at' hf ac => ?_
    obtain ⟨F2, g2, r⟩ := ((wk.2 k F' H' e at'.ok.ex).1 _ ha).2 x H2 y
    refine hg _ x σ' F2 H2 _ r g2.fh fun σ2 p => ?_
    refine turn s _ σ' σ2 F' F2 O' o _ (List.mem_of_getElem? ha) (g1.f.trans e) g2.f j2 p hf ?_ H2 (at'.gr g2)
    exact ⟨fun s e σ3 F3 O3 e3 => ac.nx s e σ3 F3 O3 (g2.f.trans e3), fun s e σ3 F3 O3 e3 => ac.bk s e σ3 F3 O3 (g2.f.trans e3), fun r e v F3 O3 e3 => ac.rt r e v F3 O3 (g2.f.trans e3)⟩
  · have e2 : k = as.length := by omega
    exact Or.inl ⟨(wk.2 k F' H' e at'.ok.ex).2 (by omega), lw_end e2 acc1 w⟩

/-! ### while -/
def whileN (c : S → Option Bool) (f : S → Option (Fw ρ S)) : Nat → S → Option (Fw ρ S)
  | 0, _ => none
  | n + 1, s => match c s with
    | some true => (match f s with
      | some (.nx s') => whileN c f n s'
      | some (.rt r) => some (.rt r)
      | some (.bk s') => some (.nx s')
      | none => none)
    | some false => some (.nx s)
    | none => none
theorem sx_while {c : S → Option Bool} {f : S → Option (Fw ρ S)} {n : Nat} {s0 : S} {out : Fw ρ S} {J : S → L2.St → Hp → Own → Prop} {Ro : ρ → V → Hp → Own → Prop} {body : TS}
    (hm : whileN c f n s0 = some out) (h0 : J s0 σ F O) (acc : AccL Z D J Ro F out)
    (test : ∀ s σ' F' O' b, Same F F' → J s σ' F' O' → c s = some b → EvT tt σ' F' O' b)
    (turn : ∀ s σ' F' F2 O' o D', Same F F' → Same F' F2 → J s σ' F' O' → c s = some true → f s = some o → Acc Z D' J Ro F2 o → Sx Z body D' σ' F2 O')
    (same : ∀ s σ' F' F2 O', J s σ' F' O' → Same F' F2 → J s σ' F2 O') : Sx Z (tWhile tt body) D σ F O := fun H at0 => by
  refine ⟨fun m σ' H' => ∃ s F' O', Same F F' ∧ J s σ' F' O' ∧ At Z F' O' H' ∧ whileN c f m s = some out, ⟨n, s0, F, O, Same.refl _, h0, at0, hm⟩, fun m σ' H' ⟨s, F', O', e, j2, at', hw⟩ => ?_⟩
  cases m with
  | zero => simp only [whileN] at hw; cases hw
  | succ m =>
    cases hc : c s with
    | none => simp only [whileN, hc] at hw; cases hw
    | some b =>
      refine test s σ' F' O' b e j2 hc H' at'.ok _ fun F2 H2 g2 => ?_
      cases b with
      | false =>
        simp only [whileN, hc] at hw
        exact acc.nx s (Option.some.inj hw).symm σ' F2 O' (e.trans g2.f) (same _ _ _ _ _ j2 g2.f) H2 (at'.gr g2)
      | true =>
        cases hf : f s with
        | none => simp only [whileN, hc, hf] at hw; cases hw
        | some o =>
          refine ⟨fun σ3 H3 => ∃ s F3 O3, Same F F3 ∧ J s σ3 F3 O3 ∧ At Z F3 O3 H3 ∧ whileN c f m s = some out, fun σ3 H3 w => ⟨m, by omega, w⟩, ?_⟩
          refine turn s σ' F' F2 O' o _ e g2.f j2 hc hf ⟨fun s' eo σ3 F3 O3 e3 j3 => ?_, fun s' eo σ3 F3 O3 e3 j3 H3 at3 => ?_, fun r eo v F3 O3 e3 r3 H3 at3 => ?_⟩ H2 (at'.gr g2)
          · subst eo
            simp only [whileN, hc, hf] at hw
            exact ⟨fun H3 at3 => ⟨s', F3, O3, (e.trans g2.f).trans e3, j3, at3, hw⟩, fun H3 at3 => ⟨s', F3, O3, (e.trans g2.f).trans e3, j3, at3, hw⟩⟩
          · subst eo
            simp only [whileN, hc, hf] at hw
            exact acc.nx s' (Option.some.inj hw).symm σ3 F3 O3 ((e.trans g2.f).trans e3) j3 H3 at3
          · subst eo
            simp only [whileN, hc, hf] at hw
            exact acc.rt r (Option.some.inj hw).symm v F3 O3 ((e.trans g2.f).trans e3) r3 H3 at3

/-! ### comprehensions -/
/-- f tells what an item gives: nothing known; left out; a thing -/
def mapF (f : α → Option (Option β)) : List α → Option (List β)
  | [] => some []
  | a :: as => match f a with
    | none => none
    | some o => match mapF f as with
      | none => none
      | some bs => some (match o with | some b => b :: bs | none => bs)
theorem mapF_len {f : α → Option (Option β)} : ∀ {as : List α} {bs : List β}, mapF f as = some bs → bs.length ≤ as.length
  | [], _, h => by cases h; exact Nat.le_refl _
  | a :: as, bs, h => by
    unfold mapF at h
    cases e : f a with
    | none => rw [e] at h; cases h
    | some o =>
      rw [e] at h
      cases e2 : mapF f as with
      | none => rw [e2] at h; cases h
      | some cs =>
        rw [e2] at h
        have ih := mapF_len e2
        cases o with
        | none => cases h; exact Nat.le_succ_of_le ih
        | some b => cases h; exact Nat.succ_le_succ ih
theorem mapF_cons {f : α → Option (Option β)} {a : α} {as : List α} {bs : List β} (h : mapF f (a :: as) = some bs) : ∃ o cs, f a = some o ∧ mapF f as = some cs ∧ bs = (match o with | some b => b :: cs | none => cs) := by
  unfold mapF at h
  cases e : f a with
  | none => rw [e] at h; cases h
  | some o =>
    rw [e] at h
    cases e2 : mapF f as with
    | none => rw [e2] at h; cases h
    | some cs =>
      rw [e2] at h
      exact ⟨o, cs, rfl, rfl, (Option.some.inj h).symm⟩
theorem ev_lc {f : α → Option (Option β)} {wi : TI} {g : TG} {vs : List Nat} {as : List α} {bs : List β} {P : α → L2.St → L2.St → Hp → Prop}
    (hm : mapF f as = some bs) (hi : EvI wi σ F O R as) (hg : Tg g R P)
    (turn : ∀ a σ2 F' F2 ob, a ∈ as → Same F F' → Same F' F2 → P a (wipe σ vs) σ2 F2 → f a = some ob → wipe σ2 vs = wipe σ vs ∧ EvT tt σ2 F2 O ob.isSome ∧ ∀ b, ob = some b → Ev te σ2 F2 O (val R' b)) :
    EvN (tLc wi g tt te vs) σ F O R' bs := fun H k Q q => by
  refine hi H k _ fun J F1 H1 g1 wk L hL => ?_
  have k1 := k.gr g1
  let W : Nat → Hp → Prop := fun i H' => ∃ F' acc done rest, Gr F1 H1 F' H' ∧ F' L = none ∧ H' L = some (.lst acc) ∧ All2 R' done acc F' ∧ mapF f (as.drop i) = some rest ∧ done ++ rest = bs ∧ done.length ≤ i
  have okL : ∀ {F' H'}, Gr F1 H1 F' H' → Ok F' O H' := fun gg => k1.gr gg
  refine ⟨fun i m H' => m = as.length - i ∧ i ≤ as.length ∧ W i H', ⟨as.length, by simp, Nat.zero_le _, F1, [], [], bs, ⟨Same.refl _, same_new hL, g1.fh.trans (same_new hL), fun _ h _ => h⟩, free_of g1.fh hL, upd_same, trivial, hm, rfl, Nat.le_refl _⟩, fun i m H' ⟨em, hile, F', acc, done, rest, gg, fL, hacc, ha2, hrest, hbs, hdl⟩ => ?_⟩
  subst em
  by_cases hlt : i < as.length
  · have ha : as[i]? = some as[i] := List.getElem?_eq_getElem hlt
    obtain ⟨hgo, hy⟩ := (wk.2 i F' H' gg.f gg.fh).1 _ ha
    refine Or.inr ⟨hgo, W (i + 1), fun H2 w => ⟨as.length - (i + 1), by omega, rfl, hlt, w⟩, fun x H2 y => ?_⟩
    obtain ⟨F2, g2, r⟩ := hy x H2 y
    rw [List.drop_eq_getElem_cons hlt] at hrest
    obtain ⟨o, cs, e1, e2, e3⟩ := mapF_cons hrest
    refine hg _ x (wipe σ vs) F2 H2 _ r g2.fh fun σ2 p => ?_
    obtain ⟨hw, ht, he⟩ := turn as[i] σ2 F' F2 o (List.mem_of_getElem? ha) (g1.f.trans gg.f) g2.f p e1
    have gg2 := gg.trans g2
    refine ⟨hw, ht H2 (okL gg2) _ fun F3 H3 g3 => ?_⟩
    have gg3 := gg2.trans g3
    have fL3 : F3 L = none := (g2.trans g3).nw L fL (by rw [hacc]; exact fun z => by cases z)
    have hacc3 : H3 L = some (.lst acc) := (g2.trans g3).h _ _ hacc
    cases o with
    | none =>
      show W (i + 1) H3
      exact ⟨F3, acc, done, cs, gg3, fL3, hacc3, ha2.mono (g2.trans g3).f, e2, by rw [← hbs, e3], by omega⟩
    | some b =>
      show te σ2 H3 _
      refine ((he b rfl).mono g3.f) H3 (okL gg3) _ fun v F4 H4 g4 r4 => ?_
      have fL4 : F4 L = none := g4.nw L fL3 (by rw [hacc3]; exact fun z => by cases z)
      have gg4 := gg3.trans g4
      have lacc : acc.length ≤ limL := by
        rw [← ha2.len]
        have := wk.1
        omega
      refine ⟨acc, g4.h _ _ hacc3, sz_lt lacc, F4, acc ++ [v], done ++ [b], cs, ⟨gg4.f, fun a u hu => ?_, same_mut gg4.fh fL4, gg4.nw⟩, fL4, upd_same, (ha2.mono ((g2.trans g3).trans g4).f).app (All2.one r4), e2, by rw [← hbs, e3, List.append_assoc]; rfl, by rw [List.length_append]; simp; omega⟩
      rw [upd_ne (ne_of_none hu hL)]
      exact gg4.h a u hu
  · refine Or.inl ⟨(wk.2 i F' H' gg.f gg.fh).2 (by omega), ?_⟩
    rw [List.drop_eq_nil_of_le (by omega)] at hrest
    have er : rest = [] := (Option.some.inj hrest).symm
    rw [er, List.append_nil] at hbs
    subst hbs
    exact q L acc F' H' (g1.trans gg) (gr_none g1 hL) fL hacc ⟨ha2, Nat.le_trans (by omega) wk.1⟩
theorem et_yes : EvT tYes σ F O true := fun H k Q q => q F H (Gr.refl k.ex)
end
end Lm
/-! Lm: texts. -/
namespace Lm
open PySem PySem.Spec L2 PySem.Builtin.Str

/-! ### texts as lists of signs -/
theorem tl_of (l : List Nat) : (mk l).cps.toList = l := rfl
theorem mk_of {x : Str} {l : List Nat} (h : x.cps.toList = l) : x = mk l := by
  apply TL.ext_tl
  exact h
def startsS (l p : List Nat) : Bool := p.isPrefixOf l
def endsS (l p : List Nat) : Bool := p.isSuffixOf l
/-- p stands somewhere in l -/
def inS (p : List Nat) : List Nat → Bool
  | [] => p.isEmpty
  | c :: r => p.isPrefixOf (c :: r) || inS p r
/-- the first place from i on, counted -/
def findL (p : List Nat) : Nat → List Nat → Option Nat
  | i, [] => if p.isEmpty then some i else none
  | i, c :: r => if p.isPrefixOf (c :: r) then some i else findL p (i + 1) r
def optI : Option Nat → Int
  | some i => (i : Int)
  | none => -1
def splitC (c : Nat) : List Nat → List Nat → List (List Nat)
  | acc, [] => [acc]
  | acc, x :: r => if x = c then acc :: splitC c [] r else splitC c (acc ++ [x]) r
abbrev joinS (s : List Nat) (ps : List (List Nat)) : List Nat := TL.joinL s ps
def lstripS (l cs : List Nat) : List Nat := l.dropWhile cs.contains
def rstripS (l cs : List Nat) : List Nat := (l.reverse.dropWhile cs.contains).reverse
def stripS (l cs : List Nat) : List Nat := rstripS (lstripS l cs) cs
def lowC (c : Nat) : Nat := if 65 ≤ c ∧ c ≤ 90 then c + 32 else c
def lowerS (l : List Nat) : List Nat := l.map lowC
def partS (l s : List Nat) : List Nat × List Nat × List Nat := match TL.par s [] l with
  | some (a, b) => (a, s, b)
  | none => (l, [], [])
/-! Options -/
def catS (a b : List Nat) : Option (List Nat) := if (a ++ b).length ≤ lim then some (a ++ b) else none
def repS (a : List Nat) (n : Int) : Option (List Nat) := if (List.replicate n.toNat a).flatten.length ≤ lim ∧ n < 2 ^ 61 ∧ -(2 ^ 61) ≤ n then some (List.replicate n.toNat a).flatten else none
def joinO (s : List Nat) (ps : List (List Nat)) : Option (List Nat) := if (joinS s ps).length ≤ lim then some (joinS s ps) else none
/-- does not fail -/
theorem iteo {α : Type} {p : Prop} [Decidable p] {a b : α} (h : (if p then some a else none) = some b) : p ∧ a = b := by
  by_cases hp : p
  · rw [if_pos hp] at h
    exact ⟨hp, Option.some.inj h⟩
  · rw [if_neg hp] at h
    cases h

section
variable {x y : List Nat}
theorem pref_take {p l : List Nat} : p.isPrefixOf l = (l.take p.length == p) := by
  rw [Bool.eq_iff_iff, List.isPrefixOf_iff_prefix, beq_iff_eq, List.prefix_iff_eq_take]
  exact ⟨fun h => h.symm, fun h => h.symm⟩
theorem starts_mk : Txt.startswith (mk x) (mk y) = startsS x y := by
  unfold Txt.startswith startsS
  rw [PySem.StrLaws.subAt_eq, mk_len, mk_len, pref_take, tl_of, tl_of, List.drop_zero]
  by_cases h : 0 + y.length ≤ x.length
  · rw [decide_eq_true h, Bool.true_and]
  · rw [decide_eq_false h, Bool.false_and]
    symm
    rw [beq_eq_false_iff_ne]
    intro e
    have := congrArg List.length e
    rw [List.length_take] at this
    omega
theorem suff_drop {p l : List Nat} (h : p.length ≤ l.length) : p.isSuffixOf l = (l.drop (l.length - p.length) == p) := by
  rw [Bool.eq_iff_iff, List.isSuffixOf_iff_suffix, beq_iff_eq, List.suffix_iff_eq_drop]
  exact ⟨fun h => h.symm, fun h => h.symm⟩
theorem ends_mk : Txt.endswith (mk x) (mk y) = endsS x y := by
  unfold Txt.endswith endsS
  rw [PySem.StrLaws.subAt_eq, mk_len, mk_len, tl_of, tl_of]
  by_cases h : 0 + y.length ≤ x.length
  · rw [decide_eq_true h, Bool.true_and, suff_drop (by omega), List.take_of_length_le]
    rw [List.length_drop]
    omega
  · rw [decide_eq_false h, Bool.false_and]
    symm
    rw [Bool.eq_false_iff]
    intro e
    have := (List.isSuffixOf_iff_suffix.mp e).length_le
    omega
theorem lower_mk (h : ∀ c ∈ x, c < 128) : Txt.lower (mk x) = mk (lowerS x) := by
  rw [PyProof.Rows.lower_ascii h]
  apply mk_of
  show (Array.map _ x.toArray).toList = _
  simp [lowerS]
  intro a _
  rfl
theorem okS_lower (h : OkS x) : OkS (lowerS x) := by
  refine ⟨by unfold lowerS; rw [List.length_map]; exact h.1, fun c m => ?_⟩
  obtain ⟨d, md, e⟩ := List.mem_map.mp m
  have := h.2 d md
  subst e
  unfold lowC
  split <;> omega
theorem contains_mk (l : List Nat) : (mk l).cps.contains = l.contains := by
  funext c
  show l.toArray.contains c = l.contains c
  simp
theorem takeWhile_drop (p : Nat → Bool) (l : List Nat) : l.drop (l.takeWhile p).length = l.dropWhile p := by
  induction l with
  | nil => rfl
  | cons a r ih =>
    rw [List.takeWhile_cons, List.dropWhile_cons]
    split
    · exact ih
    · rfl
theorem lstrip_mk : Txt.lstripChars (mk x) (mk y) = mk (lstripS x y) := by
  unfold Txt.lstripChars
  rw [PyProof.Rows.stripBy_eq]
  apply mk_of
  rw [PySem.StrLaws.strSub_toList, tl_of, contains_mk]
  have e1 : stripHi y.contains false (mk x) (stripLo y.contains true (mk x)) = x.length := by
    show (mk x).length = x.length
    exact mk_len x
  have e2 : stripLo y.contains true (mk x) = (x.takeWhile y.contains).length := rfl
  rw [e1, e2, takeWhile_drop]
  unfold lstripS
  rw [List.take_of_length_le]
  have h1 : (x.takeWhile y.contains).length + (x.dropWhile y.contains).length = x.length := by
    rw [← List.length_append, List.takeWhile_append_dropWhile]
  omega
theorem rev_take (l : List Nat) (n : Nat) : (l.reverse.drop n).reverse = l.take (l.length - n) := by
  rw [List.drop_reverse, List.reverse_reverse]
theorem rstrip_mk : Txt.rstripChars (mk x) (mk y) = mk (rstripS x y) := by
  unfold Txt.rstripChars
  rw [PyProof.Rows.stripBy_eq]
  apply mk_of
  rw [PySem.StrLaws.strSub_toList, tl_of, contains_mk]
  have e2 : stripLo y.contains false (mk x) = 0 := rfl
  have e1 : stripHi y.contains true (mk x) 0 = x.length - (x.reverse.takeWhile y.contains).length := by
    show (mk x).length - _ = _
    rw [mk_len]
    first | done | rfl
  rw [e2, e1, List.drop_zero, Nat.sub_zero]
  unfold rstripS
  rw [← takeWhile_drop, rev_take]
theorem strip_mk : Txt.stripChars (mk x) (mk y) = mk (stripS x y) := by
  unfold Txt.stripChars
  rw [PyProof.Rows.stripBy_eq]
  apply mk_of
  rw [PySem.StrLaws.strSub_toList, tl_of, contains_mk]
  have e2 : stripLo y.contains true (mk x) = (x.takeWhile y.contains).length := rfl
  have e1 : ∀ k, stripHi y.contains true (mk x) k = x.length - ((x.drop k).reverse.takeWhile y.contains).length := fun k => by
    show (mk x).length - _ = _
    rw [mk_len]
    first | done | rfl
  rw [e2, e1, takeWhile_drop]
  unfold stripS rstripS lstripS
  rw [← takeWhile_drop y.contains (x.dropWhile y.contains).reverse, rev_take]
  have h1 : (x.takeWhile y.contains).length + (x.dropWhile y.contains).length = x.length := by
    rw [← List.length_append, List.takeWhile_append_dropWhile]
  congr 1
  omega
theorem mem_dropWhile {p : Nat → Bool} {l : List Nat} {c : Nat} (h : c ∈ l.dropWhile p) : c ∈ l := (List.dropWhile_sublist p).subset h
theorem okS_lstrip (h : OkS x) : OkS (lstripS x y) := ⟨Nat.le_trans (List.dropWhile_sublist _).length_le h.1, fun c m => h.2 c (mem_dropWhile m)⟩
theorem okS_rstrip (h : OkS x) : OkS (rstripS x y) := by
  unfold rstripS
  refine ⟨?_, fun c m => ?_⟩
  · rw [List.length_reverse]
    have := (List.dropWhile_sublist (y.contains) (l := x.reverse)).length_le
    rw [List.length_reverse] at this
    exact Nat.le_trans this h.1
  · exact h.2 c (List.mem_reverse.mp (mem_dropWhile (List.mem_reverse.mp m)))
theorem okS_strip (h : OkS x) : OkS (stripS x y) := okS_rstrip (okS_lstrip h)
theorem spl_one (c : Nat) : ∀ (l acc : List Nat), TL.spl [c] 0 acc l = splitC c acc l
  | [], acc => rfl
  | a :: r, acc => by
    unfold splitC
    by_cases e : a = c
    · rw [if_pos e, TL.spl_hit (by subst e; exact TL.pre_self [a] r), ← spl_one c r []]
      rfl
    · rw [if_neg e, TL.spl_miss (TL.pre_of_head [] r e), spl_one c r]
theorem mk_tl (z : Str) : mk (TL.tl z) = z := TL.mk_tl z
theorem map_mk_tl : ∀ (l : List Str), (l.map TL.tl).map mk = l
  | [] => rfl
  | z :: r => by rw [List.map_cons, List.map_cons, mk_tl, map_mk_tl r]
theorem all_256 {l : List Nat} (h : ∀ c ∈ l, c < 128) : (mk l).cps.all (· < 256) = true := by
  show l.toArray.all (· < 256) = true
  rw [List.all_toArray, List.all_eq_true]
  intro c m
  exact decide_eq_true (Nat.lt_trans (h c m) (by decide))
theorem split_mk {c : Nat} (hc : c < 128) : Txt.split (mk x) (mk [c]) = (splitC c [] x).map mk := by
  have h := TL.split_spl (mk x) (mk [c]) (by show [c] ≠ []; simp) (TL.kind_ok (all_256 fun d m => by rw [List.mem_singleton.mp m]; exact hc))
  rw [← map_mk_tl (Txt.split (mk x) (mk [c])), h]
  show (TL.spl [c] 0 [] x).map mk = _
  rw [spl_one]
theorem splitC_len (c : Nat) : ∀ (l acc : List Nat), (splitC c acc l).length ≤ l.length + 1
  | [], acc => by simp [splitC]
  | a :: r, acc => by
    unfold splitC
    have h1 := splitC_len c r []
    have h2 := splitC_len c r (acc ++ [a])
    split
    · rw [List.length_cons, List.length_cons]; omega
    · rw [List.length_cons]; omega
theorem splitC_mem (c : Nat) : ∀ (l acc : List Nat), ∀ p ∈ splitC c acc l, p.length ≤ acc.length + l.length ∧ ∀ d ∈ p, d ∈ acc ∨ d ∈ l
  | [], acc, p, m => by
    have e : p = acc := by simpa [splitC] using m
    subst e
    exact ⟨by simp, fun d md => Or.inl md⟩
  | a :: r, acc, p, m => by
    unfold splitC at m
    split at m
    · rcases List.mem_cons.mp m with e | m
      · subst e
        exact ⟨by omega, fun d md => Or.inl md⟩
      · have := splitC_mem c r [] p m
        refine ⟨by have := this.1; rw [List.length_nil] at this; rw [List.length_cons]; omega, fun d md => Or.inr ?_⟩
        rcases this.2 d md with z | z
        · cases z
        · exact List.mem_cons_of_mem _ z
    · have := splitC_mem c r (acc ++ [a]) p m
      refine ⟨by have := this.1; rw [List.length_append, List.length_singleton] at this; rw [List.length_cons]; omega, fun d md => ?_⟩
      rcases this.2 d md with z | z
      · rcases List.mem_append.mp z with z | z
        · exact Or.inl z
        · rw [List.mem_singleton.mp z]; exact Or.inr (List.mem_cons_self ..)
      · exact Or.inr (List.mem_cons_of_mem _ z)
theorem okS_split {c : Nat} (h : OkS x) : ∀ p ∈ splitC c [] x, OkS p := fun p m => by
  have := splitC_mem c x [] p m
  refine ⟨by have h1 := this.1; rw [List.length_nil] at h1; exact Nat.le_trans (by omega) h.1, fun d md => ?_⟩
  rcases this.2 d md with z | z
  · cases z
  · exact h.2 d z
theorem join_mk (s : List Nat) (ps : List (List Nat)) : Txt.join (mk s) (ps.map mk) = mk (joinS s ps) := by
  rw [TL.join_eq]
  apply mk_of
  rw [show (Str.join (mk s) (ps.map mk)).cps.toList = TL.tl (Str.join (mk s) (ps.map mk)) from rfl, TL.tl_join]
  congr 1
  rw [List.map_map]
  exact List.map_id'' (fun l => rfl) ps
theorem joinS_nil (s : List Nat) : joinS s [] = [] := rfl
theorem joinS_one (s p : List Nat) : joinS s [p] = p := rfl
theorem joinS_cons (s p q : List Nat) (r : List (List Nat)) : joinS s (p :: q :: r) = p ++ s ++ joinS s (q :: r) := by
  first
    | rfl
    | (rw [List.append_assoc]; rfl)
theorem joinS_len (s : List Nat) : ∀ ps : List (List Nat), (ps.map List.length).sum + ps.length * s.length ≤ (joinS s ps).length + s.length
  | [] => by simp
  | [p] => by rw [joinS_one]; simp
  | p :: q :: r => by
    rw [joinS_cons, List.length_append, List.length_append]
    have ih := joinS_len s (q :: r)
    simp only [List.map_cons, List.sum_cons, List.length_cons, Nat.succ_mul] at ih ⊢
    omega
theorem joinS_mem (s : List Nat) : ∀ ps : List (List Nat), ∀ c ∈ joinS s ps, c ∈ s ∨ ∃ p ∈ ps, c ∈ p
  | [], c, m => by cases m
  | [p], c, m => Or.inr ⟨p, List.mem_cons_self .., m⟩
  | p :: q :: r, c, m => by
    rw [joinS_cons, List.mem_append, List.mem_append] at m
    rcases m with (m | m) | m
    · exact Or.inr ⟨p, List.mem_cons_self .., m⟩
    · exact Or.inl m
    · rcases joinS_mem s (q :: r) c m with h | ⟨p', h1, h2⟩
      · exact Or.inl h
      · exact Or.inr ⟨p', List.mem_cons_of_mem _ h1, h2⟩
theorem par_mem (S : List Nat) : ∀ (l acc a b : List Nat), TL.par S acc l = some (a, b) → (∀ c ∈ a, c ∈ acc ∨ c ∈ l) ∧ (∀ c ∈ b, c ∈ l) ∧ a.length ≤ acc.length + l.length ∧ b.length ≤ l.length
  | [], acc, a, b, h => by cases h
  | c :: r, acc, a, b, h => by
    cases hp : TL.pre S (c :: r) with
    | true =>
      rw [TL.par_hit hp] at h
      cases h
      exact ⟨fun d m => Or.inl m, fun d m => List.mem_of_mem_drop m, by omega, by rw [List.length_drop]; omega⟩
    | false =>
      rw [TL.par_miss hp] at h
      obtain ⟨h1, h2, h3, h4⟩ := par_mem S r _ a b h
      refine ⟨fun d m => ?_, fun d m => List.mem_cons_of_mem _ (h2 d m), by rw [List.length_append, List.length_singleton] at h3; rw [List.length_cons]; omega, by rw [List.length_cons]; omega⟩
      rcases h1 d m with z | z
      · rcases List.mem_append.mp z with z | z
        · exact Or.inl z
        · rw [List.mem_singleton.mp z]; exact Or.inr (List.mem_cons_self ..)
      · exact Or.inr (List.mem_cons_of_mem _ z)
theorem okS_part (h : OkS x) (hy : OkS y) : OkS (partS x y).1 ∧ OkS (partS x y).2.1 ∧ OkS (partS x y).2.2 := by
  unfold partS
  cases e : TL.par y [] x with
  | none => exact ⟨h, ⟨Nat.zero_le _, fun c m => by cases m⟩, ⟨Nat.zero_le _, fun c m => by cases m⟩⟩
  | some ab =>
    obtain ⟨a, b⟩ := ab
    obtain ⟨h1, h2, h3, h4⟩ := par_mem y x [] a b e
    rw [List.length_nil, Nat.zero_add] at h3
    exact ⟨⟨Nat.le_trans h3 h.1, fun c m => (h1 c m).elim (fun z => by cases z) (h.2 c)⟩, hy, ⟨Nat.le_trans h4 h.1, fun c m => h.2 c (h2 c m)⟩⟩
theorem part_mk (hy : y ≠ []) : Txt.partition (mk x) (mk y) = (mk (partS x y).1, mk (partS x y).2.1, mk (partS x y).2.2) := by
  rw [TL.partition_par (mk x) (mk y) hy]
  unfold partS
  show (match TL.par y [] x with | some (a, b) => _ | none => _) = _
  cases e : TL.par y [] x with
  | none => rfl
  | some ab => rfl
/-- a text within a text -/
theorem inS_iff (p : List Nat) : ∀ l : List Nat, inS p l = true ↔ ∃ i, i + p.length ≤ l.length ∧ (l.drop i).take p.length = p
  | [] => by
    unfold inS
    rw [List.isEmpty_iff]
    constructor
    · intro e; subst e; exact ⟨0, by simp, by simp⟩
    · rintro ⟨i, h1, h2⟩
      cases p with
      | nil => rfl
      | cons a r => simp at h1
  | c :: r => by
    unfold inS
    rw [Bool.or_eq_true, inS_iff p r, List.isPrefixOf_iff_prefix, List.prefix_iff_eq_take]
    constructor
    · rintro (h | ⟨i, h1, h2⟩)
      · refine ⟨0, ?_, by rw [List.drop_zero]; exact h.symm⟩
        have := congrArg List.length h
        rw [List.length_take] at this
        omega
      · exact ⟨i + 1, by rw [List.length_cons]; omega, by rw [List.drop_succ_cons]; exact h2⟩
    · rintro ⟨i, h1, h2⟩
      cases i with
      | zero => exact Or.inl (by rw [List.drop_zero] at h2; exact h2.symm)
      | succ i => exact Or.inr ⟨i, by rw [List.length_cons] at h1; omega, by rw [List.drop_succ_cons] at h2; exact h2⟩
theorem in_mk : (!(occurrences (mk x) (mk y) 0 (mk x).length 1).isEmpty) = inS y x := by
  rw [Bool.eq_iff_iff, PySem.StrLaws.found_iff, inS_iff]
  constructor
  · rintro ⟨i, h1, h2⟩
    rw [mk_len, mk_len] at h1
    rw [PySem.StrLaws.subAt_eq, mk_len, tl_of, tl_of, beq_iff_eq] at h2
    exact ⟨i, h1, h2⟩
  · rintro ⟨i, h1, h2⟩
    refine ⟨i, by rw [mk_len, mk_len]; exact h1, ?_⟩
    rw [PySem.StrLaws.subAt_eq, mk_len, tl_of, tl_of, beq_iff_eq]
    exact h2
/-- where a text first stands -/
theorem at_mk {i : Nat} : PySem.StrLaws.At (mk x) (mk y) (mk x).length i ↔ i + y.length ≤ x.length ∧ (x.drop i).take y.length = y := by
  unfold PySem.StrLaws.At
  rw [mk_len, mk_len, PySem.StrLaws.subAt_eq, mk_len, tl_of, tl_of, beq_iff_eq]
theorem pref_iff {p l : List Nat} : p.isPrefixOf l = true ↔ p.length ≤ l.length ∧ l.take p.length = p := by
  rw [pref_take, beq_iff_eq]
  constructor
  · intro h
    refine ⟨?_, h⟩
    have := congrArg List.length h
    rw [List.length_take] at this
    omega
  · exact fun h => h.2
theorem findL_some (p : List Nat) : ∀ (l : List Nat) (i j : Nat), findL p i l = some j → i ≤ j ∧ (j - i) + p.length ≤ l.length ∧ (l.drop (j - i)).take p.length = p ∧ ∀ k, k < j - i → ¬ (k + p.length ≤ l.length ∧ (l.drop k).take p.length = p)
  | [], i, j, h => by
    unfold findL at h
    split at h
    · next e =>
      cases h
      rw [List.isEmpty_iff.mp e]
      exact ⟨Nat.le_refl _, by simp, by simp, fun k hk => by omega⟩
    · cases h
  | c :: r, i, j, h => by
    unfold findL at h
    split at h
    · next e =>
      cases h
      obtain ⟨h1, h2⟩ := pref_iff.mp e
      rw [Nat.sub_self]
      exact ⟨Nat.le_refl _, by omega, by rw [List.drop_zero]; exact h2, fun k hk => by omega⟩
    · next e =>
      obtain ⟨h1, h2, h3, h4⟩ := findL_some p r (i + 1) j h
      have e1 : j - i = (j - (i + 1)) + 1 := by omega
      rw [e1]
      refine ⟨by omega, by rw [List.length_cons]; omega, by rw [List.drop_succ_cons]; exact h3, fun k hk => ?_⟩
      cases k with
      | zero =>
        rintro ⟨z1, z2⟩
        exact e (pref_iff.mpr ⟨by omega, by rw [List.drop_zero] at z2; exact z2⟩)
      | succ k =>
        rintro ⟨z1, z2⟩
        exact h4 k (by omega) ⟨by rw [List.length_cons] at z1; omega, by rw [List.drop_succ_cons] at z2; exact z2⟩
theorem findL_none (p : List Nat) : ∀ (l : List Nat) (i : Nat), findL p i l = none → ∀ k, ¬ (k + p.length ≤ l.length ∧ (l.drop k).take p.length = p)
  | [], i, h, k => by
    unfold findL at h
    split at h
    · cases h
    · next e =>
      rintro ⟨h1, h2⟩
      rw [List.length_nil] at h1
      exact e (List.isEmpty_iff.mpr (List.eq_nil_of_length_eq_zero (by omega)))
  | c :: r, i, h, k => by
    unfold findL at h
    split at h
    · cases h
    · next e =>
      cases k with
      | zero =>
        rintro ⟨z1, z2⟩
        exact e (pref_iff.mpr ⟨by omega, by rw [List.drop_zero] at z2; exact z2⟩)
      | succ k =>
        rintro ⟨z1, z2⟩
        exact findL_none p r (i + 1) h k ⟨by rw [List.length_cons] at z1; omega, by rw [List.drop_succ_cons] at z2; exact z2⟩
/-- find from a place -/
def findS (l p : List Nat) (i : Int) : Int := if (fromIndex l.length i) ≤ l.length then optI (findL p (fromIndex l.length i) (l.drop (fromIndex l.length i))) else -1
theorem find3_mk (i : Int) : Txt.find3 (mk x) (mk y) i = findS x y i := by
  unfold Txt.find3 findS
  have hl := mk_len x
  have e0 : fromIndex (mk x).length i = fromIndex x.length i := by rw [hl]
  rw [e0]
  generalize fromIndex x.length i = lo
  rcases PySem.StrLaws.occ_head_from (mk x) (mk y) lo 1 (Nat.le_refl _) with ⟨h1, h2⟩ | ⟨j, r, h1, h2, h3, h4⟩
  · rw [h1]
    show (-1 : Int) = _
    by_cases hle : lo ≤ x.length
    · rw [if_pos hle]
      cases e : findL y lo (x.drop lo) with
      | none => rfl
      | some j =>
        obtain ⟨a1, a2, a3, _⟩ := findL_some y _ _ _ e
        rw [List.length_drop] at a2
        rw [List.drop_drop] at a3
        have e3 : lo + (j - lo) = j := by omega
        rw [e3] at a3
        exact absurd (at_mk.mpr ⟨by omega, a3⟩) (h2 j a1)
    · rw [if_neg hle]
  · rw [h1]
    obtain ⟨a1, a2⟩ := at_mk.mp h3
    rw [if_pos (by omega)]
    cases e : findL y lo (x.drop lo) with
    | none =>
      have := findL_none y _ _ e (j - lo)
      rw [List.length_drop, List.drop_drop] at this
      have e3 : lo + (j - lo) = j := by omega
      rw [e3] at this
      exact absurd ⟨by omega, a2⟩ this
    | some m =>
      obtain ⟨b1, b2, b3, b4⟩ := findL_some y _ _ _ e
      rw [List.length_drop] at b2 b4
      rw [List.drop_drop] at b3
      have e3 : lo + (m - lo) = m := by omega
      rw [e3] at b3
      have : m = j := by
        rcases Nat.lt_trichotomy m j with hlt | heq | hgt
        · exact absurd (at_mk.mpr ⟨by omega, b3⟩) (h4 m b1 hlt)
        · exact heq
        · refine absurd ?_ (b4 (j - lo) (by omega))
          rw [List.drop_drop]
          have e4 : lo + (j - lo) = j := by omega
          rw [e4]
          exact ⟨by omega, a2⟩
      subst this
      rfl
theorem find_mk : Txt.find (mk x) (mk y) = optI (findL y 0 x) := by
  have h := find3_mk (x := x) (y := y) 0
  unfold Txt.find3 findS at h
  unfold Txt.find
  have e : ∀ n : Nat, fromIndex n 0 = 0 := fun n => by
    unfold fromIndex
    simp
  rw [e, e, if_pos (Nat.zero_le _), List.drop_zero] at h
  exact h
end
end Lm
/-! Lm: the methods of texts, what joins ways, how mirrors fail. -/
namespace Lm
open PySem PySem.Spec L2 PySem.Builtin.Str

/-! ### mirrors -/
theorem bsome {α β : Type} {o : Option α} {f : α → Option β} {b : β} (h : o.bind f = some b) : ∃ a, o = some a ∧ f a = some b := by
  cases o with
  | none => cases h
  | some a => exact ⟨a, rfl, h⟩
def lt {α β : Type} (a : α) (f : α → Option β) : Option β := f a
theorem lt_e {α β : Type} {a : α} {f : α → Option β} {b : β} (h : lt a f = some b) : ∃ x, a = x ∧ f x = some b := ⟨a, rfl, h⟩
def cnd {α : Type} (c : Bool) (a b : Option α) : Option α := match c with | true => a | false => b
theorem cnd_t {α : Type} {c : Bool} {a b : Option α} {x : α} (h : cnd c a b = some x) (e : c = true) : a = some x := by subst e; exact h
theorem cnd_f {α : Type} {c : Bool} {a b : Option α} {x : α} (h : cnd c a b = some x) (e : c = false) : b = some x := by subst e; exact h
def fwd {ρ S γ : Type} (o : Option (Fw ρ S)) (k : S → Option γ) (kr : ρ → Option γ) : Option γ := match o with
  | some (.nx s) => k s
  | some (.rt r) => kr r
  | some (.bk _) => none
  | none => none
theorem fwd_o {ρ S γ : Type} {o : Option (Fw ρ S)} {k : S → Option γ} {kr : ρ → Option γ} {x : γ} (h : fwd o k kr = some x) : ∃ w, o = some w ∧ (∀ s, w = .nx s → k s = some x) ∧ (∀ r, w = .rt r → kr r = some x) := by
  cases o with
  | none => cases h
  | some w =>
    refine ⟨w, rfl, fun s e => ?_, fun r e => ?_⟩
    · subst e; exact h
    · subst e; exact h
def grd (p : Prop) [Decidable p] : Option Unit := if p then some () else none
theorem grd_e {p : Prop} [Decidable p] {u : Unit} (h : grd p = some u) : p := by
  unfold grd at h
  by_cases hp : p
  · exact hp
  · rw [if_neg hp] at h; cases h
def appO {α : Type} (as : List α) (a : α) : Option (List α) := if (as ++ [a]).length ≤ limL then some (as ++ [a]) else none
def catO {α : Type} (as bs : List α) : Option (List α) := if (as ++ bs).length ≤ limL then some (as ++ bs) else none
def repO {α : Type} (as : List α) (n : Int) : Option (List α) := if ((List.replicate n.toNat as).flatten).length ≤ limL ∧ n < 2 ^ 61 ∧ -(2 ^ 61) ≤ n then some (List.replicate n.toNat as).flatten else none
def ixO {α : Type} (as : List α) (i : Int) : Option α := atI as i
def setO {α : Type} (as : List α) (i : Int) (a : α) : Option (List α) := (ixN as.length i).map fun m => as.set m a
theorem setO_e {α : Type} {as bs : List α} {i : Int} {a : α} (h : setO as i a = some bs) : ∃ m, ixN as.length i = some m ∧ as.set m a = bs := by
  unfold setO at h
  cases e : ixN as.length i with
  | none => rw [e] at h; cases h
  | some m => rw [e] at h; exact ⟨m, rfl, Option.some.inj h⟩
def mulO (i j : Int) : Option Int := if i.natAbs.log2 + j.natAbs.log2 < 4000000 then some (i * j) else none
def divO (i j : Int) : Option Int := if 0 < j ∧ j < 1073741824 then some (i / j) else none
def modO (i j : Int) : Option Int := if 0 < j then some (i % j) else none
def rngO (lo hi : Int) : Option (List Int) := if (-(2 ^ 61) ≤ lo ∧ lo < 2 ^ 61 ∧ -(2 ^ 61) ≤ hi ∧ hi < 2 ^ 61) ∧ (hi - lo).toNat ≤ limL then some (rng lo hi) else none

section
variable {α β γ : Type} {R : Rep α} {R' : Rep β} {Z : Bs} {D : Ends} {σ : L2.St} {F F1 : Hp} {O : Own} {ta tb tc te to : TE} {ts tt tu : TS} {A B C : Ar} {K : PySem.W.Frag} {i j : Int} {l m p : List Nat}
theorem o_mulO {c : Int} (h : mulO i j = some c) : Op2 xMul (val rInt i) (val rInt j) (val rInt c) := by
  obtain ⟨h1, h2⟩ := iteo h
  subst h2
  exact o_mul h1
theorem o_divO {c : Int} (h : divO i j = some c) : Op2 xDiv (val rInt i) (val rInt j) (val rInt c) := by
  obtain ⟨h1, h2⟩ := iteo h
  subst h2
  exact o_div h1
theorem o_modO {c : Int} (h : modO i j = some c) : Op2 xMod (val rInt i) (val rInt j) (val rInt c) := by
  obtain ⟨h1, h2⟩ := iteo h
  subst h2
  exact o_mod h1
theorem ei_rng1O {ta : TA} {n : Int} {as : List Int} (h : EvA ta σ F O [val rInt n]) (e : rngO 0 n = some as) : EvI (iRng1 ta) σ F O rInt as := by
  obtain ⟨h1, h2⟩ := iteo e
  subst h2
  refine ei_rng1 h (by omega) ?_
  have e9 : (limL : Int) = 4000000 := rfl
  have e8 : limL = 4000000 := rfl
  rw [e8] at h1
  omega
theorem ei_rng2O {ta : TA} {lo n : Int} {as : List Int} (h : EvA ta σ F O [val rInt lo, val rInt n]) (e : rngO lo n = some as) : EvI (iRng2 ta) σ F O rInt as := by
  obtain ⟨h1, h2⟩ := iteo e
  subst h2
  exact ei_rng2 h h1.1 h1.2

/-! ### text operators -/
def xCatS : R2 := fun x y H Q => ∃ i j, x = .str i ∧ y = .str j ∧ i.length + j.length ≤ sizeLine ∧ Q (.str (i ++ j)) H
def xRepS : R2 := fun x y H Q => ∃ a n, x = .str a ∧ y = .int n ∧ MulOk a n ∧ Q (.str (Txt.mul a n)) H
def xIn1 : R2 := fun x y H Q => ∃ (c : Nat) (z : Str), x = .str ⟨#[c]⟩ ∧ y = .str z ∧ Q (.bl (decide (c ∈ z.cps.toList))) H
def xNin1 : R2 := fun x y H Q => ∃ (c : Nat) (z : Str), x = .str ⟨#[c]⟩ ∧ y = .str z ∧ Q (.bl (!decide (c ∈ z.cps.toList))) H
def xInS : R2 := fun x y H Q => ∃ i j, x = .str i ∧ y = .str j ∧ Q (.bl (!(occurrences j i 0 j.length 1).isEmpty)) H
def xNinS : R2 := fun x y H Q => ∃ i j, x = .str i ∧ y = .str j ∧ Q (.bl (!(!(occurrences j i 0 j.length 1).isEmpty))) H
theorem op_xCatS {X : Cx} : OpR X (binaryOp .Add) xCatS := op_add_str
theorem op_xRepS {X : Cx} : OpR X (binaryOp .Mult) xRepS := by
  intro pins s σ H x y v u Q I rx ry h
  obtain ⟨a, n, rfl, rfl, hm, q⟩ := h
  obtain ⟨t, rfl⟩ := rx
  obtain ⟨t', rfl⟩ := ry
  exact SB.mul hm fun t2 k => ⟨.str _, H, I.tok k, ⟨t2, rfl⟩, q⟩
theorem op_xIn1 {X : Cx} : OpR X (compareOp .In) xIn1 := op_in_sign
theorem op_xNin1 {X : Cx} : OpR X (compareOp .NotIn) xNin1 := op_notIn_sign
theorem op_xInS {X : Cx} : OpR X (compareOp .In) xInS := op_in_str
theorem op_xNinS {X : Cx} : OpR X (compareOp .NotIn) xNinS := op_notIn_str
theorem cat_mk : (mk l ++ mk m) = mk (l ++ m) := by
  apply mk_of
  rw [Str.cps_append, Array.toList_append]
theorem okS_cat (h : OkS l) (k : OkS m) (e : (l ++ m).length ≤ lim) : OkS (l ++ m) := ⟨e, fun c z => (List.mem_append.mp z).elim (h.2 c) (k.2 c)⟩
theorem o_catS {c : List Nat} (h : catS l m = some c) : Op2 xCatS (val rS l) (val rS m) (val rS c) := fun v w F H Q e a b q => by
  obtain ⟨h1, h2⟩ := iteo h
  subst h2
  refine ⟨mk l, mk m, a.1, b.1, ?_, q _ F H (Gr.refl e) ⟨by rw [cat_mk], okS_cat a.2 b.2 h1⟩⟩
  rw [mk_len, mk_len]
  rw [List.length_append] at h1
  exact sz_line (sz_lim h1)
theorem foldl_app (a : Array Nat) : ∀ (n : Nat) (b : Array Nat), ((List.replicate n a).foldl (· ++ ·) b).toList = b.toList ++ (List.replicate n a.toList).flatten
  | 0, b => by simp
  | n + 1, b => by
    rw [List.replicate_succ, List.foldl_cons, foldl_app a n, List.replicate_succ, List.flatten_cons, Array.toList_append, List.append_assoc]
theorem mul_mk (n : Int) : Txt.mul (mk l) n = mk (List.replicate n.toNat l).flatten := by
  apply mk_of
  unfold Txt.mul
  by_cases h : n < 1
  · rw [if_pos h]
    have e : n.toNat = 0 := by omega
    rw [e]
    rfl
  · rw [if_neg h]
    by_cases h2 : (n == 1 || (mk l).length == 0) = true
    · rw [if_pos h2]
      rw [Bool.or_eq_true, beq_iff_eq, beq_iff_eq, mk_len] at h2
      rcases h2 with h2 | h2
      · subst h2
        simp
      · have e : l = [] := List.eq_nil_of_length_eq_zero h2
        subst e
        simp
    · rw [if_neg h2]
      show ((List.replicate n.toNat l.toArray).foldl (· ++ ·) #[]).toList = _
      rw [foldl_app]
      simp
theorem rep_len (n : Nat) : (List.replicate n l).flatten.length = n * l.length := by
  rw [List.length_flatten, List.map_replicate, sum_rep]
theorem mulOk_mk {n : Int} (h : (List.replicate n.toNat l).flatten.length ≤ lim ∧ n < 2 ^ 61 ∧ -(2 ^ 61) ≤ n) : MulOk (mk l) n := by
  obtain ⟨h1, h2, h3⟩ := h
  rw [rep_len] at h1
  refine ⟨?_, fun hn _ => ?_, fun hn _ => ?_⟩
  · rw [Bool.or_eq_false_iff]
    exact ⟨decide_eq_false (by omega), decide_eq_false (by omega)⟩
  · rw [mk_len]
    intro z
    have hp : (0 : Int) < n := by omega
    have h5 : ((l.length : Nat) : Int) ≤ (2 ^ 63 - 1) / n := by
      rw [Int.le_ediv_iff_mul_le hp]
      have h6 : ((n.toNat * l.length : Nat) : Int) ≤ (lim : Int) := Int.ofNat_le.mpr h1
      rw [Int.natCast_mul, Int.toNat_of_nonneg (by omega), Int.mul_comm] at h6
      have e9 : (lim : Int) = 1000000 := rfl
      omega
    omega
  · rw [mk_len]
    unfold tooLong
    apply decide_eq_false
    rw [Nat.mul_comm] at h1
    exact Nat.not_lt.mpr (sz_line (sz_lim h1))
theorem o_repS {n : Int} {c : List Nat} (h : repS l n = some c) : Op2 xRepS (val rS l) (val rInt n) (val rS c) := fun v w F H Q e a b q => by
  obtain ⟨h1, h2⟩ := iteo h
  subst h2
  refine ⟨mk l, n, a.1, b, mulOk_mk h1, q _ F H (Gr.refl e) ⟨by rw [mul_mk], h1.1, fun c z => ?_⟩⟩
  obtain ⟨x, hx, hc⟩ := List.mem_flatten.mp z
  rw [(List.mem_replicate.mp hx).2] at hc
  exact a.2.2 c hc
theorem o_in1 {c : Nat} : Op2 xIn1 (val rC c) (val rS l) (val rB (decide (c ∈ l))) := op_sc flB fun v w F H Q e a b q => ⟨c, mk l, a.1, b.1, q⟩
theorem o_nin1 {c : Nat} : Op2 xNin1 (val rC c) (val rS l) (val rB (!decide (c ∈ l))) := op_sc flB fun v w F H Q e a b q => ⟨c, mk l, a.1, b.1, q⟩
theorem o_inS : Op2 xInS (val rS p) (val rS l) (val rB (inS p l)) := op_sc flB fun v w F H Q e a b q => ⟨mk p, mk l, a.1, b.1, by rw [in_mk]; exact q⟩
theorem o_ninS : Op2 xNinS (val rS p) (val rS l) (val rB (!inS p l)) := op_sc flB fun v w F H Q e a b q => ⟨mk p, mk l, a.1, b.1, by rw [in_mk]; exact q⟩
theorem o_catLO {as bs cs : List α} (h : catO as bs = some cs) : Op2N rCat (spn R as) (spn R bs) R cs := by
  obtain ⟨h1, h2⟩ := iteo h
  subst h2
  exact o_catL h1
theorem o_repLO {as cs : List α} {n : Int} (h : repO as n = some cs) : Op2N rRep (spn R as) (val rInt n) R cs := by
  obtain ⟨h1, h2⟩ := iteo h
  subst h2
  exact o_repL (by omega) (by omega) h1.1

/-! ### methods of texts -/
abbrev RM := V → List V → Hp → VK → Prop
def Cm (r : RM) (l : List Nat) (as : List Ar) (C : Ar) : Prop := ∀ vs F H (Q : VK), OkS l → Same F H → AllA as vs F H → (∀ u F' H', Gr F H F' H' → C.p u F' H' → Q u H') → r (.str (mk l)) vs H Q
def CmN {α : Type} (r : RM) (l : List Nat) (as : List Ar) (R : Rep α) (bs : List α) : Prop := ∀ vs F H (Q : VK), OkS l → Same F H → AllA as vs F H →
  (∀ p xs F' H', Gr F H F' H' → H p = none → F' p = none → H' p = some (.lst xs) → AllB R bs xs F' → Q (.ref p) H') → r (.str (mk l)) vs H Q
theorem ev_m {r : RM} {ta : TA} {as : List Ar} (ho : Ev to σ F O (val rS l)) (ha : EvA ta σ F O as) (hr : Cm r l as C) : Ev (tBM K "str" r to ta) σ F O C := fun H k Q q =>
  ho H k _ fun v F1 H1 g1 a => by
    have a1 : v = .str (mk l) := a.1
    subst a1
    exact ⟨rfl, (ha.mono g1.f) H1 (k.gr g1) _ fun vs F2 H2 g2 b => hr vs F2 H2 Q a.2 g2.fh b fun u F3 H3 g3 c => q u F3 H3 ((g1.trans g2).trans g3) c⟩
theorem ev_mN {r : RM} {ta : TA} {as : List Ar} {bs : List α} (ho : Ev to σ F O (val rS l)) (ha : EvA ta σ F O as) (hr : CmN r l as R bs) : EvN (tBM K "str" r to ta) σ F O R bs := fun H k Q q =>
  ho H k _ fun v F1 H1 g1 a => by
    have a1 : v = .str (mk l) := a.1
    subst a1
    exact ⟨rfl, (ha.mono g1.f) H1 (k.gr g1) _ fun vs F2 H2 g2 b => hr vs F2 H2 Q a.2 g2.fh b fun p xs F3 H3 g3 n f x c => q p xs F3 H3 ((g1.trans g2).trans g3) (gr_none (g1.trans g2) n) f x c⟩
theorem ev_m0 {r : RM} (ho : Ev to σ F O (val rS l)) (hr : Cm r l [] C) : Ev (tBM0 K "str" r to) σ F O C := fun H k Q q =>
  ho H k _ fun v F1 H1 g1 a => by
    have a1 : v = .str (mk l) := a.1
    subst a1
    exact ⟨rfl, hr [] F1 H1 Q a.2 g1.fh trivial fun u F3 H3 g3 c => q u F3 H3 (g1.trans g3) c⟩
def mStarts : RM := fun x xs H Q => ∃ a b, x = .str a ∧ xs = [.str b] ∧ Q (.bl (Txt.startswith a b)) H
def mEnds : RM := fun x xs H Q => ∃ a b, x = .str a ∧ xs = [.str b] ∧ Q (.bl (Txt.endswith a b)) H
def mFind : RM := fun x xs H Q => ∃ a b, x = .str a ∧ xs = [.str b] ∧ Q (.int (Txt.find a b)) H
def mFind3 : RM := fun x xs H Q => ∃ (a b : Str) (i : Int), x = .str a ∧ xs = [.str b, .int i] ∧ Q (.int (Txt.find3 a b i)) H
def mSplit : RM := fun x xs H Q => ∃ a b, x = .str a ∧ xs = [.str b] ∧ (b.length == 0) = false ∧ a.length + 2 ≤ sizeLine ∧ rNewStrs (Txt.split a b) H Q
def mPart : RM := fun x xs H Q => ∃ a b, x = .str a ∧ xs = [.str b] ∧ (b.length == 0) = false ∧ a.length ≤ sizeLine ∧ ∀ p, H p = none → Q (.ref p) (upd H p (.tup [.str (Txt.partition a b).1, .str (Txt.partition a b).2.1, .str (Txt.partition a b).2.2]))
def mJoin (K : PySem.W.Frag) : RM := fun x xs H Q => ∃ a p, ∃ ys : List Str, x = .str a ∧ xs = [.ref p] ∧ (SqL K H p (ys.map V.str) ∨ SqT K H p (ys.map V.str)) ∧ (ys.map (·.length)).sum + ys.length * a.length ≤ 16777216 ∧ Q (.str (Txt.join a ys)) H
def mStrip : RM := fun x xs H Q => ∃ a b, x = .str a ∧ xs = [.str b] ∧ a.length ≤ sizeLine ∧ Q (.str (Txt.stripChars a b)) H
def mLstrip : RM := fun x xs H Q => ∃ a b, x = .str a ∧ xs = [.str b] ∧ a.length ≤ sizeLine ∧ Q (.str (Txt.lstripChars a b)) H
def mRstrip : RM := fun x xs H Q => ∃ a b, x = .str a ∧ xs = [.str b] ∧ a.length ≤ sizeLine ∧ Q (.str (Txt.rstripChars a b)) H
def mLower : RM := fun x xs H Q => ∃ a, x = .str a ∧ xs = [] ∧ a.length ≤ 5592405 ∧ Q (.str (Txt.lower a)) H
theorem mt_mStarts {X : Cx} : MtR X "str.startswith" mStarts := mt_startswith
theorem mt_mEnds {X : Cx} : MtR X "str.endswith" mEnds := mt_endswith
theorem mt_mFind {X : Cx} : MtR X "str.find" mFind := mt_find
theorem mt_mFind3 {X : Cx} : MtR X "str.find" mFind3 := mt_find3
theorem mt_mSplit {X : Cx} : MtR X "str.split" mSplit := mt_split
theorem mt_mPart {X : Cx} : MtR X "str.partition" mPart := mt_partition
theorem mt_mJoin {X : Cx} : MtR X "str.join" (mJoin X.K) := mt_join
theorem mt_mStrip {X : Cx} : MtR X "str.strip" mStrip := mt_stripChars
theorem mt_mLstrip {X : Cx} : MtR X "str.lstrip" mLstrip := mt_lstripChars
theorem mt_mRstrip {X : Cx} : MtR X "str.rstrip" mRstrip := mt_rstripChars
theorem mt_mLower {X : Cx} : MtR X "str.lower" mLower := mt_lower
theorem m_starts : Cm mStarts l [val rS m] (val rB (startsS l m)) := fun vs F H Q k e a q => by
  obtain ⟨v, rfl, b⟩ := alla1 a
  exact ⟨mk l, mk m, rfl, by rw [show v = .str (mk m) from b.1], by rw [starts_mk]; exact q _ F H (Gr.refl e) rfl⟩
theorem m_ends : Cm mEnds l [val rS m] (val rB (endsS l m)) := fun vs F H Q k e a q => by
  obtain ⟨v, rfl, b⟩ := alla1 a
  exact ⟨mk l, mk m, rfl, by rw [show v = .str (mk m) from b.1], by rw [ends_mk]; exact q _ F H (Gr.refl e) rfl⟩
theorem m_find : Cm mFind l [val rS m] (val rInt (optI (findL m 0 l))) := fun vs F H Q k e a q => by
  obtain ⟨v, rfl, b⟩ := alla1 a
  exact ⟨mk l, mk m, rfl, by rw [show v = .str (mk m) from b.1], by rw [find_mk]; exact q _ F H (Gr.refl e) rfl⟩
theorem m_find3 : Cm mFind3 l [val rS m, val rInt i] (val rInt (findS l m i)) := fun vs F H Q k e a q => by
  obtain ⟨v, w, rfl, b, c⟩ := alla2 a
  exact ⟨mk l, mk m, i, rfl, by rw [show v = .str (mk m) from b.1, show w = .int i from c], by rw [find3_mk]; exact q _ F H (Gr.refl e) rfl⟩
theorem m_lstrip : Cm mLstrip l [val rS m] (val rS (lstripS l m)) := fun vs F H Q k e a q => by
  obtain ⟨v, rfl, b⟩ := alla1 a
  exact ⟨mk l, mk m, rfl, by rw [show v = .str (mk m) from b.1], by rw [mk_len]; exact sz_line (sz_lim k.1), by rw [lstrip_mk]; exact q _ F H (Gr.refl e) ⟨rfl, okS_lstrip k⟩⟩
theorem m_rstrip : Cm mRstrip l [val rS m] (val rS (rstripS l m)) := fun vs F H Q k e a q => by
  obtain ⟨v, rfl, b⟩ := alla1 a
  exact ⟨mk l, mk m, rfl, by rw [show v = .str (mk m) from b.1], by rw [mk_len]; exact sz_line (sz_lim k.1), by rw [rstrip_mk]; exact q _ F H (Gr.refl e) ⟨rfl, okS_rstrip k⟩⟩
theorem m_strip : Cm mStrip l [val rS m] (val rS (stripS l m)) := fun vs F H Q k e a q => by
  obtain ⟨v, rfl, b⟩ := alla1 a
  exact ⟨mk l, mk m, rfl, by rw [show v = .str (mk m) from b.1], by rw [mk_len]; exact sz_line (sz_lim k.1), by rw [strip_mk]; exact q _ F H (Gr.refl e) ⟨rfl, okS_strip k⟩⟩
theorem m_lower : Cm mLower l [] (val rS (lowerS l)) := fun vs F H Q k e a q => by
  cases vs with
  | nil => exact ⟨mk l, rfl, rfl, by rw [mk_len]; exact Nat.le_trans k.1 (by decide), by rw [lower_mk k.2]; exact q _ F H (Gr.refl e) ⟨rfl, okS_lower k⟩⟩
  | cons v vs => exact a.elim
theorem m_split {c : Nat} (hc : c < 128) : CmN mSplit l [val rS [c]] rS (splitC c [] l) := fun vs F H Q k e a q => by
  obtain ⟨v, rfl, b⟩ := alla1 a
  refine ⟨mk l, mk [c], rfl, by rw [show v = .str (mk [c]) from b.1], rfl, ?_, fun p hp => ?_⟩
  · rw [mk_len]
    have h1 : l.length ≤ 1000000 := k.1
    exact Nat.le_trans (Nat.add_le_add_right h1 2) (by decide)
  · rw [split_mk hc]
    refine new_post e ⟨All2.of_strs _ (okS_split k), ?_⟩ q p hp
    have := splitC_len c l []
    have h1 : l.length ≤ 1000000 := k.1
    exact Nat.le_trans this (Nat.le_trans (Nat.add_le_add_right h1 1) (by decide))
theorem m_part (hm : m ≠ []) : Cm mPart l [val rS m] (val (rT3 rS rS rS) (partS l m)) := fun vs F H Q k e a q => by
  obtain ⟨v, rfl, b⟩ := alla1 a
  have b2 : v = .str (mk m) ∧ OkS m := b
  refine ⟨mk l, mk m, rfl, by rw [b2.1], ?_, by rw [mk_len]; exact sz_line (sz_lim k.1), fun p hp => ?_⟩
  · rw [mk_len]
    rw [beq_eq_false_iff_ne]
    intro z
    exact hm (List.eq_nil_of_length_eq_zero z)
  · rw [part_mk hm]
    obtain ⟨k1, k2, k3⟩ := okS_part k b2.2
    exact q _ _ _ (Gr.frz e hp) ⟨p, _, _, _, rfl, upd_same, ⟨rfl, k1⟩, ⟨rfl, k2⟩, ⟨rfl, k3⟩⟩
theorem okS_join {ps : List (List Nat)} (hs : OkS l) (h : ∀ p ∈ ps, OkS p) (e : (joinS l ps).length ≤ lim) : OkS (joinS l ps) := ⟨e, fun c z => by
  rcases joinS_mem l ps c z with h1 | ⟨p, h1, h2⟩
  · exact hs.2 c h1
  · exact (h p h1).2 c h2⟩
theorem m_join {ps : List (List Nat)} {c : List Nat} (h : joinO l ps = some c) : Cm (mJoin K) l [spn rS ps] (val rS c) := fun vs F H Q k e a q => by
  obtain ⟨h1, h2⟩ := iteo h
  subst h2
  obtain ⟨v, rfl, p, xs, ev, hp, hx⟩ := alla1 a
  subst ev
  refine ⟨mk l, p, ps.map mk, rfl, rfl, Or.inl ?_, ?_, by rw [join_mk]; exact q _ F H (Gr.refl e) ⟨rfl, okS_join k hx.all.oks h1⟩⟩
  · rw [← hx.all.strs]
    exact sq_of hp
  · have h2 := joinS_len l ps
    rw [List.map_map, List.length_map, mk_len]
    have e1 : (fun (x : Str) => x.length) ∘ mk = List.length := by
      funext z
      exact mk_len z
    rw [e1]
    have h3 : (joinS l ps).length ≤ 1000000 := h1
    have h4 : l.length ≤ 1000000 := k.1
    omega

/-! ### ways that meet -/
/-- a statement whose ways all end in J, then the rest -/
theorem sx_join {S : Type} (J : S → L2.St → Hp → Own → Prop) (s : S) (h2 : ∀ σ' F' O', Same F F' → J s σ' F' O' → Sx Z tu D σ' F' O')
    (h1 : (∀ σ' F' O', Same F F' → J s σ' F' O' → Nx Z { D with nx := tu D } σ' F' O') → Sx Z tt { D with nx := tu D } σ F O) : Sx Z (tSeq tt tu) D σ F O := h1 h2
/-! ### several targets, a def's end -/
theorem sx_asg2 {a : α} {b : β} {n k : Nat} (h : Ev te σ F O (val (rT2 R R') (a, b))) (q : ∀ v w F', Same F F' → R.rp a v F' → R'.rp b w F' → Nx Z D ((σ.set n (some v)).set k (some w)) F' O) : Sx Z (tAsg te (gTup K 2 (gCons (gName n) (gCons (gName k) gNil)))) D σ F O := fun H at0 =>
  h H at0.ok _ fun x F' H' g r => tg_2 (K := K) (a, b) x σ F' H' _ r g.fh fun σ' ⟨v, w, e, h1, h2⟩ => by
    subst e
    exact q v w F' g.f h1 h2 H' (at0.gr g)
theorem sx_asg3 {a : α} {b : β} {c : γ} {R'' : Rep γ} {n k j : Nat} (h : Ev te σ F O (val (rT3 R R' R'') (a, b, c))) (q : ∀ v w x F', Same F F' → R.rp a v F' → R'.rp b w F' → R''.rp c x F' → Nx Z D (((σ.set n (some v)).set k (some w)).set j (some x)) F' O) :
    Sx Z (tAsg te (gTup K 3 (gCons (gName n) (gCons (gName k) (gCons (gName j) gNil))))) D σ F O := fun H at0 =>
  h H at0.ok _ fun x F' H' g r => tg_3 (K := K) (a, b, c) x σ F' H' _ r g.fh fun σ' ⟨v, w, y, e, h1, h2, h3⟩ => by
    subst e
    exact q v w y F' g.f h1 h2 h3 H' (at0.gr g)
theorem rt_val {v : V} {Q : VK} {nx : L2.St → Hp → Prop} {F0 H0 : Hp} (k : ∀ v F' H', Gr F0 H0 F' H' → C.p v F' H' → Q v H') (h : ∀ H, C.p v F H) : Rt ⟨F0, H0⟩ { nx := nx, rt := Q } v F O := fun H a => k v F H a.done (h H)
theorem rt_own {p : Addr} {xs : List V} {bs : List α} {Q : VK} {nx : L2.St → Hp → Prop} {F0 H0 : Hp} (k : ∀ p xs F' H', Gr F0 H0 F' H' → H0 p = none → F' p = none → H' p = some (.lst xs) → AllB R bs xs F' → Q (.ref p) H')
    (m : (p, HO.lst xs) ∈ O) (h : AllB R bs xs F) : Rt ⟨F0, H0⟩ { nx := nx, rt := Q } (.ref p) F O := fun H a => k p xs F H a.done (a.ob _ m) (a.ok.own _ m).1 (a.ok.own _ m).2 h
/-- an owned list is frozen, wherever it stands -/
theorem At.frzI {n : Nat} {H : Hp} {p : Addr} {o : HO} (k : At Z F O H) (h : O[n]? = some (p, o)) : At Z (upd F p o) (O.eraseIdx n) H := by
  have hm := List.mem_of_getElem? h
  have hp := k.ok.own (p, o) hm
  have hn := (List.getElem?_eq_some_iff.mp h)
  have sub : ∀ q ∈ O.eraseIdx n, q ∈ O := fun q m => (List.eraseIdx_sublist O n).subset m
  have ne : ∀ q ∈ O.eraseIdx n, q.1 ≠ p := fun q m z => by
    obtain ⟨j, hj, e1⟩ := List.mem_eraseIdx_iff_getElem?.mp m
    have a1 : (O.map (·.1))[n]? = some p := by rw [List.getElem?_map, h]; rfl
    have a2 : (O.map (·.1))[j]? = some p := by rw [List.getElem?_map, e1, ← z]; rfl
    have l1 := (List.getElem?_eq_some_iff.mp a1)
    have l2 := (List.getElem?_eq_some_iff.mp a2)
    exact hj ((List.getElem_inj k.nd).mp (l2.2.trans l1.2.symm))
  refine ⟨⟨fun a u e => ?_, fun q m => ?_⟩, k.b, k.f0.trans (same_new hp.1), fun a h1 h2 => ?_, fun q m => k.ob q (sub q m), k.nd.sublist ((List.eraseIdx_sublist O n).map _)⟩
  · by_cases z : a = p
    · subst z; rw [upd_same] at e; cases e; exact hp.2
    · rw [upd_ne z] at e; exact k.ok.ex a u e
  · have h1 := k.ok.own q (sub q m)
    exact ⟨by rw [upd_ne (ne q m)]; exact h1.1, h1.2⟩
  · rw [upd_ne (fun z => h2 (by rw [z]; exact k.ob (p, o) hm))]
    exact k.sep a h1 h2
theorem sx_frzI {n : Nat} {p : Addr} {o : HO} (h : O[n]? = some (p, o)) (k : F p = none → Sx Z ts D σ (upd F p o) (O.eraseIdx n)) : Sx Z ts D σ F O := fun H a => k (a.ok.own _ (List.mem_of_getElem? h)).1 H (a.frzI h)
theorem nx_frzI {n : Nat} {p : Addr} {o : HO} (h : O[n]? = some (p, o)) (k : F p = none → Nx Z D σ (upd F p o) (O.eraseIdx n)) : Nx Z D σ F O := fun H a => k (a.ok.own _ (List.mem_of_getElem? h)).1 H (a.frzI h)
end
end Lm
/-! Lm: the text's defs. -/
namespace Lm
open PySem PySem.Spec PyProof.Rows L2
/-- a def of the text, as the top has left it -/
structure Df (K : PySem.W.Frag) (mg : Str → Option Value) (x : Str) (st : Stmt) : Prop where
  ex : ∃ f fd, FunD K x x (defArgs st) (defBody st) (defScope st) [] [] f fd ∧ mg x = some (.ref f)
/-- a def that keeps a promise, to be called by its name -/
structure Cal (P : Program) (w : World) (K : PySem.W.Frag) (mg : Str → Option Value) (base : Heap) (k : Nat) (x : Str) (ps : List Str) (sp : Sp) : Prop where
  ex : ∃ f fd, FnOk P w K mg base CX0 k f fd ps sp ∧ mg x = some (.ref f) ∧ PySem.W.keepIn K (.ref f) = true ∧ Binds K fd ps [] ∧ (∀ (s : Shared) (us : List Value), us.length = ps.length → BindsTo s fd ⟨us, []⟩ (ps.zip us)) ∧ ∃ oc od osl, K.lookup f = some ⟨oc, od, .func fd, osl⟩
section
variable {X : Cx} {k : Nat} {ps : List Str} {sp : Sp} {x : Str} {p pos : Pos} {e : Expr} {es : List Expr} {t : TA}
theorem pe_cal (c : Cal X.prog X.w X.K X.mg X.base k x ps sp) (hr : Room k X.A) (hg : Gl X x) (ha : PA X (e :: es) t) (hdb : (x == ("__debug__" : Str)) = false := by decide)
    (he : starEach (e :: es) X.env = (false, eval e X.env) :: starEach es X.env := by rfl) (hpl : (backTo pos (starEach es X.env)).any (·.1) = false := by rfl) : PE X (.Call (.Name x p) (e :: es) [] pos) (tCall sp [] E0 t) := by
  obtain ⟨f, fd, F, hm, hk, hb, _⟩ := c.ex
  exact pe_call F hr hg hm hk hb .nil pass0 ha hdb he hpl
theorem pe_cal0 (c : Cal X.prog X.w X.K X.mg X.base k x ps sp) (hr : Room k X.A) (hg : Gl X x) (hdb : (x == ("__debug__" : Str)) = false := by decide) : PE X (.Call (.Name x p) [] [] pos) (tCall sp [] E0 tNil) := by
  obtain ⟨f, fd, F, hm, hk, hb, _⟩ := c.ex
  exact pe_call0 F hr hg hm hk hb .nil pass0 hdb
end
/-- the body of a def keeps its promise -/
theorem cal_of {P : Program} {w : World} {K : PySem.W.Frag} {mg : Str → Option Value} {base : Heap} {k : Nat} {x : Str} {st : Stmt} {N ps : List Str} {sp : Sp} (D : Df K mg x st) (S : FnScope N ps (defScope st))
    (hb : ∀ (kV doc pm : Value) (an : Option Addr) (cdv ct : Value) (us : List Value), us.length = ps.length → bindArgs (PySem.W.fnOf x x (defArgs st) (defBody st) (defScope st) .none kV doc pm an cdv ct) ⟨us, []⟩ = pure (ps.zip us))
    (len : ∀ vs H Q E, sp vs H Q E → vs.length = ps.length)
    (body : ∀ (f : Addr) (cdv : Value) (A : Around) (outer : List Env) (s : Shared) (H : Hp) (vs : List V) (Q : VK) (E : XK), Room k (A.deeper (envOfC x (defScope st) s.heap.objs.size f cdv)) → sp vs H Q E →
      ∃ t, PSs (cxOf CX0 P w K mg base N x (defScope st) f cdv A outer s H E).nox (defBody st) t ∧ t { nx := fun _ H' => Q .non H', rt := Q } (start N vs) H) :
    Cal P w K mg base (k + 1) x ps sp := by
  obtain ⟨f, fd, F, hm⟩ := D.ex
  exact ⟨f, fd, F.ok S len (fun cdv A outer s H vs Q E hr h => (body f cdv A outer s H vs Q E hr h).elim fun t z => ⟨t, z.1.nox, z.2⟩), hm, F.kp, F.bindsN hb, F.bindsA hb, by
    obtain ⟨oc, od, dV, kV, doc, pm, an, cdv, ct, osl, _, lk, _, _, _⟩ := F.ex
    exact ⟨oc, od, osl, lk⟩⟩
/-- the law's own def, as the end of a head asks it -/
theorem fin_of {P : Program} {w : World} {K : PySem.W.Frag} {mg : Str → Option Value} {k : Nat} {x a : Str} {sp : Sp} {fa : Addr} (hfa : mg x = some (.ref fa)) (base0 : Heap) (c : ∀ base : Heap, Cal P w K mg base k x [a] sp) :
    ∃ fd : FuncData, (∀ (s : Shared) (v : Value), BindsTo s fd ⟨[v], []⟩ [(a, v)]) ∧ ∀ base : Heap, FnOk P w K mg base CX0 k fa fd [a] sp := by
  obtain ⟨f, fd, F, hm, hk, hb, hA, oc, od, osl, lk⟩ := (c base0).ex
  have e : fa = f := by rw [hfa] at hm; cases hm; rfl
  subst e
  refine ⟨fd, fun s v => hA s [v] rfl, fun base => ?_⟩
  obtain ⟨f2, fd2, F2, hm2, _, _, _, oc2, od2, osl2, lk2⟩ := (c base).ex
  have e2 : fa = f2 := by rw [hfa] at hm2; cases hm2; rfl
  subst e2
  rw [lk] at lk2
  cases lk2
  exact F2
end Lm
/-! Lm: data of any shape, more tests. -/
namespace Lm
open PySem PySem.Spec L2
mutual
def rpD : PyData → V → Hp → Prop
  | .none, v, _ => v = .non
  | .bool b, v, _ => v = .bl b
  | .int i, v, _ => v = .int i
  | .str x, v, _ => v = .str x ∧ OkS x.cps.toList
  | .list ds, v, F => ∃ p xs, v = .ref p ∧ F p = some (.lst xs) ∧ rpDs ds xs F ∧ ds.length ≤ limL
  | .tuple ds, v, F => ∃ p xs, v = .ref p ∧ F p = some (.tup xs) ∧ rpDs ds xs F ∧ ds.length ≤ limL
  | .dict kvs, v, F => kvs = [] ∧ ∃ p, v = .ref p ∧ F p = some (.dK [])
def rpDs : List PyData → List V → Hp → Prop
  | [], vs, _ => vs = []
  | d :: ds, vs, F => ∃ v ws, vs = v :: ws ∧ rpD d v F ∧ rpDs ds ws F
end
mutual
theorem rpD_mono {F F' : Hp} (e : Same F F') : ∀ (d : PyData) (v : V), rpD d v F → rpD d v F'
  | .none, _, h => h
  | .bool _, _, h => h
  | .int _, _, h => h
  | .str _, _, h => h
  | .list ds, _, ⟨p, xs, h1, h2, h3, h4⟩ => ⟨p, xs, h1, e _ _ h2, rpDs_mono e ds xs h3, h4⟩
  | .tuple ds, _, ⟨p, xs, h1, h2, h3, h4⟩ => ⟨p, xs, h1, e _ _ h2, rpDs_mono e ds xs h3, h4⟩
  | .dict _, _, ⟨h0, p, h1, h2⟩ => ⟨h0, p, h1, e _ _ h2⟩
theorem rpDs_mono {F F' : Hp} (e : Same F F') : ∀ (ds : List PyData) (vs : List V), rpDs ds vs F → rpDs ds vs F'
  | [], _, h => h
  | d :: ds, _, ⟨v, ws, h1, h2, h3⟩ => ⟨v, ws, h1, rpD_mono e d v h2, rpDs_mono e ds ws h3⟩
end
def rD : Rep PyData := ⟨rpD, fun e h => rpD_mono e _ _ h⟩
theorem rpDs_all {F : Hp} : ∀ {ds : List PyData} {vs : List V}, rpDs ds vs F ↔ All2 rD ds vs F
  | [], [] => by simp [rpDs, All2]
  | [], _ :: _ => by simp [rpDs, All2]
  | d :: ds, [] => by simp [rpDs, All2]
  | d :: ds, v :: vs => by
    constructor
    · rintro ⟨w, ws, e, h1, h2⟩
      cases e
      exact ⟨h1, rpDs_all.mp h2⟩
    · rintro ⟨h1, h2⟩
      exact ⟨v, vs, rfl, h1, rpDs_all.mpr h2⟩
/-- how a kind is told as data -/
structure Enc {α : Type} (R : Rep α) (f : α → PyData) : Prop where
  to : ∀ {a v F}, R.rp a v F → rpD (f a) v F
def encS (l : List Nat) : PyData := .str (mk l)
def encC (c : Nat) : PyData := .str (mk [c])
theorem okS_one {c : Nat} (h : c < 128) : OkS [c] := ⟨by show 1 ≤ lim; decide, fun d m => by rw [List.mem_singleton.mp m]; exact h⟩
theorem eI : Enc rInt PyData.int := ⟨fun h => h⟩
theorem eB : Enc rB PyData.bool := ⟨fun h => h⟩
theorem eS : Enc rS encS := ⟨fun h => h⟩
theorem eC : Enc rC encC := ⟨fun h => ⟨h.1, okS_one h.2⟩⟩
theorem eN : Enc rN (fun _ => PyData.none) := ⟨fun h => h⟩
theorem eD : Enc rD id := ⟨fun h => h⟩
section
variable {α β γ : Type} {R : Rep α} {R' : Rep β} {R'' : Rep γ} {f : α → PyData} {g : β → PyData} {k : γ → PyData}
theorem all_enc (h : Enc R f) {F : Hp} : ∀ {as : List α} {vs : List V}, All2 R as vs F → All2 rD (as.map f) vs F
  | [], [], _ => trivial
  | _ :: _, _ :: _, q => ⟨h.to q.1, all_enc h q.2⟩
  | [], _ :: _, q => q.elim
  | _ :: _, [], q => q.elim
theorem eL (h : Enc R f) : Enc (rL R) (fun as => PyData.list (as.map f)) := ⟨fun ⟨p, xs, h1, h2, h3⟩ => ⟨p, xs, h1, h2, rpDs_all.mpr (all_enc h h3.all), by rw [List.length_map]; exact h3.len⟩⟩
theorem eTL (h : Enc R f) : Enc (rTL R) (fun as => PyData.tuple (as.map f)) := ⟨fun ⟨p, xs, h1, h2, h3⟩ => ⟨p, xs, h1, h2, rpDs_all.mpr (all_enc h h3.all), by rw [List.length_map]; exact h3.len⟩⟩
theorem eT2 (h : Enc R f) (h' : Enc R' g) : Enc (rT2 R R') (fun t => PyData.tuple [f t.1, g t.2]) := ⟨fun ⟨p, x, y, h1, h2, h3, h4⟩ => ⟨p, [x, y], h1, h2, ⟨x, [y], rfl, h.to h3, y, [], rfl, h'.to h4, rfl⟩, by show 2 ≤ limL; decide⟩⟩
theorem eT3 (h : Enc R f) (h' : Enc R' g) (h'' : Enc R'' k) : Enc (rT3 R R' R'') (fun t => PyData.tuple [f t.1, g t.2.1, k t.2.2]) := ⟨fun ⟨p, x, y, z, h1, h2, h3, h4, h5⟩ => ⟨p, [x, y, z], h1, h2, ⟨x, [y, z], rfl, h.to h3, y, [z], rfl, h'.to h4, z, [], rfl, h''.to h5, rfl⟩, by show 3 ≤ limL; decide⟩⟩
def encO (f : α → PyData) : Option α → PyData
  | none => .none
  | some a => f a
theorem eO (h : Enc R f) : Enc (rO R) (encO f) := ⟨fun {o} {v} {F} q => by
  cases o with
  | none => exact q
  | some a => exact h.to q.1⟩
end

section
variable {α β γ : Type} {R : Rep α} {R' : Rep β} {f : α → PyData} {g : β → PyData} {σ : L2.St} {F F1 : Hp} {O : Own} {ta tb tc te : TE} {tt tu : TT} {A B C : Ar} {K : PySem.W.Frag} {i j : Int} {d e : PyData}
theorem ev_d {a : α} (h : Enc R f) (hv : Ev te σ F O (val R a)) : Ev te σ F O (val rD (f a)) := fun H k Q q => hv H k Q fun v F' H' g r => q v F' H' g (h.to r)
theorem ev_tupD {ta : TA} {ds : List PyData} (h : EvA ta σ F O (AllV rD ds)) (hl : ds.length ≤ limL) : Ev (tTup ta) σ F O (val rD (.tuple ds)) := fun H k Q q =>
  (ev_tupL h hl) H k Q fun v F' H' g ⟨p, xs, h1, h2, h3⟩ => q v F' H' g ⟨p, xs, h1, h2, rpDs_all.mpr h3.all, h3.len⟩
def ixD (d : PyData) (i : Int) : Option PyData := match d with
  | .tuple ds => atI ds i
  | _ => none
theorem o_ixD {c : PyData} (h : ixD d i = some c) : Op2 (rIxT K) (val rD d) (val rInt i) (val rD c) := fun v w F H Q k a b q => by
  cases d with
  | tuple ds =>
    obtain ⟨p, xs, ev, hp, hx, hl⟩ := a
    obtain ⟨y, e1, r⟩ := atI_get (rpDs_all.mp hx) h
    exact ⟨p, xs, i, y, ev, b, st_of (k _ _ hp), e1, q y F H (Gr.refl k) r⟩
  | _ => cases h
/-- data known to be a text, an int -/
def asS : PyData → Option (List Nat)
  | .str x => some x.cps.toList
  | _ => none
def asI : PyData → Option Int
  | .int i => some i
  | _ => none
theorem ev_asS {l : List Nat} (h : asS d = some l) (hv : Ev te σ F O (val rD d)) : Ev te σ F O (val rS l) := fun H k Q q => hv H k Q fun v F' H' g r => q v F' H' g (by
  cases d with
  | str x =>
    have h2 : x.cps.toList = l := Option.some.inj h
    subst h2
    exact ⟨by rw [r.1], r.2⟩
  | _ => cases h)
theorem ev_asI (h : asI d = some i) (hv : Ev te σ F O (val rD d)) : Ev te σ F O (val rInt i) := fun H k Q q => hv H k Q fun v F' H' g r => q v F' H' g (by
  cases d with
  | int x =>
    have h2 : x = i := Option.some.inj h
    subst h2
    exact r
  | _ => cases h)
def isND : PyData → Bool
  | .none => true
  | _ => false
theorem nonD {v : V} {F : Hp} (h : rpD d v F) : decide (v = .non) = isND d := by
  cases d with
  | none => exact decide_eq_true h
  | bool b => have e : v = .bl b := h; subst e; rfl
  | int b => have e : v = .int b := h; subst e; rfl
  | str x => rw [h.1]; rfl
  | list ds => obtain ⟨p, xs, h1, _⟩ := h; rw [h1]; rfl
  | tuple ds => obtain ⟨p, xs, h1, _⟩ := h; rw [h1]; rfl
  | dict ds => obtain ⟨_, p, h1, _⟩ := h; rw [h1]; rfl
theorem o_isD : Op2 xIsN (val rD d) (val rN ()) (val rB (isND d)) := op_sc flB fun v w _ _ Q _ a b q => ⟨b, by rw [nonD a]; exact q⟩
theorem o_notD : Op2 xNotN (val rD d) (val rN ()) (val rB (!isND d)) := op_sc flB fun v w _ _ Q _ a b q => ⟨b, by rw [nonD a]; exact q⟩
/- == of data -/
mutual
theorem rpD_Dp {F H : Hp} (e : Same F H) : ∀ (d : PyData) (v : V), d.canLay0 = true → rpD d v F → Dp K H v d
  | .none, _, _, h => by have h2 : _ = V.non := h; subst h2; exact .non
  | .bool b, _, _, h => by have h2 : _ = V.bl b := h; subst h2; exact .bl b
  | .int b, _, _, h => by have h2 : _ = V.int b := h; subst h2; exact .int b
  | .str x, _, _, h => by rw [h.1]; exact .str x
  | .list ds, _, c, ⟨p, xs, h1, h2, h3, h4⟩ => by rw [h1]; exact .lst (sq_of (e _ _ h2)) (rpD_DpAll e ds xs c h3)
  | .tuple ds, _, c, ⟨p, xs, h1, h2, h3, h4⟩ => by rw [h1]; exact .tup (st_of (e _ _ h2)) (rpD_DpAll e ds xs c h3)
  | .dict _, _, c, _ => by cases c
theorem rpD_DpAll {F H : Hp} (e : Same F H) : ∀ (ds : List PyData) (vs : List V), PyData.canLayAll0 ds = true → rpDs ds vs F → DpAll K H vs ds
  | [], _, _, h => by have h2 : _ = [] := h; subst h2; exact .nil
  | d :: ds, _, c, ⟨v, ws, h1, h2, h3⟩ => by
    subst h1
    have c2 : (d.canLay0 && PyData.canLayAll0 ds) = true := c
    rw [Bool.and_eq_true] at c2
    exact .cons (rpD_Dp e d v c2.1 h2) (rpD_DpAll e ds ws c2.2 h3)
end
/-- data on one side of == : a value, a list's spine -/
structure Dt (K : PySem.W.Frag) (A : Ar) (d : PyData) : Prop where
  dp : ∀ {v F H}, Same F H → A.p v F H → Dp K H v d
  sh : SeqAt.shaped d = true
theorem dt_v {a : α} (h : Enc R f) (s : SeqAt.shaped (f a) = true) : Dt K (val R a) (f a) := ⟨fun e r => rpD_Dp e _ _ (SeqAt.canLay_of_shaped s) (h.to r), s⟩
theorem dt_l {as : List α} (h : Enc R f) (s : SeqAt.shaped (.list (as.map f)) = true) : Dt K (spn R as) (.list (as.map f)) := ⟨fun e ⟨p, xs, h1, h2, h3⟩ => by
  rw [h1]
  exact .lst (sq_of h2) (rpD_DpAll e _ _ (SeqAt.canLay_of_shaped s) (rpDs_all.mpr (all_enc h h3.all))), s⟩
theorem o_eqD (h1 : Dt K A d) (h2 : Dt K B e) : Op2 (rEqD K) A B (val rB (PyData.eqv d e)) := op_sc flB fun v w F H Q s a b q => ⟨d, e, h1.dp s a, h2.dp s b, h1.sh, h2.sh, q⟩
theorem o_neD (h1 : Dt K A d) (h2 : Dt K B e) : Op2 (rNeD K) A B (val rB (!PyData.eqv d e)) := op_sc flB fun v w F H Q s a b q => ⟨d, e, h1.dp s a, h2.dp s b, h1.sh, h2.sh, q⟩
def eqO (d e : PyData) : Option Bool := if SeqAt.shaped d = true ∧ SeqAt.shaped e = true then some (PyData.eqv d e) else none
theorem eqO_e {b : Bool} (h : eqO d e = some b) : SeqAt.shaped d = true ∧ SeqAt.shaped e = true ∧ PyData.eqv d e = b := by
  obtain ⟨h1, h2⟩ := iteo h
  exact ⟨h1.1, h1.2, h2⟩

/-! ### tests in short -/
theorem et_is {a b : Bool} (h : EvT tt σ F O a) (e : a = b) : EvT tt σ F O b := e ▸ h
theorem et_andP {a b : Bool} (h1 : EvT tt σ F O a) (h2 : a = true → EvT tu σ F O b) : EvT (tAnd tt tu) σ F O (a && b) := et_and h1 (fun e => by rw [e, Bool.true_and]; exact h2 e) (fun e => by rw [e, Bool.false_and])
theorem et_orP {a b : Bool} (h1 : EvT tt σ F O a) (h2 : a = false → EvT tu σ F O b) : EvT (tOr tt tu) σ F O (a || b) := et_or h1 (fun e => by rw [e, Bool.false_or]; exact h2 e) (fun e => by rw [e, Bool.true_or])
theorem ev_andP {a b : Bool} (h1 : Ev ta σ F O (val rB a)) (h2 : a = true → Ev tb σ F O (val rB b)) : Ev (tAndV ta tb) σ F O (val rB (a && b)) := ev_and h1 (fun e => by rw [e, Bool.true_and]; exact h2 e) (fun e => by rw [e, Bool.false_and])
theorem ev_orP {a b : Bool} (h1 : Ev ta σ F O (val rB a)) (h2 : a = false → Ev tb σ F O (val rB b)) : Ev (tOrV ta tb) σ F O (val rB (a || b)) := ev_or h1 (fun e => by rw [e, Bool.false_or]; exact h2 e) (fun e => by rw [e, Bool.true_or])
theorem ev_ifP {c : Bool} {a b : α} (h : EvT tt σ F O c) (h1 : c = true → Ev ta σ F O (val R a)) (h2 : c = false → Ev tb σ F O (val R b)) : Ev (tIf tt ta tb) σ F O (val R (bif c then a else b)) := ev_if h (fun e => by rw [e]; exact h1 e) (fun e => by rw [e]; exact h2 e)
theorem ev_chainP {r r' : R2} {b1 b2 : Bool} (ha : Ev ta σ F O A) (hb : Ev tb σ F O B) (ho : Op2 r A B (val rB b1)) (hc : Ev tc σ F O C) (ho2 : Op2 r' B C (val rB b2)) : Ev (tChain r r' ta tb tc) σ F O (val rB (b1 && b2)) :=
  ev_chain ha hb ho (fun _ => hc) (fun e => by rw [e, Bool.true_and]; exact ho2) (fun e => by rw [e, Bool.false_and])
def uNeg : V → Hp → VK → Prop := rU fun i => .int (-i)
theorem un_uNeg {X : Cx} : UnR X (unaryOp .USub) uNeg := un_neg
theorem ev_neg (h : Ev te σ F O (val rInt i)) : Ev (tUn uNeg te) σ F O (val rInt (-i)) := fun H k Q q => h H k _ fun v F' H' g a => ⟨i, a, q _ F' H' g rfl⟩
end
end Lm
/-! Lm: odds and ends. -/
namespace Lm
open PySem PySem.Spec L2
section
variable {α β γ : Type} {R : Rep α} {R' : Rep β} {σ : L2.St} {F F1 : Hp} {O : Own} {ta tb tc te : TE} {tt tu : TT} {A B C : Ar} {K : PySem.W.Frag} {i j : Int} {d e : PyData}
theorem ev_isN {as bs : List α} (h : EvN te σ F O R as) (e : as = bs) : EvN te σ F O R bs := e ▸ h
theorem alla0 {F H : Hp} {vs : List V} (h : AllA [] vs F H) : vs = [] := by
  cases vs with
  | nil => rfl
  | cons v vs => exact h.elim
theorem alla4 {F H : Hp} {vs : List V} {A B C E : Ar} (h : AllA [A, B, C, E] vs F H) : ∃ v w x y, vs = [v, w, x, y] ∧ A.p v F H ∧ B.p w F H ∧ C.p x F H ∧ E.p y F H := by
  match vs, h with
  | [v, w, x, y], h => exact ⟨v, w, x, y, rfl, h.1, h.2.1, h.2.2.1, h.2.2.2.1⟩
theorem alla5 {F H : Hp} {vs : List V} {A B C E G : Ar} (h : AllA [A, B, C, E, G] vs F H) : ∃ v w x y z, vs = [v, w, x, y, z] ∧ A.p v F H ∧ B.p w F H ∧ C.p x F H ∧ E.p y F H ∧ G.p z F H := by
  match vs, h with
  | [v, w, x, y, z], h => exact ⟨v, w, x, y, z, rfl, h.1, h.2.1, h.2.2.1, h.2.2.2.1, h.2.2.2.2.1⟩
theorem o_ixT20 {a : α} {b : β} : Op2 (rIxT K) (val (rT2 R R') (a, b)) (val rInt 0) (val R a) := o_ixA
theorem o_ixT21 {a : α} {b : β} : Op2 (rIxT K) (val (rT2 R R') (a, b)) (val rInt 1) (val R' b) := o_ixB
/-! ### isinstance of a built-in class -/
def HasTy (K : PySem.W.Frag) (A : Ar) (T : String) : Prop := ∀ {v F H}, Same F H → A.p v F H → TyOf K H v (.type T)
theorem ev_ty {T : String} : Ev (tC (.ty T)) σ F O (val (rV (.ty T)) ()) := ev_c fun _ => rfl
theorem b_isi {T U : String} {b : Bool} (h : HasTy K A T) (hb : kitB T U = some b) : Cb (rIsi K) [A, val (rV (.ty U)) ()] (val rB b) := cb_sc flB fun vs F H Q e a q => by
  obtain ⟨v, w, rfl, h1, h2⟩ := alla2 a
  have h3 : w = .ty U := h2
  subst h3
  exact ⟨v, .ty U, .type T, .type U, b, rfl, .ty U, .base (h e h1), kit_ty hb, q⟩
theorem tI {a : Int} : HasTy K (val rInt a) "int" := fun _ h => by
  have h2 : _ = V.int a := h
  subst h2; exact .int a
theorem tyB {a : Bool} : HasTy K (val rB a) "bool" := fun _ h => by
  have h2 : _ = V.bl a := h
  subst h2; exact .bl a
theorem tS {a : List Nat} : HasTy K (val rS a) "str" := fun _ h => by
  rw [show _ = V.str (mk a) from h.1]; exact .str _
theorem tyN {a : Unit} : HasTy K (val rN a) "NoneType" := fun _ h => by
  have h2 : _ = V.non := h
  subst h2; exact .non
theorem tL {as : List α} : HasTy K (val (rL R) as) "list" := fun e ⟨p, xs, h1, h2, _⟩ => by
  subst h1; exact .lst (e _ _ h2)
theorem tP {as : List α} : HasTy K (spn R as) "list" := fun e ⟨p, xs, h1, h2, _⟩ => by
  subst h1; exact .lst h2
theorem tT2 {t : α × β} : HasTy K (val (rT2 R R') t) "tuple" := fun e ⟨p, x, y, h1, h2, _⟩ => by
  subst h1; exact .tup (e _ _ h2)
def tyD : PyData → String
  | .none => "NoneType"
  | .bool _ => "bool"
  | .int _ => "int"
  | .str _ => "str"
  | .list _ => "list"
  | .tuple _ => "tuple"
  | .dict _ => "dict"
theorem tD : HasTy K (val rD d) (tyD d) := fun {v} {F} {H} e h => by
  cases d with
  | none => have h2 : v = V.non := h; subst h2; exact .non
  | bool b => have h2 : v = V.bl b := h; subst h2; exact .bl b
  | int b => have h2 : v = V.int b := h; subst h2; exact .int b
  | str x => rw [show v = V.str x from h.1]; exact .str _
  | list ds => obtain ⟨p, xs, h1, h2, _⟩ := h; subst h1; exact .lst (e _ _ h2)
  | tuple ds => obtain ⟨p, xs, h1, h2, _⟩ := h; subst h1; exact .tup (e _ _ h2)
  | dict ds => obtain ⟨_, p, h1, h2⟩ := h; subst h1; exact .dK (e _ _ h2)
def isStrD : PyData → Bool
  | .str _ => true
  | _ => false
def isIntD : PyData → Bool
  | .int _ => true
  | .bool _ => true
  | _ => false
def isBoolD : PyData → Bool
  | .bool _ => true
  | _ => false
def isListD : PyData → Bool
  | .list _ => true
  | _ => false
def isTupD : PyData → Bool
  | .tuple _ => true
  | _ => false
theorem k_str : kitB (tyD d) "str" = some (isStrD d) := by
  cases d with
  | none => exact (by decide +kernel : kitB "NoneType" "str" = some false)
  | bool _ => exact (by decide +kernel : kitB "bool" "str" = some false)
  | int _ => exact (by decide +kernel : kitB "int" "str" = some false)
  | str _ => exact (by decide +kernel : kitB "str" "str" = some true)
  | list _ => exact (by decide +kernel : kitB "list" "str" = some false)
  | tuple _ => exact (by decide +kernel : kitB "tuple" "str" = some false)
  | dict _ => exact (by decide +kernel : kitB "dict" "str" = some false)
theorem k_int : kitB (tyD d) "int" = some (isIntD d) := by
  cases d with
  | none => exact (by decide +kernel : kitB "NoneType" "int" = some false)
  | bool _ => exact (by decide +kernel : kitB "bool" "int" = some true)
  | int _ => exact (by decide +kernel : kitB "int" "int" = some true)
  | str _ => exact (by decide +kernel : kitB "str" "int" = some false)
  | list _ => exact (by decide +kernel : kitB "list" "int" = some false)
  | tuple _ => exact (by decide +kernel : kitB "tuple" "int" = some false)
  | dict _ => exact (by decide +kernel : kitB "dict" "int" = some false)
theorem k_bool : kitB (tyD d) "bool" = some (isBoolD d) := by
  cases d with
  | none => exact (by decide +kernel : kitB "NoneType" "bool" = some false)
  | bool _ => exact (by decide +kernel : kitB "bool" "bool" = some true)
  | int _ => exact (by decide +kernel : kitB "int" "bool" = some false)
  | str _ => exact (by decide +kernel : kitB "str" "bool" = some false)
  | list _ => exact (by decide +kernel : kitB "list" "bool" = some false)
  | tuple _ => exact (by decide +kernel : kitB "tuple" "bool" = some false)
  | dict _ => exact (by decide +kernel : kitB "dict" "bool" = some false)
theorem k_list : kitB (tyD d) "list" = some (isListD d) := by
  cases d with
  | none => exact (by decide +kernel : kitB "NoneType" "list" = some false)
  | bool _ => exact (by decide +kernel : kitB "bool" "list" = some false)
  | int _ => exact (by decide +kernel : kitB "int" "list" = some false)
  | str _ => exact (by decide +kernel : kitB "str" "list" = some false)
  | list _ => exact (by decide +kernel : kitB "list" "list" = some true)
  | tuple _ => exact (by decide +kernel : kitB "tuple" "list" = some false)
  | dict _ => exact (by decide +kernel : kitB "dict" "list" = some false)
theorem k_tup : kitB (tyD d) "tuple" = some (isTupD d) := by
  cases d with
  | none => exact (by decide +kernel : kitB "NoneType" "tuple" = some false)
  | bool _ => exact (by decide +kernel : kitB "bool" "tuple" = some false)
  | int _ => exact (by decide +kernel : kitB "int" "tuple" = some false)
  | str _ => exact (by decide +kernel : kitB "str" "tuple" = some false)
  | list _ => exact (by decide +kernel : kitB "list" "tuple" = some false)
  | tuple _ => exact (by decide +kernel : kitB "tuple" "tuple" = some true)
  | dict _ => exact (by decide +kernel : kitB "dict" "tuple" = some false)
/-! ### an item of a tuple of texts, a slice of a data tuple -/
theorem inv_str {x : List Nat} : ∀ xs : List (List Nat), inV (V.str (mk x)) ((xs.map mk).map V.str) = decide (x ∈ xs)
  | [] => rfl
  | y :: ys => by
    have e : inV (V.str (mk x)) (((y :: ys).map mk).map V.str) = (eqV (V.str (mk y)) (V.str (mk x)) || inV (V.str (mk x)) ((ys.map mk).map V.str)) := rfl
    rw [e, inv_str ys]
    have e2 : eqV (V.str (mk y)) (V.str (mk x)) = decide (x = y) := by
      show decide (mk y = mk x) = decide (x = y)
      by_cases h : x = y
      · subst h; simp
      · rw [decide_eq_false h, decide_eq_false (fun z => h (mk_inj z).symm)]
    rw [e2, Bool.eq_iff_iff, Bool.or_eq_true]
    simp only [decide_eq_true_eq, List.mem_cons]
theorem flat_strs : ∀ xs : List Str, (xs.map V.str).all flatV = true
  | [] => rfl
  | x :: xs => by rw [List.map_cons, List.all_cons, flat_strs xs]; rfl
theorem o_inTS {x : List Nat} {xs : List (List Nat)} : Op2 (rIn K false) (val rS x) (val (rTL rS) xs) (val rB (decide (x ∈ xs))) := op_sc flB fun v w F H Q e a b q => by
  obtain ⟨p, ys, h1, h2, h3⟩ := b
  refine ⟨p, ys, h1, Or.inr (st_of (e _ _ h2)), by rw [a.1]; rfl, by rw [h3.all.strs]; exact flat_strs _, ?_⟩
  show Q (.bl (inV v ys)) H
  rw [h3.all.strs, a.1, inv_str]
  exact q
theorem o_ninTS {x : List Nat} {xs : List (List Nat)} : Op2 (rIn K true) (val rS x) (val (rTL rS) xs) (val rB (!decide (x ∈ xs))) := op_sc flB fun v w F H Q e a b q => by
  obtain ⟨p, ys, h1, h2, h3⟩ := b
  refine ⟨p, ys, h1, Or.inr (st_of (e _ _ h2)), by rw [a.1]; rfl, by rw [h3.all.strs]; exact flat_strs _, ?_⟩
  show Q (.bl (!inV v ys)) H
  rw [h3.all.strs, a.1, inv_str]
  exact q
end
end Lm
/-! Lm: expressions that change an owned cell (the tape). -/
namespace Lm
open PySem PySem.Spec L2
/-- a tape that stands at k -/
abbrev tp (k : Int) : HO := .lst [.int k]
/-- growth but at p -/
structure GrT (p : Addr) (F H F' H' : Hp) : Prop where
  f : Same F F'
  h : ∀ a o, a ≠ p → H a = some o → H' a = some o
  fh : Same F' H'
  nw : ∀ a, F a = none → H a ≠ none → F' a = none
section
variable {Z : Bs} {F H F' H' : Hp} {O : Own} {p : Addr} {o o' : HO}
/-- all of H but p -/
def but (p : Addr) (H : Hp) : Hp := fun a => if a = p then none else H a
theorem but_same : Same (but p H) H := fun a u e => by
  unfold but at e
  by_cases z : a = p
  · rw [if_pos z] at e; cases e
  · rw [if_neg z] at e; exact e
theorem At.startT (e : Same F H) (hf : F p = none) (hh : H p = some o) : At ⟨F, but p H⟩ F [(p, o)] H := by
  refine ⟨⟨e, fun q m => ?_⟩, but_same, Same.refl _, fun _ h _ => h, fun q m => ?_, ?_⟩
  · rw [List.mem_singleton.mp m]; exact ⟨hf, hh⟩
  · rw [List.mem_singleton.mp m]; exact if_pos rfl
  · show [p].Nodup
    simp
theorem At.doneT (k : At ⟨F, but p H⟩ F' O H') (m : (p, o') ∈ O) : GrT p F H F' H' ∧ H' p = some o' := by
  have hp := k.ok.own _ m
  refine ⟨⟨k.f0, fun a o ne h => k.b a o (by show but p H a = _; unfold but; rw [if_neg ne]; exact h), k.ok.ex, fun a h1 h2 => ?_⟩, hp.2⟩
  by_cases z : a = p
  · subst z; exact hp.1
  · exact k.sep a h1 (by show but p H a ≠ none; unfold but; rw [if_neg z]; exact h2)
theorem set_keys {n : Nat} (h : O[n]? = some (p, o)) : (O.set n (p, o')).map (·.1) = O.map (·.1) := by
  rw [List.map_set]
  apply List.ext_getElem?
  intro i
  rw [List.getElem?_set]
  split
  · next e =>
    subst e
    rw [List.length_map]
    have hn := (List.getElem?_eq_some_iff.mp h).1
    rw [if_pos hn, List.getElem?_map, h]
    rfl
  · rfl
theorem At.grT {n : Nat} (k : At Z F O H) (g : GrT p F H F' H') (h : O[n]? = some (p, o)) (hx : H' p = some o') : At Z F' (O.set n (p, o')) H' := by
  have hp := k.ok.own (p, o) (List.mem_of_getElem? h)
  have em : (O.set n (p, o')).map (·.1) = O.map (·.1) := set_keys h
  have pne : p ∈ O.map (·.1) := List.mem_map.mpr ⟨_, List.mem_of_getElem? h, rfl⟩
  have hF' : F' p = none := g.nw p hp.1 (by rw [hp.2]; exact fun z => by cases z)
  refine ⟨⟨g.fh, fun q m => ?_⟩, fun a u e => ?_, k.f0.trans g.f, fun a h1 h2 => ?_, fun q m => ?_, by rw [em]; exact k.nd⟩
  · obtain ⟨i, hi⟩ := List.getElem?_of_mem m
    rw [List.getElem?_set] at hi
    by_cases e : n = i
    · rw [if_pos e] at hi
      split at hi
      · cases hi
        exact ⟨hF', hx⟩
      · cases hi
    · rw [if_neg e] at hi
      have h1 := k.ok.own q (List.mem_of_getElem? hi)
      have ne : q.1 ≠ p := fun z => by
        have a1 : (O.map (·.1))[n]? = some p := by rw [List.getElem?_map, h]; rfl
        have a2 : (O.map (·.1))[i]? = some p := by rw [List.getElem?_map, hi, ← z]; rfl
        have l1 := (List.getElem?_eq_some_iff.mp a1)
        have l2 := (List.getElem?_eq_some_iff.mp a2)
        exact e ((List.getElem_inj k.nd).mp (l1.2.trans l2.2.symm))
      exact ⟨g.nw _ h1.1 (by rw [h1.2]; exact fun z => by cases z), g.h _ _ ne h1.2⟩
  · refine g.h a u (fun z => ?_) (k.b a u e)
    subst z
    rw [k.ob _ (List.mem_of_getElem? h)] at e
    cases e
  · exact g.nw a (k.sep a h1 h2) (by
      cases e : Z.B a with
      | none => exact absurd e h2
      | some u => rw [k.b a u e]; exact fun z => by cases z)
  · obtain ⟨u, e⟩ : ∃ u, u ∈ O ∧ u.1 = q.1 := by
      have : q.1 ∈ (O.set n (p, o')).map (·.1) := List.mem_map.mpr ⟨q, m, rfl⟩
      rw [em] at this
      obtain ⟨u, a, b⟩ := List.mem_map.mp this
      exact ⟨u, a, b⟩
    rw [← e.2]
    exact k.ob u e.1
/-- an owned object stands for a while among what must not change -/
def Bs.hide (Z : Bs) (p : Addr) (o : HO) : Bs := ⟨Z.F0, upd Z.B p o⟩
theorem At.hide (k : At Z F ((p, o) :: O) H) : At (Z.hide p o) F O H := by
  have hp := k.ok.own (p, o) (List.mem_cons_self ..)
  have nd := List.nodup_cons.mp (show ((p, o) :: O |>.map (·.1)).Nodup from k.nd)
  refine ⟨⟨k.ok.ex, fun q m => k.ok.own q (List.mem_cons_of_mem _ m)⟩, fun a u e => ?_, k.f0, fun a h1 h2 => ?_, fun q m => ?_, nd.2⟩
  · have e' : upd Z.B p o a = some u := e
    by_cases z : a = p
    · subst z; rw [upd_same] at e'; cases e'; exact hp.2
    · rw [upd_ne z] at e'; exact k.b a u e'
  · have h2' : upd Z.B p o a ≠ none := h2
    by_cases z : a = p
    · subst z; exact hp.1
    · rw [upd_ne z] at h2'; exact k.sep a h1 h2'
  · show upd Z.B p o q.1 = none
    rw [upd_ne (fun z => nd.1 (List.mem_map.mpr ⟨q, m, z⟩))]
    exact k.ob q (List.mem_cons_of_mem _ m)
theorem At.show (k : At (Z.hide p o) F O H) (hf : Z.F0 p = none) (hb : Z.B p = none) : At Z F ((p, o) :: O) H := by
  have bp : (Z.hide p o).B p = some o := upd_same
  refine ⟨⟨k.ok.ex, fun q m => ?_⟩, fun a u e => k.b a u (by
      show upd Z.B p o a = some u
      rw [upd_ne (ne_of_none e hb)]; exact e), k.f0, fun a h1 h2 => k.sep a h1 (by
      show upd Z.B p o a ≠ none
      by_cases z : a = p
      · subst z; exact absurd hb h2
      · rw [upd_ne z]; exact h2), fun q m => ?_, ?_⟩
  · rcases List.mem_cons.mp m with e | m
    · subst e
      exact ⟨k.sep p hf (by rw [bp]; exact fun z => by cases z), k.b p o bp⟩
    · exact k.ok.own q m
  · rcases List.mem_cons.mp m with e | m
    · subst e; exact hb
    · have h1 : upd Z.B p o q.1 = none := k.ob q m
      by_cases z : q.1 = p
      · rw [z, upd_same] at h1; cases h1
      · rw [upd_ne z] at h1; exact h1
  · rw [List.map_cons, List.nodup_cons]
    refine ⟨fun m => ?_, k.nd⟩
    obtain ⟨q, m, e⟩ := List.mem_map.mp m
    have h1 := k.ob q m
    rw [e, bp] at h1
    cases h1
end

/-! ### judgements -/
def EvM (Z : Bs) (te : TE) (σ : L2.St) (F : Hp) (O O' : Own) (A : Ar) : Prop := ∀ F1 H, Same F F1 → At Z F1 O H → ∀ Q : VK, (∀ v F2 H2, Same F1 F2 → At Z F2 O' H2 → A.p v F2 H2 → Q v H2) → te σ H Q
def EvMN {α : Type} (Z : Bs) (te : TE) (σ : L2.St) (F : Hp) (O O' : Own) (R : Rep α) (as : List α) : Prop := ∀ F1 H, Same F F1 → At Z F1 O H → ∀ Q : VK,
  (∀ p xs F2 H2, Same F1 F2 → At Z F2 ((p, .lst xs) :: O') H2 → AllB R as xs F2 → Q (.ref p) H2) → te σ H Q
def EvTM (Z : Bs) (tt : TT) (σ : L2.St) (F : Hp) (O O' : Own) (b : Bool) : Prop := ∀ F1 H, Same F F1 → At Z F1 O H → ∀ Q : Bool → Hp → Prop, (∀ F2 H2, Same F1 F2 → At Z F2 O' H2 → Q b H2) → tt σ H Q
def EvAM (Z : Bs) (ta : TA) (σ : L2.St) (F : Hp) (O O' : Own) (as : List Ar) : Prop := ∀ F1 H, Same F F1 → At Z F1 O H → ∀ Q : List V → Hp → Prop, (∀ vs F2 H2, Same F1 F2 → At Z F2 O' H2 → AllA as vs F2 H2 → Q vs H2) → ta σ H Q
def EvIM {α : Type} (Z : Bs) (wi : TI) (σ : L2.St) (F : Hp) (O O' : Own) (R : Rep α) (as : List α) : Prop := ∀ F1 H, Same F F1 → At Z F1 O H → ∀ Q : It → Hp → Prop, (∀ J F2 H2, Same F1 F2 → At Z F2 O' H2 → Wk J F2 R as → Q J H2) → wi σ H Q
section
variable {α β γ ρ S : Type} {R : Rep α} {R' : Rep β} {Z : Bs} {D : Ends} {σ : L2.St} {F F1 : Hp} {O O1 O2 O' : Own} {te ta tb tc to : TE} {tt tu : TT} {t u : TS} {ts : TA} {A B C : Ar} {K : PySem.W.Frag} {i j : Nat} {p : Addr} {o : HO} {k : Int}
theorem EvI.mono {wi : TI} {as : List α} (h : EvI wi σ F O R as) (e : Same F F1) : EvI wi σ F1 O R as := fun H k Q q =>
  h H (k.less e) Q fun J F' H' g w => q J (un F1 F') H' (gr_un e k.ex g) ⟨w.1, fun i F2 H2 s1 s2 => w.2 i F2 H2 ((un_r (k.ex.trans g.h) g.fh).trans s1) s2⟩
theorem evM_l (h : Ev te σ F O A) : EvM Z te σ F O O A := fun F1 H e at0 Q q => (h.mono e) H at0.ok Q fun v F2 H2 g a => q v F2 H2 g.f (at0.gr g) a
theorem evMN_l {as : List α} (h : EvN te σ F O R as) : EvMN Z te σ F O O R as := fun F1 H e at0 Q q => (h.mono e) H at0.ok Q fun p xs F2 H2 g n f x r => q p xs F2 H2 g.f (at0.new g n f x) r
theorem etM_l {b : Bool} (h : EvT tt σ F O b) : EvTM Z tt σ F O O b := fun F1 H e at0 Q q => (h.mono e) H at0.ok Q fun F2 H2 g => q F2 H2 g.f (at0.gr g)
theorem eaM_l {as : List Ar} (h : EvA ts σ F O as) : EvAM Z ts σ F O O as := fun F1 H e at0 Q q => (h.mono e) H at0.ok Q fun v F2 H2 g a => q v F2 H2 g.f (at0.gr g) a
theorem eiM_l {wi : TI} {as : List α} (h : EvI wi σ F O R as) : EvIM Z wi σ F O O R as := fun F1 H e at0 Q q => (h.mono e) H at0.ok Q fun J F2 H2 g w => q J F2 H2 g.f (at0.gr g) w
theorem evM_frz {as : List α} (h : EvMN Z te σ F O O' R as) : EvM Z te σ F O O' (val (rL R) as) := fun F1 H e at0 Q q => h F1 H e at0 Q fun p xs F2 H2 e2 at2 r => by
  have hp := at2.ok.own _ (List.mem_cons_self ..)
  exact q _ (upd F2 p (.lst xs)) H2 (e2.trans (same_new hp.1)) at2.frz ⟨p, xs, rfl, upd_same, r.mono (same_new hp.1)⟩
theorem evM_nspn {as : List α} (h : EvMN Z te σ F O O' R as) : EvM Z te σ F O O' (spn R as) := fun F1 H e at0 Q q => h F1 H e at0 Q fun p xs F2 H2 e2 at2 r => by
  have hp := at2.ok.own _ (List.mem_cons_self ..)
  exact q _ F2 H2 e2 at2.drop ⟨p, xs, rfl, hp.2, r⟩
theorem evM_spn {as : List α} (h : EvM Z te σ F O O' (val (rL R) as)) : EvM Z te σ F O O' (spn R as) := fun F1 H e at0 Q q => h F1 H e at0 Q fun v F2 H2 e2 at2 ⟨p, xs, h1, h2, h3⟩ => q v F2 H2 e2 at2 ⟨p, xs, h1, at2.ok.ex _ _ h2, h3⟩
theorem evM_is {a b : α} (h : EvM Z te σ F O O' (val R a)) (e : a = b) : EvM Z te σ F O O' (val R b) := e ▸ h
theorem evMN_is {as bs : List α} (h : EvMN Z te σ F O O' R as) (e : as = bs) : EvMN Z te σ F O O' R bs := e ▸ h
theorem etM_is {a b : Bool} (h : EvTM Z tt σ F O O' a) (e : a = b) : EvTM Z tt σ F O O' b := e ▸ h

/-! ### operators, arguments -/
theorem evM_op {r : R2} {a : α} (ha : EvM Z ta σ F O O1 (val R a)) (hb : EvM Z tb σ F O1 O2 B) (ho : Op2 r (val R a) B C) : EvM Z (tOp r ta tb) σ F O O2 C := fun F1 H e at0 Q q =>
  ha F1 H e at0 _ fun v F2 H2 e2 at2 a => hb F2 H2 (e.trans e2) at2 _ fun w F3 H3 e3 at3 b => ho v w F3 H3 Q at3.ok.ex (R.mono e3 a) b fun u F4 H4 g c => q u F4 H4 ((e2.trans e3).trans g.f) (at3.gr g) c
/-- the second has no effect -/
theorem evM_op1 {r : R2} (ha : EvM Z ta σ F O O1 A) (hb : Ev tb σ F O1 B) (ho : Op2 r A B C) : EvM Z (tOp r ta tb) σ F O O1 C := fun F1 H e at0 Q q =>
  ha F1 H e at0 _ fun v F2 H2 e2 at2 a => (hb.mono (e.trans e2)) H2 at2.ok _ fun w F3 H3 g b => ho v w F3 H3 Q g.fh (A.mono g.f g.h a) b fun u F4 H4 g4 c => q u F4 H4 (e2.trans (g.trans g4).f) (at2.gr (g.trans g4)) c
theorem evM_opN {r : R2} {a : α} {as : List β} (ha : EvM Z ta σ F O O1 (val R a)) (hb : EvM Z tb σ F O1 O2 B) (ho : Op2N r (val R a) B R' as) : EvMN Z (tOp r ta tb) σ F O O2 R' as := fun F1 H e at0 Q q =>
  ha F1 H e at0 _ fun v F2 H2 e2 at2 a => hb F2 H2 (e.trans e2) at2 _ fun w F3 H3 e3 at3 b => ho v w F3 H3 Q at3.ok.ex (R.mono e3 a) b fun p xs F4 H4 g n f x r => q p xs F4 H4 ((e2.trans e3).trans g.f) (at3.new g n f x) r
theorem evM_opN1 {r : R2} {as : List β} (ha : EvM Z ta σ F O O1 A) (hb : Ev tb σ F O1 B) (ho : Op2N r A B R' as) : EvMN Z (tOp r ta tb) σ F O O1 R' as := fun F1 H e at0 Q q =>
  ha F1 H e at0 _ fun v F2 H2 e2 at2 a => (hb.mono (e.trans e2)) H2 at2.ok _ fun w F3 H3 g b => ho v w F3 H3 Q g.fh (A.mono g.f g.h a) b fun p xs F4 H4 g4 n f x r => q p xs F4 H4 (e2.trans (g.trans g4).f) (at2.new (g.trans g4) (gr_none g n) f x) r
/-- an operator on a spine takes a frozen list -/
theorem op_l {r : R2} {as : List α} (h : Op2 r (spn R as) B C) : Op2 r (val (rL R) as) B C := fun v w F H Q e ⟨p, xs, h1, h2, h3⟩ b q => h v w F H Q e ⟨p, xs, h1, e _ _ h2, h3⟩ b q
theorem opN_l {r : R2} {as : List α} {bs : List β} (h : Op2N r (spn R as) B R' bs) : Op2N r (val (rL R) as) B R' bs := fun v w F H Q e ⟨p, xs, h1, h2, h3⟩ b q => h v w F H Q e ⟨p, xs, h1, e _ _ h2, h3⟩ b q
/-- values that stay -/
def StA (A : Ar) : Prop := ∀ v F H F' H', Same F F' → A.p v F H → A.p v F' H'
theorem st_val {a : α} : StA (val R a) := fun _ _ _ _ _ e h => R.mono e h
theorem eaM_c {as : List Ar} {a : α} (h : EvM Z te σ F O O1 (val R a)) (hr : EvAM Z ts σ F O1 O2 as) : EvAM Z (tCons te ts) σ F O O2 (val R a :: as) := fun F1 H e at0 Q q =>
  h F1 H e at0 _ fun v F2 H2 e2 at2 a => hr F2 H2 (e.trans e2) at2 _ fun vs F3 H3 e3 at3 b => q (v :: vs) F3 H3 (e2.trans e3) at3 ⟨R.mono e3 a, b⟩
theorem eaM_1 {as : List Ar} (h : EvM Z te σ F O O1 A) (hr : EvA ts σ F O1 as) : EvAM Z (tCons te ts) σ F O O1 (A :: as) := fun F1 H e at0 Q q =>
  h F1 H e at0 _ fun v F2 H2 e2 at2 a => (hr.mono (e.trans e2)) H2 at2.ok _ fun vs F3 H3 g b => q (v :: vs) F3 H3 (e2.trans g.f) (at2.gr g) ⟨A.mono g.f g.h a, b⟩
/-- what is built of a value, of arguments -/
theorem evM_un {T : TE → TE} (hT : ∀ te H Q, T te σ H Q = te σ H fun v H1 => T (fun _ H2 k => k v H2) σ H1 Q) (h : EvM Z te σ F O O1 A) (hc : ∀ t9 F9, Same F F9 → Ev t9 σ F9 O1 A → Ev (T t9) σ F9 O1 C) : EvM Z (T te) σ F O O1 C := fun F1 H e at0 Q q => by
  rw [hT]
  refine h F1 H e at0 _ fun v F2 H2 e2 at2 a => ?_
  have h9 := hc (fun _ H' k => ∀ _ : H' = H2, k v H2) F2 (e.trans e2) (fun H9 k9 Q9 q9 z => q9 v F2 H2 (z ▸ Gr.refl k9.ex) a) H2 at2.ok Q fun w F3 H3 g c => q w F3 H3 (e2.trans g.f) (at2.gr g) c
  rw [hT] at h9
  exact h9 rfl
theorem evMN_un {T : TE → TE} {bs : List β} (hT : ∀ te H Q, T te σ H Q = te σ H fun v H1 => T (fun _ H2 k => k v H2) σ H1 Q) (h : EvM Z te σ F O O1 A) (hc : ∀ t9 F9, Same F F9 → Ev t9 σ F9 O1 A → EvN (T t9) σ F9 O1 R' bs) : EvMN Z (T te) σ F O O1 R' bs := fun F1 H e at0 Q q => by
  rw [hT]
  refine h F1 H e at0 _ fun v F2 H2 e2 at2 a => ?_
  have h9 := hc (fun _ H' k => ∀ _ : H' = H2, k v H2) F2 (e.trans e2) (fun H9 k9 Q9 q9 z => q9 v F2 H2 (z ▸ Gr.refl k9.ex) a) H2 at2.ok Q fun p xs F3 H3 g n f x r => q p xs F3 H3 (e2.trans g.f) (at2.new g n f x) r
  rw [hT] at h9
  exact h9 rfl
theorem etM_un {T : TE → TT} {b : Bool} (hT : ∀ te H Q, T te σ H Q = te σ H fun v H1 => T (fun _ H2 k => k v H2) σ H1 Q) (h : EvM Z te σ F O O1 A) (hc : ∀ t9 F9, Same F F9 → Ev t9 σ F9 O1 A → EvT (T t9) σ F9 O1 b) : EvTM Z (T te) σ F O O1 b := fun F1 H e at0 Q q => by
  rw [hT]
  refine h F1 H e at0 _ fun v F2 H2 e2 at2 a => ?_
  have h9 := hc (fun _ H' k => ∀ _ : H' = H2, k v H2) F2 (e.trans e2) (fun H9 k9 Q9 q9 z => q9 v F2 H2 (z ▸ Gr.refl k9.ex) a) H2 at2.ok Q fun F3 H3 g => q F3 H3 (e2.trans g.f) (at2.gr g)
  rw [hT] at h9
  exact h9 rfl
theorem eiM_un {T : TE → TI} {bs : List β} (hT : ∀ te H Q, T te σ H Q = te σ H fun v H1 => T (fun _ H2 k => k v H2) σ H1 Q) (h : EvM Z te σ F O O1 A) (hc : ∀ t9 F9, Same F F9 → Ev t9 σ F9 O1 A → EvI (T t9) σ F9 O1 R' bs) : EvIM Z (T te) σ F O O1 R' bs := fun F1 H e at0 Q q => by
  rw [hT]
  refine h F1 H e at0 _ fun v F2 H2 e2 at2 a => ?_
  have h9 := hc (fun _ H' k => ∀ _ : H' = H2, k v H2) F2 (e.trans e2) (fun H9 k9 Q9 q9 z => q9 v F2 H2 (z ▸ Gr.refl k9.ex) a) H2 at2.ok Q fun J F3 H3 g w => q J F3 H3 (e2.trans g.f) (at2.gr g) w
  rw [hT] at h9
  exact h9 rfl
theorem evM_args {T : TA → TE} {as : List Ar} (hT : ∀ te H Q, T te σ H Q = te σ H fun v H1 => T (fun _ H2 k => k v H2) σ H1 Q) (h : EvAM Z ts σ F O O1 as) (hc : ∀ t9 F9, Same F F9 → EvA t9 σ F9 O1 as → Ev (T t9) σ F9 O1 C) : EvM Z (T ts) σ F O O1 C := fun F1 H e at0 Q q => by
  rw [hT]
  refine h F1 H e at0 _ fun v F2 H2 e2 at2 a => ?_
  have h9 := hc (fun _ H' k => ∀ _ : H' = H2, k v H2) F2 (e.trans e2) (fun H9 k9 Q9 q9 z => q9 v F2 H2 (z ▸ Gr.refl k9.ex) a) H2 at2.ok Q fun w F3 H3 g c => q w F3 H3 (e2.trans g.f) (at2.gr g) c
  rw [hT] at h9
  exact h9 rfl
theorem evMN_args {T : TA → TE} {as : List Ar} {bs : List β} (hT : ∀ te H Q, T te σ H Q = te σ H fun v H1 => T (fun _ H2 k => k v H2) σ H1 Q) (h : EvAM Z ts σ F O O1 as) (hc : ∀ t9 F9, Same F F9 → EvA t9 σ F9 O1 as → EvN (T t9) σ F9 O1 R' bs) : EvMN Z (T ts) σ F O O1 R' bs := fun F1 H e at0 Q q => by
  rw [hT]
  refine h F1 H e at0 _ fun v F2 H2 e2 at2 a => ?_
  have h9 := hc (fun _ H' k => ∀ _ : H' = H2, k v H2) F2 (e.trans e2) (fun H9 k9 Q9 q9 z => q9 v F2 H2 (z ▸ Gr.refl k9.ex) a) H2 at2.ok Q fun p xs F3 H3 g n f x r => q p xs F3 H3 (e2.trans g.f) (at2.new g n f x) r
  rw [hT] at h9
  exact h9 rfl
theorem eiM_args {T : TA → TI} {as : List Ar} {bs : List β} (hT : ∀ te H Q, T te σ H Q = te σ H fun v H1 => T (fun _ H2 k => k v H2) σ H1 Q) (h : EvAM Z ts σ F O O1 as) (hc : ∀ t9 F9, Same F F9 → EvA t9 σ F9 O1 as → EvI (T t9) σ F9 O1 R' bs) : EvIM Z (T ts) σ F O O1 R' bs := fun F1 H e at0 Q q => by
  rw [hT]
  refine h F1 H e at0 _ fun v F2 H2 e2 at2 a => ?_
  have h9 := hc (fun _ H' k => ∀ _ : H' = H2, k v H2) F2 (e.trans e2) (fun H9 k9 Q9 q9 z => q9 v F2 H2 (z ▸ Gr.refl k9.ex) a) H2 at2.ok Q fun J F3 H3 g w => q J F3 H3 (e2.trans g.f) (at2.gr g) w
  rw [hT] at h9
  exact h9 rfl
/-- a method of a text: the arguments have the effect -/
theorem evM_m {l : List Nat} {r : RM} {as : List Ar} (ho : EvM Z to σ F O O1 (val rS l)) (ha : EvAM Z ts σ F O1 O2 as) (hr : Cm r l as C) : EvM Z (tBM K "str" r to ts) σ F O O2 C := fun F1 H e at0 Q q =>
  ho F1 H e at0 _ fun v F2 H2 e2 at2 a => by
    have a1 : v = .str (mk l) := a.1
    subst a1
    exact ⟨rfl, ha F2 H2 (e.trans e2) at2 _ fun vs F3 H3 e3 at3 b => hr vs F3 H3 Q a.2 at3.ok.ex b fun u F4 H4 g c => q u F4 H4 ((e2.trans e3).trans g.f) (at3.gr g) c⟩
theorem evM_mN {l : List Nat} {r : RM} {as : List Ar} {bs : List β} (ho : EvM Z to σ F O O1 (val rS l)) (ha : EvAM Z ts σ F O1 O2 as) (hr : CmN r l as R' bs) : EvMN Z (tBM K "str" r to ts) σ F O O2 R' bs := fun F1 H e at0 Q q =>
  ho F1 H e at0 _ fun v F2 H2 e2 at2 a => by
    have a1 : v = .str (mk l) := a.1
    subst a1
    exact ⟨rfl, ha F2 H2 (e.trans e2) at2 _ fun vs F3 H3 e3 at3 b => hr vs F3 H3 Q a.2 at3.ok.ex b fun p xs F4 H4 g n f x r => q p xs F4 H4 ((e2.trans e3).trans g.f) (at3.new g n f x) r⟩
theorem evM_m0 {l : List Nat} {r : RM} (ho : EvM Z to σ F O O1 (val rS l)) (hr : Cm r l [] C) : EvM Z (tBM0 K "str" r to) σ F O O1 C := fun F1 H e at0 Q q =>
  ho F1 H e at0 _ fun v F2 H2 e2 at2 a => by
    have a1 : v = .str (mk l) := a.1
    subst a1
    exact ⟨rfl, hr [] F2 H2 Q a.2 at2.ok.ex trivial fun u F4 H4 g c => q u F4 H4 (e2.trans g.f) (at2.gr g) c⟩

/-! ### ways -/
theorem evM_if {c : Bool} (h : EvTM Z tt σ F O O1 c) (h1 : c = true → EvM Z ta σ F O1 O2 A) (h2 : c = false → EvM Z tb σ F O1 O2 A) : EvM Z (tIf tt ta tb) σ F O O2 A := fun F1 H e at0 Q q => h F1 H e at0 _ fun F2 H2 e2 at2 => by
  cases c with
  | true =>
    show ta σ H2 Q
    exact h1 rfl F2 H2 (e.trans e2) at2 Q fun v F3 H3 e3 at3 a => q v F3 H3 (e2.trans e3) at3 a
  | false =>
    show tb σ H2 Q
    exact h2 rfl F2 H2 (e.trans e2) at2 Q fun v F3 H3 e3 at3 a => q v F3 H3 (e2.trans e3) at3 a
theorem etM_and {a b : Bool} (h1 : EvTM Z tt σ F O O1 a) (h2 : a = true → EvTM Z tu σ F O1 O2 b) (h3 : a = false → b = false ∧ O1 = O2) : EvTM Z (tAnd tt tu) σ F O O2 b := fun F1 H e at0 Q q => h1 F1 H e at0 _ fun F2 H2 e2 at2 => by
  cases a with
  | true =>
    show tu σ H2 Q
    exact h2 rfl F2 H2 (e.trans e2) at2 Q fun F3 H3 e3 at3 => q F3 H3 (e2.trans e3) at3
  | false =>
    show Q false H2
    rw [← (h3 rfl).1]
    exact q F2 H2 e2 ((h3 rfl).2 ▸ at2)
theorem etM_or {a b : Bool} (h1 : EvTM Z tt σ F O O1 a) (h2 : a = false → EvTM Z tu σ F O1 O2 b) (h3 : a = true → b = true ∧ O1 = O2) : EvTM Z (tOr tt tu) σ F O O2 b := fun F1 H e at0 Q q => h1 F1 H e at0 _ fun F2 H2 e2 at2 => by
  cases a with
  | false =>
    show tu σ H2 Q
    exact h2 rfl F2 H2 (e.trans e2) at2 Q fun F3 H3 e3 at3 => q F3 H3 (e2.trans e3) at3
  | true =>
    show Q true H2
    rw [← (h3 rfl).1]
    exact q F2 H2 e2 ((h3 rfl).2 ▸ at2)
theorem etM_not {b : Bool} (h : EvTM Z tt σ F O O1 b) : EvTM Z (tNot tt) σ F O O1 (!b) := fun F1 H e at0 Q q => h F1 H e at0 _ fun F2 H2 e2 at2 => q F2 H2 e2 at2
theorem evM_and {a b : Bool} (h1 : EvM Z ta σ F O O1 (val rB a)) (h2 : a = true → EvM Z tb σ F O1 O2 (val rB b)) (h3 : a = false → b = false ∧ O1 = O2) : EvM Z (tAndV ta tb) σ F O O2 (val rB b) := fun F1 H e at0 Q q => h1 F1 H e at0 _ fun v F2 H2 e2 at2 ev => ⟨a, ev, by
  cases a with
  | true =>
    show tb σ H2 Q
    exact h2 rfl F2 H2 (e.trans e2) at2 Q fun v F3 H3 e3 at3 c => q v F3 H3 (e2.trans e3) at3 c
  | false =>
    show Q (.bl false) H2
    exact q _ F2 H2 e2 ((h3 rfl).2 ▸ at2) (by rw [(h3 rfl).1]; rfl)⟩
theorem evM_or {a b : Bool} (h1 : EvM Z ta σ F O O1 (val rB a)) (h2 : a = false → EvM Z tb σ F O1 O2 (val rB b)) (h3 : a = true → b = true ∧ O1 = O2) : EvM Z (tOrV ta tb) σ F O O2 (val rB b) := fun F1 H e at0 Q q => h1 F1 H e at0 _ fun v F2 H2 e2 at2 ev => ⟨a, ev, by
  cases a with
  | false =>
    show tb σ H2 Q
    exact h2 rfl F2 H2 (e.trans e2) at2 Q fun v F3 H3 e3 at3 c => q v F3 H3 (e2.trans e3) at3 c
  | true =>
    show Q (.bl true) H2
    exact q _ F2 H2 e2 ((h3 rfl).2 ▸ at2) (by rw [(h3 rfl).1]; rfl)⟩

/-! ### the tape itself; calls that take it -/
abbrev rA (p : Addr) : Rep Unit := rV (.ref p)
/-- its number -/
theorem ev_tape (h : σ[i]? = some (some (.ref p))) (m : (p, tp k) ∈ O) (hi : Ev te σ F O (val rInt 0)) : Ev (tOp (rIxL K) (tVar i) te) σ F O (val rInt k) :=
  ev_op (ev_o (R := rInt) (as := [k]) h m ⟨⟨rfl, trivial⟩, show (1 : Nat) ≤ limL by decide⟩) hi (o_ixL rfl)
theorem sx_tape {n : Nat} {z : Int} (hj : σ[j]? = some (some (.ref p))) (hO : O[n]? = some (p, tp k)) (h : Ev te σ F O (val rInt z)) (hi : Ev tb σ F O (val rInt 0))
    (q : ∀ F', Same F F' → Nx Z D σ F' (O.set n (p, tp z))) : Sx Z (tAsg te (gSub (tVar j) tb rSetL)) D σ F O :=
  sx_setL (R := rInt) (as := [k]) (m := 0) hj hO ⟨⟨rfl, trivial⟩, show (1 : Nat) ≤ limL by decide⟩ h hi rfl fun v F' e r => by
    obtain ⟨⟨r1, _⟩, _⟩ := r
    have r2 : v = .int z := r1
    subst r2
    exact q F' e
/-- promises of defs that take a tape -/
def spM (P : Addr → List Ar → Int → Ar → Int → Prop) : Sp := fun vs H Q _ => ∃ F p As k C k', P p As k C k' ∧ Same F H ∧ F p = none ∧ H p = some (tp k) ∧ AllA As vs F H ∧ ∀ v F' H', GrT p F H F' H' → H' p = some (tp k') → C.p v F' H' → Q v H'
def spMN {α : Type} (R : Rep α) (P : Addr → List Ar → Int → List α → Int → Prop) : Sp := fun vs H Q _ => ∃ F p As k bs k', P p As k bs k' ∧ Same F H ∧ F p = none ∧ H p = some (tp k) ∧ AllA As vs F H ∧
  ∀ q xs F' H', GrT p F H F' H' → H' p = some (tp k') → H q = none → F' q = none → H' q = some (.lst xs) → AllB R bs xs F' → Q (.ref q) H'
theorem At.newT {F2 H H2 : Hp} {n : Nat} {o' o2 : HO} {q : Addr} (k : At Z F O H) (g : GrT p F H F2 H2) (h : O[n]? = some (p, o)) (hx : H2 p = some o') (hn : H q = none) (hf : F2 q = none) (hq : H2 q = some o2) : At Z F2 ((q, o2) :: O.set n (p, o')) H2 := by
  have k' := k.grT g h hx
  refine ⟨⟨k'.ok.ex, fun r m => ?_⟩, k'.b, k'.f0, k'.sep, fun r m => ?_, ?_⟩
  · rcases List.mem_cons.mp m with e | m
    · subst e; exact ⟨hf, hq⟩
    · exact k'.ok.own r m
  · rcases List.mem_cons.mp m with e | m
    · subst e; exact k.b.free hn
    · exact k'.ob r m
  · rw [List.map_cons, List.nodup_cons]
    refine ⟨fun m => ?_, k'.nd⟩
    rw [set_keys h] at m
    obtain ⟨r, m, e⟩ := List.mem_map.mp m
    have e2 := (k.ok.own r m).2
    rw [e, hn] at e2
    cases e2
theorem evM_call {P : Addr → List Ar → Int → Ar → Int → Prop} {E : XK} {as : List Ar} {k' : Int} {n : Nat} (h : EvAM Z ts σ F O O1 as) (hp : P p as k C k') (hO : O1[n]? = some (p, tp k)) : EvM Z (tCall (spM P) [] E ts) σ F O (O1.set n (p, tp k')) C := fun F1 H e at0 Q q =>
  h F1 H e at0 _ fun vs F2 H2 e2 at2 a => by
    have o := at2.ok.own _ (List.mem_of_getElem? hO)
    exact ⟨F2, p, as, k, C, k', hp, at2.ok.ex, o.1, o.2, by rw [List.append_nil]; exact a, fun v F3 H3 g x c => q v F3 H3 (e2.trans g.f) (at2.grT g hO x) c⟩
theorem evM_callN {P : Addr → List Ar → Int → List α → Int → Prop} {E : XK} {as : List Ar} {bs : List α} {k' : Int} {n : Nat} (h : EvAM Z ts σ F O O1 as) (hp : P p as k bs k') (hO : O1[n]? = some (p, tp k)) : EvMN Z (tCall (spMN R P) [] E ts) σ F O (O1.set n (p, tp k')) R bs := fun F1 H e at0 Q q =>
  h F1 H e at0 _ fun vs F2 H2 e2 at2 a => by
    have o := at2.ok.own _ (List.mem_of_getElem? hO)
    exact ⟨F2, p, as, k, bs, k', hp, at2.ok.ex, o.1, o.2, by rw [List.append_nil]; exact a, fun r xs F3 H3 g x n f y c => q r xs F3 H3 (e2.trans g.f) (at2.newT g hO x n f y) c⟩
theorem rtM_val {F0 H0 : Hp} {v : V} {Q : VK} {nx : L2.St → Hp → Prop} {k' : Int} (k : ∀ v F' H', GrT p F0 H0 F' H' → H' p = some (tp k') → C.p v F' H' → Q v H') (m : (p, tp k') ∈ O) (h : ∀ H, C.p v F H) : Rt ⟨F0, but p H0⟩ { nx := nx, rt := Q } v F O := fun H a =>
  k v F H (a.doneT m).1 (a.doneT m).2 (h H)
theorem rtM_own {F0 H0 : Hp} {q : Addr} {xs : List V} {bs : List α} {Q : VK} {nx : L2.St → Hp → Prop} {k' : Int} {i j : Nat} (k : ∀ q xs F' H', GrT p F0 H0 F' H' → H' p = some (tp k') → H0 q = none → F' q = none → H' q = some (.lst xs) → AllB R bs xs F' → Q (.ref q) H')
    (m : O[i]? = some (p, tp k')) (mq : O[j]? = some (q, HO.lst xs)) (hij : i ≠ j) (h : AllB R bs xs F) : Rt ⟨F0, but p H0⟩ { nx := nx, rt := Q } (.ref q) F O := fun H a => by
  have hq : q ≠ p := fun z => by
    have a1 : (O.map (·.1))[i]? = some p := by rw [List.getElem?_map, m]; rfl
    have a2 : (O.map (·.1))[j]? = some p := by rw [List.getElem?_map, mq, ← z]; rfl
    have l1 := (List.getElem?_eq_some_iff.mp a1)
    have l2 := (List.getElem?_eq_some_iff.mp a2)
    exact hij ((List.getElem_inj a.nd).mp (l1.2.trans l2.2.symm))
  have mp := List.mem_of_getElem? m
  have mq' := List.mem_of_getElem? mq
  refine k q xs F H (a.doneT mp).1 (a.doneT mp).2 ?_ (a.ok.own _ mq').1 (a.ok.own _ mq').2 h
  have h2 : but p H0 q = none := a.ob _ mq'
  unfold but at h2
  rw [if_neg hq] at h2
  exact h2

/-! ### statements -/
theorem sx_asgM {a : α} (h : EvM Z te σ F O O1 (val R a)) (k : ∀ v F', Same F F' → R.rp a v F' → Nx Z D (σ.set i (some v)) F' O1) : Sx Z (tAsg te (gName i)) D σ F O := fun H at0 =>
  h F H (Same.refl _) at0 _ fun v F' H' e at2 r => k v F' e r H' at2
theorem sx_asgMN {as : List α} (h : EvMN Z te σ F O O1 R as) (k : ∀ p xs F', Same F F' → AllB R as xs F' → Nx Z D (σ.set i (some (.ref p))) F' ((p, .lst xs) :: O1)) : Sx Z (tAsg te (gName i)) D σ F O := fun H at0 =>
  h F H (Same.refl _) at0 _ fun p xs F' H' e at2 r => k p xs F' e r H' at2
theorem sx_asgM2 {a : α} {b : β} {n m : Nat} (h : EvM Z te σ F O O1 (val (rT2 R R') (a, b))) (q : ∀ v w F', Same F F' → R.rp a v F' → R'.rp b w F' → Nx Z D ((σ.set n (some v)).set m (some w)) F' O1) : Sx Z (tAsg te (gTup K 2 (gCons (gName n) (gCons (gName m) gNil)))) D σ F O := fun H at0 =>
  h F H (Same.refl _) at0 _ fun x F' H' e at2 r => tg_2 (K := K) (a, b) x σ F' H' _ r at2.ok.ex fun σ' ⟨v, w, e2, h1, h2⟩ => by
    subst e2
    exact q v w F' e h1 h2 H' at2
theorem sx_asgM3 {a : α} {b : β} {c : γ} {R'' : Rep γ} {n m l : Nat} (h : EvM Z te σ F O O1 (val (rT3 R R' R'') (a, b, c))) (q : ∀ v w x F', Same F F' → R.rp a v F' → R'.rp b w F' → R''.rp c x F' → Nx Z D (((σ.set n (some v)).set m (some w)).set l (some x)) F' O1) :
    Sx Z (tAsg te (gTup K 3 (gCons (gName n) (gCons (gName m) (gCons (gName l) gNil))))) D σ F O := fun H at0 =>
  h F H (Same.refl _) at0 _ fun x F' H' e at2 r => tg_3 (K := K) (a, b, c) x σ F' H' _ r at2.ok.ex fun σ' ⟨v, w, y, e2, h1, h2, h3⟩ => by
    subst e2
    exact q v w y F' e h1 h2 h3 H' at2
theorem sx_dropM (h : EvM Z te σ F O O1 A) (k : ∀ F', Same F F' → Nx Z D σ F' O1) : Sx Z (tDrop te) D σ F O := fun H at0 =>
  h F H (Same.refl _) at0 _ fun v F' H' e at2 _ => k F' e H' at2
theorem sx_retM {a : α} (h : EvM Z te σ F O O1 (val R a)) (k : ∀ v F', Same F F' → R.rp a v F' → Rt Z D v F' O1) : Sx Z (tRet te) D σ F O := fun H at0 =>
  h F H (Same.refl _) at0 _ fun v F' H' e at2 r => k v F' e r H' at2
theorem sx_retMN {as : List α} (h : EvMN Z te σ F O O1 R as) (k : ∀ p xs F', Same F F' → AllB R as xs F' → Rt Z D (.ref p) F' ((p, .lst xs) :: O1)) : Sx Z (tRet te) D σ F O := fun H at0 =>
  h F H (Same.refl _) at0 _ fun p xs F' H' e at2 r => k p xs F' e r H' at2
theorem sx_ifM {b : Bool} (h : EvTM Z tt σ F O O1 b) (h1 : b = true → ∀ F', Same F F' → Sx Z t D σ F' O1) (h2 : b = false → ∀ F', Same F F' → Sx Z u D σ F' O1) : Sx Z (tIfS tt t u) D σ F O := fun H at0 =>
  h F H (Same.refl _) at0 _ fun F' H' e at2 => by
    cases b with
    | true =>
      show t D σ H'
      exact h1 rfl F' e H' at2
    | false =>
      show u D σ H'
      exact h2 rfl F' e H' at2
/-- xs.append(e) -/
theorem sx_appM {n : Nat} {xs : List V} {as : List α} {a : α} (hj : σ[j]? = some (some (.ref p))) (hO0 : ∃ o, (p, o) ∈ O ∧ o = HO.lst xs) (hO : O1[n]? = some (p, .lst xs)) (hx : AllB R as xs F) (h : EvM Z te σ F O O1 (val R a)) (hz : (as ++ [a]).length ≤ limL)
    (k : ∀ v F', Same F F' → AllB R (as ++ [a]) (xs ++ [v]) F' → Nx Z D σ F' (O1.set n (p, .lst (xs ++ [v])))) : Sx Z (tDrop (tBM K "list" rAppend (tVar j) (tCons te tNil))) D σ F O := fun H at0 => by
  obtain ⟨_, m0, rfl⟩ := hO0
  have hp := at0.ok.own _ m0
  refine ⟨.ref p, hj, Or.inl ⟨rfl, xs, Or.inl (Or.inl hp.2)⟩, h F H (Same.refl _) at0 _ fun v F' H' e at2 r => ?_⟩
  have hp2 := at2.ok.own _ (List.mem_of_getElem? hO)
  refine ⟨p, xs, v, rfl, rfl, hp2.2, sz_lt hx.sz, k v F' e ⟨All2.app (hx.all.mono e) (All2.one r), hz⟩ _ (At.write at2 hO)⟩
theorem sx_forM {f : S → α → Option (Fw ρ S)} {s0 : S} {out : Fw ρ S} {J : S → L2.St → Hp → Own → Prop} {Ro : ρ → V → Hp → Own → Prop} {g : TG} {body : TS} {wi : TI} {as : List α} {P : α → L2.St → L2.St → Hp → Prop}
    (hm : loop f as s0 = some out) (hi : EvIM Z wi σ F O O1 R as) (hg : Tg g R P) (h0 : ∀ F', Same F F' → J s0 σ F' O1) (acc : AccL Z D J Ro F out)
    (turn : ∀ s a σ' σ2 F' F2 O' o D', a ∈ as → Same F F' → Same F' F2 → J s σ' F' O' → P a σ' σ2 F2 → f s a = some o → Acc Z D' J Ro F2 o → Sx Z body D' σ2 F2 O') : Sx Z (tFor wi g body) D σ F O := fun H at0 => by
  refine hi F H (Same.refl _) at0 _ fun J' F1 H1 g1 at1 wk => ?_
  have acc1 : AccL Z D J Ro F1 out := ⟨fun s e σ2 F2 O2 e2 => acc.nx s e σ2 F2 O2 (g1.trans e2), fun r e v F2 O2 e2 => acc.rt r e v F2 O2 (g1.trans e2)⟩
  refine ⟨fun k m σ' H' => m = as.length - k ∧ k ≤ as.length ∧ Lw Z f J out as F1 k σ' H', ⟨as.length, by simp, Nat.zero_le _, s0, F1, O1, Same.refl _, h0 F1 g1, at1, hm⟩, fun k m σ' H' ⟨em, hk, w⟩ => ?_⟩
  subst em
  have w' := w
  obtain ⟨_, F', O', e, _, at', _⟩ := w'
  by_cases hlt : k < as.length
  · have ha : as[k]? = some as[k] := List.getElem?_eq_getElem hlt
    obtain ⟨hgo, hy⟩ := (wk.2 k F' H' e at'.ok.ex).1 _ ha
    refine Or.inr ⟨hgo, Lw Z f J out as F1 (k + 1), fun σ2 H2 w2 => ⟨as.length - (k + 1), by omega, rfl, hlt, w2⟩, fun x H2 y => ?_⟩
    refine lw_turn acc1 ha w fun s F' O' o e j2 at' hf ac => ?_
    obtain ⟨F2, g2, r⟩ := ((wk.2 k F' H' e at'.ok.ex).1 _ ha).2 x H2 y
    refine hg _ x σ' F2 H2 _ r g2.fh fun σ2 p => ?_
    refine turn s _ σ' σ2 F' F2 O' o _ (List.mem_of_getElem? ha) (g1.trans e) g2.f j2 p hf ?_ H2 (at'.gr g2)
    exact ⟨fun s e σ3 F3 O3 e3 => ac.nx s e σ3 F3 O3 (g2.f.trans e3), fun s e σ3 F3 O3 e3 => ac.bk s e σ3 F3 O3 (g2.f.trans e3), fun r e v F3 O3 e3 => ac.rt r e v F3 O3 (g2.f.trans e3)⟩
  · have e2 : k = as.length := by omega
    exact Or.inl ⟨(wk.2 k F' H' e at'.ok.ex).2 (by omega), lw_end e2 acc1 w⟩

/-! ### comprehensions whose things move the tape -/
def mapFM (f : Int → α → Option (Option β × Int)) : List α → Int → Option (List β × Int)
  | [], k => some ([], k)
  | a :: as, k => match f k a with
    | none => none
    | some (o, k') => match mapFM f as k' with
      | none => none
      | some (bs, k2) => some ((match o with | some b => b :: bs | none => bs), k2)
theorem mapFM_cons {f : Int → α → Option (Option β × Int)} {a : α} {as : List α} {bs : List β} {k k2 : Int} (h : mapFM f (a :: as) k = some (bs, k2)) : ∃ o k' cs, f k a = some (o, k') ∧ mapFM f as k' = some (cs, k2) ∧ bs = (match o with | some b => b :: cs | none => cs) := by
  unfold mapFM at h
  cases e : f k a with
  | none => rw [e] at h; cases h
  | some ok =>
    obtain ⟨o, k'⟩ := ok
    rw [e] at h
    cases e2 : mapFM f as k' with
    | none => simp only [e2] at h; cases h
    | some cs =>
      obtain ⟨cs, k3⟩ := cs
      simp only [e2] at h
      cases h
      exact ⟨o, k', cs, rfl, e2, rfl⟩
theorem evM_lc {f : Int → α → Option (Option β × Int)} {Of : Int → Own} {k0 k1 : Int} {wi : TI} {g : TG} {vs : List Nat} {as : List α} {bs : List β} {P : α → L2.St → L2.St → Hp → Prop}
    (hm : mapFM f as k0 = some (bs, k1)) (hi : EvIM Z wi σ F O (Of k0) R as) (hg : Tg g R P)
    (turn : ∀ Z' a σ2 F' F2 k ob k', a ∈ as → Same F F' → Same F' F2 → P a (wipe σ vs) σ2 F2 → f k a = some (ob, k') → wipe σ2 vs = wipe σ vs ∧ EvT tt σ2 F2 (Of k) ob.isSome ∧ (ob = none → k' = k) ∧ ∀ b, ob = some b → EvM Z' te σ2 F2 (Of k) (Of k') (val R' b)) :
    EvMN Z (tLc wi g tt te vs) σ F O (Of k1) R' bs := fun F1 H e0 at0 Q q => by
  refine hi F1 H e0 at0 _ fun J F2 H2 e2 at2 wk L hL => ?_
  let W : Nat → Hp → Prop := fun i H' => ∃ F' acc done rest k, Same F2 F' ∧ At Z F' ((L, .lst acc) :: Of k) H' ∧ All2 R' done acc F' ∧ mapFM f (as.drop i) k = some (rest, k1) ∧ done ++ rest = bs ∧ done.length ≤ i
  refine ⟨fun i m H' => m = as.length - i ∧ i ≤ as.length ∧ W i H', ⟨as.length, by simp, Nat.zero_le _, F2, [], [], bs, k0, Same.refl _, at2.new (Gr.gar at2.ok.ex hL) hL (free_of at2.ok.ex hL) upd_same, trivial, hm, rfl, Nat.le_refl _⟩, fun i m H' ⟨em, hile, F', acc, done, rest, k, eF, atk, ha2, hrest, hbs, hdl⟩ => ?_⟩
  subst em
  by_cases hlt : i < as.length
  · have ha : as[i]? = some as[i] := List.getElem?_eq_getElem hlt
    obtain ⟨hgo, hy⟩ := (wk.2 i F' H' eF atk.ok.ex).1 _ ha
    refine Or.inr ⟨hgo, W (i + 1), fun H3 w => ⟨as.length - (i + 1), by omega, rfl, hlt, w⟩, fun x H3 y => ?_⟩
    obtain ⟨F3, g3, r⟩ := hy x H3 y
    rw [List.drop_eq_getElem_cons hlt] at hrest
    obtain ⟨o, k', cs, e1, e2', e3⟩ := mapFM_cons hrest
    refine hg _ x (wipe σ vs) F3 H3 _ r g3.fh fun σ2 p => ?_
    have at3 := atk.gr g3
    obtain ⟨hw, ht, hno, he⟩ := turn (Z.hide L (.lst acc)) as[i] σ2 F' F3 k o k' (List.mem_of_getElem? ha) ((e0.trans e2).trans eF) g3.f p e1
    refine ⟨hw, ht H3 at3.hide.ok _ fun F4 H4 g4 => ?_⟩
    have at4 := at3.gr g4
    have lL : Z.B L = none := atk.ob (L, .lst acc) (List.mem_cons_self ..)
    have lF : Z.F0 L = none := atk.f0.free (atk.ok.own (L, .lst acc) (List.mem_cons_self ..)).1
    cases o with
    | none =>
      show W (i + 1) H4
      have e5 := hno rfl
      subst e5
      exact ⟨F4, acc, done, cs, k', (eF.trans g3.f).trans g4.f, at4, ha2.mono (g3.trans g4).f, e2', by rw [← hbs, e3], by omega⟩
    | some b =>
      show te σ2 H4 _
      refine he b rfl F4 H4 g4.f at4.hide _ fun v F5 H5 e5 at5 r5 => ?_
      have at6 := at5.show lF lL
      have lacc : acc.length ≤ limL := by
        rw [← ha2.len]
        have := wk.1
        omega
      have hacc5 := (at6.ok.own (L, .lst acc) (List.mem_cons_self ..)).2
      exact ⟨acc, hacc5, sz_lt lacc, F5, acc ++ [v], done ++ [b], cs, k', ((eF.trans g3.f).trans g4.f).trans e5, At.write (n := 0) at6 rfl, (ha2.mono ((g3.trans g4).f.trans e5)).app (All2.one r5), e2', by rw [← hbs, e3, List.append_assoc]; rfl, by rw [List.length_append]; simp; omega⟩
  · refine Or.inl ⟨(wk.2 i F' H' eF atk.ok.ex).2 (by omega), ?_⟩
    rw [List.drop_eq_nil_of_le (by omega)] at hrest
    have er := Option.some.inj hrest
    have er1 : rest = [] := (congrArg Prod.fst er).symm
    have er2 : k = k1 := congrArg Prod.snd er
    subst er2
    rw [er1, List.append_nil] at hbs
    subst hbs
    exact q L acc F' H' (e2.trans eF) atk ⟨ha2, Nat.le_trans (by omega) wk.1⟩

/-! ### owned lists looked at by a call, for a while -/
theorem frzA_at : ∀ {O : Own} {H : Hp}, Ok F O H → ∀ q ∈ O, frzA F O q.1 = some q.2
  | [], _, _, _, m => by cases m
  | r :: O, H, k, q, m => by
    show upd (frzA F O) r.1 r.2 q.1 = some q.2
    by_cases z : q.1 = r.1
    · rw [z, upd_same]
      have h1 := (k.own q m).2
      have h2 := (k.own r (List.mem_cons_self ..)).2
      rw [z, h2] at h1
      exact h1
    · rw [upd_ne z]
      rcases List.mem_cons.mp m with e | m
      · exact absurd (by rw [e]) z
      · exact frzA_at (O := O) ⟨k.ex, fun s n => k.own s (List.mem_cons_of_mem _ n)⟩ q m
theorem frzA_same : ∀ {O : Own}, (∀ q ∈ O, F q.1 = none) → Same F (frzA F O)
  | [], _ => Same.refl _
  | r :: O, h => fun a u e => by
    show upd (frzA F O) r.1 r.2 a = some u
    rw [upd_ne (ne_of_none e (h r (List.mem_cons_self ..)))]
    exact frzA_same (O := O) (fun q m => h q (List.mem_cons_of_mem _ m)) a u e
theorem ev_peekP {c : γ} {Rc : Rep γ} {f : γ → V} (hf : Fl Rc f) (h : Same F (frzA F O) → (∀ q ∈ O, frzA F O q.1 = some q.2) → Ev te σ (frzA F O) [] (val Rc c)) : Ev te σ F O (val Rc c) := fun H k Q q =>
  ev_peek hf (h (frzA_same fun q m => (k.own q m).1) (frzA_at k)) H k Q q
theorem et_peekP {b : Bool} (h : Same F (frzA F O) → (∀ q ∈ O, frzA F O q.1 = some q.2) → EvT tt σ (frzA F O) [] b) : EvT tt σ F O b := fun H k Q q =>
  et_peek (h (frzA_same fun q m => (k.own q m).1) (frzA_at k)) H k Q q
/-- a call that gives a new list of things that stand by themselves -/
theorem evN_peek {as : List α} {f : α → V} (hf : Fl R f) (h : Same F (frzA F O) → (∀ q ∈ O, frzA F O q.1 = some q.2) → EvN te σ (frzA F O) [] R as) : EvN te σ F O R as := fun H k Q q =>
  h (frzA_same fun q m => (k.own q m).1) (frzA_at k) H ⟨frz_same k, fun _ m => (by cases m)⟩ Q fun p xs F' H' g n f' x r =>
    q p xs F H' ⟨Same.refl _, g.h, k.ex.trans g.h, fun _ n _ => n⟩ n (free_of k.ex n) x ⟨by rw [r.all.map hf]; exact All2.of_map hf as, r.len⟩
end
end Lm
/-! Lm: more of lists. -/
namespace Lm
open PySem PySem.Spec L2
/-- the greatest, the least -/
def maxO : List Int → Option Int
  | [] => none
  | n :: ns => some (ns.foldl max n)
def minO : List Int → Option Int
  | [] => none
  | n :: ns => some (ns.foldl min n)
theorem foldl_max : ∀ (ns : List Int) (n : Int), (ns.foldl max n ∈ n :: ns) ∧ ∀ y ∈ n :: ns, y ≤ ns.foldl max n
  | [], n => ⟨List.mem_singleton.mpr rfl, fun y m => by rw [List.mem_singleton.mp m]; exact Int.le_refl _⟩
  | a :: ns, n => by
    obtain ⟨h1, h2⟩ := foldl_max ns (max n a)
    show ns.foldl max (max n a) ∈ n :: a :: ns ∧ ∀ y ∈ n :: a :: ns, y ≤ ns.foldl max (max n a)
    have e : n ≤ max n a ∧ a ≤ max n a := ⟨by omega, by omega⟩
    have h3 := h2 (max n a) (List.mem_cons_self ..)
    refine ⟨?_, fun y m => ?_⟩
    · rcases List.mem_cons.mp h1 with z | z
      · by_cases q : n ≤ a
        · have : max n a = a := by omega
          rw [z, this]
          exact List.mem_cons_of_mem _ (List.mem_cons_self ..)
        · have : max n a = n := by omega
          rw [z, this]
          exact List.mem_cons_self ..
      · exact List.mem_cons_of_mem _ (List.mem_cons_of_mem _ z)
    · rcases List.mem_cons.mp m with z | m
      · subst z; exact Int.le_trans e.1 h3
      · rcases List.mem_cons.mp m with z | m
        · subst z; exact Int.le_trans e.2 h3
        · exact h2 y (List.mem_cons_of_mem _ m)
theorem foldl_min : ∀ (ns : List Int) (n : Int), (ns.foldl min n ∈ n :: ns) ∧ ∀ y ∈ n :: ns, ns.foldl min n ≤ y
  | [], n => ⟨List.mem_singleton.mpr rfl, fun y m => by rw [List.mem_singleton.mp m]; exact Int.le_refl _⟩
  | a :: ns, n => by
    obtain ⟨h1, h2⟩ := foldl_min ns (min n a)
    show ns.foldl min (min n a) ∈ n :: a :: ns ∧ ∀ y ∈ n :: a :: ns, ns.foldl min (min n a) ≤ y
    have e : min n a ≤ n ∧ min n a ≤ a := ⟨by omega, by omega⟩
    have h3 := h2 (min n a) (List.mem_cons_self ..)
    refine ⟨?_, fun y m => ?_⟩
    · rcases List.mem_cons.mp h1 with z | z
      · by_cases q : n ≤ a
        · have : min n a = n := by omega
          rw [z, this]
          exact List.mem_cons_self ..
        · have : min n a = a := by omega
          rw [z, this]
          exact List.mem_cons_of_mem _ (List.mem_cons_self ..)
      · exact List.mem_cons_of_mem _ (List.mem_cons_of_mem _ z)
    · rcases List.mem_cons.mp m with z | m
      · subst z; exact Int.le_trans h3 e.1
      · rcases List.mem_cons.mp m with z | m
        · subst z; exact Int.le_trans h3 e.2
        · exact h2 y (List.mem_cons_of_mem _ m)
theorem maxO_e {ns : List Int} {m : Int} (h : maxO ns = some m) : m ∈ ns ∧ ∀ y ∈ ns, y ≤ m := by
  cases ns with
  | nil => cases h
  | cons n ns => cases h; exact foldl_max ns n
theorem minO_e {ns : List Int} {m : Int} (h : minO ns = some m) : m ∈ ns ∧ ∀ y ∈ ns, m ≤ y := by
  cases ns with
  | nil => cases h
  | cons n ns => cases h; exact foldl_min ns n
/-- the first place -/
def idxO (x : Int) : List Int → Option Int
  | [] => none
  | n :: ns => if n = x then some 0 else (idxO x ns).map (· + 1)
theorem idxO_e {x : Int} : ∀ {ns : List Int} {i : Int}, idxO x ns = some i → ∃ j : Nat, i = (j : Int) ∧ ns[j]? = some x ∧ ∀ m < j, ∀ y, ns[m]? = some y → y ≠ x
  | [], _, h => by cases h
  | n :: ns, i, h => by
    unfold idxO at h
    by_cases e : n = x
    · rw [if_pos e] at h
      cases h
      exact ⟨0, rfl, by rw [e]; rfl, fun m h => absurd h (Nat.not_lt_zero _)⟩
    · rw [if_neg e] at h
      cases e2 : idxO x ns with
      | none => rw [e2] at h; cases h
      | some j =>
        rw [e2] at h
        cases h
        obtain ⟨k, hk, h1, h2⟩ := idxO_e e2
        subst hk
        refine ⟨k + 1, rfl, h1, fun m hm y hy => ?_⟩
        cases m with
        | zero => cases hy; exact e
        | succ m => exact h2 m (by omega) y hy
section
variable {α β γ ρ S : Type} {R : Rep α} {R' : Rep β} {Z : Bs} {D : Ends} {σ : L2.St} {F F1 : Hp} {O O1 O2 O' : Own} {te ta tb tc to : TE} {tt tu : TT} {t u : TS} {ts : TA} {A B C : Ar} {K : PySem.W.Frag} {p : Addr} {o : HO} {i j : Int}
theorem b_maxO {ns : List Int} {m : Int} (h : maxO ns = some m) : Cb (rMax K) [spn rInt ns] (val rInt m) := b_max (maxO_e h).1 (maxO_e h).2
theorem b_minO {ns : List Int} {m : Int} (h : minO ns = some m) : Cb (rMin K) [spn rInt ns] (val rInt m) := b_min (minO_e h).1 (minO_e h).2
theorem flat_ints : ∀ ns : List Int, (ns.map V.int).all flatV = true
  | [] => rfl
  | n :: ns => by rw [List.map_cons, List.all_cons, flat_ints ns]; rfl
theorem eqv_int (a b : Int) : eqV (.int a) (.int b) = decide (a = b) := rfl
theorem ev_lindex {ns : List Int} {x c : Int} (h : idxO x ns = some c) (ho : Ev to σ F O (spn rInt ns)) (ha : EvA ts σ F O [val rInt x]) : Ev (tBM K "list" (rIndex K) to ts) σ F O (val rInt c) := fun H k Q q =>
  ho H k _ fun v F1 H1 g1 ⟨p, xs, ev, hp, hx⟩ => by
    subst ev
    refine ⟨Or.inl ⟨rfl, xs, sq_of hp⟩, (ha.mono g1.f) H1 (k.gr g1) _ fun vs F2 H2 g2 b => ?_⟩
    obtain ⟨w, rfl, e⟩ := alla1 b
    have e' : w = .int x := e
    subst e'
    obtain ⟨j, ej, h1, h2⟩ := idxO_e h
    have ex := hx.all.map flI
    subst ex ej
    refine ⟨p, _, .int x, j, .int x, rfl, rfl, sq_of (g2.h _ _ hp), rfl, flat_ints ns, by rw [List.getElem?_map, h1]; rfl, by rw [eqv_int]; exact decide_eq_true rfl, fun m z hm hz => ?_, q _ F2 H2 (g1.trans g2) rfl⟩
    rw [List.getElem?_map] at hz
    cases e3 : ns[m]? with
    | none => rw [e3] at hz; cases hz
    | some y =>
      rw [e3] at hz
      cases hz
      rw [eqv_int]
      exact decide_eq_false (h2 m hm y e3)
/-- a tape is made -/
theorem sx_asgT {n : Nat} {k : Int} (h : EvN te σ F O rInt [k]) (q : ∀ p F', Same F F' → Nx Z D (σ.set n (some (.ref p))) F' ((p, tp k) :: O)) : Sx Z (tAsg te (gName n)) D σ F O :=
  sx_asgN h fun p xs F' e r => by
    have ex : xs = [.int k] := r.all.map flI
    subst ex
    exact q p F' e
theorem ev_none (h : Ev te σ F O (val rN ())) : Ev te σ F O (val (rO R) none) := fun H k Q q => h H k Q fun v F' H' g a => q v F' H' g a
theorem ev_some {a : α} (hn : ∀ v F, R.rp a v F → v ≠ .non) (h : Ev te σ F O (val R a)) : Ev te σ F O (val (rO R) (some a)) := fun H k Q q => h H k Q fun v F' H' g r => q v F' H' g ⟨r, hn _ _ r⟩
theorem nn_I {a : Int} : ∀ v F, rInt.rp a v F → v ≠ .non := fun v F h z => by
  have h2 : v = .int a := h
  rw [z] at h2; cases h2
theorem nn_S {a : List Nat} : ∀ v F, rS.rp a v F → v ≠ .non := fun v F h z => by
  have h2 : v = .str (mk a) := h.1
  rw [z] at h2; cases h2
theorem nn_L {a : List α} : ∀ v F, (rL R).rp a v F → v ≠ .non := fun v F h z => by
  obtain ⟨p, xs, h2, _⟩ := h
  rw [z] at h2; cases h2
theorem nn_T2 {a : α × β} : ∀ v F, (rT2 R R').rp a v F → v ≠ .non := fun v F h z => by
  obtain ⟨p, x, y, h2, _⟩ := h
  rw [z] at h2; cases h2
end
end Lm
/-! Lm: plain laws of what mirrors are made of. -/
namespace Lm
open PySem PySem.Spec L2
theorem lt_eq {α β : Type} (a : α) (f : α → Option β) : lt a f = f a := rfl
theorem cnd_true {α : Type} (a b : Option α) : cnd true a b = a := rfl
theorem cnd_false {α : Type} (a b : Option α) : cnd false a b = b := rfl
theorem bind_some {α β : Type} (a : α) (f : α → Option β) : (some a).bind f = f a := rfl
theorem fwd_nx {ρ S γ : Type} (s : S) (k : S → Option γ) (kr : ρ → Option γ) : fwd (some (Fw.nx s)) k kr = k s := rfl
theorem fwd_rt {ρ S γ : Type} (r : ρ) (k : S → Option γ) (kr : ρ → Option γ) : fwd (some (Fw.rt r)) k kr = kr r := rfl
theorem loop_nil {α ρ S : Type} (f : S → α → Option (Fw ρ S)) (s : S) : loop f [] s = some (.nx s) := rfl
theorem cnd_ite {α : Type} (c : Bool) (a b : Option α) : cnd c a b = if c = true then a else b := by cases c <;> rfl
theorem bind_e {α β : Type} {o : Option α} {a : α} {f : α → Option β} (h : o = some a) : o.bind f = f a := by rw [h]; rfl
/-- small products, quotients -/
theorem log2_lt64 {n : Nat} (h : n < 2 ^ 64) : n.log2 < 64 := by
  by_cases e : n = 0
  · subst e; decide
  · exact (Nat.log2_lt e).mpr h
theorem mulO_s {i j : Int} (hi : -(2 ^ 63) ≤ i ∧ i < 2 ^ 63) (hj : -(2 ^ 63) ≤ j ∧ j < 2 ^ 63) : mulO i j = some (i * j) := by
  unfold mulO
  rw [if_pos]
  have h1 := log2_lt64 (n := i.natAbs) (by omega)
  have h2 := log2_lt64 (n := j.natAbs) (by omega)
  omega
theorem modO_s {i j : Int} (h : 0 < j) : modO i j = some (i % j) := by unfold modO; rw [if_pos h]
theorem divO_s {i j : Int} (h : 0 < j ∧ j < 1073741824) : divO i j = some (i / j) := by unfold divO; rw [if_pos h]
theorem rngO_s {lo hi : Int} (h1 : -4000000 ≤ lo ∧ lo ≤ 4000000) (h2 : -4000000 ≤ hi ∧ hi ≤ lo + 4000000) : rngO lo hi = some (rng lo hi) := by
  unfold rngO
  have e : limL = 4000000 := rfl
  rw [if_pos]
  rw [e]
  omega
theorem ixN_nat {n i : Nat} (h : i < n) : ixN n (i : Int) = some i := by
  unfold ixN
  split
  · next h2 => simp [h]
  · next h2 => omega
theorem ixO_nat {α : Type} {as : List α} {i : Nat} {a : α} (h : as[i]? = some a) : ixO as (i : Int) = some a := by
  unfold ixO atI
  rw [ixN_nat (List.getElem?_eq_some_iff.mp h).1]
  exact h
theorem ixO_pos {α : Type} {as : List α} {i : Int} (h0 : 0 ≤ i) (h : i < as.length) : ixO as i = as[i.toNat]? := by
  obtain ⟨k, rfl⟩ := Int.eq_ofNat_of_zero_le h0
  have h2 : k < as.length := by omega
  rw [ixO_nat (List.getElem?_eq_getElem h2)]
  simp [h2]
theorem appO_s {α : Type} {as : List α} {a : α} (h : as.length < 4000000) : appO as a = some (as ++ [a]) := by
  unfold appO
  have e : limL = 4000000 := rfl
  rw [if_pos]
  rw [List.length_append, e]
  simp; omega
theorem catO_s {α : Type} {as bs : List α} (h : as.length + bs.length ≤ 4000000) : catO as bs = some (as ++ bs) := by
  unfold catO
  have e : limL = 4000000 := rfl
  rw [if_pos]
  rw [List.length_append, e]
  exact h
theorem repO_s {α : Type} {as : List α} {n : Int} (h : n.toNat * as.length ≤ 4000000) (h1 : -4000000 ≤ n ∧ n ≤ 4000000) : repO as n = some (List.replicate n.toNat as).flatten := by
  unfold repO
  have e : limL = 4000000 := rfl
  rw [if_pos]
  rw [List.length_flatten, List.map_replicate, sum_rep, e]
  omega
theorem setO_nat {α : Type} {as : List α} {i : Nat} {a : α} (h : i < as.length) : setO as (i : Int) a = some (as.set i a) := by
  unfold setO
  rw [ixN_nat h]
  rfl
theorem rep_lenA {α : Type} (n : Nat) (l : List α) : (List.replicate n l).flatten.length = n * l.length := by
  rw [List.length_flatten, List.map_replicate, sum_rep]
/-! ### == of data -/
structure GE {α : Type} (f : α → PyData) (ok : α → Prop) (n : Nat) : Prop where
  lay : ∀ a, ok a → (f a).canLay0 = true
  dep : ∀ a, (f a).depth ≤ n
  eq : ∀ a b, PyData.eqv (f a) (f b) = true ↔ a = b
abbrev yes {α : Type} (_ : α) : Prop := True
abbrev oks {α : Type} (ok : α → Prop) (as : List α) : Prop := ∀ a ∈ as, ok a
section
variable {α β γ : Type} {f : α → PyData} {g : β → PyData} {h : γ → PyData} {ok : α → Prop} {ok2 : β → Prop} {ok3 : γ → Prop} {n m l : Nat}
theorem ge_eqO (h : GE f ok n) (hn : n ≤ 64) {a b : α} (ha : ok a) (hb : ok b) [Decidable (a = b)] : eqO (f a) (f b) = some (decide (a = b)) := by
  have s : ∀ a, ok a → SeqAt.shaped (f a) = true := fun a q => by
    unfold SeqAt.shaped
    rw [h.lay a q, Bool.true_and]
    exact decide_eq_true (Nat.le_trans (h.dep a) hn)
  unfold eqO
  rw [if_pos ⟨s a ha, s b hb⟩]
  congr 1
  rw [Bool.eq_iff_iff, h.eq a b]
  simp
theorem gI : GE PyData.int yes 1 := ⟨fun _ _ => rfl, fun _ => by simp [PyData.depth], fun a b => by simp [PyData.eqv]⟩
theorem gB : GE PyData.bool yes 1 := ⟨fun _ _ => rfl, fun _ => by simp [PyData.depth], fun a b => by simp [PyData.eqv]⟩
theorem gS : GE encS OkS 1 := ⟨fun a h => by
  simp only [encS, PyData.canLay0, PyData.strOk]
  rw [Array.all_eq_true']
  intro x hx
  have := h.2 x (by simpa using hx)
  exact decide_eq_true (by omega), fun _ => by simp [encS, PyData.depth], fun a b => by
  simp only [encS, PyData.eqv, beq_iff_eq]
  exact ⟨mk_inj, fun e => by rw [e]⟩⟩
theorem gN : GE (fun (_ : Unit) => PyData.none) yes 1 := ⟨fun _ _ => rfl, fun _ => by simp [PyData.depth], fun a b => by simp [PyData.eqv]⟩
theorem ge_dep (h : GE f ok n) : ∀ as : List α, PyData.depthAll (as.map f) ≤ n
  | [] => Nat.zero_le _
  | a :: as => by
    rw [List.map_cons]
    simp only [PyData.depthAll]
    exact Nat.max_le.mpr ⟨h.dep a, ge_dep h as⟩
theorem ge_lay (h : GE f ok n) : ∀ as : List α, oks ok as → PyData.canLayAll0 (as.map f) = true
  | [], _ => rfl
  | a :: as, q => by
    rw [List.map_cons]
    simp only [PyData.canLayAll0, h.lay a (q a (List.mem_cons_self ..)), ge_lay h as (fun b m => q b (List.mem_cons_of_mem _ m)), Bool.and_self]
theorem ge_eqA (h : GE f ok n) : ∀ as bs : List α, PyData.eqvAll (as.map f) (bs.map f) = true ↔ as = bs := fun as => by
  induction as with
  | nil => intro bs; cases bs <;> simp [PyData.eqvAll]
  | cons a as ih =>
    intro bs
    cases bs with
    | nil => simp [PyData.eqvAll]
    | cons b bs => rw [List.map_cons, List.map_cons]; simp only [PyData.eqvAll, Bool.and_eq_true, h.eq, ih, List.cons.injEq]
theorem gL (h : GE f ok n) : GE (fun as : List α => PyData.list (as.map f)) (oks ok) (n + 1) := ⟨fun as q => by simp only [PyData.canLay0]; exact ge_lay h as q, fun as => by simp only [PyData.depth]; exact Nat.succ_le_succ (ge_dep h as), fun a b => by simp only [PyData.eqv]; exact ge_eqA h a b⟩
theorem gTL (h : GE f ok n) : GE (fun as : List α => PyData.tuple (as.map f)) (oks ok) (n + 1) := ⟨fun as q => by simp only [PyData.canLay0]; exact ge_lay h as q, fun as => by simp only [PyData.depth]; exact Nat.succ_le_succ (ge_dep h as), fun a b => by simp only [PyData.eqv]; exact ge_eqA h a b⟩
theorem gT2 (h1 : GE f ok n) (h2 : GE g ok2 m) : GE (fun t : α × β => PyData.tuple [f t.1, g t.2]) (fun t => ok t.1 ∧ ok2 t.2) (max n m + 1) := ⟨fun a q => by simp only [PyData.canLay0, PyData.canLayAll0, h1.lay _ q.1, h2.lay _ q.2, Bool.and_self], fun a => by
    simp only [PyData.depth, PyData.depthAll]
    have := h1.dep a.1
    have := h2.dep a.2
    omega, fun a b => by
    simp only [PyData.eqv, PyData.eqvAll, Bool.and_eq_true, h1.eq, h2.eq, Bool.and_true]
    exact ⟨fun z => Prod.ext z.1 z.2, fun z => by rw [z]; exact ⟨rfl, rfl⟩⟩⟩
theorem gT3 (h1 : GE f ok n) (h2 : GE g ok2 m) (h3 : GE h ok3 l) : GE (fun t : α × β × γ => PyData.tuple [f t.1, g t.2.1, h t.2.2]) (fun t => ok t.1 ∧ ok2 t.2.1 ∧ ok3 t.2.2) (max n (max m l) + 1) := ⟨fun a q => by simp only [PyData.canLay0, PyData.canLayAll0, h1.lay _ q.1, h2.lay _ q.2.1, h3.lay _ q.2.2, Bool.and_self], fun a => by
    simp only [PyData.depth, PyData.depthAll]
    have := h1.dep a.1
    have := h2.dep a.2.1
    have := h3.dep a.2.2
    omega, fun a b => by
    simp only [PyData.eqv, PyData.eqvAll, Bool.and_eq_true, h1.eq, h2.eq, h3.eq, Bool.and_true]
    exact ⟨fun z => Prod.ext z.1 (Prod.ext z.2.1 z.2.2), fun z => by rw [z]; exact ⟨rfl, rfl, rfl⟩⟩⟩
/-- lists of ints -/
theorem eqO_ints (as bs : List Int) : eqO (PyData.list (as.map PyData.int)) (PyData.list (bs.map PyData.int)) = some (decide (as = bs)) := ge_eqO (gL gI) (by decide) (fun _ _ => trivial) (fun _ _ => trivial)
theorem eqO_strs {as bs : List (List Nat)} (ha : oks OkS as) (hb : oks OkS bs) : eqO (PyData.list (as.map encS)) (PyData.list (bs.map encS)) = some (decide (as = bs)) := ge_eqO (gL gS) (by decide) ha hb
end
/-! ### comprehensions, loops -/
theorem mapF_map {α β : Type} {f : α → Option (Option β)} {g : α → β} : ∀ {as : List α}, (∀ a ∈ as, f a = some (some (g a))) → mapF f as = some (as.map g)
  | [], _ => rfl
  | a :: as, h => by
    have ih := mapF_map (as := as) fun b m => h b (List.mem_cons_of_mem _ m)
    simp only [mapF, h a (List.mem_cons_self ..), ih, List.map_cons]
theorem mapF_filter {α β : Type} {f : α → Option (Option β)} {p : α → Bool} {g : α → β} : ∀ {as : List α}, (∀ a ∈ as, f a = some (if p a = true then some (g a) else none)) → mapF f as = some ((as.filter p).map g)
  | [], _ => rfl
  | a :: as, h => by
    have ih := mapF_filter (as := as) fun b m => h b (List.mem_cons_of_mem _ m)
    have ha := h a (List.mem_cons_self ..)
    by_cases e : p a = true
    · rw [if_pos e] at ha
      simp only [mapF, ha, ih, List.filter_cons, e, if_true, List.map_cons]
    · rw [if_neg e] at ha
      simp only [mapF, ha, ih, List.filter_cons, e]
      rfl
/-- a comprehension over the tape: I i k: what holds of the tape behind i things -/
theorem mapFM_all {α β : Type} {f : Int → α → Option (Option β × Int)} {P : β → Prop} {I : Nat → Int → Prop} : ∀ {as : List α} {i : Nat} {k : Int}, I i k → (∀ j k a, a ∈ as → i ≤ j → j < i + as.length → I j k → ∃ b k', f k a = some (some b, k') ∧ P b ∧ I (j + 1) k') →
    ∃ bs k', mapFM f as k = some (bs, k') ∧ bs.length = as.length ∧ (∀ b ∈ bs, P b) ∧ I (i + as.length) k'
  | [], i, k, h, _ => ⟨[], k, rfl, rfl, fun _ m => (by cases m), h⟩
  | a :: as, i, k, h, q => by
    obtain ⟨b, k', e, hp, hi⟩ := q i k a (List.mem_cons_self ..) (Nat.le_refl _) (by simp) h
    obtain ⟨bs, k2, e2, hl, hb, hI⟩ := mapFM_all (as := as) (i := i + 1) hi fun j k c m h1 h2 => q j k c (List.mem_cons_of_mem _ m) (by omega) (by rw [List.length_cons]; omega)
    refine ⟨b :: bs, k2, by simp only [mapFM, e, e2], by rw [List.length_cons, List.length_cons, hl], fun c m => ?_, by
      rw [List.length_cons]
      have e9 : i + (as.length + 1) = i + 1 + as.length := by omega
      rw [e9]; exact hI⟩
    rcases List.mem_cons.mp m with z | m
    · subst z; exact hp
    · exact hb c m
/-- a for whose turns all go on: what holds behind i turns -/
theorem loop_all {α ρ S : Type} {f : S → α → Option (Fw ρ S)} {I : Nat → S → Prop} : ∀ {as : List α} {i : Nat} {s : S}, I i s → (∀ j s a, as[j]? = some a → I (i + j) s → ∃ s', f s a = some (.nx s') ∧ I (i + j + 1) s') → ∃ s', loop f as s = some (.nx s') ∧ I (i + as.length) s'
  | [], i, s, h, _ => ⟨s, rfl, h⟩
  | a :: as, i, s, h, q => by
    obtain ⟨s1, e, h1⟩ := q 0 s a rfl h
    obtain ⟨s2, e2, h2⟩ := loop_all (as := as) (i := i + 1) (s := s1) h1 fun j s b hb hI => by
      have e9 : i + 1 + j = i + (j + 1) := by omega
      rw [e9] at hI ⊢
      exact q (j + 1) s b hb hI
    refine ⟨s2, by simp only [loop, e, e2], ?_⟩
    rw [List.length_cons]
    have e9 : i + (as.length + 1) = i + 1 + as.length := by omega
    rw [e9]; exact h2
/-- a while: an invariant, a measure -/
theorem while_all {ρ S : Type} {c : S → Option Bool} {f : S → Option (Fw ρ S)} {I : S → Prop} {me : S → Nat} : ∀ {n : Nat} {s : S}, I s → me s < n → (∀ s, I s → ∃ b, c s = some b ∧ (b = true → ∃ s', f s = some (.nx s') ∧ I s' ∧ me s' < me s)) → ∃ s', whileN c f n s = some (.nx s') ∧ I s' ∧ c s' = some false
  | 0, s, h, hm, _ => absurd hm (Nat.not_lt_zero _)
  | n + 1, s, h, hm, q => by
    obtain ⟨b, hc, hb⟩ := q s h
    cases b with
    | false => exact ⟨s, by simp only [whileN, hc], h, hc⟩
    | true =>
      obtain ⟨s1, e1, h1, hm1⟩ := hb rfl
      obtain ⟨s2, e2, h2⟩ := while_all (n := n) (s := s1) h1 (by omega) q
      exact ⟨s2, by simp only [whileN, hc, e1, e2], h2⟩
/-! ### sums -/
theorem sum_set : ∀ {ns : List Int} {j : Nat} {a x : Int}, ns[j]? = some a → (ns.set j x).sum = ns.sum - a + x
  | [], _, _, _, h => by cases h
  | n :: ns, 0, a, x, h => by
    cases h
    simp; omega
  | n :: ns, j + 1, a, x, h => by
    have := sum_set (ns := ns) (j := j) (a := a) (x := x) h
    simp only [List.set_cons_succ, List.sum_cons, this]
    omega
theorem sum_le {c : Int} : ∀ {ns : List Int}, (∀ x ∈ ns, x ≤ c) → ns.sum ≤ c * ns.length
  | [], _ => by simp
  | n :: ns, h => by
    have ih := sum_le (ns := ns) fun x m => h x (List.mem_cons_of_mem _ m)
    have h1 := h n (List.mem_cons_self ..)
    rw [List.sum_cons, List.length_cons]
    have e : c * ((ns.length + 1 : Nat) : Int) = c * ns.length + c := by
      rw [Int.natCast_succ, Int.mul_add, Int.mul_one]
    omega
theorem sum_ge {c : Int} : ∀ {ns : List Int}, (∀ x ∈ ns, c ≤ x) → c * ns.length ≤ ns.sum
  | [], _ => by simp
  | n :: ns, h => by
    have ih := sum_ge (ns := ns) fun x m => h x (List.mem_cons_of_mem _ m)
    have h1 := h n (List.mem_cons_self ..)
    rw [List.sum_cons, List.length_cons]
    have e : c * ((ns.length + 1 : Nat) : Int) = c * ns.length + c := by
      rw [Int.natCast_succ, Int.mul_add, Int.mul_one]
    omega
theorem sum_rev (ns : List Int) : ns.reverse.sum = ns.sum := by
  induction ns with
  | nil => rfl
  | cons n ns ih => rw [List.reverse_cons, List.sum_append, ih]; simp; omega
end Lm
namespace Law
open PySem PySem.Spec PyProof.Rows L2 Lm
def top (i : Nat) : Stmt := PySem.Challenge.pw_lightmark_k09_shares.main.body.getD i (.Pass ⟨0, 0, 0, 0⟩)

structure Top (K : PySem.W.Frag) (mg : Str → Option Value) : Prop where
  b_all : mg "all" = none
  b_bool : mg "bool" = none
  b_int : mg "int" = none
  b_isinstance : mg "isinstance" = none
  b_len : mg "len" = none
  b_list : mg "list" = none
  b_max : mg "max" = none
  b_range : mg "range" = none
  b_sum : mg "sum" = none
  b_zip : mg "zip" = none

section
variable {P : Program} {w : World} {K : PySem.W.Frag} {mg : Str → Option Value} {base : Heap}
/-! shares -/
abbrev s_shares : Stmt := top 1
abbrev N_shares : List Str := ["wants", "room", "found", "at"]
theorem sc_shares : FnScope N_shares ["wants", "room"] (defScope s_shares) := ⟨rfl, rfl, rfl, by decide +kernel, rfl, by decide +kernel, by decide +kernel⟩
def m_shares (x_wants : List (Int)) (x_room : Int) : Option (List (Int)) := lt x_wants fun x1 => fwd (whileN (ρ := Unit) (fun (s18 : (List (Int))) => some (decide (x_room < s18.sum))) (fun (s28 : (List (Int))) => (maxO s28).bind fun c34 => (idxO c34 s28).bind fun c35 => lt c35 fun x36 => (ixO s28 x36).bind fun c40 => (setO s28 x36 (c40 - (1 : Int))).bind fun y41 => some (Fw.nx y41)) ((List.sum x1 - x_room).toNat + 1) x1) (fun (s10 : (List (Int))) => some s10) (fun (r : Unit) => none)
def P_shares (As : List Ar) (r : List (Int)) : Prop := ∃ (x_wants : List (Int)) (x_room : Int), As = [val (rL rInt) x_wants, val rInt x_room] ∧ m_shares x_wants x_room = some r
theorem ok_shares (T : Top K mg) (D : Df K mg "shares" s_shares)  : Cal P w K mg base 1 "shares" ["wants", "room"] (spN rInt (P_shares)) := by
  have SC := sc_shares
  refine cal_of (N := N_shares) D SC (fun _ _ _ _ _ _ us hl => match us, hl with | [_, _], _ => rfl) (fun vs H Q E h => ?_) (fun f cdv A outer s H vs Q E hr h => ?_)
  · obtain ⟨F0, As, r, ⟨x_wants, x_room, rfl, h⟩, e0, ha, k⟩ := h
    exact alla_len ha
  · obtain ⟨F0, As, r, ⟨x_wants, x_room, rfl, h⟩, e0, ha, k⟩ := h
    obtain ⟨v_wants, v_room, rfl, f_wants, f_room⟩ := alla2 ha
    refine ⟨_, (pss_cons (ps_set (i := 2) SC.nd rfl (Or.inl rfl) (pe_callTy call_cList (by rfl) T.b_list (by decide +kernel) (pa_cons (pv 0) pa_nil))) (pss_cons (ps_while PassesOwn.never (pt_cmpR op_xGt (pe_callB (cr_sum rfl) (by rfl) T.b_sum (by decide +kernel) (pa_cons (pv 2) pa_nil)) (pv 1) (nomark _)) (pss_cons (ps_set (i := 3) SC.nd rfl (Or.inl rfl) (pe_bm PySem.F.plainAttrs_list PySem.F.slot_list_index PySem.F.type_list_index mt_index (pv 2) (pa_cons (pe_callB (cr_max rfl) (by rfl) T.b_max (by decide +kernel) (pa_cons (pv 2) pa_nil)) pa_nil))) (pss_one (ps_asg (pe_op op_xSub (pe_ix ix_list (pv 2) (pv 3) (fun _ _ => rfl)) pe_int) (pg_sub (pv 2) (pv 3) set_list))))) (pss_one (ps_ret (pv 2))))), ?_⟩
    refine (show Sx ⟨F0, H⟩ _ _ [some v_wants, some v_room, none, none] F0 [] from ?_) H (At.start e0)
    have f_wants : ((rL rInt)).rp x_wants v_wants F0 := f_wants
    have f_room : (rInt).rp x_room v_room F0 := f_room
    obtain ⟨x1, hx1, h⟩ := lt_e h
    refine sx_seq (sx_asgN (ev_isN (ev_cbN (ea_cons (ev_spn (ev_v (R := (rL rInt)) rfl f_wants)) ea_nil) b_list) hx1) fun p4 xs5 Fs2 s2 f3 => nx_of ?_)
    obtain ⟨w6, hl7, hk8, hr9⟩ := fwd_o h
    refine sx_seq (sx_while (J := fun (s : (List (Int))) σ F O => ∃ (x_found : List V) (w_at : Option V), σ = [some v_wants, some v_room, some (.ref p4), w_at] ∧ O = [(p4, .lst x_found)] ∧ AllB rInt s x_found F ∧ True) (Ro := (fun (r : Unit) (v : V) (F : Hp) (O : Own) => False)) hl7 ⟨xs5, _, rfl, rfl, f3, trivial⟩ ?_ ?_ ?_ ?_)
    · refine ⟨fun s10 es11 σ9 Fe12 O9 e12 ⟨xs13, w14, hs15, ho16, f17, _⟩ => ?_, fun r9 er9 v9 F9 O9 e9 hr9 => ?_⟩
      · subst hs15 ho16
        have h := hk8 s10 es11
        refine nx_of ?_
        obtain rfl := Option.some.inj h
        refine sx_retO rfl ?_
        exact rt_own k (List.Mem.head _) f17
      · exact hr9.elim
    · rintro s18 σ9 Fe19 O9 b9 e19 ⟨xs20, w21, hs22, ho23, f24, _⟩ hc9
      subst hs22 ho23
      obtain rfl := Option.some.inj hc9
      exact (et_b (ev_op (ev_cb (ea_cons (ev_o (R := rInt) rfl (List.Mem.head _) f24) ea_nil) b_sum) (ev_v (R := rInt) rfl (Rep.mono rInt (s2.trans e19) f_room)) o_gt))
    · rintro s28 σ9 Fe25 Fe26 O9 o9 D9 e25 e26 ⟨xs29, w30, hs31, ho32, f33, _⟩ _ h acc27
      subst hs31 ho32
      obtain ⟨c34, hc34, h⟩ := bsome h
      obtain ⟨c35, hc35, h⟩ := bsome h
      obtain ⟨x36, hx36, h⟩ := lt_e h
      refine sx_seq (sx_asg (R := rInt) (ev_is (ev_lindex hc35 (ev_o (R := rInt) rfl (List.Mem.head _) (AllB.mono e26 f33)) (ea_cons (ev_cb (ea_cons (ev_o (R := rInt) rfl (List.Mem.head _) (AllB.mono e26 f33)) ea_nil) (b_maxO hc34)) ea_nil)) hx36) fun v39 Fs37 s37 f38 => nx_of ?_)
      obtain ⟨c40, hc40, h⟩ := bsome h
      obtain ⟨y41, hy41, h⟩ := bsome h
      obtain ⟨m42, hm44, he43⟩ := setO_e hy41
      refine sx_setL (n := 0) rfl rfl (AllB.mono (e26.trans s37) f33) (ev_op (ev_op (ev_o (R := rInt) rfl (List.Mem.head _) (AllB.mono (e26.trans s37) f33)) (ev_v (R := rInt) rfl f38) (o_ixL hc40)) ev_i o_sub) (ev_v (R := rInt) rfl f38) hm44 fun v45 Fs46 s46 f47 => ?_
      obtain rfl := Option.some.inj h
      exact (acc27.nx _ rfl _ _ _ (s37.trans s46) ⟨(List.set xs29 m42 v45), _, rfl, rfl, (he43 ▸ f47), trivial⟩).1
    · rintro s49 σ9 F8 F9 O9 ⟨xs50, w51, hs52, ho53, f54, _⟩ e48
      subst hs52 ho53
      exact ⟨xs50, _, rfl, rfl, (AllB.mono e48 f54), trivial⟩

/-! _law_draw -/
abbrev s__law_draw : Stmt := top 3
abbrev N__law_draw : List Str := ["_law_script", "_law_tape", "_law_many", "_law_seed", "_law_cell"]
theorem sc__law_draw : FnScope N__law_draw ["_law_script", "_law_tape", "_law_many"] (defScope s__law_draw) := ⟨rfl, rfl, rfl, by decide +kernel, rfl, by decide +kernel, by decide +kernel⟩
def m__law_draw (x__law_script : List Int) (x__law_tape : Int) (x__law_many : Int) : Option ((Int) × Int) := lt (x__law_tape + (1 : Int)) fun x2 => cnd (decide (x2 ≤ (x__law_script.length : Int))) ((ixO x__law_script (x2 - (1 : Int))).bind fun c6 => (modO c6 x__law_many).bind fun c7 => some (c7, x2)) (lt (x__law_script.length : Int) fun x11 => fwd (loop (ρ := Unit) (fun (s35 : Int) (a36 : Int) => (mulO s35 (131 : Int)).bind fun c47 => (modO (c47 + a36) (1000003 : Int)).bind fun c48 => lt c48 fun x49 => some (Fw.nx x49)) (cutL x__law_script none (some (4 : Int))) x11) (fun (s20 : Int) => (mulO x2 x2).bind fun c28 => (mulO (s20 + (7 : Int)) (c28 + (48271 : Int))).bind fun c29 => (modO c29 (1000003 : Int)).bind fun c30 => (modO c30 x__law_many).bind fun c31 => some (c31, x2)) (fun (r : Unit) => none))
def P__law_draw (K : PySem.W.Frag) (p_tape : Addr) (As : List Ar) (x__law_tape : Int) (C : Ar) (x9 : Int) : Prop := ∃ (x__law_script : List Int) (x__law_many : Int) (r : Int), As = [val (rScr K) x__law_script, val (rA p_tape) (), val rInt x__law_many] ∧ m__law_draw x__law_script x__law_tape x__law_many = some (r, x9) ∧ C = val rInt r
theorem ok__law_draw (T : Top K mg) (D : Df K mg "_law_draw" s__law_draw)  : Cal P w K mg base 1 "_law_draw" ["_law_script", "_law_tape", "_law_many"] (spM (P__law_draw K)) := by
  have SC := sc__law_draw
  refine cal_of (N := N__law_draw) D SC (fun _ _ _ _ _ _ us hl => match us, hl with | [_, _, _], _ => rfl) (fun vs H Q E h => ?_) (fun f cdv A outer s H vs Q E hr h => ?_)
  · obtain ⟨F0, p_tape, As, x__law_tape, C, x9, ⟨x__law_script, x__law_many, r, rfl, h, rfl⟩, e0, hF0, hH0, ha, k⟩ := h
    exact alla_len ha
  · obtain ⟨F0, p_tape, As, x__law_tape, C, x9, ⟨x__law_script, x__law_many, r, rfl, h, rfl⟩, e0, hF0, hH0, ha, k⟩ := h
    obtain ⟨v__law_script, v__law_tape, v__law_many, rfl, f__law_script, f__law_tape, f__law_many⟩ := alla3 ha
    have f__law_tape : v__law_tape = V.ref p_tape := f__law_tape
    subst f__law_tape
    refine ⟨_, (pss_cons (ps_asg (pe_op op_xAdd (pe_ix ix_list (pv 1) pe_int (fun _ _ => rfl)) pe_int) (pg_sub (pv 1) pe_int set_list)) (pss_cons (ps_if (pt_cmpR op_xLe (pe_ix ix_list (pv 1) pe_int (fun _ _ => rfl)) (pe_callB call_cLen (by rfl) T.b_len PySem.boot_len (pa_cons (pv 0) pa_nil)) (nomark _)) (pss_one (ps_ret (pe_op op_xMod (pe_ix ix_list (pv 0) (pe_op op_xSub (pe_ix ix_list (pv 1) pe_int (fun _ _ => rfl)) pe_int) (fun _ _ => rfl)) (pv 2)))) pss_nil) (pss_cons (ps_set (i := 3) SC.nd rfl (Or.inl rfl) (pe_callB call_cLen (by rfl) T.b_len PySem.boot_len (pa_cons (pv 0) pa_nil))) (pss_cons (ps_for PassesOwn.never rfl (pi_list (pe_slice sl_list (pv 0) po_none (po_some pe_int))) (pg_name (i := 4) SC.nd rfl (Or.inl rfl)) (pss_one (ps_set (i := 3) SC.nd rfl (Or.inl rfl) (pe_op op_xMod (pe_op op_xAdd (pe_op op_xMul (pv 3) pe_int) (pv 4)) pe_int)))) (pss_one (ps_ret (pe_op op_xMod (pe_op op_xMod (pe_op op_xMul (pe_op op_xAdd (pv 3) pe_int) (pe_op op_xAdd (pe_op op_xMul (pe_ix ix_list (pv 1) pe_int (fun _ _ => rfl)) (pe_ix ix_list (pv 1) pe_int (fun _ _ => rfl))) pe_int)) pe_int) (pv 2)))))))), ?_⟩
    refine (show Sx ⟨F0, but p_tape H⟩ _ _ [some v__law_script, some (.ref p_tape), some v__law_many, none, none] F0 [(p_tape, tp x__law_tape)] from ?_) H (At.startT e0 hF0 hH0)
    have f__law_script : ((rScr K)).rp x__law_script v__law_script F0 := f__law_script
    have f__law_many : (rInt).rp x__law_many v__law_many F0 := f__law_many
    obtain ⟨x2, hx2, h⟩ := lt_e h
    refine sx_seq (sx_tape (n := 0) rfl rfl (ev_is (ev_op (ev_tape rfl (List.Mem.head _) ev_i) ev_i o_add) hx2) ev_i fun Fs1 s1 => nx_of ?_)
    refine sx_seq (sx_if (et_b (ev_op (ev_tape rfl (List.Mem.head _) ev_i) (ev_cb (ea_cons (ev_v (R := (rScr K)) rfl (Rep.mono (rScr K) s1 f__law_script)) ea_nil) b_lenK) o_le)) (fun z3 Fs4 s4 => ?_) (fun z3 Fs5 s5 => ?_))
    · have h := cnd_t h z3
      obtain ⟨c6, hc6, h⟩ := bsome h
      obtain ⟨c7, hc7, h⟩ := bsome h
      obtain ⟨rfl, rfl⟩ := Prod.mk.inj (Option.some.inj h)
      refine sx_ret (R := rInt) (ev_op (ev_op (ev_v (R := (rScr K)) rfl (Rep.mono (rScr K) (s1.trans s4) f__law_script)) (ev_op (ev_tape rfl (List.Mem.head _) ev_i) ev_i o_sub) (o_ixK hc6)) (ev_v (R := rInt) rfl (Rep.mono rInt (s1.trans s4) f__law_many)) (o_modO hc7)) fun v8 Fs9 s9 f10 => ?_
      exact rtM_val k (List.Mem.head _) (fun _ => f10)
    · have h := cnd_f h z3
      refine sx_next ?_
      refine nx_of ?_
      obtain ⟨x11, hx11, h⟩ := lt_e h
      refine sx_seq (sx_asg (R := rInt) (ev_is (ev_cb (ea_cons (ev_v (R := (rScr K)) rfl (Rep.mono (rScr K) (s1.trans s5) f__law_script)) ea_nil) b_lenK) hx11) fun v14 Fs12 s12 f13 => nx_of ?_)
      obtain ⟨w15, hl16, hk17, hr18⟩ := fwd_o h
      refine sx_seq (sx_for (J := fun (s : Int) σ F O => ∃ (v__law_seed : V) (w__law_cell : Option V), σ = [some v__law_script, some (.ref p_tape), some v__law_many, some v__law_seed, w__law_cell] ∧ O = [(p_tape, tp x2)] ∧ (rInt).rp s v__law_seed F ∧ True) (Ro := (fun (r : Unit) (v : V) (F : Hp) (O : Own) => False)) hl16 (ei_list (ev_frz (ev_slK (ev_v (R := (rScr K)) rfl (Rep.mono (rScr K) ((s1.trans s5).trans s12) f__law_script)) ep_none (ep_some ev_i)))) tg_n (fun Fe19 e19 => ⟨v14, _, rfl, rfl, (Rep.mono rInt e19 f13), trivial⟩) ?_ ?_)
      · refine ⟨fun s20 es21 σ9 Fe22 O9 e22 ⟨v23, w24, hs25, ho26, f27, _⟩ => ?_, fun r9 er9 v9 F9 O9 e9 hr9 => ?_⟩
        · subst hs25 ho26
          have h := hk17 s20 es21
          refine nx_of ?_
          obtain ⟨c28, hc28, h⟩ := bsome h
          obtain ⟨c29, hc29, h⟩ := bsome h
          obtain ⟨c30, hc30, h⟩ := bsome h
          obtain ⟨c31, hc31, h⟩ := bsome h
          obtain ⟨rfl, rfl⟩ := Prod.mk.inj (Option.some.inj h)
          refine sx_ret (R := rInt) (ev_op (ev_op (ev_op (ev_op (ev_v (R := rInt) rfl f27) ev_i o_add) (ev_op (ev_op (ev_tape rfl (List.Mem.head _) ev_i) (ev_tape rfl (List.Mem.head _) ev_i) (o_mulO hc28)) ev_i o_add) (o_mulO hc29)) ev_i (o_modO hc30)) (ev_v (R := rInt) rfl (Rep.mono rInt (((s1.trans s5).trans s12).trans e22) f__law_many)) (o_modO hc31)) fun v32 Fs33 s33 f34 => ?_
          exact rtM_val k (List.Mem.head _) (fun _ => f34)
        · exact hr9.elim
      · rintro s35 a36 σ9 σ8 Fe37 Fe38 O9 o9 D9 ha9 e37 e38 ⟨v40, w41, hs42, ho43, f44, _⟩ ⟨v45, zs, f46⟩ h acc39
        subst hs42 ho43
        subst zs
        obtain ⟨c47, hc47, h⟩ := bsome h
        obtain ⟨c48, hc48, h⟩ := bsome h
        obtain ⟨x49, hx49, h⟩ := lt_e h
        refine sx_asg (R := rInt) (ev_is (ev_op (ev_op (ev_op (ev_v (R := rInt) rfl (Rep.mono rInt e38 f44)) ev_i (o_mulO hc47)) (ev_v (R := rInt) rfl f46) o_add) ev_i (o_modO hc48)) hx49) fun v52 Fs50 s50 f51 => ?_
        obtain rfl := Option.some.inj h
        exact (acc39.nx _ rfl _ _ _ s50 ⟨v52, _, rfl, rfl, f51, trivial⟩).1

/-! _law_whole -/
abbrev s__law_whole : Stmt := top 4
abbrev N__law_whole : List Str := ["_law_found"]
theorem sc__law_whole : FnScope N__law_whole ["_law_found"] (defScope s__law_whole) := ⟨rfl, rfl, rfl, by decide +kernel, rfl, by decide +kernel, by decide +kernel⟩
def m__law_whole (x__law_found : Int) : Option (Bool) := some (true && (!false))
def P__law_whole (As : List Ar) (C : Ar) : Prop := ∃ (x__law_found : Int) (r : Bool), As = [val rInt x__law_found] ∧ m__law_whole x__law_found = some r ∧ C = val rB r
theorem ok__law_whole (T : Top K mg) (D : Df K mg "_law_whole" s__law_whole)  : Cal P w K mg base 1 "_law_whole" ["_law_found"] (spG (P__law_whole)) := by
  have SC := sc__law_whole
  refine cal_of (N := N__law_whole) D SC (fun _ _ _ _ _ _ us hl => match us, hl with | [_], _ => rfl) (fun vs H Q E h => ?_) (fun f cdv A outer s H vs Q E hr h => ?_)
  · obtain ⟨F0, As, C, ⟨x__law_found, r, rfl, h, rfl⟩, e0, ha, k⟩ := h
    exact alla_len ha
  · obtain ⟨F0, As, C, ⟨x__law_found, r, rfl, h, rfl⟩, e0, ha, k⟩ := h
    obtain ⟨v__law_found, rfl, f__law_found⟩ := alla1 ha
    refine ⟨_, (pss_one (ps_ret (pe_and (pe_callB call_isi (by rfl) T.b_isinstance (by decide +kernel) (pa_cons (pv 0) (pa_cons (pe_bltn (v := V.ty "int") (by rfl) T.b_int (by decide +kernel) rfl) pa_nil))) (pe_one (pe_not (pe_callB call_isi (by rfl) T.b_isinstance (by decide +kernel) (pa_cons (pv 0) (pa_cons (pe_bltn (v := V.ty "bool") (by rfl) T.b_bool (by decide +kernel) rfl) pa_nil)))))))), ?_⟩
    refine (show Sx ⟨F0, H⟩ _ _ [some v__law_found] F0 [] from ?_) H (At.start e0)
    have f__law_found : (rInt).rp x__law_found v__law_found F0 := f__law_found
    obtain rfl := Option.some.inj h
    refine sx_ret (R := rB) (ev_andP (ev_cb (ea_cons (ev_v (R := rInt) rfl f__law_found) (ea_cons ev_ty ea_nil)) (b_isi (b := true) tI (by decide +kernel))) (fun _ => (ev_not (ev_cb (ea_cons (ev_v (R := rInt) rfl f__law_found) (ea_cons ev_ty ea_nil)) (b_isi (b := false) tI (by decide +kernel)))))) fun v1 Fs2 s2 f3 => ?_
    exact rt_val k (fun _ => f3)

/-! _law_right -/
abbrev s__law_right : Stmt := top 5
abbrev N__law_right : List Str := ["_law_wants", "_law_room", "_law_found", "_law_widest", "_law_late", "_law_one", "_law_want"]
theorem sc__law_right : FnScope N__law_right ["_law_wants", "_law_room", "_law_found"] (defScope s__law_right) := ⟨rfl, rfl, rfl, by decide +kernel, rfl, by decide +kernel, by decide +kernel⟩
def m__law_right (x__law_wants : List (Int)) (x__law_room : Int) (x__law_found : List (Int)) : Option (Bool) := (cnd (!true) (some true) ((cnd ((!decide ((x__law_found.length : Int) = (x__law_wants.length : Int)))) (some true) ((mapF (fun (a1 : Int) => (m__law_whole (a1)).bind fun r9 => some (some r9)) x__law_found).bind fun y11 => some (!(y11.all id)))).bind fun c12 => some c12)).bind fun c13 => cnd c13 (some false) ((mapF (fun (a20 : (Int × Int)) => some (some ((decide ((1 : Int) ≤ a20.1)) && (decide (a20.1 ≤ a20.2))))) (List.zip x__law_found x__law_wants)).bind fun y31 => cnd (!(y31.all id)) (some false) (cnd (decide (x__law_wants.sum ≤ x__law_room)) ((eqO ((fun as => PyData.list (List.map PyData.int as)) x__law_found) ((fun as => PyData.list (List.map PyData.int as)) x__law_wants)).bind fun c41 => some c41) (cnd ((!decide (x__law_found.sum = x__law_room))) (some false) ((maxO x__law_found).bind fun c51 => lt c51 fun x52 => lt false fun x56 => fwd (loop (ρ := Bool) (fun (s77 : Bool) (a78 : (Int × Int)) => cnd ((decide (a78.1 < (x52 - (1 : Int)))) && ((!decide (a78.1 = a78.2)))) (some (Fw.rt false)) ((cnd ((decide (a78.1 = x52)) && (decide (x52 ≤ a78.2))) (lt true fun x115 => some x115) (some s77)).bind fun (j98 : Bool) => cnd ((decide (a78.1 = (x52 - (1 : Int)))) && ((decide (x52 ≤ a78.2)) && j98)) (some (Fw.rt false)) (some (Fw.nx j98)))) (List.zip x__law_found x__law_wants) x56) (fun (s65 : Bool) => some true) (fun (r : Bool) => some r)))))
def P__law_right (As : List Ar) (C : Ar) : Prop := ∃ (x__law_wants : List (Int)) (x__law_room : Int) (x__law_found : List (Int)) (r : Bool), As = [val (rL rInt) x__law_wants, val rInt x__law_room, val (rL rInt) x__law_found] ∧ m__law_right x__law_wants x__law_room x__law_found = some r ∧ C = val rB r
theorem ok__law_right (T : Top K mg) (D : Df K mg "_law_right" s__law_right) (G__law_whole : Cal P w K mg base 1 "_law_whole" ["_law_found"] (spG (P__law_whole))) : Cal P w K mg base 2 "_law_right" ["_law_wants", "_law_room", "_law_found"] (spG (P__law_right)) := by
  have SC := sc__law_right
  refine cal_of (N := N__law_right) D SC (fun _ _ _ _ _ _ us hl => match us, hl with | [_, _, _], _ => rfl) (fun vs H Q E h => ?_) (fun f cdv A outer s H vs Q E hr h => ?_)
  · obtain ⟨F0, As, C, ⟨x__law_wants, x__law_room, x__law_found, r, rfl, h, rfl⟩, e0, ha, k⟩ := h
    exact alla_len ha
  · obtain ⟨F0, As, C, ⟨x__law_wants, x__law_room, x__law_found, r, rfl, h, rfl⟩, e0, ha, k⟩ := h
    obtain ⟨v__law_wants, v__law_room, v__law_found, rfl, f__law_wants, f__law_room, f__law_found⟩ := alla3 ha
    refine ⟨_, (pss_cons (ps_if (PW.pt (pw_or (pt_not (pt_val (pe_callB call_isi (by rfl) T.b_isinstance (by decide +kernel) (pa_cons (pv 2) (pa_cons (pe_bltn (v := V.ty "list") (by rfl) T.b_list (by decide +kernel) rfl) pa_nil))))) (pw_or (pt_cmpR op_ne (pe_callB call_cLen (by rfl) T.b_len PySem.boot_len (pa_cons (pv 2) pa_nil)) (pe_callB call_cLen (by rfl) T.b_len PySem.boot_len (pa_cons (pv 0) pa_nil)) (nomark _)) (pw_or1 (pt_not (pt_val (pe_callB (cr_all rfl) (by rfl) T.b_all (by decide +kernel) (pa_cons (pe_lc (own := [("_law_one", 5)]) (g := gName 5) (tt := tYes) rfl SC.nd (pi_list (pv 2)) (blkOk_by (own := [("_law_one", 5)]) (N := N__law_right) (sc := defScope s__law_right) (by decide +kernel)) (fun _ _ _ _ _ => (pg_name (i := 5) SC.nd rfl (Or.inl rfl))) (fun _ _ _ _ _ => pts_nil) (fun _ _ _ _ _ => (pe_cal G__law_whole (hr.mono (by decide)) rfl (pa_cons (pv 5) pa_nil)))) pa_nil)))))))) (pss_one (ps_ret pe_bl)) pss_nil) (pss_cons (ps_if (pt_not (pt_val (pe_callB (cr_all rfl) (by rfl) T.b_all (by decide +kernel) (pa_cons (pe_lc (own := [("_law_one", 5), ("_law_want", 6)]) (g := gTup K 2 (gCons (gName 5) (gCons (gName 6) gNil))) (tt := tYes) rfl SC.nd (pi_zip (by rfl) T.b_zip (pa_cons (pv 2) (pa_cons (pv 0) pa_nil))) (blkOk_by (own := [("_law_one", 5), ("_law_want", 6)]) (N := N__law_right) (sc := defScope s__law_right) (by decide +kernel)) (fun _ _ _ _ _ => (pg_tup rfl (pgs_cons (pg_name (i := 5) SC.nd rfl (Or.inl rfl)) (pgs_cons (pg_name (i := 6) SC.nd rfl (Or.inl rfl)) pgs_nil)))) (fun _ _ _ _ _ => pts_nil) (fun _ _ _ _ _ => (pe_chain op_xLe op_xLe pe_int (pv 5) (pv 6)))) pa_nil)))) (pss_one (ps_ret pe_bl)) pss_nil) (pss_cons (ps_if (pt_cmpR op_xLe (pe_callB (cr_sum rfl) (by rfl) T.b_sum (by decide +kernel) (pa_cons (pv 0) pa_nil)) (pv 1) (nomark _)) (pss_one (ps_ret (pe_cmpR (op_eqD hr.units) (pv 2) (pv 0) (nomark _)))) pss_nil) (pss_cons (ps_if (pt_cmpR op_ne (pe_callB (cr_sum rfl) (by rfl) T.b_sum (by decide +kernel) (pa_cons (pv 2) pa_nil)) (pv 1) (nomark _)) (pss_one (ps_ret pe_bl)) pss_nil) (pss_cons (ps_set (i := 3) SC.nd rfl (Or.inl rfl) (pe_callB (cr_max rfl) (by rfl) T.b_max (by decide +kernel) (pa_cons (pv 2) pa_nil))) (pss_cons (ps_set (i := 4) SC.nd rfl (Or.inl rfl) pe_bl) (pss_cons (ps_for PassesOwn.never rfl (pi_zip (by rfl) T.b_zip (pa_cons (pv 2) (pa_cons (pv 0) pa_nil))) (pg_tup rfl (pgs_cons (pg_name (i := 5) SC.nd rfl (Or.inl rfl)) (pgs_cons (pg_name (i := 6) SC.nd rfl (Or.inl rfl)) pgs_nil))) (pss_cons (ps_if (PW.pt (pw_and (pt_cmpR op_xLt (pv 5) (pe_op op_xSub (pv 3) pe_int) (nomark _)) (pw_and1 (pt_cmpR op_ne (pv 5) (pv 6) (nomark _))))) (pss_one (ps_ret pe_bl)) pss_nil) (pss_cons (ps_if (PW.pt (pw_and (pt_cmpR op_eq (pv 5) (pv 3) (nomark _)) (pw_and1 (pt_cmpR op_xGe (pv 6) (pv 3) (nomark _))))) (pss_one (ps_set (i := 4) SC.nd rfl (Or.inl rfl) pe_bl)) pss_nil) (pss_one (ps_if (PW.pt (pw_and (pt_cmpR op_eq (pv 5) (pe_op op_xSub (pv 3) pe_int) (nomark _)) (pw_and (pt_cmpR op_xGe (pv 6) (pv 3) (nomark _)) (pw_and1 (pt_val (pv 4)))))) (pss_one (ps_ret pe_bl)) pss_nil))))) (pss_one (ps_ret pe_bl))))))))), ?_⟩
    refine (show Sx ⟨F0, H⟩ _ _ [some v__law_wants, some v__law_room, some v__law_found, none, none, none, none] F0 [] from ?_) H (At.start e0)
    have f__law_wants : ((rL rInt)).rp x__law_wants v__law_wants F0 := f__law_wants
    have f__law_room : (rInt).rp x__law_room v__law_room F0 := f__law_room
    have f__law_found : ((rL rInt)).rp x__law_found v__law_found F0 := f__law_found
    obtain ⟨c13, hc13, h⟩ := bsome h
    refine sx_seq (sx_if (et_or (b := c13) (et_not (et_B (ev_cb (ea_cons (ev_v (R := (rL rInt)) rfl f__law_found) (ea_cons ev_ty ea_nil)) (b_isi (b := true) tL (by decide +kernel))))) (fun z => by
    have h' := cnd_f hc13 z
    obtain ⟨c12, hc12, h'⟩ := bsome h'
    exact et_is (et_or (b := c12) (et_b (ev_op (ev_cb (ea_cons (ev_spn (ev_v (R := (rL rInt)) rfl f__law_found)) ea_nil) b_lenL) (ev_cb (ea_cons (ev_spn (ev_v (R := (rL rInt)) rfl f__law_wants)) ea_nil) b_lenL) o_neI)) (fun z => by
      have h'' := cnd_f hc12 z
      obtain ⟨y11, hy11, h''⟩ := bsome h''
      exact et_is (et_not (et_B (ev_cb (ea_cons (ev_nspn (ev_lc (R' := rB) hy11 (ei_list (ev_v (R := (rL rInt)) rfl f__law_found)) tg_n (fun a1 σ9 F2 F3 ob ha9 e4 e5 ⟨v6, zs, f7⟩ hb8 => by
        subst zs
        obtain ⟨r9, hr9, hb8⟩ := bsome hb8
        obtain rfl := Option.some.inj hb8
        exact ⟨rfl, et_yes, fun b eb => by cases eb; exact (ev_call (P := P__law_whole) (ea_cons (ev_v (R := rInt) rfl f7) ea_nil) ⟨_, _, rfl, hr9, rfl⟩)⟩))) ea_nil) b_all))) (Option.some.inj h'')) (fun z => (Option.some.inj (cnd_t hc12 z)).symm)) (Option.some.inj h')) (fun z => (Option.some.inj (cnd_t hc13 z)).symm)) (fun z14 Fs15 s15 => ?_) (fun z14 Fs16 s16 => ?_))
    · have h := cnd_t h z14
      obtain rfl := Option.some.inj h
      refine sx_ret (R := rB) ev_b fun v17 Fs18 s18 f19 => ?_
      exact rt_val k (fun _ => f19)
    · have h := cnd_f h z14
      refine sx_next ?_
      refine nx_of ?_
      obtain ⟨y31, hy31, h⟩ := bsome h
      refine sx_seq (sx_if (et_not (et_B (ev_cb (ea_cons (ev_nspn (ev_lc (R' := rB) hy31 (ei_zip (ea_cons (ev_v (R := (rL rInt)) rfl (Rep.mono (rL rInt) s16 f__law_found)) (ea_cons (ev_v (R := (rL rInt)) rfl (Rep.mono (rL rInt) s16 f__law_wants)) ea_nil))) tg_2 (fun a20 σ9 F21 F22 ob ha9 e23 e24 ⟨v25, v27, zs, f26, f28⟩ hb29 => by
    subst zs
    obtain rfl := Option.some.inj hb29
    exact ⟨rfl, et_yes, fun b eb => by cases eb; exact (ev_chainP ev_i (ev_v (R := rInt) rfl f26) o_le (ev_v (R := rInt) rfl f28) o_le)⟩))) ea_nil) b_all))) (fun z32 Fs33 s33 => ?_) (fun z32 Fs34 s34 => ?_))
      · have h := cnd_t h z32
        obtain rfl := Option.some.inj h
        refine sx_ret (R := rB) ev_b fun v35 Fs36 s36 f37 => ?_
        exact rt_val k (fun _ => f37)
      · have h := cnd_f h z32
        refine sx_next ?_
        refine nx_of ?_
        refine sx_seq (sx_if (et_b (ev_op (ev_cb (ea_cons (ev_spn (ev_v (R := (rL rInt)) rfl (Rep.mono (rL rInt) (s16.trans s34) f__law_wants))) ea_nil) b_sum) (ev_v (R := rInt) rfl (Rep.mono rInt (s16.trans s34) f__law_room)) o_le)) (fun z38 Fs39 s39 => ?_) (fun z38 Fs40 s40 => ?_))
        · have h := cnd_t h z38
          obtain ⟨c41, hc41, h⟩ := bsome h
          obtain rfl := Option.some.inj h
          refine sx_ret (R := rB) (ev_op (ev_v (R := (rL rInt)) rfl (Rep.mono (rL rInt) ((s16.trans s34).trans s39) f__law_found)) (ev_v (R := (rL rInt)) rfl (Rep.mono (rL rInt) ((s16.trans s34).trans s39) f__law_wants)) (by have z := eqO_e hc41; have z1 := dt_v (eL eI) (K := K) (R := (rL rInt)) z.1; have z2 := dt_v (eL eI) (K := K) (R := (rL rInt)) z.2.1; have z3 := o_eqD z1 z2; rw [z.2.2] at z3; exact z3)) fun v42 Fs43 s43 f44 => ?_
          exact rt_val k (fun _ => f44)
        · have h := cnd_f h z38
          refine sx_next ?_
          refine nx_of ?_
          refine sx_seq (sx_if (et_b (ev_op (ev_cb (ea_cons (ev_spn (ev_v (R := (rL rInt)) rfl (Rep.mono (rL rInt) ((s16.trans s34).trans s40) f__law_found))) ea_nil) b_sum) (ev_v (R := rInt) rfl (Rep.mono rInt ((s16.trans s34).trans s40) f__law_room)) o_neI)) (fun z45 Fs46 s46 => ?_) (fun z45 Fs47 s47 => ?_))
          · have h := cnd_t h z45
            obtain rfl := Option.some.inj h
            refine sx_ret (R := rB) ev_b fun v48 Fs49 s49 f50 => ?_
            exact rt_val k (fun _ => f50)
          · have h := cnd_f h z45
            refine sx_next ?_
            refine nx_of ?_
            obtain ⟨c51, hc51, h⟩ := bsome h
            obtain ⟨x52, hx52, h⟩ := lt_e h
            refine sx_seq (sx_asg (R := rInt) (ev_is (ev_cb (ea_cons (ev_spn (ev_v (R := (rL rInt)) rfl (Rep.mono (rL rInt) (((s16.trans s34).trans s40).trans s47) f__law_found))) ea_nil) (b_maxO hc51)) hx52) fun v55 Fs53 s53 f54 => nx_of ?_)
            obtain ⟨x56, hx56, h⟩ := lt_e h
            refine sx_seq (sx_asg (R := rB) (ev_is ev_b hx56) fun v59 Fs57 s57 f58 => nx_of ?_)
            obtain ⟨w60, hl61, hk62, hr63⟩ := fwd_o h
            refine sx_seq (sx_for (J := fun (s : Bool) σ F O => ∃ (v__law_late : V) (w__law_one : Option V) (w__law_want : Option V), σ = [some v__law_wants, some v__law_room, some v__law_found, some v55, some v__law_late, w__law_one, w__law_want] ∧ O = [] ∧ (rB).rp s v__law_late F ∧ True) (Ro := (fun (r : Bool) v F (O : Own) => (rB).rp r v F)) hl61 (ei_zip (ea_cons (ev_v (R := (rL rInt)) rfl (Rep.mono (rL rInt) (((((s16.trans s34).trans s40).trans s47).trans s53).trans s57) f__law_found)) (ea_cons (ev_v (R := (rL rInt)) rfl (Rep.mono (rL rInt) (((((s16.trans s34).trans s40).trans s47).trans s53).trans s57) f__law_wants)) ea_nil))) tg_2 (fun Fe64 e64 => ⟨v59, _, _, rfl, rfl, (Rep.mono rB e64 f58), trivial⟩) ?_ ?_)
            · refine ⟨fun s65 es66 σ9 Fe67 O9 e67 ⟨v68, w69, w70, hs71, ho72, f73, _⟩ => ?_, fun r9 er9 v9 F9 O9 e9 hr9 => ?_⟩
              · subst hs71 ho72
                have h := hk62 s65 es66
                refine nx_of ?_
                obtain rfl := Option.some.inj h
                refine sx_ret (R := rB) ev_b fun v74 Fs75 s75 f76 => ?_
                exact rt_val k (fun _ => f76)
              · have h := hr63 r9 er9
                obtain rfl := Option.some.inj h
                exact rt_val k (fun _ => hr9)
            · rintro s77 a78 σ9 σ8 Fe79 Fe80 O9 o9 D9 ha9 e79 e80 ⟨v82, w83, w84, hs85, ho86, f87, _⟩ ⟨v88, v90, zs, f89, f91⟩ h acc81
              subst hs85 ho86
              subst zs
              refine sx_seq (sx_if (et_andP (et_b (ev_op (ev_v (R := rInt) rfl f89) (ev_op (ev_v (R := rInt) rfl (Rep.mono rInt ((s57.trans e79).trans e80) f54)) ev_i o_sub) o_lt)) (fun _ => (et_b (ev_op (ev_v (R := rInt) rfl f89) (ev_v (R := rInt) rfl f91) o_neI)))) (fun z92 Fs93 s93 => ?_) (fun z92 Fs94 s94 => ?_))
              · have h := cnd_t h z92
                obtain rfl := Option.some.inj h
                refine sx_ret (R := rB) ev_b fun v95 Fs96 s96 f97 => ?_
                exact acc81.rt _ rfl _ _ _ (s93.trans s96) f97
              · have h := cnd_f h z92
                refine sx_next ?_
                refine nx_of ?_
                obtain ⟨j98, hj100, h⟩ := bsome h
                refine sx_join (fun (s : Bool) σ F O => ∃ (v__law_late : V), σ = [some v__law_wants, some v__law_room, some v__law_found, some v55, some v__law_late, some v88, some v90] ∧ O = [] ∧ (rB).rp s v__law_late F ∧ True) j98 (fun σ9 Fs101 O9 s101 ⟨v102, hs103, ho104, f105, _⟩ => ?_) (fun hJ99 => ?_)
                · subst hs103 ho104
                  refine sx_if (et_andP (et_b (ev_op (ev_v (R := rInt) rfl (Rep.mono rInt (s94.trans s101) f89)) (ev_op (ev_v (R := rInt) rfl (Rep.mono rInt ((((s57.trans e79).trans e80).trans s94).trans s101) f54)) ev_i o_sub) o_eqI)) (fun _ => (et_andP (et_b (ev_op (ev_v (R := rInt) rfl (Rep.mono rInt (s94.trans s101) f91)) (ev_v (R := rInt) rfl (Rep.mono rInt ((((s57.trans e79).trans e80).trans s94).trans s101) f54)) o_ge)) (fun _ => (et_B (ev_v (R := rB) rfl f105)))))) (fun z106 Fs107 s107 => ?_) (fun z106 Fs108 s108 => ?_)
                  · have h := cnd_t h z106
                    obtain rfl := Option.some.inj h
                    refine sx_ret (R := rB) ev_b fun v109 Fs110 s110 f111 => ?_
                    exact acc81.rt _ rfl _ _ _ (((s94.trans s101).trans s107).trans s110) f111
                  · have h := cnd_f h z106
                    refine sx_next ?_
                    obtain rfl := Option.some.inj h
                    exact (acc81.nx _ rfl _ _ _ ((s94.trans s101).trans s108) ⟨v102, _, _, rfl, rfl, (Rep.mono rB s108 f105), trivial⟩).1
                · refine sx_if (et_andP (et_b (ev_op (ev_v (R := rInt) rfl (Rep.mono rInt s94 f89)) (ev_v (R := rInt) rfl (Rep.mono rInt (((s57.trans e79).trans e80).trans s94) f54)) o_eqI)) (fun _ => (et_b (ev_op (ev_v (R := rInt) rfl (Rep.mono rInt s94 f91)) (ev_v (R := rInt) rfl (Rep.mono rInt (((s57.trans e79).trans e80).trans s94) f54)) o_ge)))) (fun z112 Fs113 s113 => ?_) (fun z112 Fs114 s114 => ?_)
                  · have hj100 := cnd_t hj100 z112
                    obtain ⟨x115, hx115, hj100⟩ := lt_e hj100
                    refine sx_asg (R := rB) (ev_is ev_b hx115) fun v118 Fs116 s116 f117 => ?_
                    obtain rfl := Option.some.inj hj100
                    exact hJ99 _ _ _ (s113.trans s116) ⟨v118, rfl, rfl, f117, trivial⟩
                  · have hj100 := cnd_f hj100 z112
                    refine sx_next ?_
                    obtain rfl := Option.some.inj hj100
                    exact hJ99 _ _ _ s114 ⟨v82, rfl, rfl, (Rep.mono rB ((e80.trans s94).trans s114) f87), trivial⟩

/-! law -/
abbrev s_law : Stmt := top 6
abbrev N_law : List Str := ["_law_script", "_law_tape", "_law_many", "_law_wants", "_law_room", "_law_handed", "_law_found", "_law_kept", "_law_k"]
theorem sc_law : FnScope N_law ["_law_script"] (defScope s_law) := ⟨rfl, rfl, rfl, by decide +kernel, rfl, by decide +kernel, by decide +kernel⟩
def m_law (x__law_script : List Int) : Option (Bool) := (m__law_draw (x__law_script) ((0 : Int)) ((9 : Int))).bind fun r3 => lt ((1 : Int) + r3.1) fun x4 => (rngO 0 x4).bind fun c8 => (mapFM (fun (k9 : Int) (a9 : Int) => (m__law_draw (x__law_script) (k9) ((30 : Int))).bind fun r17 => some (some ((1 : Int) + r17.1), r17.2)) c8 r3.2).bind fun y19 => lt y19.1 fun x20 => (m__law_draw (x__law_script) (y19.2) ((3 : Int))).bind fun r24 => (cnd (decide (r24.1 = (1 : Int))) ((ixO x20 (0 : Int)).bind fun c93 => (divO x4 (3 : Int)).bind fun c94 => (repO ([c93] : List (Int)) (x4 - c94)).bind fun c95 => (divO x4 (3 : Int)).bind fun c96 => (catO c95 (cutL x20 (some (x4 - c96)) none)).bind fun c97 => lt c97 fun x98 => some (x98, r24.2)) (some (x20, r24.2))).bind fun (j25 : (List (Int)) × Int) => (m__law_draw (x__law_script) (j25.2) (((j25.1.sum - x4) + (4 : Int)))).bind fun r38 => lt (x4 + r38.1) fun x39 => lt j25.1 fun x43 => (m_shares (x43) (x39)).bind fun r47 => lt r47 fun x48 => (m__law_right (j25.1) (x39) (x48)).bind fun r55 => (cnd (!r55) (some true) ((eqO ((fun as => PyData.list (List.map PyData.int as)) x43) ((fun as => PyData.list (List.map PyData.int as)) j25.1)).bind fun c56 => some (!c56))).bind fun c57 => cnd c57 (some false) (lt x48 fun x64 => (appO x48 (1 : Int)).bind fun y68 => (m_shares (j25.1.reverse) (x39)).bind fun r74 => (m__law_right (j25.1.reverse) (x39) (r74)).bind fun r75 => cnd (!r75) (some false) ((m_shares (x43) (x39)).bind fun r82 => (eqO (PyData.list (List.map PyData.int r82)) ((fun as => PyData.list (List.map PyData.int as)) x64)).bind fun c83 => (cnd c83 ((catO x64 ([(1 : Int)] : List (Int))).bind fun c84 => (eqO (PyData.list (List.map PyData.int y68)) (PyData.list (List.map PyData.int c84))).bind fun c85 => some c85) (some false)).bind fun c86 => some c86))
def P_law (K : PySem.W.Frag) (As : List Ar) (C : Ar) : Prop := ∃ (x__law_script : List Int) (r : Bool), As = [val (rScr K) x__law_script] ∧ m_law x__law_script = some r ∧ C = val rB r
theorem ok_law (T : Top K mg) (D : Df K mg "law" s_law) (G__law_draw : Cal P w K mg base 1 "_law_draw" ["_law_script", "_law_tape", "_law_many"] (spM (P__law_draw K))) (G_shares : Cal P w K mg base 1 "shares" ["wants", "room"] (spN rInt (P_shares))) (G__law_right : Cal P w K mg base 2 "_law_right" ["_law_wants", "_law_room", "_law_found"] (spG (P__law_right))) : Cal P w K mg base 3 "law" ["_law_script"] (spG (P_law K)) := by
  have SC := sc_law
  refine cal_of (N := N_law) D SC (fun _ _ _ _ _ _ us hl => match us, hl with | [_], _ => rfl) (fun vs H Q E h => ?_) (fun f cdv A outer s H vs Q E hr h => ?_)
  · obtain ⟨F0, As, C, ⟨x__law_script, r, rfl, h, rfl⟩, e0, ha, k⟩ := h
    exact alla_len ha
  · obtain ⟨F0, As, C, ⟨x__law_script, r, rfl, h, rfl⟩, e0, ha, k⟩ := h
    obtain ⟨v__law_script, rfl, f__law_script⟩ := alla1 ha
    refine ⟨_, (pss_cons (ps_set (i := 1) SC.nd rfl (Or.inr rfl) (pe_lst (pa_cons pe_int pa_nil))) (pss_cons (ps_set (i := 2) SC.nd rfl (Or.inl rfl) (pe_op op_xAdd pe_int (pe_cal G__law_draw (hr.mono (by decide)) rfl (pa_cons (pv 0) (pa_cons (pv 1) (pa_cons pe_int pa_nil)))))) (pss_cons (ps_setLc (i := 3) (own := [("_law_k", 8)]) (g := gName 8) (tt := tYes) rfl SC.nd rfl rfl (sw_true rfl rfl rfl (by decide +kernel)) (pi_range1 (by rfl) T.b_range (pa_cons (pv 2) pa_nil)) (blkOk_by (own := [("_law_k", 8)]) (N := N_law) (sc := defScope s_law) (by decide +kernel)) (fun _ _ _ _ _ => (pg_name (i := 8) SC.nd rfl (Or.inl rfl))) (fun _ _ _ _ _ => pts_nil) (fun _ _ _ _ _ => (pe_op op_xAdd pe_int (pe_cal G__law_draw (hr.mono (by decide)) rfl (pa_cons (pv 0) (pa_cons (pv 1) (pa_cons pe_int pa_nil))))))) (pss_cons (ps_if (pt_cmpR op_eq (pe_cal G__law_draw (hr.mono (by decide)) rfl (pa_cons (pv 0) (pa_cons (pv 1) (pa_cons pe_int pa_nil)))) pe_int (nomark _)) (pss_one (ps_set (i := 3) SC.nd rfl (Or.inl rfl) (pe_op op_cat (pe_op op_rep (pe_lst (pa_cons (pe_ix ix_list (pv 3) pe_int (fun _ _ => rfl)) pa_nil)) (pe_op op_xSub (pv 2) (pe_op op_xDiv (pv 2) pe_int))) (pe_slice sl_list (pv 3) (po_some (pe_op op_xSub (pv 2) (pe_op op_xDiv (pv 2) pe_int))) po_none)))) pss_nil) (pss_cons (ps_set (i := 4) SC.nd rfl (Or.inl rfl) (pe_op op_xAdd (pv 2) (pe_cal G__law_draw (hr.mono (by decide)) rfl (pa_cons (pv 0) (pa_cons (pv 1) (pa_cons (pe_op op_xAdd (pe_op op_xSub (pe_callB (cr_sum rfl) (by rfl) T.b_sum (by decide +kernel) (pa_cons (pv 3) pa_nil)) (pv 2)) pe_int) pa_nil)))))) (pss_cons (ps_set (i := 5) SC.nd rfl (Or.inl rfl) (pe_callTy call_cList (by rfl) T.b_list (by decide +kernel) (pa_cons (pv 3) pa_nil))) (pss_cons (ps_set (i := 6) SC.nd rfl (Or.inl rfl) (pe_cal G_shares (hr.mono (by decide)) rfl (pa_cons (pv 5) (pa_cons (pv 4) pa_nil)))) (pss_cons (ps_if (PW.pt (pw_or (pt_not (pt_val (pe_cal G__law_right (hr.mono (by decide)) rfl (pa_cons (pv 3) (pa_cons (pv 4) (pa_cons (pv 6) pa_nil)))))) (pw_or1 (pt_cmpR (op_neD hr.units) (pv 5) (pv 3) (nomark _))))) (pss_one (ps_ret pe_bl)) pss_nil) (pss_cons (ps_set (i := 7) SC.nd rfl (Or.inl rfl) (pe_callTy call_cList (by rfl) T.b_list (by decide +kernel) (pa_cons (pv 6) pa_nil))) (pss_cons (ps_expr (pe_bm PySem.F.plainAttrs_list PySem.F.slot_list_append PySem.F.type_list_append mt_append (pv 6) (pa_cons pe_int pa_nil))) (pss_cons (ps_if (pt_not (pt_val (pe_cal G__law_right (hr.mono (by decide)) rfl (pa_cons (pe_revL (pv 3)) (pa_cons (pv 4) (pa_cons (pe_cal G_shares (hr.mono (by decide)) rfl (pa_cons (pe_revL (pv 3)) (pa_cons (pv 4) pa_nil))) pa_nil)))))) (pss_one (ps_ret pe_bl)) pss_nil) (pss_one (ps_ret (pe_and (pe_cmpR (op_eqD hr.units) (pe_cal G_shares (hr.mono (by decide)) rfl (pa_cons (pv 5) (pa_cons (pv 4) pa_nil))) (pv 7) (nomark _)) (pe_one (pe_cmpR (op_eqD hr.units) (pv 6) (pe_op op_cat (pv 7) (pe_lst (pa_cons pe_int pa_nil))) (nomark _))))))))))))))))), ?_⟩
    refine (show Sx ⟨F0, H⟩ _ _ [some v__law_script, none, none, none, none, none, none, none, none] F0 [] from ?_) H (At.start e0)
    have f__law_script : ((rScr K)).rp x__law_script v__law_script F0 := f__law_script
    refine sx_seq (sx_asgT (ev_lst (R := rInt) (as := [(0 : Int)]) (ea_cons ev_i ea_nil) (show (1 : Nat) ≤ limL by decide)) fun p1 Fs2 s2 => nx_of ?_)
    obtain ⟨r3, hr3, h⟩ := bsome h
    obtain ⟨x4, hx4, h⟩ := lt_e h
    refine sx_seq (sx_asgM (R := rInt) (evM_is (evM_op (evM_l ev_i) (evM_call (P := P__law_draw K) (n := 0) (k' := r3.2) (eaM_l (ea_cons (ev_v (R := (rScr K)) rfl (Rep.mono (rScr K) s2 f__law_script)) (ea_cons (ev_v (R := rA p1) rfl rfl) (ea_cons ev_i ea_nil)))) ⟨_, _, _, rfl, hr3, rfl⟩ rfl) o_add) hx4) fun v7 Fs5 s5 f6 => nx_of ?_)
    obtain ⟨c8, hc8, h⟩ := bsome h
    obtain ⟨y19, hy19, h⟩ := bsome h
    obtain ⟨x20, hx20, h⟩ := lt_e h
    refine sx_seq (sx_asgM (R := (rL rInt)) (evM_is (evM_frz (evM_lc (Of := fun (k9 : Int) => [(p1, tp k9)]) (k1 := y19.2) (R' := rInt) hy19 (eiM_l (ei_rng1O (ea_cons (ev_v (R := rInt) rfl f6) ea_nil) hc8)) tg_n (fun Z9 a9 σ9 F10 F11 k9 ob k7 ha9 e12 e13 ⟨v14, zs, f15⟩ hb16 => by
    subst zs
    obtain ⟨r17, hr17, hb16⟩ := bsome hb16
    obtain ⟨rfl, rfl⟩ := Prod.mk.inj (Option.some.inj hb16)
    exact ⟨rfl, et_yes, (fun eb => by cases eb), fun b eb => by cases eb; exact (evM_op (evM_l ev_i) (evM_call (P := P__law_draw K) (n := 0) (k' := r17.2) (eaM_l (ea_cons (ev_v (R := (rScr K)) rfl (Rep.mono (rScr K) (((s2.trans s5).trans e12).trans e13) f__law_script)) (ea_cons (ev_v (R := rA p1) rfl rfl) (ea_cons ev_i ea_nil)))) ⟨_, _, _, rfl, hr17, rfl⟩ rfl) o_add)⟩))) hx20) fun v23 Fs21 s21 f22 => nx_of ?_)
    obtain ⟨r24, hr24, h⟩ := bsome h
    obtain ⟨j25, hj27, h⟩ := bsome h
    refine sx_join (fun (s : (List (Int)) × Int) σ F O => ∃ (v__law_wants : V) (w__law_room : Option V) (w__law_handed : Option V) (w__law_found : Option V) (w__law_kept : Option V) (w__law_k : Option V), σ = [some v__law_script, some (.ref p1), some v7, some v__law_wants, w__law_room, w__law_handed, w__law_found, w__law_kept, w__law_k] ∧ O = [(p1, tp s.2)] ∧ ((rL rInt)).rp s.1 v__law_wants F ∧ True) j25 (fun σ9 Fs28 O9 s28 ⟨v29, w30, w31, w32, w33, w34, hs35, ho36, f37, _⟩ => ?_) (fun hJ26 => ?_)
    · subst hs35 ho36
      obtain ⟨r38, hr38, h⟩ := bsome h
      obtain ⟨x39, hx39, h⟩ := lt_e h
      refine sx_seq (sx_asgM (R := rInt) (evM_is (evM_op (evM_l (ev_v (R := rInt) rfl (Rep.mono rInt (s21.trans s28) f6))) (evM_call (P := P__law_draw K) (n := 0) (k' := r38.2) (eaM_l (ea_cons (ev_v (R := (rScr K)) rfl (Rep.mono (rScr K) (((s2.trans s5).trans s21).trans s28) f__law_script)) (ea_cons (ev_v (R := rA p1) rfl rfl) (ea_cons (ev_op (ev_op (ev_cb (ea_cons (ev_spn (ev_v (R := (rL rInt)) rfl f37)) ea_nil) b_sum) (ev_v (R := rInt) rfl (Rep.mono rInt (s21.trans s28) f6)) o_sub) ev_i o_add) ea_nil)))) ⟨_, _, _, rfl, hr38, rfl⟩ rfl) o_add) hx39) fun v42 Fs40 s40 f41 => nx_of ?_)
      obtain ⟨x43, hx43, h⟩ := lt_e h
      refine sx_seq (sx_asg (R := (rL rInt)) (ev_is (ev_frz (ev_cbN (ea_cons (ev_spn (ev_v (R := (rL rInt)) rfl (Rep.mono (rL rInt) s40 f37))) ea_nil) b_list)) hx43) fun v46 Fs44 s44 f45 => nx_of ?_)
      obtain ⟨r47, hr47, h⟩ := bsome h
      obtain ⟨x48, hx48, h⟩ := lt_e h
      refine sx_seq (sx_asgN (ev_isN (ev_callN (P := P_shares) (ea_cons (ev_v (R := (rL rInt)) rfl f45) (ea_cons (ev_v (R := rInt) rfl (Rep.mono rInt s44 f41)) ea_nil)) ⟨_, _, rfl, hr47⟩) hx48) fun p51 xs52 Fs49 s49 f50 => nx_of ?_)
      obtain ⟨r55, hr55, h⟩ := bsome h
      obtain ⟨c57, hc57, h⟩ := bsome h
      refine sx_seq (sx_if (et_or (b := c57) (et_not (et_B (ev_peekP flB (fun e53 hP54 => (ev_call (P := P__law_right) (ea_cons (ev_v (R := (rL rInt)) rfl (Rep.mono (rL rInt) (((s40.trans s44).trans s49).trans e53) f37)) (ea_cons (ev_v (R := rInt) rfl (Rep.mono rInt ((s44.trans s49).trans e53) f41)) (ea_cons (ev_v (R := (rL rInt)) rfl ⟨_, _, rfl, hP54 _ (List.Mem.head _), (AllB.mono e53 f50)⟩) ea_nil))) ⟨_, _, _, _, rfl, hr55, rfl⟩))))) (fun z => by
    have h' := cnd_f hc57 z
    obtain ⟨c56, hc56, h'⟩ := bsome h'
    exact et_is (et_b (ev_op (ev_v (R := (rL rInt)) rfl (Rep.mono (rL rInt) s49 f45)) (ev_v (R := (rL rInt)) rfl (Rep.mono (rL rInt) ((s40.trans s44).trans s49) f37)) (by have z := eqO_e hc56; have z1 := dt_v (eL eI) (K := K) (R := (rL rInt)) z.1; have z2 := dt_v (eL eI) (K := K) (R := (rL rInt)) z.2.1; have z3 := o_neD z1 z2; rw [z.2.2] at z3; exact z3))) (Option.some.inj h')) (fun z => (Option.some.inj (cnd_t hc57 z)).symm)) (fun z58 Fs59 s59 => ?_) (fun z58 Fs60 s60 => ?_))
      · have h := cnd_t h z58
        obtain rfl := Option.some.inj h
        refine sx_ret (R := rB) ev_b fun v61 Fs62 s62 f63 => ?_
        exact rt_val k (fun _ => f63)
      · have h := cnd_f h z58
        refine sx_next ?_
        refine nx_of ?_
        obtain ⟨x64, hx64, h⟩ := lt_e h
        refine sx_seq (sx_asg (R := (rL rInt)) (ev_is (ev_frz (ev_cbN (ea_cons (ev_o (R := rInt) rfl (List.Mem.head _) (AllB.mono s60 f50)) ea_nil) b_list)) hx64) fun v67 Fs65 s65 f66 => nx_of ?_)
        obtain ⟨y68, hy68, h⟩ := bsome h
        obtain ⟨hz69, he70⟩ := iteo hy68
        refine sx_seq (sx_app (n := 0) rfl rfl (AllB.mono (s60.trans s65) f50) ev_i hz69 fun v71 Fs72 s72 f73 => nx_of ?_)
        obtain ⟨r74, hr74, h⟩ := bsome h
        obtain ⟨r75, hr75, h⟩ := bsome h
        refine sx_seq (sx_if (et_not (et_B (ev_call (P := P__law_right) (ea_cons (ev_frz (ev_rev (ev_spn (ev_v (R := (rL rInt)) rfl (Rep.mono (rL rInt) (((((s40.trans s44).trans s49).trans s60).trans s65).trans s72) f37))))) (ea_cons (ev_v (R := rInt) rfl (Rep.mono rInt ((((s44.trans s49).trans s60).trans s65).trans s72) f41)) (ea_cons (ev_frz (ev_callN (P := P_shares) (ea_cons (ev_frz (ev_rev (ev_spn (ev_v (R := (rL rInt)) rfl (Rep.mono (rL rInt) (((((s40.trans s44).trans s49).trans s60).trans s65).trans s72) f37))))) (ea_cons (ev_v (R := rInt) rfl (Rep.mono rInt ((((s44.trans s49).trans s60).trans s65).trans s72) f41)) ea_nil)) ⟨_, _, rfl, hr74⟩)) ea_nil))) ⟨_, _, _, _, rfl, hr75, rfl⟩))) (fun z76 Fs77 s77 => ?_) (fun z76 Fs78 s78 => ?_))
        · have h := cnd_t h z76
          obtain rfl := Option.some.inj h
          refine sx_ret (R := rB) ev_b fun v79 Fs80 s80 f81 => ?_
          exact rt_val k (fun _ => f81)
        · have h := cnd_f h z76
          refine sx_next ?_
          refine nx_of ?_
          obtain ⟨r82, hr82, h⟩ := bsome h
          obtain ⟨c83, hc83, h⟩ := bsome h
          obtain ⟨c86, hc86, h⟩ := bsome h
          obtain rfl := Option.some.inj h
          refine sx_ret (R := rB) (ev_and (b := c86) (ev_op (ev_nspn (ev_callN (P := P_shares) (ea_cons (ev_v (R := (rL rInt)) rfl (Rep.mono (rL rInt) ((((s49.trans s60).trans s65).trans s72).trans s78) f45)) (ea_cons (ev_v (R := rInt) rfl (Rep.mono rInt (((((s44.trans s49).trans s60).trans s65).trans s72).trans s78) f41)) ea_nil)) ⟨_, _, rfl, hr82⟩)) (ev_v (R := (rL rInt)) rfl (Rep.mono (rL rInt) (s72.trans s78) f66)) (by have z := eqO_e hc83; have z1 := dt_l eI (K := K) (R := rInt) z.1; have z2 := dt_v (eL eI) (K := K) (R := (rL rInt)) z.2.1; have z3 := o_eqD z1 z2; rw [z.2.2] at z3; exact z3)) (fun z => by
    have h' := cnd_t hc86 z
    obtain ⟨c84, hc84, h'⟩ := bsome h'
    obtain ⟨c85, hc85, h'⟩ := bsome h'
    exact ev_is (ev_op (ev_o (R := rInt) rfl (List.Mem.head _) (AllB.mono s78 (he70 ▸ f73))) (ev_nspn (ev_opN (ev_spn (ev_v (R := (rL rInt)) rfl (Rep.mono (rL rInt) (s72.trans s78) f66))) (ev_nspn (ev_lst (R := rInt) (as := [(1 : Int)]) (ea_cons ev_i ea_nil) (show (1 : Nat) ≤ limL by decide))) (o_catLO hc84))) (by have z := eqO_e hc85; have z1 := dt_l eI (K := K) (R := rInt) z.1; have z2 := dt_l eI (K := K) (R := rInt) z.2.1; have z3 := o_eqD z1 z2; rw [z.2.2] at z3; exact z3)) (Option.some.inj h')) (fun z => (Option.some.inj (cnd_f hc86 z)).symm)) fun v87 Fs88 s88 f89 => ?_
          exact rt_val k (fun _ => f89)
    · refine sx_ifM (etM_un (T := fun t8 => tTest t8) (fun _ _ _ => rfl) (evM_op1 (evM_call (P := P__law_draw K) (n := 0) (k' := r24.2) (eaM_l (ea_cons (ev_v (R := (rScr K)) rfl (Rep.mono (rScr K) ((s2.trans s5).trans s21) f__law_script)) (ea_cons (ev_v (R := rA p1) rfl rfl) (ea_cons ev_i ea_nil)))) ⟨_, _, _, rfl, hr24, rfl⟩ rfl) ev_i o_eqI) (fun t9 F9 e9 h9 => (et_b h9))) (fun z90 Fs91 s91 => ?_) (fun z90 Fs92 s92 => ?_)
      · have hj27 := cnd_t hj27 z90
        obtain ⟨c93, hc93, hj27⟩ := bsome hj27
        obtain ⟨c94, hc94, hj27⟩ := bsome hj27
        obtain ⟨c95, hc95, hj27⟩ := bsome hj27
        obtain ⟨c96, hc96, hj27⟩ := bsome hj27
        obtain ⟨c97, hc97, hj27⟩ := bsome hj27
        obtain ⟨x98, hx98, hj27⟩ := lt_e hj27
        refine sx_asg (R := (rL rInt)) (ev_is (ev_frz (ev_opN (ev_nspn (ev_opN (ev_nspn (ev_lst (R := rInt) (as := [c93]) (ea_cons (ev_op (ev_spn (ev_v (R := (rL rInt)) rfl (Rep.mono (rL rInt) s91 f22))) ev_i (o_ixL hc93)) ea_nil) (show (1 : Nat) ≤ limL by decide))) (ev_op (ev_v (R := rInt) rfl (Rep.mono rInt (s21.trans s91) f6)) (ev_op (ev_v (R := rInt) rfl (Rep.mono rInt (s21.trans s91) f6)) ev_i (o_divO hc94)) o_sub) (o_repLO hc95))) (ev_nspn (ev_slL (ev_spn (ev_v (R := (rL rInt)) rfl (Rep.mono (rL rInt) s91 f22))) (ep_some (ev_op (ev_v (R := rInt) rfl (Rep.mono rInt (s21.trans s91) f6)) (ev_op (ev_v (R := rInt) rfl (Rep.mono rInt (s21.trans s91) f6)) ev_i (o_divO hc96)) o_sub)) ep_none)) (o_catLO hc97))) hx98) fun v101 Fs99 s99 f100 => ?_
        obtain rfl := Option.some.inj hj27
        exact hJ26 _ _ _ (s91.trans s99) ⟨v101, _, _, _, _, _, rfl, rfl, f100, trivial⟩
      · have hj27 := cnd_f hj27 z90
        refine sx_next ?_
        obtain rfl := Option.some.inj hj27
        exact hJ26 _ _ _ s92 ⟨v23, _, _, _, _, _, rfl, rfl, (Rep.mono (rL rInt) s92 f22), trivial⟩

end
end Law
namespace Law
open PySem PySem.Spec Lm
/-! the draw of a number (k08, k09, k10, k22 and later) -/
theorem seed_ok (as : List Int) (s : Int) (hs : 0 ≤ s ∧ s < 1000003) : ∃ s', loop (ρ := Unit) (fun (s35 : Int) (a36 : Int) => (mulO s35 (131 : Int)).bind fun c47 => (modO (c47 + a36) (1000003 : Int)).bind fun c48 => lt c48 fun x49 => some (Fw.nx x49)) as s = some (.nx s') ∧ 0 ≤ s' ∧ s' < 1000003 := by
  have := loop_all (I := fun _ s => 0 ≤ s ∧ s < 1000003) (as := as) (i := 0) (s := s) hs (f := fun (s35 : Int) (a36 : Int) => (mulO s35 (131 : Int)).bind fun c47 => (modO (c47 + a36) (1000003 : Int)).bind fun c48 => lt c48 fun x49 => some (Fw.nx (ρ := Unit) x49)) fun j s a _ h => by
    refine ⟨(s * 131 + a) % 1000003, ?_, ?_⟩
    · rw [mulO_s (by omega) (by omega)]
      rw [bind_some, modO_s (by omega)]
      rfl
    · exact ⟨Int.emod_nonneg _ (by omega), Int.emod_lt_of_pos _ (by omega)⟩
  obtain ⟨s', h1, h2⟩ := this
  exact ⟨s', h1, h2⟩
theorem draw_ok (ns : List Int) (hn : ns.length ≤ 63) (k many : Int) (h0 : 0 ≤ k ∧ k < 1000000000) (hm : 0 < many) : ∃ v, m__law_draw ns k many = some (v, k + 1) ∧ 0 ≤ v ∧ v < many := by
  unfold m__law_draw
  rw [lt_eq]
  by_cases h : k + 1 ≤ (ns.length : Int)
  · rw [decide_eq_true h, cnd_true]
    have e : k + 1 - 1 = k := by omega
    rw [e, ixO_pos h0.1 (by omega)]
    have h2 : k.toNat < ns.length := by omega
    rw [List.getElem?_eq_getElem h2, bind_some, modO_s hm]
    exact ⟨_, rfl, Int.emod_nonneg _ (by omega), Int.emod_lt_of_pos _ hm⟩
  · rw [decide_eq_false h, cnd_false, lt_eq]
    obtain ⟨s', e, h1, h2⟩ := seed_ok (cutL ns none (some (4 : Int))) (ns.length : Int) (by omega)
    rw [e, fwd_nx]
    have hk2 : 0 ≤ (k + 1) * (k + 1) ∧ (k + 1) * (k + 1) ≤ 1000000000 * 1000000000 := ⟨Int.mul_nonneg (by omega) (by omega), Int.mul_le_mul (by omega) (by omega) (by omega) (by omega)⟩
    rw [mulO_s (by omega) (by omega), bind_some, mulO_s (by omega) (by omega), bind_some, modO_s (by omega), bind_some, modO_s hm]
    exact ⟨_, rfl, Int.emod_nonneg _ (by omega), Int.emod_lt_of_pos _ hm⟩
/-! shares -/
structure Inv (w f : List Int) : Prop where
  len : f.length = w.length
  pt : ∀ (i : Nat) (a b : Int), f[i]? = some a → w[i]? = some b → 1 ≤ a ∧ a ≤ b
  hi : ∀ M, maxO f = some M → ∀ (i : Nat) (a b : Int), f[i]? = some a → w[i]? = some b → a = b ∨ M - 1 ≤ a
  od : ∀ M, maxO f = some M → ∀ (i j : Nat) (a b c d : Int), i < j → f[i]? = some a → w[i]? = some b → f[j]? = some c → w[j]? = some d → M ≤ b → M ≤ d → c = M - 1 → a ≠ M
theorem inv_start (w : List Int) (h : ∀ x ∈ w, 1 ≤ x) : Inv w w := by
  refine ⟨rfl, fun i a b ha hb => ?_, fun M _ i a b ha hb => ?_, fun M hM i j a b c d hij ha hb hc hd h1 h2 h3 => ?_⟩
  · rw [ha] at hb; cases hb
    exact ⟨h a (List.mem_of_getElem? ha), Int.le_refl _⟩
  · rw [ha] at hb; cases hb
    exact Or.inl rfl
  · rw [hc] at hd; cases hd
    omega
theorem inv_step {w f : List Int} (h : Inv w f) (hs : (f.length : Int) < f.sum) : ∃ (M : Int) (j : Nat), maxO f = some M ∧ idxO M f = some (j : Int) ∧ f[j]? = some M ∧ Inv w (f.set j (M - 1)) ∧ (f.set j (M - 1)).sum = f.sum - 1 := by
  cases hM : maxO f with
  | none =>
    cases f with
    | nil => simp at hs
    | cons a as => cases hM
  | some M =>
    obtain ⟨hmem, hle⟩ := maxO_e hM
    have hM2 : 2 ≤ M := by
      refine Int.not_lt.mp fun z => ?_
      have := sum_le (c := 1) (ns := f) fun x m => by have := hle x m; omega
      omega
    have hidx : ∃ i, idxO M f = some i := by
      clear hs h hM hle
      induction f with
      | nil => cases hmem
      | cons a as ih =>
        unfold idxO
        by_cases e : a = M
        · exact ⟨0, by rw [if_pos e]⟩
        · rcases List.mem_cons.mp hmem with z | z
          · exact absurd z.symm e
          · obtain ⟨i, hi⟩ := ih z
            exact ⟨i + 1, by rw [if_neg e, hi]; rfl⟩
    obtain ⟨i, hi⟩ := hidx
    obtain ⟨j, rfl, hj, hfirst⟩ := idxO_e hi
    have hjl := (List.getElem?_eq_some_iff.mp hj).1
    have get : ∀ i : Nat, (f.set j (M - 1))[i]? = if j = i then some (M - 1) else f[i]? := fun i => by
      rw [List.getElem?_set]
      by_cases e : j = i
      · rw [if_pos e, if_pos e, if_pos hjl]
      · rw [if_neg e, if_neg e]
    refine ⟨M, j, rfl, hi, hj, ⟨by rw [List.length_set]; exact h.len, fun i a b ha hb => ?_, fun M' hM' i a b ha hb => ?_, fun M' hM' i i' a b c d hij ha hb hc hd h1 h2 h3 => ?_⟩, by rw [sum_set hj]; omega⟩
    · rw [get] at ha
      by_cases e : j = i
      · rw [if_pos e] at ha
        cases ha
        subst e
        have := h.pt j M b hj hb
        omega
      · rw [if_neg e] at ha
        exact h.pt i a b ha hb
    · have hM'le : M' ≤ M := by
        obtain ⟨m1, _⟩ := maxO_e hM'
        obtain ⟨k, hk⟩ := List.getElem?_of_mem m1
        rw [get] at hk
        by_cases e : j = k
        · rw [if_pos e] at hk; cases hk; omega
        · rw [if_neg e] at hk
          exact hle _ (List.mem_of_getElem? hk)
      rw [get] at ha
      by_cases e : j = i
      · rw [if_pos e] at ha; cases ha; omega
      · rw [if_neg e] at ha
        have := h.hi M hM i a b ha hb
        omega
    · obtain ⟨m1, m2⟩ := maxO_e hM'
      have hge : M - 1 ≤ M' := m2 _ (List.mem_of_getElem? (by rw [get, if_pos rfl] : (f.set j (M - 1))[j]? = some (M - 1)))
      have hM'le : M' ≤ M := by
        obtain ⟨k, hk⟩ := List.getElem?_of_mem m1
        rw [get] at hk
        by_cases e : j = k
        · rw [if_pos e] at hk; cases hk; omega
        · rw [if_neg e] at hk
          exact hle _ (List.mem_of_getElem? hk)
      rw [get] at ha hc
      intro hEq
      by_cases e1 : j = i
      · rw [if_pos e1] at ha
        cases ha
        rw [if_neg (by omega)] at hc
        have hMM : M' = M - 1 := hEq.symm
        have hd' := h.hi M hM i' c d hc hd
        omega
      · rw [if_neg e1] at ha
        by_cases e2 : j = i'
        · rw [if_pos e2] at hc
          cases hc
          have hMM : M' = M := by omega
          subst hMM
          exact hfirst i (by omega) a ha hEq
        · rw [if_neg e2] at hc
          by_cases hMM : M' = M
          · subst hMM
            exact h.od M' hM i i' a b c d hij ha hb hc hd h1 h2 h3 hEq
          · have hd' := h.hi M hM i' c d hc hd
            omega
theorem shares_ok (w : List Int) (room : Int) (h : ∀ x ∈ w, 1 ≤ x) (hr : (w.length : Int) ≤ room) : ∃ f, m_shares w room = some f ∧ Inv w f ∧ ((w.sum ≤ room ∧ f = w) ∨ (room < w.sum ∧ f.sum = room)) := by
  unfold m_shares
  rw [lt_eq]
  have := while_all (ρ := Unit) (c := fun (s18 : (List (Int))) => some (decide (room < s18.sum))) (f := fun (s28 : (List (Int))) => (maxO s28).bind fun c34 => (idxO c34 s28).bind fun c35 => lt c35 fun x36 => (ixO s28 x36).bind fun c40 => (setO s28 x36 (c40 - (1 : Int))).bind fun y41 => some (Fw.nx y41))
    (I := fun f => Inv w f ∧ ((w.sum ≤ room ∧ f = w) ∨ (room < w.sum ∧ room ≤ f.sum))) (me := fun f => (f.sum - room).toNat) (n := (List.sum w - room).toNat + 1) (s := w)
  by_cases hw : w.sum ≤ room
  · obtain ⟨f, e, ⟨i1, i2⟩, hc⟩ := this ⟨inv_start w h, Or.inl ⟨hw, rfl⟩⟩ (by omega) (fun s ⟨hI, hs⟩ => ⟨_, rfl, fun hb => by
        have hb := of_decide_eq_true hb
        rcases hs with ⟨_, rfl⟩ | ⟨z, _⟩ <;> omega⟩)
    rw [e, fwd_nx]
    refine ⟨f, rfl, i1, ?_⟩
    rcases i2 with z | z
    · exact Or.inl z
    · omega
  · obtain ⟨f, e, ⟨i1, i2⟩, hc⟩ := this ⟨inv_start w h, Or.inr ⟨by omega, by omega⟩⟩ (by omega) (fun s ⟨hI, hs⟩ => ⟨_, rfl, fun hb => by
        have hb := of_decide_eq_true hb
        obtain ⟨M, j, e1, e2, e3, hI2, hsum⟩ := inv_step hI (by rw [hI.len]; omega)
        have hjl := (List.getElem?_eq_some_iff.mp e3).1
        refine ⟨s.set j (M - 1), ?_, ⟨hI2, Or.inr ⟨by omega, by omega⟩⟩, by omega⟩
        rw [e1, bind_some, e2, bind_some, lt_eq, ixO_nat e3, bind_some, setO_nat hjl]
        rfl⟩)
    rw [e, fwd_nx]
    refine ⟨f, rfl, i1, ?_⟩
    have hc := of_decide_eq_false (Option.some.inj hc)
    rcases i2 with z | z
    · omega
    · exact Or.inr ⟨by omega, by omega⟩
/-! what the law looks at -/
theorem whole_ok (f : List Int) : mapF (fun (a1 : Int) => (m__law_whole (a1)).bind fun r9 => some (some r9)) f = some (f.map fun _ => true) := mapF_map fun a _ => rfl
theorem all_true {α : Type} (f : List α) : ((f.map fun _ => true).all id) = true := by
  rw [List.all_map]
  exact List.all_eq_true.mpr fun _ _ => rfl
theorem zip_all {w f : List Int} (h : Inv w f) : (((List.zip f w).map fun (a20 : Int × Int) => (decide ((1 : Int) ≤ a20.1)) && (decide (a20.1 ≤ a20.2))).all id) = true := by
  rw [List.all_map, List.all_eq_true]
  intro p hp
  obtain ⟨i, hi⟩ := List.getElem?_of_mem hp
  have hz := zip_get hi
  obtain ⟨h1, h2⟩ := h.pt i _ _ hz.1 hz.2
  show (decide ((1 : Int) ≤ p.1) && decide (p.1 ≤ p.2)) = true
  rw [decide_eq_true h1, decide_eq_true h2]
  rfl
theorem late_ok (M : Int) : ∀ (ps : List (Int × Int)) (s : Bool), (∀ p ∈ ps, p.1 = p.2 ∨ M - 1 ≤ p.1) → ps.Pairwise (fun p q => M ≤ p.2 → M ≤ q.2 → q.1 = M - 1 → p.1 ≠ M) → (s = true → ∀ q ∈ ps, M ≤ q.2 → q.1 ≠ M - 1) →
    ∃ s', loop (ρ := Bool) (fun (s77 : Bool) (a78 : (Int × Int)) => cnd ((decide (a78.1 < (M - (1 : Int)))) && ((!decide (a78.1 = a78.2)))) (some (Fw.rt false)) ((cnd ((decide (a78.1 = M)) && (decide (M ≤ a78.2))) (lt true fun x115 => some x115) (some s77)).bind fun (j98 : Bool) => cnd ((decide (a78.1 = (M - (1 : Int)))) && ((decide (M ≤ a78.2)) && j98)) (some (Fw.rt false)) (some (Fw.nx j98)))) ps s = some (.nx s')
  | [], s, _, _, _ => ⟨s, rfl⟩
  | p :: ps, s, h1, h2, h3 => by
    obtain ⟨h2a, h2b⟩ := List.pairwise_cons.mp h2
    have hp := h1 p (List.mem_cons_self ..)
    have go : ∀ s', (s' = true → s = true ∨ (p.1 = M ∧ M ≤ p.2)) → _ := fun s' hs' => late_ok M ps s' (fun q m => h1 q (List.mem_cons_of_mem _ m)) h2b (fun e q m hq hq2 => by
      rcases hs' e with z | z
      · exact h3 z q (List.mem_cons_of_mem _ m) hq hq2
      · exact h2a q m z.2 hq hq2 z.1)
    simp only [loop]
    have c1 : ((decide (p.1 < (M - (1 : Int)))) && ((!decide (p.1 = p.2)))) = false := by
      rw [Bool.and_eq_false_iff]
      rcases hp with z | z
      · right; rw [decide_eq_true z]; rfl
      · left; exact decide_eq_false (by omega)
    rw [c1, cnd_false]
    by_cases c2 : p.1 = M ∧ M ≤ p.2
    · rw [decide_eq_true c2.1, decide_eq_true c2.2, Bool.and_self, cnd_true, lt_eq, bind_some]
      have c3 : ((decide (p.1 = (M - (1 : Int)))) && (true && true)) = false := by
        rw [decide_eq_false (by omega)]; rfl
      rw [c3, cnd_false]
      exact go true fun _ => Or.inr c2
    · have c2' : ((decide (p.1 = M)) && (decide (M ≤ p.2))) = false := by
        rw [Bool.and_eq_false_iff]
        by_cases z : p.1 = M
        · right; exact decide_eq_false fun y => c2 ⟨z, y⟩
        · left; exact decide_eq_false z
      rw [c2', cnd_false, bind_some]
      have c3 : ((decide (p.1 = (M - (1 : Int)))) && ((decide (M ≤ p.2)) && s)) = false := by
        by_cases z : p.1 = M - 1
        · by_cases y : M ≤ p.2
          · cases s with
            | false => simp
            | true => exact absurd z (h3 rfl p (List.mem_cons_self ..) y)
          · rw [decide_eq_false y]; simp
        · rw [decide_eq_false z]; rfl
      rw [c3, cnd_false]
      exact go s fun e => Or.inl e
theorem right_ok {w f : List Int} {room : Int} (h : Inv w f) (hw : w ≠ []) (hs : (w.sum ≤ room ∧ f = w) ∨ (room < w.sum ∧ f.sum = room)) : m__law_right w room f = some true := by
  have e1 : (!decide ((f.length : Int) = (w.length : Int))) = false := by rw [h.len, decide_eq_true rfl]; rfl
  unfold m__law_right
  have e0 : (!true) = false := rfl
  rw [e0, cnd_false, e1, cnd_false, whole_ok, bind_some, all_true, bind_some, bind_some]
  rw [show (!true) = false from rfl, cnd_false]
  rw [mapF_map (g := fun (a20 : Int × Int) => (decide ((1 : Int) ≤ a20.1)) && (decide (a20.1 ≤ a20.2))) (fun _ _ => rfl), bind_some, zip_all h, e0, cnd_false]
  rcases hs with ⟨hs, rfl⟩ | ⟨hs, hf⟩
  · rw [decide_eq_true hs, cnd_true]
    show ((eqO (PyData.list (List.map PyData.int f)) (PyData.list (List.map PyData.int f))).bind _) = _
    rw [eqO_ints, bind_some, decide_eq_true rfl]
  · rw [decide_eq_false (by omega), cnd_false, decide_eq_true hf, e0, cnd_false]
    cases hM : maxO f with
    | none =>
      cases f with
      | nil =>
        have := h.len
        exact absurd (List.eq_nil_of_length_eq_zero this.symm) hw
      | cons a as => cases hM
    | some M =>
      rw [bind_some, lt_eq, lt_eq]
      obtain ⟨s', e⟩ := late_ok M (List.zip f w) false (fun p hp => by
        obtain ⟨i, hi⟩ := List.getElem?_of_mem hp
        have hz := zip_get hi
        exact h.hi M hM i _ _ hz.1 hz.2) (by
        rw [List.pairwise_iff_getElem]
        intro i j hi hj hij
        have hzi := zip_get (List.getElem?_eq_getElem hi)
        have hzj := zip_get (List.getElem?_eq_getElem hj)
        exact h.od M hM i j _ _ _ _ hij hzi.1 hzi.2 hzj.1 hzj.2) (fun e => by cases e)
      rw [e, fwd_nx]
/-! the law -/
theorem cut_at {α : Type} (as : List α) (n : Nat) (h : n ≤ as.length) : cutL as (some (n : Int)) none = as.drop n := by
  have e : HT.sIx as.length 0 (some (n : Int)) = n := by
    unfold HT.sIx
    simp
    rw [if_neg (by omega)]
    omega
  have e2 : HT.sIx as.length as.length none = as.length := rfl
  unfold cutL
  rw [e, e2, List.take_of_length_le]
  rw [List.length_drop]; omega
theorem pure_law (ns : List Int) (hn : ns.length ≤ 63) : m_law ns = some true := by
  unfold m_law
  obtain ⟨v1, e1, h1a, h1b⟩ := draw_ok ns hn 0 9 (by omega) (by omega)
  rw [e1, bind_some, lt_eq]
  show ((rngO 0 (1 + v1)).bind _) = _
  rw [rngO_s (by omega) (by omega), bind_some]
  have hlen : (rng 0 (1 + v1)).length = (1 + v1).toNat := by rw [rng_len]; congr 1; omega
  obtain ⟨w0, k2, e2, hl2, hw2, hk2⟩ := mapFM_all (P := fun x => 1 ≤ x ∧ x ≤ 30) (I := fun i k => 0 ≤ k ∧ k ≤ 1 + (i : Int)) (as := rng 0 (1 + v1)) (i := 0) (k := 1) (f := fun (k9 : Int) (a9 : Int) => (m__law_draw (ns) (k9) ((30 : Int))).bind fun r17 => some (some ((1 : Int) + r17.1), r17.2)) (by omega) (fun j k a m h1 h2 hI => by
    obtain ⟨v, e, ha, hb⟩ := draw_ok ns hn k 30 (by omega) (by omega)
    exact ⟨1 + v, k + 1, by rw [e]; rfl, by omega, by omega⟩)
  show ((mapFM _ (rng 0 (1 + v1)) (0 + 1)).bind _) = _
  rw [show (0 + 1 : Int) = 1 from rfl, e2, bind_some, lt_eq]
  rw [hlen] at hl2 hk2
  obtain ⟨v3, e3, h3a, h3b⟩ := draw_ok ns hn k2 3 (by omega) (by omega)
  show ((m__law_draw ns k2 3).bind _) = _
  rw [e3, bind_some]
  -- the wants
  have W : ∃ w : List Int, (cnd (decide (v3 = (1 : Int))) ((ixO w0 (0 : Int)).bind fun c93 => (divO (1 + v1) (3 : Int)).bind fun c94 => (repO ([c93] : List (Int)) ((1 + v1) - c94)).bind fun c95 => (divO (1 + v1) (3 : Int)).bind fun c96 => (catO c95 (cutL w0 (some ((1 + v1) - c96)) none)).bind fun c97 => lt c97 fun x98 => some (x98, k2 + 1)) (some (w0, k2 + 1))) = some (w, k2 + 1) ∧ w.length = (1 + v1).toNat ∧ ∀ x ∈ w, 1 ≤ x ∧ x ≤ 30 := by
    by_cases c : v3 = 1
    · rw [decide_eq_true c, cnd_true]
      cases w0 with
      | nil => simp at hl2; omega
      | cons a as =>
        rw [show ixO (a :: as) (0 : Int) = some a from ixO_nat (i := 0) rfl, bind_some, divO_s (by omega), bind_some]
        rw [repO_s (by simp; omega) (by omega), bind_some, bind_some]
        have e9 : (1 + v1) - (1 + v1) / 3 = (((1 + v1) - (1 + v1) / 3).toNat : Int) := by omega
        have hq : ((1 + v1) - (1 + v1) / 3).toNat ≤ (a :: as).length := by omega
        have hc := cut_at (a :: as) ((1 + v1) - (1 + v1) / 3).toNat hq
        rw [← e9] at hc
        rw [hc, catO_s, bind_some, lt_eq]
        · refine ⟨_, rfl, ?_, fun x m => ?_⟩
          · rw [List.length_append, rep_lenA, List.length_drop, hl2, List.length_singleton]; omega
          · rcases List.mem_append.mp m with m | m
            · obtain ⟨l, hl, hx⟩ := List.mem_flatten.mp m
              rw [(List.mem_replicate.mp hl).2] at hx
              rw [List.mem_singleton.mp hx]
              exact hw2 a (List.mem_cons_self ..)
            · exact hw2 x (List.mem_of_mem_drop m)
        · rw [rep_lenA, List.length_drop, hl2, List.length_singleton]; omega
    · rw [decide_eq_false c, cnd_false]
      exact ⟨w0, rfl, hl2, hw2⟩
  obtain ⟨w, eW, hWl, hW⟩ := W
  show ((cnd (decide (v3 = (1 : Int))) ((ixO w0 (0 : Int)).bind fun c93 => (divO (1 + v1) (3 : Int)).bind fun c94 => (repO ([c93] : List (Int)) ((1 + v1) - c94)).bind fun c95 => (divO (1 + v1) (3 : Int)).bind fun c96 => (catO c95 (cutL w0 (some ((1 + v1) - c96)) none)).bind fun c97 => lt c97 fun x98 => some (x98, k2 + 1)) (some (w0, k2 + 1))).bind _) = _
  rw [eW, bind_some]
  have hs1 := sum_ge (c := 1) fun x m => (hW x m).1
  have hs2 := sum_le (c := 30) fun x m => (hW x m).2
  have hw0 : w ≠ [] := fun z => by rw [z] at hWl; simp at hWl; omega
  obtain ⟨v4, e4, h4a, h4b⟩ := draw_ok ns hn (k2 + 1) (w.sum - (1 + v1) + 4) (by omega) (by omega)
  show ((m__law_draw ns (k2 + 1) (w.sum - (1 + v1) + 4)).bind _) = _
  rw [e4, bind_some, lt_eq, lt_eq]
  show ((m_shares w (1 + v1 + v4)).bind _) = _
  obtain ⟨f, e5, hI, hS⟩ := shares_ok w (1 + v1 + v4) (fun x m => (hW x m).1) (by omega)
  rw [e5, bind_some, lt_eq]
  show ((m__law_right w (1 + v1 + v4) f).bind _) = _
  rw [right_ok hI hw0 hS, bind_some, show (!true) = false from rfl, cnd_false]
  show (((eqO (PyData.list (List.map PyData.int w)) (PyData.list (List.map PyData.int w))).bind _).bind _) = _
  rw [eqO_ints, bind_some, decide_eq_true rfl, bind_some, show (!true) = false from rfl, cnd_false, lt_eq]
  have hfl : f.length ≤ 9 := by rw [hI.len, hWl]; omega
  rw [appO_s (by omega), bind_some]
  show ((m_shares w.reverse (1 + v1 + v4)).bind _) = _
  obtain ⟨f', e6, hI', hS'⟩ := shares_ok w.reverse (1 + v1 + v4) (fun x m => (hW x (List.mem_reverse.mp m)).1) (by rw [List.length_reverse]; omega)
  rw [e6, bind_some]
  show ((m__law_right w.reverse (1 + v1 + v4) f').bind _) = _
  rw [right_ok hI' (by simpa using hw0) hS', bind_some, show (!true) = false from rfl, cnd_false, bind_some]
  show (((eqO (PyData.list (List.map PyData.int f)) (PyData.list (List.map PyData.int f))).bind _)) = _
  rw [eqO_ints, bind_some, decide_eq_true rfl, cnd_true, catO_s (by simp; omega), bind_some]
  rw [eqO_ints, bind_some, decide_eq_true rfl]
  rfl
end Law
namespace Law
open PySem PySem.Spec PyProof.Rows L2 Lm

/-! the head -/
def d_shares : He.DefD := ⟨("shares", none), "shares", "shares", defArgs s_shares, defBody s_shares, defScope s_shares, [], []⟩
def d__law_draw : He.DefD := ⟨("_law_draw", none), "_law_draw", "_law_draw", defArgs s__law_draw, defBody s__law_draw, defScope s__law_draw, [], []⟩
def d__law_whole : He.DefD := ⟨("_law_whole", none), "_law_whole", "_law_whole", defArgs s__law_whole, defBody s__law_whole, defScope s__law_whole, [], []⟩
def d__law_right : He.DefD := ⟨("_law_right", none), "_law_right", "_law_right", defArgs s__law_right, defBody s__law_right, defScope s__law_right, [], []⟩
def d_law : He.DefD := ⟨("law", none), "law", "law", defArgs s_law, defBody s_law, defScope s_law, [], []⟩
def fn : List He.DefD := [d_shares, d__law_draw, d__law_whole, d__law_right, d_law]
def fa : List He.Fa := [.glo "shares", .glo "_law_draw", .glo "_law_whole", .glo "_law_right", .glo "law", .free "all", .free "bool", .free "int", .free "isinstance", .free "len", .free "list", .free "max", .free "range", .free "sum", .free "zip"]
abbrev R : PySem.W.OpenRow := PySem.W.OpenLaw.row PySem.Challenge.rw_lightmark_k09_shares
abbrev hk : PySem.W.Hook := He.hookD 4 fa fn
def ob (s : PySem.W.SharedT) : He.AlD := He.obsDG 4 fa fn (HandSHeadRun.getT s)
theorem ob_eq (s : PySem.W.SharedT) : ob s = hk.obs s.abs := He.obsDG_eq (HandSHeadRun.getT_eq s)
theorem run (w : World) : HandSHeadRun.RunEq R (PySem.W.view R.prog [6]) hk ob 1040 ["shares", "_law_draw", "_law_whole", "_law_right"] w := by
  intro os
  kernel_rfl
theorem calls {P : Program} {w : World} {K : PySem.W.Frag} {h base : Heap} {mg : Str → Option Value} (X : K.In h) (G : h.Ns mainGlobals mg) (c : He.SaysD fa fn K) : Cal P w K mg base 3 "law" ["_law_script"] (spG (P_law K)) := by
  have T : Top K mg := ⟨He.free_ok X G (c.fact 5 (f := .free "all") rfl), He.free_ok X G (c.fact 6 (f := .free "bool") rfl), He.free_ok X G (c.fact 7 (f := .free "int") rfl), He.free_ok X G (c.fact 8 (f := .free "isinstance") rfl), He.free_ok X G (c.fact 9 (f := .free "len") rfl), He.free_ok X G (c.fact 10 (f := .free "list") rfl), He.free_ok X G (c.fact 11 (f := .free "max") rfl), He.free_ok X G (c.fact 12 (f := .free "range") rfl), He.free_ok X G (c.fact 13 (f := .free "sum") rfl), He.free_ok X G (c.fact 14 (f := .free "zip") rfl)⟩
  have D_shares : Df K mg "shares" s_shares := ⟨(c.def_ 0 (d := d_shares) rfl).elim fun fd F => ⟨_, fd, F, He.glo_ok X G (c.fact 0 (f := .glo "shares") rfl)⟩⟩
  have D__law_draw : Df K mg "_law_draw" s__law_draw := ⟨(c.def_ 1 (d := d__law_draw) rfl).elim fun fd F => ⟨_, fd, F, He.glo_ok X G (c.fact 1 (f := .glo "_law_draw") rfl)⟩⟩
  have D__law_whole : Df K mg "_law_whole" s__law_whole := ⟨(c.def_ 2 (d := d__law_whole) rfl).elim fun fd F => ⟨_, fd, F, He.glo_ok X G (c.fact 2 (f := .glo "_law_whole") rfl)⟩⟩
  have D__law_right : Df K mg "_law_right" s__law_right := ⟨(c.def_ 3 (d := d__law_right) rfl).elim fun fd F => ⟨_, fd, F, He.glo_ok X G (c.fact 3 (f := .glo "_law_right") rfl)⟩⟩
  have D_law : Df K mg "law" s_law := ⟨(c.def_ 4 (d := d_law) rfl).elim fun fd F => ⟨_, fd, F, He.glo_ok X G (c.fact 4 (f := .glo "law") rfl)⟩⟩
  have C_shares : Cal P w K mg base 1 "shares" ["wants", "room"] (spN rInt (P_shares)) := ok_shares T D_shares 
  have C__law_draw : Cal P w K mg base 1 "_law_draw" ["_law_script", "_law_tape", "_law_many"] (spM (P__law_draw K)) := ok__law_draw T D__law_draw 
  have C__law_whole : Cal P w K mg base 1 "_law_whole" ["_law_found"] (spG (P__law_whole)) := ok__law_whole T D__law_whole 
  have C__law_right : Cal P w K mg base 2 "_law_right" ["_law_wants", "_law_room", "_law_found"] (spG (P__law_right)) := ok__law_right T D__law_right C__law_whole
  have C_law : Cal P w K mg base 3 "law" ["_law_script"] (spG (P_law K)) := ok_law T D_law C__law_draw C_shares C__law_right
  exact C_law
end Law
open PySem PySem.W PySem.Calls PyProof.Rows in
theorem PySem.Challenge.cw_lightmark_k09_shares_holds : PySem.Challenge.rw_lightmark_k09_shares.Holds := by
  w_on; o_law
  refine HandSHeadRun.head_any (r := OpenLaw.row PySem.Challenge.rw_lightmark_k09_shares) (q := view (OpenLaw.row PySem.Challenge.rw_lightmark_k09_shares).prog [6]) (H := Law.hk) (ob := Law.ob) (M := 1040) (loose := ["shares", "_law_draw", "_law_whole", "_law_right"]) (d := HandSHeadRun.topDef (OpenLaw.row PySem.Challenge.rw_lightmark_k09_shares).prog 6) (kwd := []) Law.ob_eq
    (by kernel_rfl) (fun s => by kernel_rfl) Law.run (by kernel_rfl) (by kernel_rfl) (by kernel_rfl) (by rfl) (by first | assumption | decide +kernel) (by decide +kernel) ⟨rfl, rfl, rfl, rfl, rfl, by decide +kernel⟩ ?hw ?hc
  case hw => w_witness2
  case hc =>
    refine L2.walk_ofE (l := PySem.Challenge.rw_lightmark_k09_shares) (n := 63) (k := 3) (x := "_law_script") (CX := L2.CX0) rfl (by decide) (by kernel_rfl) ⟨rfl, by decide, by decide⟩ ?F (fun _ _ _ _ z => z)
    intro w mg fa h Y G hmg0
    obtain ⟨K, KX, c⟩ := Y
    have hmg : mg ("law" : PySem.Str) = some (.ref fa) := by
      have e : (HandSHeadRun.topDef (OpenLaw.row PySem.Challenge.rw_lightmark_k09_shares).prog 6).name = ("law" : PySem.Str) := by kernel_rfl
      rw [← e]
      exact hmg0
    obtain ⟨fd, hb, hF⟩ := Lm.fin_of (P := (PySem.Challenge.rw_lightmark_k09_shares).prog) (w := w) hmg h (fun base => Law.calls KX G c)
    exact ⟨K, fd, Lm.spG (Law.P_law K), KX, hb, fun H a ns hl _ hS => ⟨H, _, _, ⟨ns, true, rfl, Law.pure_law ns hl, rfl⟩, L2.Same.refl H, ⟨⟨a, rfl, hS, Nat.le_trans hl (by decide)⟩, trivial⟩, fun v F' H' g e => e⟩, fun base _ _ => hF base⟩

