import PyProof.Rows.All
import PySem.Challenge.RW_lightmark_k02_sorts_of_built_rows
import Wide.All
import OpenK.AllK
import Wide.FinOn
import KE.KStateDown
import Lean
import HandS.ForMost
import HandS.StrMore
import HandS.Style
import HandS.IsInst
import HandS.Replace
import HandS.Wide
import HandS.Defaults
import HandS.HeadHook1
import HandS.HeadHook2
import HandS.HeadEnd
import HandS.Head0
import HandS.Head1
import HandS.Head2
import HandS.MapJoin
import HandS.Deep
import HandS.CallLocal
import HandS.Comp
import HandS.Ends
import HandS.ReplaceLit
import HandS.TupAny
import OpenK.XOpen
import OpenK.ZHead
import PyProof.ToksMono
set_option Elab.async false
set_option linter.all false
set_option maxRecDepth 100000
set_option maxHeartbeats 4000000
/-! Lm: readings over a frozen heap F and owned lists O. -/
namespace Lm
open PySem PySem.Spec L2

/-! ### heaps -/
theorem free_of {F H : Hp} (e : Same F H) {p : Addr} (h : H p = none) : F p = none := e.free h
theorem same_new {H : Hp} {p : Addr} {o : HO} (h : H p = none) : Same H (upd H p o) := fun b x e => by
  rw [upd_ne (ne_of_none e h)]
  exact e
theorem same_mut {F H : Hp} {p : Addr} {o : HO} (e : Same F H) (h : F p = none) : Same F (upd H p o) := fun a u ha => by
  rw [upd_ne (ne_of_none ha h)]
  exact e a u ha

/-- F grew to F', H to H': nothing of H changed, what is new in F' is new in H -/
structure Gr (F H F' H' : Hp) : Prop where
  f : Same F F'
  h : Same H H'
  fh : Same F' H'
  nw : ∀ a, F a = none → H a ≠ none → F' a = none
theorem Gr.refl {F H : Hp} (e : Same F H) : Gr F H F H := ⟨Same.refl F, Same.refl H, e, fun _ h _ => h⟩
theorem Gr.trans {F H F1 H1 F2 H2 : Hp} (a : Gr F H F1 H1) (b : Gr F1 H1 F2 H2) : Gr F H F2 H2 :=
  ⟨a.f.trans b.f, a.h.trans b.h, b.fh, fun x h1 h2 => b.nw x (a.nw x h1 h2) (by
    cases e : H x with
    | none => exact absurd e h2
    | some o => rw [a.h x o e]; exact fun z => by cases z)⟩
/-- a new object that is frozen at once -/
theorem Gr.frz {F H : Hp} {p : Addr} {o : HO} (e : Same F H) (h : H p = none) : Gr F H (upd F p o) (upd H p o) := by
  have hf := free_of e h
  refine ⟨same_new hf, same_new h, fun a u ha => ?_, fun a h1 h2 => ?_⟩
  · by_cases q : a = p
    · subst q; rw [upd_same] at ha ⊢; exact ha
    · rw [upd_ne q] at ha ⊢; exact e a u ha
  · rw [upd_ne (fun q => h2 (by rw [q]; exact h))]
    exact h1
/-- a new object that is not kept in F -/
theorem Gr.gar {F H : Hp} {p : Addr} {o : HO} (e : Same F H) (h : H p = none) : Gr F H F (upd H p o) :=
  ⟨Same.refl F, same_new h, e.trans (same_new h), fun _ q _ => q⟩

/-- owned objects -/
abbrev Own := List (Addr × HO)
structure Ok (F : Hp) (O : Own) (H : Hp) : Prop where
  ex : Same F H
  own : ∀ q ∈ O, F q.1 = none ∧ H q.1 = some q.2
theorem Ok.gr {F H F' H' : Hp} {O : Own} (k : Ok F O H) (g : Gr F H F' H') : Ok F' O H' :=
  ⟨g.fh, fun q m => ⟨g.nw _ (k.own q m).1 (by rw [(k.own q m).2]; exact fun z => by cases z), g.h _ _ (k.own q m).2⟩⟩

/-! ### what a value stands for -/
structure Rep (α : Type) where
  rp : α → V → Hp → Prop
  mono : ∀ {a v F F'}, Same F F' → rp a v F → rp a v F'
abbrev mk (l : List Nat) : Str := ⟨l.toArray⟩
def rInt : Rep Int := ⟨fun i v _ => v = .int i, fun _ h => h⟩
def rB : Rep Bool := ⟨fun i v _ => v = .bl i, fun _ h => h⟩
/-- texts are of signs below 128, and no longer than a million -/
abbrev lim : Nat := 1000000
/-- lists are no longer than this -/
abbrev limL : Nat := 4000000
def OkS (l : List Nat) : Prop := l.length ≤ lim ∧ ∀ c ∈ l, c < 128
def okS (l : List Nat) : Bool := decide (l.length ≤ lim) && l.all fun c => decide (c < 128)
theorem okS_iff {l : List Nat} : okS l = true ↔ OkS l := by
  unfold okS OkS
  rw [Bool.and_eq_true, decide_eq_true_eq, List.all_eq_true]
  simp only [decide_eq_true_eq]
def rS : Rep (List Nat) := ⟨fun l v _ => v = .str (mk l) ∧ OkS l, fun _ h => h⟩
/-- one sign -/
def rC : Rep Nat := ⟨fun c v _ => v = .str (mk [c]) ∧ c < 128, fun _ h => h⟩
def rN : Rep Unit := ⟨fun _ v _ => v = .non, fun _ h => h⟩
def rV (v : V) : Rep Unit := ⟨fun _ w _ => w = v, fun _ h => h⟩
def All2 {α : Type} (R : Rep α) : List α → List V → Hp → Prop
  | [], [], _ => True
  | a :: as, v :: vs, F => R.rp a v F ∧ All2 R as vs F
  | _, _, _ => False
section
variable {α β γ : Type} {R : Rep α} {R' : Rep β}
theorem All2.mono {F F' : Hp} (e : Same F F') : ∀ {as : List α} {vs : List V}, All2 R as vs F → All2 R as vs F'
  | [], [], _ => trivial
  | _ :: _, _ :: _, h => ⟨R.mono e h.1, All2.mono e h.2⟩
  | [], _ :: _, h => h.elim
  | _ :: _, [], h => h.elim
theorem All2.len {F : Hp} : ∀ {as : List α} {vs : List V}, All2 R as vs F → as.length = vs.length
  | [], [], _ => rfl
  | _ :: _, _ :: _, h => by rw [List.length_cons, List.length_cons, All2.len h.2]
  | [], _ :: _, h => h.elim
  | _ :: _, [], h => h.elim
theorem All2.get {F : Hp} : ∀ {as : List α} {vs : List V} {i : Nat} {a : α}, All2 R as vs F → as[i]? = some a → ∃ v, vs[i]? = some v ∧ R.rp a v F
  | [], _, _, _, _, e => by simp at e
  | a :: as, [], _, _, h, _ => h.elim
  | a :: as, v :: vs, 0, b, h, e => by
    have e1 : a = b := Option.some.inj e
    subst e1
    exact ⟨v, rfl, h.1⟩
  | a :: as, v :: vs, i + 1, b, h, e => All2.get (i := i) h.2 e
theorem All2.getv {F : Hp} : ∀ {as : List α} {vs : List V} {i : Nat} {v : V}, All2 R as vs F → vs[i]? = some v → ∃ a, as[i]? = some a ∧ R.rp a v F
  | [], [], _, _, _, e => by simp at e
  | [], _ :: _, _, _, h, _ => h.elim
  | a :: as, [], _, _, h, _ => h.elim
  | a :: as, v :: vs, 0, b, h, e => by
    have e1 : v = b := Option.some.inj e
    subst e1
    exact ⟨a, rfl, h.1⟩
  | a :: as, v :: vs, i + 1, b, h, e => All2.getv (i := i) h.2 e
theorem All2.app {F : Hp} : ∀ {as bs : List α} {vs ws : List V}, All2 R as vs F → All2 R bs ws F → All2 R (as ++ bs) (vs ++ ws) F
  | [], _, [], _, _, h => h
  | _ :: _, _, _ :: _, _, h1, h2 => ⟨h1.1, All2.app h1.2 h2⟩
  | [], _, _ :: _, _, h, _ => h.elim
  | _ :: _, _, [], _, h, _ => h.elim
theorem All2.one {F : Hp} {a : α} {v : V} (h : R.rp a v F) : All2 R [a] [v] F := ⟨h, trivial⟩
theorem All2.take {F : Hp} : ∀ (n : Nat) {as : List α} {vs : List V}, All2 R as vs F → All2 R (as.take n) (vs.take n) F
  | 0, _, _, _ => trivial
  | _ + 1, [], [], _ => trivial
  | n + 1, _ :: _, _ :: _, h => ⟨h.1, All2.take n h.2⟩
  | _ + 1, [], _ :: _, h => h.elim
  | _ + 1, _ :: _, [], h => h.elim
theorem All2.drop {F : Hp} : ∀ (n : Nat) {as : List α} {vs : List V}, All2 R as vs F → All2 R (as.drop n) (vs.drop n) F
  | 0, _, _, h => h
  | _ + 1, [], [], _ => trivial
  | n + 1, _ :: _, _ :: _, h => All2.drop n h.2
  | _ + 1, [], _ :: _, h => h.elim
  | _ + 1, _ :: _, [], h => h.elim
theorem All2.set {F : Hp} {a : α} {v : V} (hr : R.rp a v F) : ∀ (n : Nat) {as : List α} {vs : List V}, All2 R as vs F → All2 R (as.set n a) (vs.set n v) F
  | _, [], [], _ => trivial
  | 0, _ :: _, _ :: _, h => ⟨hr, h.2⟩
  | n + 1, _ :: _, _ :: _, h => ⟨h.1, All2.set hr n h.2⟩
  | _, [], _ :: _, h => h.elim
  | _, _ :: _, [], h => h.elim
theorem All2.rev {F : Hp} : ∀ {as : List α} {vs : List V}, All2 R as vs F → All2 R as.reverse vs.reverse F
  | [], [], _ => trivial
  | a :: as, v :: vs, h => by
    rw [List.reverse_cons, List.reverse_cons]
    exact All2.app (All2.rev h.2) (All2.one h.1)
  | [], _ :: _, h => h.elim
  | _ :: _, [], h => h.elim
/-- a kind whose values are told by a function -/
structure Fl (R : Rep α) (f : α → V) : Prop where
  to : ∀ {a v F}, R.rp a v F → v = f a
  of : ∀ a F, R.rp a (f a) F
theorem flI : Fl rInt V.int := ⟨fun h => h, fun _ _ => rfl⟩
theorem flB : Fl rB V.bl := ⟨fun h => h, fun _ _ => rfl⟩
theorem All2.strs {F : Hp} : ∀ {as : List (List Nat)} {vs : List V}, All2 rS as vs F → vs = (as.map mk).map V.str
  | [], [], _ => rfl
  | _ :: _, _ :: _, q => by
    have e := q.1.1
    rw [List.map_cons, List.map_cons, ← All2.strs q.2, e]
  | [], _ :: _, q => q.elim
  | _ :: _, [], q => q.elim
theorem All2.of_strs {F : Hp} : ∀ (as : List (List Nat)), (∀ a ∈ as, OkS a) → All2 rS as ((as.map mk).map V.str) F
  | [], _ => trivial
  | a :: as, h => ⟨⟨rfl, h a (List.mem_cons_self ..)⟩, All2.of_strs as fun b m => h b (List.mem_cons_of_mem _ m)⟩
theorem All2.oks {F : Hp} : ∀ {as : List (List Nat)} {vs : List V}, All2 rS as vs F → ∀ a ∈ as, OkS a
  | [], _, _, _, m => by cases m
  | b :: bs, [], h, _, _ => h.elim
  | b :: bs, v :: vs, h, a, m => by
    rcases List.mem_cons.mp m with e | m
    · subst e; exact h.1.2
    · exact All2.oks h.2 a m
theorem All2.map {f : α → V} (h : Fl R f) {F : Hp} : ∀ {as : List α} {vs : List V}, All2 R as vs F → vs = as.map f
  | [], [], _ => rfl
  | _ :: _, _ :: _, q => by rw [List.map_cons, h.to q.1, All2.map h q.2]
  | [], _ :: _, q => q.elim
  | _ :: _, [], q => q.elim
theorem All2.of_map {f : α → V} (h : Fl R f) {F : Hp} : ∀ (as : List α), All2 R as (as.map f) F
  | [] => trivial
  | a :: as => ⟨h.of a F, All2.of_map h as⟩
/-- .. and not too many -/
structure AllB (R : Rep α) (as : List α) (xs : List V) (F : Hp) : Prop where
  all : All2 R as xs F
  len : as.length ≤ limL
theorem AllB.mono {F F' : Hp} {as : List α} {xs : List V} (e : Same F F') (h : AllB R as xs F) : AllB R as xs F' := ⟨h.all.mono e, h.len⟩
theorem AllB.sz {F : Hp} {as : List α} {xs : List V} (h : AllB R as xs F) : xs.length ≤ limL := by
  rw [← h.all.len]
  exact h.len
theorem sz_lim {n : Nat} (h : n ≤ lim) : n ≤ limL := Nat.le_trans h (by decide)
theorem sz_line {n : Nat} (h : n ≤ limL) : n ≤ sizeLine := Nat.le_trans h (by decide)
theorem sz_lt {n : Nat} (h : n ≤ limL) : n < sizeLine := Nat.lt_of_le_of_lt h (by decide)
/-- a frozen list, tuples -/
def rL (R : Rep α) : Rep (List α) := ⟨fun as v F => ∃ p xs, v = .ref p ∧ F p = some (.lst xs) ∧ AllB R as xs F,
  fun e ⟨p, xs, h1, h2, h3⟩ => ⟨p, xs, h1, e _ _ h2, h3.mono e⟩⟩
/-- a tuple of things of one kind -/
def rTL (R : Rep α) : Rep (List α) := ⟨fun as v F => ∃ p xs, v = .ref p ∧ F p = some (.tup xs) ∧ AllB R as xs F,
  fun e ⟨p, xs, h1, h2, h3⟩ => ⟨p, xs, h1, e _ _ h2, h3.mono e⟩⟩
def rT2 (R : Rep α) (R' : Rep β) : Rep (α × β) := ⟨fun t v F => ∃ p x y, v = .ref p ∧ F p = some (.tup [x, y]) ∧ R.rp t.1 x F ∧ R'.rp t.2 y F,
  fun e ⟨p, x, y, h1, h2, h3, h4⟩ => ⟨p, x, y, h1, e _ _ h2, R.mono e h3, R'.mono e h4⟩⟩
def rT3 (R : Rep α) (R' : Rep β) (R'' : Rep γ) : Rep (α × β × γ) := ⟨fun t v F => ∃ p x y z, v = .ref p ∧ F p = some (.tup [x, y, z]) ∧ R.rp t.1 x F ∧ R'.rp t.2.1 y F ∧ R''.rp t.2.2 z F,
  fun e ⟨p, x, y, z, h1, h2, h3, h4, h5⟩ => ⟨p, x, y, z, h1, e _ _ h2, R.mono e h3, R'.mono e h4, R''.mono e h5⟩⟩
/-- the script: a list of ints that is only read -/
def rScr (K : PySem.W.Frag) : Rep (List Int) := ⟨fun ns v F => ∃ p, v = .ref p ∧ SqL K F p (ns.map V.int) ∧ ns.length ≤ limL, fun e ⟨p, h1, h2, h3⟩ => ⟨p, h1, e.seq h2, h3⟩⟩
/-- None or another thing -/
def rO (R : Rep α) : Rep (Option α) := ⟨fun o v F => match o with | none => v = .non | some a => R.rp a v F ∧ v ≠ .non, fun {o} {_} {_} {_} e h => by
  cases o with
  | none => exact h
  | some a => exact ⟨R.mono e h.1, h.2⟩⟩
end

/-! ### what an expression evaluates to -/
structure Ar where
  p : V → Hp → Hp → Prop
  mono : ∀ {v F H F' H'}, Same F F' → Same H H' → p v F H → p v F' H'
def val {α : Type} (R : Rep α) (a : α) : Ar := ⟨fun v F _ => R.rp a v F, fun e _ h => R.mono e h⟩
/-- a list whose spine is read: frozen, owned or just made -/
def spn {α : Type} (R : Rep α) (as : List α) : Ar := ⟨fun v F H => ∃ p xs, v = .ref p ∧ H p = some (.lst xs) ∧ AllB R as xs F,
  fun e e' ⟨p, xs, h1, h2, h3⟩ => ⟨p, xs, h1, e' _ _ h2, h3.mono e⟩⟩

def Ev (te : TE) (σ : L2.St) (F : Hp) (O : Own) (A : Ar) : Prop := ∀ H, Ok F O H → ∀ Q : VK, (∀ v F' H', Gr F H F' H' → A.p v F' H' → Q v H') → te σ H Q
def EvT (tt : TT) (σ : L2.St) (F : Hp) (O : Own) (b : Bool) : Prop := ∀ H, Ok F O H → ∀ Q : Bool → Hp → Prop, (∀ F' H', Gr F H F' H' → Q b H') → tt σ H Q
/-- a new list -/
def EvN {α : Type} (te : TE) (σ : L2.St) (F : Hp) (O : Own) (R : Rep α) (as : List α) : Prop := ∀ H, Ok F O H → ∀ Q : VK,
  (∀ p xs F' H', Gr F H F' H' → H p = none → F' p = none → H' p = some (.lst xs) → AllB R as xs F' → Q (.ref p) H') → te σ H Q
def AllA : List Ar → List V → Hp → Hp → Prop
  | [], [], _, _ => True
  | A :: as, v :: vs, F, H => A.p v F H ∧ AllA as vs F H
  | _, _, _, _ => False
theorem AllA.mono {F H F' H' : Hp} (e : Same F F') (e' : Same H H') : ∀ {as : List Ar} {vs : List V}, AllA as vs F H → AllA as vs F' H'
  | [], [], _ => trivial
  | A :: _, _ :: _, h => ⟨A.mono e e' h.1, AllA.mono e e' h.2⟩
  | [], _ :: _, h => h.elim
  | _ :: _, [], h => h.elim
def EvA (ta : TA) (σ : L2.St) (F : Hp) (O : Own) (as : List Ar) : Prop := ∀ H, Ok F O H → ∀ Q : List V → Hp → Prop, (∀ vs F' H', Gr F H F' H' → AllA as vs F' H' → Q vs H') → ta σ H Q

/-- two heaps laid one over the other -/
def un (F G : Hp) : Hp := fun a => match F a with | some o => some o | none => G a
theorem un_l {F G : Hp} : Same F (un F G) := fun a o e => by unfold un; rw [e]
theorem un_r {F G H : Hp} (e : Same F H) (e' : Same G H) : Same G (un F G) := fun a o h => by
  unfold un
  cases q : F a with
  | none => exact h
  | some u =>
    have h1 := e a u q
    have h2 := e' a o h
    rw [h1] at h2
    exact h2
theorem un_h {F G H : Hp} (e : Same F H) (e' : Same G H) : Same (un F G) H := fun a o h => by
  unfold un at h
  cases q : F a with
  | none => rw [q] at h; exact e' a o h
  | some u => rw [q] at h; cases h; exact e a o q
/-- known at F, known at more -/
theorem gr_un {F F1 H F' H' : Hp} (e : Same F F1) (k : Same F1 H) (g : Gr F H F' H') : Gr F1 H (un F1 F') H' := by
  have k' : Same F1 H' := k.trans g.h
  refine ⟨un_l, g.h, un_h k' g.fh, fun a h1 h2 => ?_⟩
  unfold un
  rw [h1]
  exact g.nw a (e.free h1) h2
theorem Ok.less {F F1 : Hp} {O : Own} {H : Hp} (e : Same F F1) (k : Ok F1 O H) : Ok F O H := ⟨e.trans k.ex, fun q m => ⟨e.free (k.own q m).1, (k.own q m).2⟩⟩

section
variable {α β γ δ : Type} {R : Rep α} {R' : Rep β} {σ : L2.St} {F F1 : Hp} {O : Own} {ta tb tc te : TE} {A B C : Ar} {K : PySem.W.Frag}
theorem Ev.mono (h : Ev te σ F O A) (e : Same F F1) : Ev te σ F1 O A := fun H k Q q =>
  h H (k.less e) Q fun v F' H' g a => q v (un F1 F') H' (gr_un e k.ex g) (A.mono (un_r (k.ex.trans g.h) g.fh) (Same.refl _) a)
theorem EvN.mono {as : List α} (h : EvN te σ F O R as) (e : Same F F1) : EvN te σ F1 O R as := fun H k Q q =>
  h H (k.less e) Q fun p xs F' H' g n f x a => q p xs (un F1 F') H' (gr_un e k.ex g) n (by
    unfold un
    rw [k.ex.free n]
    exact f) x (a.mono (un_r (k.ex.trans g.h) g.fh))
theorem EvT.mono {tt : TT} {b : Bool} (h : EvT tt σ F O b) (e : Same F F1) : EvT tt σ F1 O b := fun H k Q q =>
  h H (k.less e) Q fun F' H' g => q (un F1 F') H' (gr_un e k.ex g)
theorem EvA.mono {ta : TA} {as : List Ar} (h : EvA ta σ F O as) (e : Same F F1) : EvA ta σ F1 O as := fun H k Q q =>
  h H (k.less e) Q fun v F' H' g a => q v (un F1 F') H' (gr_un e k.ex g) (a.mono (un_r (k.ex.trans g.h) g.fh) (Same.refl _))
/-- fewer owned lists are asked -/
theorem Ev.sub {O' : Own} (h : Ev te σ F O A) (s : ∀ q ∈ O, q ∈ O') : Ev te σ F O' A := fun H k Q q => h H ⟨k.ex, fun p m => k.own p (s p m)⟩ Q q

/-! ### names, constants -/
theorem ev_v {i : Nat} {v : V} {a : α} (h : σ[i]? = some (some v)) (r : R.rp a v F) : Ev (tVar i) σ F O (val R a) := fun H k _ q => ⟨v, h, q v F H (Gr.refl k.ex) r⟩
theorem ev_o {i : Nat} {p : Addr} {xs : List V} {as : List α} (h : σ[i]? = some (some (.ref p))) (m : (p, HO.lst xs) ∈ O) (r : AllB R as xs F) : Ev (tVar i) σ F O (spn R as) := fun H k _ q =>
  ⟨.ref p, h, q _ F H (Gr.refl k.ex) ⟨p, xs, rfl, (k.own _ m).2, r⟩⟩
theorem ev_c {v : V} {a : α} (r : ∀ F, R.rp a v F) : Ev (tC v) σ F O (val R a) := fun H k _ q => q v F H (Gr.refl k.ex) (r F)
theorem ev_i {i : Int} : Ev (tC (.int i)) σ F O (val rInt i) := ev_c fun _ => rfl
theorem ev_b {i : Bool} : Ev (tC (.bl i)) σ F O (val rB i) := ev_c fun _ => rfl
theorem ev_n : Ev (tC .non) σ F O (val rN ()) := ev_c fun _ => rfl
theorem ev_s {x : Str} {l : List Nat} (h : x = mk l) (k : okS l = true) : Ev (tC (.str x)) σ F O (val rS l) := ev_c fun _ => ⟨by rw [h], okS_iff.mp k⟩
theorem ev_ch {x : Str} {c : Nat} (h : x = mk [c]) (k : c < 128) : Ev (tC (.str x)) σ F O (val rC c) := ev_c fun _ => ⟨by rw [h], k⟩
theorem ev_cs {c : Nat} (h : Ev te σ F O (val rC c)) : Ev te σ F O (val rS [c]) := fun H k Q q => h H k Q fun v F' H' g a => q v F' H' g ⟨a.1, by
  refine ⟨by show 1 ≤ lim; decide, fun d m => ?_⟩
  rw [List.mem_singleton.mp m]
  exact a.2⟩
/-- other forms of the same -/
theorem ev_is {a b : α} (h : Ev te σ F O (val R a)) (e : a = b) : Ev te σ F O (val R b) := e ▸ h
theorem ev_spn {as : List α} (h : Ev te σ F O (val (rL R) as)) : Ev te σ F O (spn R as) := fun H k Q q =>
  h H k Q fun v F' H' g ⟨p, xs, h1, h2, h3⟩ => q v F' H' g ⟨p, xs, h1, g.fh _ _ h2, h3⟩
theorem ev_nspn {as : List α} (h : EvN te σ F O R as) : Ev te σ F O (spn R as) := fun H k Q q =>
  h H k Q fun p xs F' H' g _ _ h2 h3 => q _ F' H' g ⟨p, xs, rfl, h2, h3⟩
theorem ev_frz {as : List α} (h : EvN te σ F O R as) : Ev te σ F O (val (rL R) as) := fun H k Q q =>
  h H k Q fun p xs F' H' g n f h2 h3 => q _ (upd F' p (.lst xs)) H' ⟨g.f.trans (same_new f), g.h, fun a u e => by
    by_cases z : a = p
    · subst z; rw [upd_same] at e; cases e; exact h2
    · rw [upd_ne z] at e; exact g.fh a u e, fun a h1 h4 => by
    rw [upd_ne (fun z => h4 (by rw [z]; exact n))]
    exact g.nw a h1 h4⟩ ⟨p, xs, rfl, upd_same, h3.mono (same_new f)⟩

/-! ### operators -/
theorem two (ha : Ev ta σ F O A) (hb : Ev tb σ F O B) {H : Hp} (k : Ok F O H) {Q : V → V → Hp → Prop} (q : ∀ v w F' H', Gr F H F' H' → Same F' H' → A.p v F' H' → B.p w F' H' → Q v w H') : ta σ H fun x H1 => tb σ H1 fun y H2 => Q x y H2 :=
  ha H k _ fun v F1 H1 g1 a => (hb.mono g1.f) H1 (k.gr g1) _ fun w F2 H2 g2 b => q v w F2 H2 (g1.trans g2) g2.fh (A.mono g2.f g2.h a) b
def Op2 (r : R2) (A B C : Ar) : Prop := ∀ v w F H (Q : VK), Same F H → A.p v F H → B.p w F H → (∀ u F' H', Gr F H F' H' → C.p u F' H' → Q u H') → r v w H Q
def Op2N {α : Type} (r : R2) (A B : Ar) (R : Rep α) (as : List α) : Prop := ∀ v w F H (Q : VK), Same F H → A.p v F H → B.p w F H →
  (∀ p xs F' H', Gr F H F' H' → H p = none → F' p = none → H' p = some (.lst xs) → AllB R as xs F' → Q (.ref p) H') → r v w H Q
theorem ev_op {r : R2} (ha : Ev ta σ F O A) (hb : Ev tb σ F O B) (ho : Op2 r A B C) : Ev (tOp r ta tb) σ F O C := fun H k Q q =>
  two ha hb k fun v w F1 H1 g e a b => ho v w F1 H1 Q e a b fun u F2 H2 g2 c => q u F2 H2 (g.trans g2) c
theorem gr_none {F H F' H' : Hp} (g : Gr F H F' H') {p : Addr} (h : H' p = none) : H p = none := g.h.free h
theorem ev_opN {r : R2} {as : List α} (ha : Ev ta σ F O A) (hb : Ev tb σ F O B) (ho : Op2N r A B R as) : EvN (tOp r ta tb) σ F O R as := fun H k Q q =>
  two ha hb k fun v w F1 H1 g e a b => ho v w F1 H1 Q e a b fun p xs F2 H2 g2 n f x c => q p xs F2 H2 (g.trans g2) (gr_none g n) f x c
/-- where the answer is a scalar -/
theorem op_sc {r : R2} {c : γ} {Rc : Rep γ} {f : γ → V} (hf : Fl Rc f) (h : ∀ v w F H (Q : VK), Same F H → A.p v F H → B.p w F H → Q (f c) H → r v w H Q) : Op2 r A B (val Rc c) := fun v w F H Q e a b q =>
  h v w F H Q e a b (q _ F H (Gr.refl e) (hf.of c F))
theorem o_ii {g : Int → Int → V} {Rc : Rep γ} {f : γ → V} {c : Int → Int → γ} (hf : Fl Rc f) (e : ∀ i j, g i j = f (c i j)) {i j : Int} : Op2 (rI0 g) (val rInt i) (val rInt j) (val Rc (c i j)) :=
  op_sc hf fun _ _ _ _ Q _ a b q => ⟨i, j, a, b, by rw [e]; exact q⟩
theorem o_iic {P : Int → Int → Prop} {g : Int → Int → V} {Rc : Rep γ} {f : γ → V} {c : Int → Int → γ} (hf : Fl Rc f) (e : ∀ i j, g i j = f (c i j)) {i j : Int} (h : P i j) : Op2 (rI P g) (val rInt i) (val rInt j) (val Rc (c i j)) :=
  op_sc hf fun _ _ _ _ Q _ a b q => ⟨i, j, a, b, h, by rw [e]; exact q⟩
end
end Lm
/-! Lm: statements, loops, calls. -/
namespace Lm
open PySem PySem.Spec L2

/-- what a def began with: the frozen heap, all that must stand -/
structure Bs where
  F0 : Hp
  B : Hp
structure At (Z : Bs) (F : Hp) (O : Own) (H : Hp) : Prop where
  ok : Ok F O H
  b : Same Z.B H
  f0 : Same Z.F0 F
  sep : ∀ a, Z.F0 a = none → Z.B a ≠ none → F a = none
  ob : ∀ q ∈ O, Z.B q.1 = none
  nd : (O.map (·.1)).Nodup
section
variable {Z : Bs} {F H F' H' : Hp} {O : Own} {p : Addr} {o o' : HO}
theorem At.gr (k : At Z F O H) (g : Gr F H F' H') : At Z F' O H' :=
  ⟨k.ok.gr g, k.b.trans g.h, k.f0.trans g.f, fun a h1 h2 => g.nw a (k.sep a h1 h2) (by
    cases e : Z.B a with
    | none => exact absurd e h2
    | some u => rw [k.b a u e]; exact fun z => by cases z), k.ob, k.nd⟩
theorem At.new (k : At Z F O H) (g : Gr F H F' H') (hn : H p = none) (hf : F' p = none) (hx : H' p = some o) : At Z F' ((p, o) :: O) H' := by
  have k' := k.gr g
  refine ⟨⟨k'.ok.ex, fun q m => ?_⟩, k'.b, k'.f0, k'.sep, fun q m => ?_, ?_⟩
  · rcases List.mem_cons.mp m with e | m
    · subst e; exact ⟨hf, hx⟩
    · exact k'.ok.own q m
  · rcases List.mem_cons.mp m with e | m
    · subst e; exact k.b.free hn
    · exact k.ob q m
  · rw [List.map_cons, List.nodup_cons]
    refine ⟨fun m => ?_, k.nd⟩
    obtain ⟨q, m, e⟩ := List.mem_map.mp m
    have e2 := (k.ok.own q m).2
    rw [e, hn] at e2
    cases e2
theorem At.frz (k : At Z F ((p, o) :: O) H) : At Z (upd F p o) O H := by
  have hp := k.ok.own (p, o) (List.mem_cons_self ..)
  have nd := List.nodup_cons.mp (show ((p, o) :: O |>.map (·.1)).Nodup from k.nd)
  refine ⟨⟨fun a u e => ?_, fun q m => ?_⟩, k.b, k.f0.trans (same_new hp.1), fun a h1 h2 => ?_, fun q m => k.ob q (List.mem_cons_of_mem _ m), nd.2⟩
  · by_cases z : a = p
    · subst z; rw [upd_same] at e; cases e; exact hp.2
    · rw [upd_ne z] at e; exact k.ok.ex a u e
  · have h1 := k.ok.own q (List.mem_cons_of_mem _ m)
    refine ⟨?_, h1.2⟩
    rw [upd_ne (fun z => nd.1 (List.mem_map.mpr ⟨q, m, z⟩))]
    exact h1.1
  · rw [upd_ne (fun z => h2 (by rw [z]; exact k.ob (p, o) (List.mem_cons_self ..)))]
    exact k.sep a h1 h2
theorem At.drop (k : At Z F ((p, o) :: O) H) : At Z F O H :=
  ⟨⟨k.ok.ex, fun q m => k.ok.own q (List.mem_cons_of_mem _ m)⟩, k.b, k.f0, k.sep, fun q m => k.ob q (List.mem_cons_of_mem _ m), (List.nodup_cons.mp (show ((p, o) :: O |>.map (·.1)).Nodup from k.nd)).2⟩
theorem At.write {n : Nat} (k : At Z F O H) (h : O[n]? = some (p, o)) : At Z F (O.set n (p, o')) (upd H p o') := by
  have hp := k.ok.own (p, o) (List.mem_of_getElem? h)
  have em : (O.set n (p, o')).map (·.1) = O.map (·.1) := by
    rw [List.map_set]
    apply List.ext_getElem?
    intro i
    rw [List.getElem?_set]
    split
    · next e =>
      subst e
      rw [List.length_map]
      have hn := (List.getElem?_eq_some_iff.mp h).1
      rw [if_pos hn, List.getElem?_map, h]
      rfl
    · rfl
  refine ⟨⟨same_mut k.ok.ex hp.1, fun q m => ?_⟩, same_mut k.b (k.ob _ (List.mem_of_getElem? h)), k.f0, k.sep, fun q m => ?_, by rw [em]; exact k.nd⟩
  · obtain ⟨i, hi⟩ := List.getElem?_of_mem m
    rw [List.getElem?_set] at hi
    by_cases e : n = i
    · rw [if_pos e] at hi
      split at hi
      · cases hi
        exact ⟨hp.1, upd_same⟩
      · cases hi
    · rw [if_neg e] at hi
      have h1 := k.ok.own q (List.mem_of_getElem? hi)
      refine ⟨h1.1, ?_⟩
      rw [upd_ne]
      · exact h1.2
      · intro z
        have a1 : (O.map (·.1))[n]? = some p := by rw [List.getElem?_map, h]; rfl
        have a2 : (O.map (·.1))[i]? = some p := by rw [List.getElem?_map, hi, ← z]; rfl
        have l1 := (List.getElem?_eq_some_iff.mp a1)
        have l2 := (List.getElem?_eq_some_iff.mp a2)
        exact e ((List.getElem_inj k.nd).mp (l1.2.trans l2.2.symm))
  · obtain ⟨u, e⟩ : ∃ u, u ∈ O ∧ u.1 = q.1 := by
      have : q.1 ∈ (O.set n (p, o')).map (·.1) := List.mem_map.mpr ⟨q, m, rfl⟩
      rw [em] at this
      obtain ⟨u, a, b⟩ := List.mem_map.mp this
      exact ⟨u, a, b⟩
    rw [← e.2]
    exact k.ob u e.1
/-- at a def's entry -/
theorem At.start (e : Same F H) : At ⟨F, H⟩ F [] H := ⟨⟨e, fun _ m => (by cases m)⟩, Same.refl _, Same.refl _, fun _ h _ => h, fun _ m => (by cases m), List.nodup_nil⟩
/-- at its end -/
theorem At.done (k : At ⟨F, H⟩ F' O H') : Gr F H F' H' := ⟨k.f0, k.b, k.ok.ex, k.sep⟩
end

def Sx (Z : Bs) (ts : TS) (D : Ends) (σ : L2.St) (F : Hp) (O : Own) : Prop := ∀ H, At Z F O H → ts D σ H
def Nx (Z : Bs) (D : Ends) (σ : L2.St) (F : Hp) (O : Own) : Prop := ∀ H, At Z F O H → D.nx σ H
def Ct (Z : Bs) (D : Ends) (σ : L2.St) (F : Hp) (O : Own) : Prop := ∀ H, At Z F O H → D.ct σ H
def Bk (Z : Bs) (D : Ends) (σ : L2.St) (F : Hp) (O : Own) : Prop := ∀ H, At Z F O H → D.bk σ H
def Rt (Z : Bs) (D : Ends) (v : V) (F : Hp) (O : Own) : Prop := ∀ H, At Z F O H → D.rt v H

section
variable {α β γ : Type} {R : Rep α} {R' : Rep β} {Z : Bs} {D : Ends} {σ : L2.St} {F : Hp} {O : Own} {t u : TS} {te ta tb : TE} {tt : TT} {A B C : Ar} {K : PySem.W.Frag} {i : Nat} {p : Addr} {o : HO}
theorem sx_seq (h : Sx Z t { D with nx := u D } σ F O) : Sx Z (tSeq t u) D σ F O := h
theorem nx_of (h : Sx Z u D σ F O) : Nx Z { D with nx := u D } σ F O := h
theorem sx_next (h : Nx Z D σ F O) : Sx Z tNext D σ F O := h
theorem sx_brk (h : Bk Z D σ F O) : Sx Z tBreak D σ F O := h
theorem sx_cont (h : Ct Z D σ F O) : Sx Z tCont D σ F O := h
theorem sx_asg {a : α} (h : Ev te σ F O (val R a)) (k : ∀ v F', Same F F' → R.rp a v F' → Nx Z D (σ.set i (some v)) F' O) : Sx Z (tAsg te (gName i)) D σ F O := fun H at0 =>
  h H at0.ok _ fun v F' H' g r => k v F' g.f r H' (at0.gr g)
theorem sx_asgN {as : List α} (h : EvN te σ F O R as) (k : ∀ p xs F', Same F F' → AllB R as xs F' → Nx Z D (σ.set i (some (.ref p))) F' ((p, .lst xs) :: O)) : Sx Z (tAsg te (gName i)) D σ F O := fun H at0 =>
  h H at0.ok _ fun p xs F' H' g n f x r => k p xs F' g.f r H' (at0.new g n f x)
theorem sx_drop (h : Ev te σ F O A) (k : ∀ F', Same F F' → Nx Z D σ F' O) : Sx Z (tDrop te) D σ F O := fun H at0 =>
  h H at0.ok _ fun v F' H' g _ => k F' g.f H' (at0.gr g)
theorem sx_ret {a : α} (h : Ev te σ F O (val R a)) (k : ∀ v F', Same F F' → R.rp a v F' → Rt Z D v F' O) : Sx Z (tRet te) D σ F O := fun H at0 =>
  h H at0.ok _ fun v F' H' g r => k v F' g.f r H' (at0.gr g)
theorem sx_retN {as : List α} (h : EvN te σ F O R as) (k : ∀ p xs F', Same F F' → AllB R as xs F' → Rt Z D (.ref p) F' ((p, .lst xs) :: O)) : Sx Z (tRet te) D σ F O := fun H at0 =>
  h H at0.ok _ fun p xs F' H' g n f x r => k p xs F' g.f r H' (at0.new g n f x)
/-- return of an owned list's name -/
theorem sx_retO {j : Nat} {v : V} (h : σ[j]? = some (some v)) (k : Rt Z D v F O) : Sx Z (tRet (tVar j)) D σ F O := fun H at0 => ⟨v, h, k H at0⟩
theorem sx_retn (k : Rt Z D .non F O) : Sx Z tRetN D σ F O := fun H at0 => k H at0
theorem sx_if {b : Bool} (h : EvT tt σ F O b) (h1 : b = true → ∀ F', Same F F' → Sx Z t D σ F' O) (h2 : b = false → ∀ F', Same F F' → Sx Z u D σ F' O) : Sx Z (tIfS tt t u) D σ F O := fun H at0 =>
  h H at0.ok _ fun F' H' g => by
    cases b with
    | true =>
      show t D σ H'
      exact h1 rfl F' g.f H' (at0.gr g)
    | false =>
      show u D σ H'
      exact h2 rfl F' g.f H' (at0.gr g)
/-- an owned list is frozen, forgotten -/
theorem sx_frz (h : Sx Z t D σ (upd F p o) O) : Sx Z t D σ F ((p, o) :: O) := fun H at0 => h H at0.frz
theorem nx_frz (h : Nx Z D σ (upd F p o) O) : Nx Z D σ F ((p, o) :: O) := fun H at0 => h H at0.frz
theorem sx_forget (h : Sx Z t D σ F O) : Sx Z t D σ F ((p, o) :: O) := fun H at0 => h H at0.drop
/-- a frozen owned list as a value -/
theorem rp_frz {as : List α} {xs : List V} (hf : F p = none) (h : AllB R as xs F) : (rL R).rp as (.ref p) (upd F p (.lst xs)) := ⟨p, xs, rfl, upd_same, h.mono (same_new hf)⟩
theorem sx_own (h : (∀ q ∈ O, F q.1 = none) → Sx Z t D σ F O) : Sx Z t D σ F O := fun H at0 => h (fun q m => (at0.ok.own q m).1) H at0
/-- xs.append(e) -/
theorem sx_app {n : Nat} {xs : List V} {as : List α} {a : α} {j : Nat} (hj : σ[j]? = some (some (.ref p))) (hO : O[n]? = some (p, .lst xs)) (hx : AllB R as xs F) (h : Ev te σ F O (val R a)) (hz : (as ++ [a]).length ≤ limL)
    (k : ∀ v F', Same F F' → AllB R (as ++ [a]) (xs ++ [v]) F' → Nx Z D σ F' (O.set n (p, .lst (xs ++ [v])))) : Sx Z (tDrop (tBM K "list" rAppend (tVar j) (tCons te tNil))) D σ F O := fun H at0 => by
  have hp := at0.ok.own (p, .lst xs) (List.mem_of_getElem? hO)
  refine ⟨.ref p, hj, Or.inl ⟨rfl, xs, Or.inl (Or.inl hp.2)⟩, h H at0.ok _ fun v F' H' g r => ?_⟩
  refine ⟨p, xs, v, rfl, rfl, g.h _ _ hp.2, sz_lt hx.sz, k v F' g.f ⟨All2.app (hx.all.mono g.f) (All2.one r), hz⟩ _ (At.write (at0.gr g) hO)⟩
/-- xs[i] = e -/
theorem sx_setL {n m : Nat} {xs : List V} {as : List α} {a : α} {j : Nat} {z : Int} (hj : σ[j]? = some (some (.ref p))) (hO : O[n]? = some (p, .lst xs)) (hx : AllB R as xs F) (h : Ev te σ F O (val R a)) (hi : Ev tb σ F O (val rInt z))
    (hm : ixN as.length z = some m) (k : ∀ v F', Same F F' → AllB R (as.set m a) (xs.set m v) F' → Nx Z D σ F' (O.set n (p, .lst (xs.set m v)))) : Sx Z (tAsg te (gSub (tVar j) tb rSetL)) D σ F O := fun H at0 => by
  have hp := at0.ok.own (p, .lst xs) (List.mem_of_getElem? hO)
  refine h H at0.ok _ fun v F1 H1 g1 r => ⟨.ref p, hj, (hi.mono g1.f) H1 (at0.ok.gr g1) _ fun w F2 H2 g2 e => ?_⟩
  have g := g1.trans g2
  have e' : w = .int z := e
  subst e'
  refine ⟨p, xs, z, m, rfl, rfl, g.h _ _ hp.2, by rw [← hx.all.len]; exact hm, k v F2 g.f ⟨All2.set (R.mono g2.f r) m (hx.all.mono g.f), by rw [List.length_set]; exact hx.len⟩ _ (At.write (at0.gr g) hO)⟩

/-! ### loops -/
inductive Fw (ρ S : Type) where
  | nx (s : S) | rt (r : ρ) | bk (s : S)
def loop {α ρ S : Type} (f : S → α → Option (Fw ρ S)) : List α → S → Option (Fw ρ S)
  | [], s => some (.nx s)
  | a :: as, s => match f s a with
    | some (.nx s') => loop f as s'
    | some (.rt r) => some (.rt r)
    | some (.bk s') => some (.nx s')
    | none => none
/-- what a turn may end with -/
structure Acc {ρ S : Type} (Z : Bs) (D : Ends) (J : S → L2.St → Hp → Own → Prop) (Ro : ρ → V → Hp → Own → Prop) (F : Hp) (o : Fw ρ S) : Prop where
  nx : ∀ s, o = .nx s → ∀ σ F' O', Same F F' → J s σ F' O' → Nx Z D σ F' O' ∧ Ct Z D σ F' O'
  bk : ∀ s, o = .bk s → ∀ σ F' O', Same F F' → J s σ F' O' → Bk Z D σ F' O'
  rt : ∀ r, o = .rt r → ∀ v F' O', Same F F' → Ro r v F' O' → Rt Z D v F' O'
/-- what a loop may end with -/
structure AccL {ρ S : Type} (Z : Bs) (D : Ends) (J : S → L2.St → Hp → Own → Prop) (Ro : ρ → V → Hp → Own → Prop) (F : Hp) (o : Fw ρ S) : Prop where
  nx : ∀ s, o = .nx s → ∀ σ F' O', Same F F' → J s σ F' O' → Nx Z D σ F' O'
  rt : ∀ r, o = .rt r → ∀ v F' O', Same F F' → Ro r v F' O' → Rt Z D v F' O'
section
variable {ρ S : Type} {f : S → α → Option (Fw ρ S)} {s0 : S} {out : Fw ρ S} {J : S → L2.St → Hp → Own → Prop} {Ro : ρ → V → Hp → Own → Prop} {g : TG} {body : TS}
/-- the word of a loop: what is left to do -/
def Lw (Z : Bs) (f : S → α → Option (Fw ρ S)) (J : S → L2.St → Hp → Own → Prop) (out : Fw ρ S) (as : List α) (F : Hp) (i : Nat) (σ : L2.St) (H : Hp) : Prop :=
  ∃ s F' O', Same F F' ∧ J s σ F' O' ∧ At Z F' O' H ∧ loop f (as.drop i) s = some out
theorem lw_turn {as : List α} {a : α} (acc : AccL Z D J Ro F out) {k : Nat} (ha : as[k]? = some a) {σ' : L2.St} {H' : Hp} (w : Lw Z f J out as F k σ' H') {P : Prop}
    (h : ∀ s F' O' o, Same F F' → J s σ' F' O' → At Z F' O' H' → f s a = some o → Acc Z { D with nx := Lw Z f J out as F (k + 1), ct := Lw Z f J out as F (k + 1), bk := D.nx } J Ro F' o → P) : P := by
  obtain ⟨s, F', O', e, j, at0, hl⟩ := w
  have hk := (List.getElem?_eq_some_iff.mp ha)
  have ed : as.drop k = a :: as.drop (k + 1) := by
    rw [List.drop_eq_getElem_cons hk.1, hk.2]
  rw [ed] at hl
  cases hf : f s a with
  | none =>
    simp only [loop, hf] at hl
    cases hl
  | some o =>
    refine h s F' O' o e j at0 hf ⟨fun s' eo σ2 F2 O2 e2 j2 => ?_, fun s' eo σ2 F2 O2 e2 j2 H2 at2 => ?_, fun r eo v F2 O2 e2 r2 H2 at2 => ?_⟩
    · subst eo
      have hl' : loop f (as.drop (k + 1)) s' = some out := by
        simp only [loop, hf] at hl
        exact hl
      exact ⟨fun H2 at2 => ⟨s', F2, O2, e.trans e2, j2, at2, hl'⟩, fun H2 at2 => ⟨s', F2, O2, e.trans e2, j2, at2, hl'⟩⟩
    · subst eo
      have hl' : Fw.nx s' = out := by
        simp only [loop, hf] at hl
        exact Option.some.inj hl
      exact acc.nx s' hl'.symm σ2 F2 O2 (e.trans e2) j2 H2 at2
    · subst eo
      have hl' : Fw.rt r = out := by
        simp only [loop, hf] at hl
        exact Option.some.inj hl
      exact acc.rt r hl'.symm v F2 O2 (e.trans e2) r2 H2 at2
theorem lw_end {as : List α} {n : Nat} (hn : n = as.length) (acc : AccL Z D J Ro F out) {σ' : L2.St} {H' : Hp} (w : Lw Z f J out as F n σ' H') : D.nx σ' H' := by
  obtain ⟨s, F', O', e, j, at0, hl⟩ := w
  rw [hn, List.drop_length] at hl
  exact acc.nx s (Option.some.inj hl).symm σ' F' O' e j H' at0
end
end
end Lm
/-! Lm: operators, built-ins, lists, calls. -/
namespace Lm
open PySem PySem.Spec L2

/-! ### operators by names -/
def xAdd : R2 := rI0 fun i j => .int (i + j)
def xSub : R2 := rI0 fun i j => .int (i - j)
/-- * of numbers of together less than four million bits -/
def MulC (i j : Int) : Prop := i.natAbs.log2 + j.natAbs.log2 < 4000000
theorem MulC.ok {i j : Int} (h : MulC i j) : IntMulOk i j := by
  have b : ∀ x : Int, Builtin.Int.intBits x ≤ x.natAbs.log2 + 1 := fun x => by
    unfold Builtin.Int.intBits
    split <;> omega
  have h1 := b i
  have h2 := b j
  have h3 : i.natAbs.log2 + j.natAbs.log2 < 4000000 := h
  have e : bitsLine = 134217728 := by decide
  unfold IntMulOk
  intro z
  rw [Bool.and_eq_true] at z
  have z2 := z.2
  unfold Builtin.Int.intTooBig at z2
  have z3 := of_decide_eq_true z2
  rw [e] at z3
  omega
def xMul : R2 := rI MulC fun i j => .int (i * j)
def xDiv : R2 := rI CDiv fun i j => .int (i / j)
def xMod : R2 := rI (fun _ j => 0 < j) fun i j => .int (i % j)
def xLt : R2 := rI0 fun i j => .bl (decide (i < j))
def xLe : R2 := rI0 fun i j => .bl (decide (i ≤ j))
def xGt : R2 := rI0 fun i j => .bl (decide (j < i))
def xGe : R2 := rI0 fun i j => .bl (decide (j ≤ i))
def xIsN : R2 := fun x y H Q => y = .non ∧ Q (.bl (decide (x = .non))) H
def xNotN : R2 := fun x y H Q => y = .non ∧ Q (.bl (!decide (x = .non))) H
section
variable {X : Cx}
theorem op_xAdd : OpR X (binaryOp .Add) xAdd := op_add
theorem op_xSub : OpR X (binaryOp .Sub) xSub := op_sub
theorem op_xMul : OpR X (binaryOp .Mult) xMul := opI fun _ _ _ _ _ _ _ hc q => PyProof.Rows.mul_int q hc.ok
theorem op_xDiv : OpR X (binaryOp .FloorDiv) xDiv := op_fdiv
theorem op_xMod : OpR X (binaryOp .Mod) xMod := op_mod
theorem op_xLt : OpR X (compareOp .Lt) xLt := op_lt
theorem op_xLe : OpR X (compareOp .LtE) xLe := op_le
theorem op_xGt : OpR X (compareOp .Gt) xGt := op_gt
theorem op_xGe : OpR X (compareOp .GtE) xGe := op_ge
theorem op_xIsN : OpR X (compareOp .Is) xIsN := op_isN
theorem op_xNotN : OpR X (compareOp .IsNot) xNotN := op_notN
end
section
variable {α β γ : Type} {R : Rep α} {R' : Rep β} {σ : L2.St} {F F1 : Hp} {O : Own} {ta tb tc te : TE} {tt tu : TT} {A B C : Ar} {K : PySem.W.Frag} {i j : Int}
theorem o_add : Op2 xAdd (val rInt i) (val rInt j) (val rInt (i + j)) := o_ii (c := fun i j => i + j) flI fun _ _ => rfl
theorem o_sub : Op2 xSub (val rInt i) (val rInt j) (val rInt (i - j)) := o_ii (c := fun i j => i - j) flI fun _ _ => rfl
theorem o_mul (h : MulC i j) : Op2 xMul (val rInt i) (val rInt j) (val rInt (i * j)) := o_iic (c := fun i j => i * j) flI (fun _ _ => rfl) h
theorem o_div (h : CDiv i j) : Op2 xDiv (val rInt i) (val rInt j) (val rInt (i / j)) := o_iic (c := fun i j => i / j) flI (fun _ _ => rfl) h
theorem o_mod (h : 0 < j) : Op2 xMod (val rInt i) (val rInt j) (val rInt (i % j)) := o_iic (c := fun i j => i % j) flI (fun _ _ => rfl) h
theorem o_lt : Op2 xLt (val rInt i) (val rInt j) (val rB (decide (i < j))) := o_ii (c := fun i j => decide (i < j)) flB fun _ _ => rfl
theorem o_le : Op2 xLe (val rInt i) (val rInt j) (val rB (decide (i ≤ j))) := o_ii (c := fun i j => decide (i ≤ j)) flB fun _ _ => rfl
theorem o_gt : Op2 xGt (val rInt i) (val rInt j) (val rB (decide (j < i))) := o_ii (c := fun i j => decide (j < i)) flB fun _ _ => rfl
theorem o_ge : Op2 xGe (val rInt i) (val rInt j) (val rB (decide (j ≤ i))) := o_ii (c := fun i j => decide (j ≤ i)) flB fun _ _ => rfl
theorem vint_dec (i j : Int) : decide (V.int i = V.int j) = decide (i = j) := by
  by_cases e : i = j
  · subst e; simp
  · rw [decide_eq_false e, decide_eq_false (fun h => e (V.int.inj h))]
theorem vbl_dec (i j : Bool) : decide (V.bl i = V.bl j) = decide (i = j) := by
  by_cases e : i = j
  · subst e; simp
  · rw [decide_eq_false e, decide_eq_false (fun h => e (V.bl.inj h))]
theorem mk_inj {l m : List Nat} (h : mk l = mk m) : l = m := by
  have := congrArg (fun s : Str => s.cps.toList) h
  simpa using this
theorem vstr_dec (l m : List Nat) : decide (V.str (mk l) = V.str (mk m)) = decide (l = m) := by
  by_cases e : l = m
  · subst e; simp
  · rw [decide_eq_false e, decide_eq_false (fun h => e (mk_inj (V.str.inj h)))]
theorem o_eqI : Op2 rEq (val rInt i) (val rInt j) (val rB (decide (i = j))) := op_sc flB fun v w _ _ Q _ a b q => by
  have a' : v = .int i := a
  have b' : w = .int j := b
  subst a' b'
  exact ⟨rfl, by rw [vint_dec]; exact q⟩
theorem o_neI : Op2 rNe (val rInt i) (val rInt j) (val rB (!decide (i = j))) := op_sc flB fun v w _ _ Q _ a b q => by
  have a' : v = .int i := a
  have b' : w = .int j := b
  subst a' b'
  exact ⟨rfl, by rw [vint_dec]; exact q⟩
theorem o_eqB {i j : Bool} : Op2 rEq (val rB i) (val rB j) (val rB (decide (i = j))) := op_sc flB fun v w _ _ Q _ a b q => by
  have a' : v = .bl i := a
  have b' : w = .bl j := b
  subst a' b'
  exact ⟨rfl, by rw [vbl_dec]; exact q⟩
theorem o_eqS {l m : List Nat} : Op2 rEq (val rS l) (val rS m) (val rB (decide (l = m))) := op_sc flB fun v w _ _ Q _ a b q => by
  rw [a.1, b.1]
  exact ⟨rfl, by rw [vstr_dec]; exact q⟩
theorem o_neS {l m : List Nat} : Op2 rNe (val rS l) (val rS m) (val rB (!decide (l = m))) := op_sc flB fun v w _ _ Q _ a b q => by
  rw [a.1, b.1]
  exact ⟨rfl, by rw [vstr_dec]; exact q⟩
theorem one_dec (c d : Nat) : decide (([c] : List Nat) = [d]) = decide (c = d) := by
  by_cases e : c = d
  · subst e; simp
  · rw [decide_eq_false e, decide_eq_false (fun h => e (List.cons.inj h).1)]
theorem o_eqC {c d : Nat} : Op2 rEq (val rC c) (val rC d) (val rB (decide (c = d))) := op_sc flB fun v w _ _ Q _ a b q => by
  rw [a.1, b.1]
  exact ⟨rfl, by rw [vstr_dec, one_dec]; exact q⟩
theorem o_neC {c d : Nat} : Op2 rNe (val rC c) (val rC d) (val rB (!decide (c = d))) := op_sc flB fun v w _ _ Q _ a b q => by
  rw [a.1, b.1]
  exact ⟨rfl, by rw [vstr_dec, one_dec]; exact q⟩
theorem o_isN {o : Option α} : Op2 xIsN (val (rO R) o) (val rN ()) (val rB o.isNone) := op_sc flB fun v w _ _ Q _ a b q => by
  refine ⟨b, ?_⟩
  cases o with
  | none =>
    have e : v = .non := a
    rw [decide_eq_true e]
    exact q
  | some x => rw [decide_eq_false a.2]; exact q
theorem o_notN {o : Option α} : Op2 xNotN (val (rO R) o) (val rN ()) (val rB o.isSome) := op_sc flB fun v w _ _ Q _ a b q => by
  refine ⟨b, ?_⟩
  cases o with
  | none =>
    have e : v = .non := a
    rw [decide_eq_true e]
    exact q
  | some x => rw [decide_eq_false a.2]; exact q

/-! ### tests -/
theorem et_b {b : Bool} (h : Ev te σ F O (val rB b)) : EvT (tTest te) σ F O b := fun H k Q q => h H k _ fun v F' H' g e => ⟨b, e, q F' H' g⟩
theorem et_B {b : Bool} (h : Ev te σ F O (val rB b)) : EvT (tB te) σ F O b := fun H k Q q => h H k _ fun v F' H' g e => ⟨b, e, q F' H' g⟩
theorem et_not {b : Bool} (h : EvT tt σ F O b) : EvT (tNot tt) σ F O (!b) := fun H k Q q => h H k _ fun F' H' g => q F' H' g
theorem Ok.at {F H F' H' : Hp} {O : Own} (k : Ok F O H) (g : Gr F H F' H') : Ok F' O H' := k.gr g
theorem et_and {a b : Bool} (h1 : EvT tt σ F O a) (h2 : a = true → EvT tu σ F O b) (h3 : a = false → b = false) : EvT (tAnd tt tu) σ F O b := fun H k Q q => h1 H k _ fun F' H' g => by
  cases a with
  | true =>
    show tu σ H' Q
    exact (h2 rfl).mono g.f H' (k.gr g) Q fun F2 H2 g2 => q F2 H2 (g.trans g2)
  | false =>
    show Q false H'
    rw [← h3 rfl]
    exact q F' H' g
theorem et_or {a b : Bool} (h1 : EvT tt σ F O a) (h2 : a = false → EvT tu σ F O b) (h3 : a = true → b = true) : EvT (tOr tt tu) σ F O b := fun H k Q q => h1 H k _ fun F' H' g => by
  cases a with
  | false =>
    show tu σ H' Q
    exact (h2 rfl).mono g.f H' (k.gr g) Q fun F2 H2 g2 => q F2 H2 (g.trans g2)
  | true =>
    show Q true H'
    rw [← h3 rfl]
    exact q F' H' g
theorem ev_and {a b : Bool} (h1 : Ev ta σ F O (val rB a)) (h2 : a = true → Ev tb σ F O (val rB b)) (h3 : a = false → b = false) : Ev (tAndV ta tb) σ F O (val rB b) := fun H k Q q => h1 H k _ fun v F' H' g e => ⟨a, e, by
  cases a with
  | true =>
    show tb σ H' Q
    exact (h2 rfl).mono g.f H' (k.gr g) Q fun v F2 H2 g2 => q v F2 H2 (g.trans g2)
  | false =>
    show Q (.bl false) H'
    exact q _ F' H' g (by rw [h3 rfl]; rfl)⟩
theorem ev_or {a b : Bool} (h1 : Ev ta σ F O (val rB a)) (h2 : a = false → Ev tb σ F O (val rB b)) (h3 : a = true → b = true) : Ev (tOrV ta tb) σ F O (val rB b) := fun H k Q q => h1 H k _ fun v F' H' g e => ⟨a, e, by
  cases a with
  | false =>
    show tb σ H' Q
    exact (h2 rfl).mono g.f H' (k.gr g) Q fun v F2 H2 g2 => q v F2 H2 (g.trans g2)
  | true =>
    show Q (.bl true) H'
    exact q _ F' H' g (by rw [h3 rfl]; rfl)⟩
theorem ev_not {b : Bool} (h : Ev te σ F O (val rB b)) : Ev (tNotV te) σ F O (val rB (!b)) := fun H k Q q => h H k _ fun v F' H' g e => ⟨b, e, q _ F' H' g rfl⟩
theorem ev_if {b : Bool} (h : EvT tt σ F O b) (h1 : b = true → Ev ta σ F O A) (h2 : b = false → Ev tb σ F O A) : Ev (tIf tt ta tb) σ F O A := fun H k Q q => h H k _ fun F' H' g => by
  cases b with
  | true =>
    show ta σ H' Q
    exact (h1 rfl).mono g.f H' (k.gr g) Q fun v F2 H2 g2 => q v F2 H2 (g.trans g2)
  | false =>
    show tb σ H' Q
    exact (h2 rfl).mono g.f H' (k.gr g) Q fun v F2 H2 g2 => q v F2 H2 (g.trans g2)
/-- a < b < c -/
theorem ev_chain {r r' : R2} {b1 b2 : Bool} (ha : Ev ta σ F O A) (hb : Ev tb σ F O B) (ho : Op2 r A B (val rB b1)) (hc : b1 = true → Ev tc σ F O C) (ho2 : b1 = true → Op2 r' B C (val rB b2)) (h3 : b1 = false → b2 = false) : Ev (tChain r r' ta tb tc) σ F O (val rB b2) := fun H k Q q =>
  two ha hb k fun v w F1 H1 g e a b => ho v w F1 H1 _ e a b fun u F2 H2 g2 c => ⟨b1, c, by
    cases b1 with
    | true =>
      show tc σ H2 _
      exact (hc rfl).mono (g.trans g2).f H2 (k.gr (g.trans g2)) _ fun z F3 H3 g3 cz => ho2 rfl w z F3 H3 Q g3.fh (B.mono (g2.trans g3).f (g2.trans g3).h b) cz fun x F4 H4 g4 cx => q x F4 H4 ((g.trans g2).trans (g3.trans g4)) cx
    | false =>
      show Q (.bl false) H2
      exact q _ F2 H2 (g.trans g2) (by rw [h3 rfl]; rfl)⟩

/-! ### arguments, built-ins, calls -/
theorem ea_nil : EvA tNil σ F O [] := fun H k Q q => q [] F H (Gr.refl k.ex) trivial
theorem ea_cons {tr : TA} {as : List Ar} (h : Ev te σ F O A) (hr : EvA tr σ F O as) : EvA (tCons te tr) σ F O (A :: as) := fun H k Q q =>
  h H k _ fun v F1 H1 g1 a => hr.mono g1.f H1 (k.gr g1) _ fun vs F2 H2 g2 b => q (v :: vs) F2 H2 (g1.trans g2) ⟨A.mono g2.f g2.h a, b⟩
def Cb (r : List V → Hp → VK → Prop) (as : List Ar) (C : Ar) : Prop := ∀ vs F H (Q : VK), Same F H → AllA as vs F H → (∀ u F' H', Gr F H F' H' → C.p u F' H' → Q u H') → r vs H Q
def CbN {α : Type} (r : List V → Hp → VK → Prop) (as : List Ar) (R : Rep α) (bs : List α) : Prop := ∀ vs F H (Q : VK), Same F H → AllA as vs F H →
  (∀ p xs F' H', Gr F H F' H' → H p = none → F' p = none → H' p = some (.lst xs) → AllB R bs xs F' → Q (.ref p) H') → r vs H Q
theorem ev_cb {r : List V → Hp → VK → Prop} {ta : TA} {as : List Ar} (h : EvA ta σ F O as) (hr : Cb r as C) : Ev (tCB r ta) σ F O C := fun H k Q q =>
  h H k _ fun vs F1 H1 g1 a => hr vs F1 H1 Q g1.fh a fun u F2 H2 g2 c => q u F2 H2 (g1.trans g2) c
theorem ev_cbN {r : List V → Hp → VK → Prop} {ta : TA} {as : List Ar} {bs : List α} (h : EvA ta σ F O as) (hr : CbN r as R bs) : EvN (tCB r ta) σ F O R bs := fun H k Q q =>
  h H k _ fun vs F1 H1 g1 a => hr vs F1 H1 Q g1.fh a fun p xs F2 H2 g2 n f x c => q p xs F2 H2 (g1.trans g2) (gr_none g1 n) f x c
theorem cb_sc {r : List V → Hp → VK → Prop} {as : List Ar} {c : γ} {Rc : Rep γ} {f : γ → V} (hf : Fl Rc f) (h : ∀ vs F H (Q : VK), Same F H → AllA as vs F H → Q (f c) H → r vs H Q) : Cb r as (val Rc c) := fun vs F H Q e a q =>
  h vs F H Q e a (q _ F H (Gr.refl e) (hf.of c F))
/-- what one, two arguments are -/
theorem alla1 {F H : Hp} {vs : List V} {A : Ar} (h : AllA [A] vs F H) : ∃ v, vs = [v] ∧ A.p v F H := by
  match vs, h with
  | [v], h => exact ⟨v, rfl, h.1⟩
theorem alla2 {F H : Hp} {vs : List V} {A B : Ar} (h : AllA [A, B] vs F H) : ∃ v w, vs = [v, w] ∧ A.p v F H ∧ B.p w F H := by
  match vs, h with
  | [v, w], h => exact ⟨v, w, rfl, h.1, h.2.1⟩
theorem alla3 {F H : Hp} {vs : List V} {A B C : Ar} (h : AllA [A, B, C] vs F H) : ∃ v w x, vs = [v, w, x] ∧ A.p v F H ∧ B.p w F H ∧ C.p x F H := by
  match vs, h with
  | [v, w, x], h => exact ⟨v, w, x, rfl, h.1, h.2.1, h.2.2.1⟩
theorem sq_of {H : Hp} {p : Addr} {xs : List V} (h : H p = some (.lst xs)) : SqL K H p xs := Or.inl (Or.inl h)
theorem st_of {H : Hp} {p : Addr} {xs : List V} (h : H p = some (.tup xs)) : SqT K H p xs := Or.inl (Or.inl h)

def cLen (K : PySem.W.Frag) : List V → Hp → VK → Prop := fun xs H Q => ∃ x n, xs = [x] ∧ LenV K x H n ∧ Q (.int n) H
theorem call_cLen {X : Cx} : CallR X (.builtin "len") (cLen X.K) := call_len
theorem mk_len (l : List Nat) : (mk l).length = l.length := by
  show l.toArray.size = l.length
  simp
theorem b_lenS {l : List Nat} : Cb (cLen K) [val rS l] (val rInt (l.length : Int)) := cb_sc flI fun vs F H Q e a q => by
  obtain ⟨v, rfl, a2⟩ := alla1 a
  have a3 : v = .str (mk l) ∧ OkS l := a2
  refine ⟨v, l.length, rfl, ?_, q⟩
  rw [a3.1]
  exact ⟨by rw [mk_len]; exact sz_line (sz_lim a3.2.1), (mk_len l).symm⟩
theorem b_lenL {as : List α} : Cb (cLen K) [spn R as] (val rInt (as.length : Int)) := cb_sc flI fun vs F H Q e a q => by
  obtain ⟨v, rfl, p, xs, rfl, h, hx⟩ := alla1 a
  exact ⟨_, as.length, rfl, Or.inl ⟨xs, sq_of h, hx.all.len⟩, q⟩
theorem b_lenT {as : List α} : Cb (cLen K) [val (rTL R) as] (val rInt (as.length : Int)) := cb_sc flI fun vs F H Q e a q => by
  obtain ⟨v, rfl, p, xs, rfl, h, hx⟩ := alla1 a
  exact ⟨_, as.length, rfl, Or.inr ⟨xs, st_of (e _ _ h), hx.all.len⟩, q⟩
theorem b_lenK {ns : List Int} : Cb (cLen K) [val (rScr K) ns] (val rInt (ns.length : Int)) := cb_sc flI fun vs F H Q e a q => by
  obtain ⟨v, rfl, p, rfl, h, hz⟩ := alla1 a
  exact ⟨_, ns.length, rfl, Or.inl ⟨_, e.seq h, by rw [List.length_map]⟩, q⟩
/-- an int list's sum, greatest -/
theorem b_sum {ns : List Int} : Cb (rSum K) [spn rInt ns] (val rInt ns.sum) := cb_sc flI fun vs F H Q e a q => by
  obtain ⟨v, rfl, p, xs, rfl, h, hx⟩ := alla1 a
  refine ⟨p, ns, rfl, ?_, q⟩
  rw [← hx.all.map flI]
  exact sq_of h
theorem b_max {ns : List Int} {m : Int} (hm : m ∈ ns) (hle : ∀ y ∈ ns, y ≤ m) : Cb (rMax K) [spn rInt ns] (val rInt m) := cb_sc flI fun vs F H Q e a q => by
  obtain ⟨v, rfl, p, xs, rfl, h, hx⟩ := alla1 a
  refine ⟨p, ns, rfl, ?_, List.length_pos_of_mem hm, fun m' h1 h2 => ?_⟩
  · rw [← hx.all.map flI]
    exact sq_of h
  · rw [Int.le_antisymm (hle _ h1) (h2 _ hm)]
    exact q
theorem b_min {ns : List Int} {m : Int} (hm : m ∈ ns) (hle : ∀ y ∈ ns, m ≤ y) : Cb (rMin K) [spn rInt ns] (val rInt m) := cb_sc flI fun vs F H Q e a q => by
  obtain ⟨v, rfl, p, xs, rfl, h, hx⟩ := alla1 a
  refine ⟨p, ns, rfl, ?_, List.length_pos_of_mem hm, fun m' h1 h2 => ?_⟩
  · rw [← hx.all.map flI]
    exact sq_of h
  · rw [Int.le_antisymm (h2 _ hm) (hle _ h1)]
    exact q
theorem b_all {bs : List Bool} : Cb (rAll K) [spn rB bs] (val rB (bs.all id)) := cb_sc flB fun vs F H Q e a q => by
  obtain ⟨v, rfl, p, xs, rfl, h, hx⟩ := alla1 a
  refine ⟨p, bs, rfl, ?_, q⟩
  rw [← hx.all.map flB]
  exact sq_of h
theorem b_any {bs : List Bool} : Cb (rAny K) [spn rB bs] (val rB (bs.any id)) := cb_sc flB fun vs F H Q e a q => by
  obtain ⟨v, rfl, p, xs, rfl, h, hx⟩ := alla1 a
  refine ⟨p, bs, rfl, ?_, q⟩
  rw [← hx.all.map flB]
  exact sq_of h
def cMax2 : List V → Hp → VK → Prop := fun xs H Q => ∃ i j, xs = [.int i, .int j] ∧ Q (.int (if j > i then j else i)) H
def cMin2 : List V → Hp → VK → Prop := fun xs H Q => ∃ i j, xs = [.int i, .int j] ∧ Q (.int (if j < i then j else i)) H
theorem call_cMax2 {X : Cx} (hc : X.calm = true) : CallR X (.builtin "max") cMax2 := call_max2 hc
theorem call_cMin2 {X : Cx} (hc : X.calm = true) : CallR X (.builtin "min") cMin2 := call_min2 hc
theorem b_max2 : Cb cMax2 [val rInt i, val rInt j] (val rInt (max i j)) := cb_sc flI fun vs F H Q e a q => by
  obtain ⟨v, w, rfl, a, b⟩ := alla2 a
  have a' : v = .int i := a
  have b' : w = .int j := b
  subst a' b'
  refine ⟨i, j, rfl, ?_⟩
  have e : (if j > i then j else i) = max i j := by
    by_cases h : j > i
    · rw [if_pos h]; omega
    · rw [if_neg h]; omega
  rw [e]
  exact q
theorem b_min2 : Cb cMin2 [val rInt i, val rInt j] (val rInt (min i j)) := cb_sc flI fun vs F H Q e a q => by
  obtain ⟨v, w, rfl, a, b⟩ := alla2 a
  have a' : v = .int i := a
  have b' : w = .int j := b
  subst a' b'
  refine ⟨i, j, rfl, ?_⟩
  have e : (if j < i then j else i) = min i j := by
    by_cases h : j < i
    · rw [if_pos h]; omega
    · rw [if_neg h]; omega
  rw [e]
  exact q
def cInt : List V → Hp → VK → Prop := fun xs H Q => (∃ i, xs = [.int i] ∧ Q (.int i) H) ∨ ∃ k, xs = [.bl k] ∧ Q (.int (if k then 1 else 0)) H
theorem call_cInt {X : Cx} : CallR X (.type "int") cInt := call_int1
theorem b_intB {b : Bool} : Cb cInt [val rB b] (val rInt (if b then 1 else 0)) := cb_sc flI fun vs F H Q e a q => by
  obtain ⟨v, rfl, a2⟩ := alla1 a
  have a3 : v = .bl b := a2
  subst a3
  exact Or.inr ⟨b, rfl, q⟩
/-- a list that was there is made new -/
def cList (K : PySem.W.Frag) : List V → Hp → VK → Prop := fun xs H Q => ∃ p ys, xs = [.ref p] ∧ (SqL K H p ys ∨ SqT K H p ys) ∧ ∀ l, H l = none → Q (.ref l) (upd H l (.lst ys))
theorem call_cList {X : Cx} : CallR X (.type "list") (cList X.K) := call_list_of
theorem new_post {F H : Hp} {Q : VK} {xs : List V} {as : List α} (e : Same F H) (hx : AllB R as xs F) (q : ∀ p xs F' H', Gr F H F' H' → H p = none → F' p = none → H' p = some (.lst xs) → AllB R as xs F' → Q (.ref p) H') :
    ∀ l, H l = none → Q (.ref l) (upd H l (.lst xs)) := fun l hl => q l xs F _ (Gr.gar e hl) hl (free_of e hl) upd_same hx
theorem b_list {as : List α} : CbN (cList K) [spn R as] R as := fun vs F H Q e a q => by
  obtain ⟨v, rfl, p, xs, rfl, h, hx⟩ := alla1 a
  exact ⟨p, xs, rfl, Or.inl (sq_of h), new_post e hx q⟩
theorem b_listT {as : List α} : CbN (cList K) [val (rTL R) as] R as := fun vs F H Q e a q => by
  obtain ⟨v, rfl, p, xs, rfl, h, hx⟩ := alla1 a
  exact ⟨p, xs, rfl, Or.inr (st_of (e _ _ h)), new_post e hx q⟩

/-! ### displays, slices, subscripts -/
def AllV (R : Rep α) : List α → List Ar := fun as => as.map (val R)
theorem alla_all {F H : Hp} : ∀ {as : List α} {vs : List V}, AllA (AllV R as) vs F H → All2 R as vs F
  | [], [], _ => trivial
  | _ :: _, _ :: _, h => ⟨h.1, alla_all h.2⟩
  | [], _ :: _, h => h.elim
  | _ :: _, [], h => h.elim
theorem ev_lst {ta : TA} {as : List α} (h : EvA ta σ F O (AllV R as)) (hl : as.length ≤ limL) : EvN (tLst ta) σ F O R as := fun H k Q q =>
  h H k _ fun vs F1 H1 g1 a => by
    have b : AllB R as vs F1 := ⟨alla_all a, hl⟩
    exact ⟨sz_line b.sz, fun p hp => q p vs F1 _ (g1.trans (Gr.gar g1.fh hp)) (gr_none g1 hp) (free_of g1.fh hp) upd_same b⟩
theorem ev_tupL {ta : TA} {as : List α} (h : EvA ta σ F O (AllV R as)) (hl : as.length ≤ limL) : Ev (tTup ta) σ F O (val (rTL R) as) := fun H k Q q =>
  h H k _ fun vs F1 H1 g1 a => by
    have b : AllB R as vs F1 := ⟨alla_all a, hl⟩
    exact ⟨sz_line b.sz, fun p hp => q (.ref p) (upd F1 p (.tup vs)) _ (g1.trans (Gr.frz g1.fh hp)) ⟨p, vs, rfl, upd_same, b.mono (same_new (free_of g1.fh hp))⟩⟩
theorem ev_tup2 {ta : TA} {a : α} {b : β} (h : EvA ta σ F O [val R a, val R' b]) : Ev (tTup ta) σ F O (val (rT2 R R') (a, b)) := fun H k Q q =>
  h H k _ fun vs F1 H1 g1 a => by
    obtain ⟨v, w, rfl, h1, h2⟩ := alla2 a
    refine ⟨by show 2 ≤ sizeLine; decide, fun p hp => q (.ref p) (upd F1 p (.tup [v, w])) _ (g1.trans (Gr.frz g1.fh hp)) ⟨p, v, w, rfl, upd_same, R.mono (same_new (free_of g1.fh hp)) h1, R'.mono (same_new (free_of g1.fh hp)) h2⟩⟩
theorem ev_tup3 {δ : Type} {R'' : Rep δ} {ta : TA} {a : α} {b : β} {c : δ} (h : EvA ta σ F O [val R a, val R' b, val R'' c]) : Ev (tTup ta) σ F O (val (rT3 R R' R'') (a, b, c)) := fun H k Q q =>
  h H k _ fun vs F1 H1 g1 a => by
    obtain ⟨v, w, x, rfl, h1, h2, h3⟩ := alla3 a
    refine ⟨by show 3 ≤ sizeLine; decide, fun p hp => q (.ref p) (upd F1 p (.tup [v, w, x])) _ (g1.trans (Gr.frz g1.fh hp)) ⟨p, v, w, x, rfl, upd_same, R.mono (same_new (free_of g1.fh hp)) h1, R'.mono (same_new (free_of g1.fh hp)) h2, R''.mono (same_new (free_of g1.fh hp)) h3⟩⟩
/-- a slice -/
def cutL {α : Type} (as : List α) (lo hi : Option Int) : List α := (as.drop (HT.sIx as.length 0 lo)).take (HT.sIx as.length as.length hi - HT.sIx as.length 0 lo)
theorem cutL_len {α : Type} (as : List α) (lo hi : Option Int) : (cutL as lo hi).length ≤ as.length := by
  unfold cutL
  rw [List.length_take, List.length_drop]
  omega
theorem cut_all {F : Hp} {as : List α} {xs : List V} (h : AllB R as xs F) (lo hi : Option Int) : AllB R (cutL as lo hi) (cutV xs lo hi) F := by
  refine ⟨?_, Nat.le_trans (cutL_len _ _ _) h.len⟩
  unfold cutL cutV
  rw [h.all.len]
  exact (h.all.drop _).take _
def EvO (to : TO) (σ : L2.St) (F : Hp) (O : Own) (o : Option Int) : Prop := ∀ H, Ok F O H → ∀ Q : Option Int → Hp → Prop, (∀ F' H', Gr F H F' H' → Q o H') → to σ H Q
theorem EvO.mono {to : TO} {o : Option Int} (h : EvO to σ F O o) (e : Same F F1) : EvO to σ F1 O o := fun H k Q q =>
  h H (k.less e) Q fun F' H' g => q (un F1 F') H' (gr_un e k.ex g)
theorem ep_none : EvO tNoPart σ F O none := fun H k Q q => q F H (Gr.refl k.ex)
theorem ep_some (h : Ev te σ F O (val rInt i)) : EvO (tPart te) σ F O (some i) := fun H k Q q => h H k _ fun v F' H' g e => ⟨i, e, q F' H' g⟩
theorem three {to th : TO} {lo hi : Option Int} (h : Ev te σ F O A) (h1 : EvO to σ F O lo) (h2 : EvO th σ F O hi) {H : Hp} (k : Ok F O H) {Q : V → Option Int → Option Int → Hp → Prop}
    (q : ∀ v F' H', Gr F H F' H' → Same F' H' → A.p v F' H' → Q v lo hi H') : te σ H fun x H1 => to σ H1 fun l H2 => th σ H2 fun u H3 => Q x l u H3 :=
  h H k _ fun v F1 H1 g1 a => (h1.mono g1.f) H1 (k.gr g1) _ fun F2 H2 g2 => (h2.mono (g1.trans g2).f) H2 (k.gr (g1.trans g2)) _ fun F3 H3 g3 => q v F3 H3 ((g1.trans g2).trans g3) g3.fh (A.mono (g2.trans g3).f (g2.trans g3).h a)
theorem ev_slL {to th : TO} {lo hi : Option Int} {as : List α} (h : Ev te σ F O (spn R as)) (h1 : EvO to σ F O lo) (h2 : EvO th σ F O hi) : EvN (tSl (rSlL K) te to th) σ F O R (cutL as lo hi) := fun H k Q q =>
  three h h1 h2 k fun v F1 H1 g e ⟨p, xs, ev, hp, hx⟩ => ⟨p, xs, ev, sq_of hp, fun l hl => q l _ F1 _ (g.trans (Gr.gar e hl)) (gr_none g hl) (free_of e hl) upd_same (cut_all hx lo hi)⟩
theorem ev_slK {to th : TO} {lo hi : Option Int} {ns : List Int} (h : Ev te σ F O (val (rScr K) ns)) (h1 : EvO to σ F O lo) (h2 : EvO th σ F O hi) : EvN (tSl (rSlL K) te to th) σ F O rInt (cutL ns lo hi) := fun H k Q q =>
  three h h1 h2 k fun v F1 H1 g e ⟨p, ev, hp, hz⟩ => ⟨p, _, ev, e.seq hp, fun l hl => q l _ F1 _ (g.trans (Gr.gar e hl)) (gr_none g hl) (free_of e hl) upd_same (cut_all ⟨All2.of_map flI ns, hz⟩ lo hi)⟩
theorem ev_slS {to th : TO} {lo hi : Option Int} {l : List Nat} (h : Ev te σ F O (val rS l)) (h1 : EvO to σ F O lo) (h2 : EvO th σ F O hi) : Ev (tSl rSlS te to th) σ F O (val rS (cutL l lo hi)) := fun H k Q q =>
  three h h1 h2 k fun v F1 H1 g e a => by
    refine ⟨mk l, a.1, by rw [mk_len]; exact sz_line (sz_lim a.2.1), q _ F1 H1 g ⟨?_, Nat.le_trans (cutL_len _ _ _) a.2.1, fun c m => ?_⟩⟩
    · unfold cutS cutL
      rw [mk_len]
    · exact a.2.2 c (List.mem_of_mem_drop (List.mem_of_mem_take m))
/-- xs[::-1] -/
theorem ev_rev {as : List α} (h : Ev te σ F O (spn R as)) : EvN (tRevL K te) σ F O R as.reverse := fun H k Q q =>
  h H k _ fun v F1 H1 g ⟨p, xs, ev, hp, hx⟩ => ⟨p, xs, ev, sq_of hp, fun l hl => q l _ F1 _ (g.trans (Gr.gar g.fh hl)) (gr_none g hl) (free_of g.fh hl) upd_same ⟨hx.all.rev, by rw [List.length_reverse]; exact hx.len⟩⟩
theorem atI_get {F : Hp} {as : List α} {xs : List V} {a : α} (h : All2 R as xs F) (e : atI as i = some a) : ∃ v, atI xs i = some v ∧ R.rp a v F := by
  unfold atI at e ⊢
  rw [← h.len]
  cases q : ixN as.length i with
  | none => rw [q] at e; cases e
  | some j =>
    rw [q] at e
    exact h.get e
theorem o_ixL {as : List α} {a : α} (e : atI as i = some a) : Op2 (rIxL K) (spn R as) (val rInt i) (val R a) := fun v w F H Q k ⟨p, xs, ev, hp, hx⟩ b q => by
  obtain ⟨y, e1, r⟩ := atI_get hx.all e
  exact ⟨p, xs, i, y, ev, b, sq_of hp, e1, q y F H (Gr.refl k) r⟩
theorem o_ixTL {as : List α} {a : α} (e : atI as i = some a) : Op2 (rIxT K) (val (rTL R) as) (val rInt i) (val R a) := fun v w F H Q k ⟨p, xs, ev, hp, hx⟩ b q => by
  obtain ⟨y, e1, r⟩ := atI_get hx.all e
  exact ⟨p, xs, i, y, ev, b, st_of (k _ _ hp), e1, q y F H (Gr.refl k) r⟩
theorem o_ixK {ns : List Int} {a : Int} (e : atI ns i = some a) : Op2 (rIxL K) (val (rScr K) ns) (val rInt i) (val rInt a) := fun v w F H Q k ⟨p, ev, hp, hz⟩ b q => by
  obtain ⟨y, e1, r⟩ := atI_get (All2.of_map flI (F := F) ns) e
  exact ⟨p, _, i, y, ev, b, k.seq hp, e1, q y F H (Gr.refl k) r⟩
theorem o_ixS {l : List Nat} {c : Nat} (e : atI l i = some c) : Op2 rIxS (val rS l) (val rInt i) (val rC c) := fun v w F H Q k a b q => by
  have hc : c < 128 := a.2.2 c (by
    unfold atI at e
    cases z : ixN l.length i with
    | none => rw [z] at e; cases e
    | some j =>
      rw [z] at e
      exact List.mem_of_getElem? e)
  exact ⟨mk l, i, c, a.1, b, by rw [mk_len]; exact sz_line (sz_lim a.2.1), e, q _ F H (Gr.refl k) ⟨rfl, hc⟩⟩
theorem o_ixA {a : α} {b : β} : Op2 (rIxT K) (val (rT2 R R') (a, b)) (val rInt 0) (val R a) := fun v w F H Q k ⟨p, x, y, ev, hp, h1, h2⟩ e q =>
  ⟨p, _, 0, x, ev, e, st_of (k _ _ hp), rfl, q x F H (Gr.refl k) h1⟩
theorem o_ixB {a : α} {b : β} : Op2 (rIxT K) (val (rT2 R R') (a, b)) (val rInt 1) (val R' b) := fun v w F H Q k ⟨p, x, y, ev, hp, h1, h2⟩ e q =>
  ⟨p, _, 1, y, ev, e, st_of (k _ _ hp), rfl, q y F H (Gr.refl k) h2⟩
/-- list + list, list * n -/
theorem o_catL {as bs : List α} (hz : (as ++ bs).length ≤ limL) : Op2N rCat (spn R as) (spn R bs) R (as ++ bs) := fun v w F H Q e ⟨p, xs, ev, hp, hx⟩ ⟨r, ys, ew, hr, hy⟩ q => by
  have b : AllB R (as ++ bs) (xs ++ ys) F := ⟨hx.all.app hy.all, hz⟩
  exact ⟨p, r, xs, ys, ev, ew, hp, hr, by have := b.sz; rw [List.length_append] at this; exact sz_line this, new_post e b q⟩
theorem all_rep {F : Hp} {as : List α} {xs : List V} (h : All2 R as xs F) : ∀ n : Nat, All2 R (List.replicate n as).flatten (List.replicate n xs).flatten F
  | 0 => trivial
  | n + 1 => by
    rw [List.replicate_succ, List.replicate_succ, List.flatten_cons, List.flatten_cons]
    exact h.app (all_rep h n)
theorem sum_rep (k : Nat) : ∀ n : Nat, (List.replicate n k).sum = n * k
  | 0 => by simp
  | n + 1 => by rw [List.replicate_succ, List.sum_cons, sum_rep k n, Nat.succ_mul, Nat.add_comm]
theorem o_repL {as : List α} {n : Int} (h0 : -(2 ^ 63) ≤ n) (h1 : n < 2 ^ 63) (hz : ((List.replicate n.toNat as).flatten).length ≤ limL) : Op2N rRep (spn R as) (val rInt n) R (List.replicate n.toNat as).flatten := fun v w F H Q e ⟨p, xs, ev, hp, hx⟩ ew q => by
  have b : AllB R (List.replicate n.toNat as).flatten (List.replicate n.toNat xs).flatten F := ⟨all_rep hx.all _, hz⟩
  refine ⟨p, n, xs, ev, ew, hp, h0, h1, ?_, new_post e b q⟩
  have := b.sz
  rw [List.length_flatten, List.map_replicate, sum_rep] at this
  exact sz_line (by rw [Nat.mul_comm]; exact this)

/-! ### calls of the text's defs -/
/-- what a def is worth: by what its arguments stand for -/
def spG (P : List Ar → Ar → Prop) : Sp := fun vs H Q _ => ∃ F As C, P As C ∧ Same F H ∧ AllA As vs F H ∧ ∀ v F' H', Gr F H F' H' → C.p v F' H' → Q v H'
def spN {α : Type} (R : Rep α) (P : List Ar → List α → Prop) : Sp := fun vs H Q _ => ∃ F As bs, P As bs ∧ Same F H ∧ AllA As vs F H ∧
  ∀ p xs F' H', Gr F H F' H' → H p = none → F' p = none → H' p = some (.lst xs) → AllB R bs xs F' → Q (.ref p) H'
theorem ev_call {P : List Ar → Ar → Prop} {E : XK} {ta : TA} {as : List Ar} (h : EvA ta σ F O as) (hp : P as C) : Ev (tCall (spG P) [] E ta) σ F O C := fun H k Q q =>
  h H k _ fun vs F1 H1 g1 a => ⟨F1, as, C, hp, g1.fh, by rw [List.append_nil]; exact a, fun v F2 H2 g2 c => q v F2 H2 (g1.trans g2) c⟩
theorem ev_callN {P : List Ar → List α → Prop} {E : XK} {ta : TA} {as : List Ar} {bs : List α} (h : EvA ta σ F O as) (hp : P as bs) : EvN (tCall (spN R P) [] E ta) σ F O R bs := fun H k Q q =>
  h H k _ fun vs F1 H1 g1 a => ⟨F1, as, bs, hp, g1.fh, by rw [List.append_nil]; exact a, fun p xs F2 H2 g2 n f x c => q p xs F2 H2 (g1.trans g2) (gr_none g1 n) f x c⟩
/-- a list's arguments are as many as the values -/
theorem alla_len {F H : Hp} : ∀ {as : List Ar} {vs : List V}, AllA as vs F H → vs.length = as.length
  | [], [], _ => rfl
  | _ :: _, _ :: _, h => by rw [List.length_cons, List.length_cons, alla_len h.2]
  | [], _ :: _, h => h.elim
  | _ :: _, [], h => h.elim
/-- with all owned things frozen for a while: where the answer is a scalar -/
def frzA (F : Hp) : Own → Hp
  | [] => F
  | q :: O => upd (frzA F O) q.1 q.2
theorem frz_same : ∀ {O : Own} {H : Hp}, Ok F O H → Same (frzA F O) H
  | [], _, k => k.ex
  | q :: O, H, k => fun a u e => by
    have ih := frz_same (O := O) ⟨k.ex, fun r m => k.own r (List.mem_cons_of_mem _ m)⟩
    by_cases z : a = q.1
    · subst z
      have e2 : upd (frzA F O) q.1 q.2 q.1 = some u := e
      rw [upd_same] at e2
      cases e2
      exact (k.own q (List.mem_cons_self ..)).2
    · have e2 : upd (frzA F O) q.1 q.2 a = some u := e
      rw [upd_ne z] at e2
      exact ih a u e2
theorem ev_peek {c : γ} {Rc : Rep γ} {f : γ → V} (hf : Fl Rc f) (h : Ev te σ (frzA F O) [] (val Rc c)) : Ev te σ F O (val Rc c) := fun H k Q q =>
  h H ⟨frz_same k, fun _ m => (by cases m)⟩ Q fun v F' H' g a => by
    rw [hf.to a]
    exact q _ F H' ⟨Same.refl _, g.h, k.ex.trans g.h, fun _ n _ => n⟩ (hf.of c F)
theorem et_peek {b : Bool} (h : EvT tt σ (frzA F O) [] b) : EvT tt σ F O b := fun H k Q q =>
  h H ⟨frz_same k, fun _ m => (by cases m)⟩ Q fun F' H' g => q F H' ⟨Same.refl _, g.h, k.ex.trans g.h, fun _ n _ => n⟩
end
end Lm
/-! Lm: what is walked, for, comprehensions, while. -/
namespace Lm
open PySem PySem.Spec L2

/-- an iterator yields the things as, one by one -/
def Wk {α : Type} (J : It) (F : Hp) (R : Rep α) (as : List α) : Prop := as.length ≤ limL ∧ ∀ i F' H', Same F F' → Same F' H' →
  (∀ a, as[i]? = some a → J.go i H' ∧ ∀ x H2, J.yld i H' x H2 → ∃ F2, Gr F' H' F2 H2 ∧ R.rp a x F2) ∧ (as.length ≤ i → J.stop i H')
def EvI {α : Type} (wi : TI) (σ : L2.St) (F : Hp) (O : Own) (R : Rep α) (as : List α) : Prop := ∀ H, Ok F O H → ∀ Q : It → Hp → Prop, (∀ J F' H', Gr F H F' H' → Wk J F' R as → Q J H') → wi σ H Q
/-- a target takes a thing -/
def Tg {α : Type} (g : TG) (R : Rep α) (P : α → L2.St → L2.St → Hp → Prop) : Prop := ∀ a x σ F H (Q : L2.St → Hp → Prop), R.rp a x F → Same F H → (∀ σ', P a σ σ' F → Q σ' H) → g x σ H Q
section
variable {α β γ ρ S : Type} {R : Rep α} {R' : Rep β} {Z : Bs} {D : Ends} {σ : L2.St} {F : Hp} {O : Own} {te tl ta tb : TE} {tt : TT} {K : PySem.W.Frag} {i j : Nat}
theorem tg_n : Tg (gName j) R fun a σ σ' F => ∃ v, σ' = σ.set j (some v) ∧ R.rp a v F := fun a x σ F H Q r _ q => q _ ⟨x, rfl, r⟩
theorem tg_2 : Tg (gTup K 2 (gCons (gName i) (gCons (gName j) gNil))) (rT2 R R') fun a σ σ' F => ∃ v w, σ' = (σ.set i (some v)).set j (some w) ∧ R.rp a.1 v F ∧ R'.rp a.2 w F := fun a x σ F H Q ⟨p, v, w, ev, hp, h1, h2⟩ e q =>
  ⟨p, [v, w], ev, st_of (e _ _ hp), rfl, v, [w], rfl, w, [], rfl, rfl, q _ ⟨v, w, rfl, h1, h2⟩⟩
theorem tg_3 {δ : Type} {R'' : Rep δ} {k : Nat} : Tg (gTup K 3 (gCons (gName i) (gCons (gName j) (gCons (gName k) gNil)))) (rT3 R R' R'') fun a σ σ' F => ∃ v w x, σ' = ((σ.set i (some v)).set j (some w)).set k (some x) ∧ R.rp a.1 v F ∧ R'.rp a.2.1 w F ∧ R''.rp a.2.2 x F := fun a x σ F H Q ⟨p, v, w, y, ev, hp, h1, h2, h3⟩ e q =>
  ⟨p, [v, w, y], ev, st_of (e _ _ hp), rfl, v, [w, y], rfl, w, [y], rfl, y, [], rfl, rfl, q _ ⟨v, w, y, rfl, h1, h2, h3⟩⟩

/-! ### what is walked -/
theorem ei_list {as : List α} (h : Ev tl σ F O (val (rL R) as)) : EvI (iList K tl) σ F O R as := fun H k Q q =>
  h H k _ fun v F1 H1 g ⟨p, xs, ev, hp, hx⟩ => by
    refine ⟨p, ev, ⟨xs, sq_of (g.fh _ _ hp)⟩, q _ F1 H1 g ⟨hx.len, fun i F' H' e e' => ⟨fun a ha => ?_, fun hi => ?_⟩⟩⟩
    · have hq : SqL K H' p xs := sq_of (e' _ _ (e _ _ hp))
      obtain ⟨y, hy, r⟩ := hx.all.get ha
      refine ⟨⟨xs, y, hq, hy⟩, fun x H2 ⟨e1, f⟩ => ?_⟩
      subst e1
      have ex : x = y := Option.some.inj ((f xs hq).symm.trans hy)
      subst ex
      exact ⟨F', Gr.refl e', R.mono e r⟩
    · exact ⟨xs, sq_of (e' _ _ (e _ _ hp)), by rw [← hx.all.len]; exact hi⟩
theorem ei_tup {as : List α} (h : Ev tl σ F O (val (rTL R) as)) : EvI (iTup K tl) σ F O R as := fun H k Q q =>
  h H k _ fun v F1 H1 g ⟨p, xs, ev, hp, hx⟩ => by
    refine ⟨p, ev, ⟨xs, st_of (g.fh _ _ hp)⟩, q _ F1 H1 g ⟨hx.len, fun i F' H' e e' => ⟨fun a ha => ?_, fun hi => ?_⟩⟩⟩
    · have hq : SqT K H' p xs := st_of (e' _ _ (e _ _ hp))
      obtain ⟨y, hy, r⟩ := hx.all.get ha
      refine ⟨⟨xs, y, hq, hy⟩, fun x H2 ⟨e1, f⟩ => ?_⟩
      subst e1
      have ex : x = y := Option.some.inj ((f xs hq).symm.trans hy)
      subst ex
      exact ⟨F', Gr.refl e', R.mono e r⟩
    · exact ⟨xs, st_of (e' _ _ (e _ _ hp)), by rw [← hx.all.len]; exact hi⟩
/-- the script itself -/
theorem ei_scr {ns : List Int} (h : Ev tl σ F O (val (rScr K) ns)) : EvI (iList K tl) σ F O rInt ns := fun H k Q q =>
  h H k _ fun v F1 H1 g ⟨p, ev, hp, hz⟩ => by
    refine ⟨p, ev, ⟨_, g.fh.seq hp⟩, q _ F1 H1 g ⟨hz, fun i F' H' e e' => ⟨fun a ha => ?_, fun hi => ?_⟩⟩⟩
    · have hq : SqL K H' p (ns.map V.int) := e'.seq (e.seq hp)
      have hy : (ns.map V.int)[i]? = some (.int a) := by rw [List.getElem?_map, ha]; rfl
      refine ⟨⟨_, _, hq, hy⟩, fun x H2 ⟨e1, f⟩ => ?_⟩
      subst e1
      have ex : x = .int a := Option.some.inj ((f _ hq).symm.trans hy)
      subst ex
      exact ⟨F', Gr.refl e', rfl⟩
    · exact ⟨_, e'.seq (e.seq hp), by rw [List.length_map]; exact hi⟩
/-- lo, lo + 1, .. below hi -/
def rng (lo hi : Int) : List Int := (List.range (hi - lo).toNat).map fun (i : Nat) => lo + (i : Int)
theorem rng_get {lo hi : Int} {i : Nat} {a : Int} (h : (rng lo hi)[i]? = some a) : i < (hi - lo).toNat ∧ a = lo + (i : Int) := by
  unfold rng at h
  rw [List.getElem?_map] at h
  cases e : (List.range (hi - lo).toNat)[i]? with
  | none => rw [e] at h; cases h
  | some j =>
    rw [e] at h
    obtain ⟨h1, h2⟩ := List.getElem?_eq_some_iff.mp e
    rw [List.getElem_range] at h2
    rw [List.length_range] at h1
    subst h2
    exact ⟨h1, (Option.some.inj h).symm⟩
theorem rng_len (lo hi : Int) : (rng lo hi).length = (hi - lo).toNat := by
  unfold rng
  rw [List.length_map, List.length_range]
theorem wk_rng {F : Hp} {lo hi : Int} (hz : (hi - lo).toNat ≤ limL) : Wk (Itr lo (hi - lo).toNat) F rInt (rng lo hi) := ⟨by rw [rng_len]; exact hz, fun i F' H' e e' => ⟨fun a ha => by
  obtain ⟨h1, h2⟩ := rng_get ha
  refine ⟨h1, fun x H2 ⟨e1, f⟩ => ?_⟩
  subst e1 f h2
  exact ⟨F', Gr.refl e', rfl⟩, fun hi => by
  unfold rng at hi
  rw [List.length_map, List.length_range] at hi
  exact hi⟩⟩
theorem ei_rng1 {ta : TA} {n : Int} (h : EvA ta σ F O [val rInt n]) (h1 : -(2 ^ 62) ≤ n) (h2 : n ≤ (limL : Int)) : EvI (iRng1 ta) σ F O rInt (rng 0 n) := fun H k Q q =>
  h H k _ fun vs F1 H1 g a => by
    obtain ⟨v, rfl, a2⟩ := alla1 a
    have a3 : v = .int n := a2
    subst a3
    refine ⟨n, rfl, h1, by have e9 : (limL : Int) = 4000000 := rfl; omega, ?_⟩
    have e : n.toNat = (n - 0).toNat := by omega
    rw [e]
    exact q _ F1 H1 g (wk_rng (by omega))
theorem ei_rng2 {ta : TA} {lo n : Int} (h : EvA ta σ F O [val rInt lo, val rInt n]) (h1 : -(2 ^ 61) ≤ lo ∧ lo < 2 ^ 61 ∧ -(2 ^ 61) ≤ n ∧ n < 2 ^ 61) (hz : (n - lo).toNat ≤ limL) : EvI (iRng2 ta) σ F O rInt (rng lo n) := fun H k Q q =>
  h H k _ fun vs F1 H1 g a => by
    obtain ⟨v, w, rfl, a2, b2⟩ := alla2 a
    have a3 : v = .int lo := a2
    have b3 : w = .int n := b2
    subst a3 b3
    exact ⟨lo, n, rfl, ⟨by omega, by omega, by omega, by omega⟩, q _ F1 H1 g (wk_rng hz)⟩
theorem ei_str {l : List Nat} (h : Ev tl σ F O (val rS l)) : EvI (iStr tl) σ F O rC l := fun H k Q q =>
  h H k _ fun v F1 H1 g a => by
    refine ⟨mk l, a.1, q _ F1 H1 g ⟨sz_lim a.2.1, fun i F' H' e e' => ⟨fun c hc => ?_, fun hi => ?_⟩⟩⟩
    · have hs : i < (mk l).cps.size := by
        show i < l.toArray.size
        rw [List.size_toArray]
        exact (List.getElem?_eq_some_iff.mp hc).1
      refine ⟨hs, fun x H2 ⟨e1, c', h1, h2⟩ => ?_⟩
      subst e1
      have h3 : l[i]? = some c' := by simpa using h1
      rw [hc] at h3
      cases h3
      exact ⟨F', Gr.refl e', h2, a.2.2 c (List.mem_of_getElem? hc)⟩
    · show l.toArray.size ≤ i
      rw [List.size_toArray]
      exact hi
/-- each with its place -/
def enumL (as : List α) : List (Int × α) := (List.range as.length).zipWith (fun (i : Nat) a => ((i : Int), a)) as
theorem enumL_get {as : List α} {i : Nat} {t : Int × α} (h : (enumL as)[i]? = some t) : as[i]? = some t.2 ∧ t.1 = (i : Int) := by
  unfold enumL at h
  rw [List.getElem?_zipWith] at h
  cases e : as[i]? with
  | none =>
    rw [e] at h
    cases e2 : (List.range as.length)[i]? <;> rw [e2] at h <;> cases h
  | some a =>
    rw [e] at h
    have h1 := (List.getElem?_eq_some_iff.mp e).1
    rw [List.getElem?_range h1] at h
    cases h
    exact ⟨rfl, rfl⟩
theorem enumL_len (as : List α) : (enumL as).length = as.length := by
  unfold enumL
  rw [List.length_zipWith, List.length_range, Nat.min_self]
theorem ei_enum {ta : TA} {as : List α} (h : EvA ta σ F O [val (rL R) as]) : EvI (iEnum K ta) σ F O (rT2 rInt R) (enumL as) := fun H k Q q =>
  h H k _ fun vs F1 H1 g a => by
    obtain ⟨v, rfl, p, xs, ev, hp, hx⟩ := alla1 a
    subst ev
    refine ⟨p, xs, rfl, sq_of (g.fh _ _ hp), q _ F1 H1 g ⟨by rw [enumL_len]; exact hx.len, fun i F' H' e e' => ⟨fun t ht => ?_, fun hi => ?_⟩⟩⟩
    · have hq : SqL K H' p xs := sq_of (e' _ _ (e _ _ hp))
      obtain ⟨ht1, ht2⟩ := enumL_get ht
      obtain ⟨y, hy, r⟩ := hx.all.get ht1
      refine ⟨⟨xs, y, hq, hy⟩, fun x H2 ⟨T, z, ex, hT, e1, f⟩ => ?_⟩
      have ez : z = y := Option.some.inj ((f xs hq).symm.trans hy)
      subst ez ex e1
      refine ⟨upd F' T (.tup [.int (i : Nat), z]), Gr.frz e' hT, T, _, _, rfl, upd_same, ?_, R.mono (e.trans (same_new (free_of e' hT))) r⟩
      show V.int (i : Nat) = V.int t.1
      rw [ht2]
    · rw [enumL_len] at hi
      exact ⟨xs, sq_of (e' _ _ (e _ _ hp)), by rw [← hx.all.len]; exact hi⟩
theorem zip_get {as : List α} {bs : List β} {i : Nat} {t : α × β} (h : (as.zip bs)[i]? = some t) : as[i]? = some t.1 ∧ bs[i]? = some t.2 := by
  rw [List.zip, List.getElem?_zipWith] at h
  cases e : as[i]? with
  | none =>
    rw [e] at h
    cases h
  | some a =>
    cases e2 : bs[i]? with
    | none => rw [e, e2] at h; cases h
    | some b =>
      rw [e, e2] at h
      cases h
      exact ⟨rfl, rfl⟩
theorem ei_zip {ta : TA} {as : List α} {bs : List β} (h : EvA ta σ F O [val (rL R) as, val (rL R') bs]) : EvI (iZip K ta) σ F O (rT2 R R') (as.zip bs) := fun H k Q q =>
  h H k _ fun vs F1 H1 g a => by
    obtain ⟨v, w, rfl, ⟨p, xs, ev, hp, hx⟩, r, ys, ew, hr, hy⟩ := alla2 a
    subst ev ew
    refine ⟨p, r, xs, ys, rfl, sq_of (g.fh _ _ hp), sq_of (g.fh _ _ hr), q _ F1 H1 g ⟨by rw [List.zip, List.length_zipWith]; exact Nat.le_trans (Nat.min_le_left _ _) hx.len, fun i F' H' e e' => ⟨fun t ht => ?_, fun hi => ?_⟩⟩⟩
    · have hq1 : SqL K H' p xs := sq_of (e' _ _ (e _ _ hp))
      have hq2 : SqL K H' r ys := sq_of (e' _ _ (e _ _ hr))
      obtain ⟨ht1, ht2⟩ := zip_get ht
      obtain ⟨y1, hy1, r1⟩ := hx.all.get ht1
      obtain ⟨y2, hy2, r2⟩ := hy.all.get ht2
      refine ⟨⟨xs, ys, y1, y2, hq1, hq2, hy1, hy2⟩, fun x H2 ⟨T, z1, z2, ex, hT, e1, f1, f2⟩ => ?_⟩
      have ez1 : z1 = y1 := Option.some.inj ((f1 xs hq1).symm.trans hy1)
      have ez2 : z2 = y2 := Option.some.inj ((f2 ys hq2).symm.trans hy2)
      subst ez1 ez2 ex e1
      have em := e.trans (same_new (o := .tup [z1, z2]) (free_of e' hT))
      exact ⟨upd F' T (.tup [z1, z2]), Gr.frz e' hT, T, _, _, rfl, upd_same, R.mono em r1, R'.mono em r2⟩
    · rw [List.zip, List.length_zipWith] at hi
      refine ⟨xs, ys, sq_of (e' _ _ (e _ _ hp)), sq_of (e' _ _ (e _ _ hr)), ?_⟩
      rw [← hx.all.len, ← hy.all.len]
      omega

/-! ### for -/
theorem sx_for {f : S → α → Option (Fw ρ S)} {s0 : S} {out : Fw ρ S} {J : S → L2.St → Hp → Own → Prop} {Ro : ρ → V → Hp → Own → Prop} {g : TG} {body : TS} {wi : TI} {as : List α} {P : α → L2.St → L2.St → Hp → Prop}
    (hm : loop f as s0 = some out) (hi : EvI wi σ F O R as) (hg : Tg g R P) (h0 : ∀ F', Same F F' → J s0 σ F' O) (acc : AccL Z D J Ro F out)
    (turn : ∀ s a σ' σ2 F' F2 O' o D', a ∈ as → Same F F' → Same F' F2 → J s σ' F' O' → P a σ' σ2 F2 → f s a = some o → Acc Z D' J Ro F2 o → Sx Z body D' σ2 F2 O') : Sx Z (tFor wi g body) D σ F O := fun H at0 => by
  refine hi H at0.ok _ fun J' F1 H1 g1 wk => ?_
  have acc1 : AccL Z D J Ro F1 out := ⟨fun s e σ2 F2 O2 e2 => acc.nx s e σ2 F2 O2 (g1.f.trans e2), fun r e v F2 O2 e2 => acc.rt r e v F2 O2 (g1.f.trans e2)⟩
  refine ⟨fun k m σ' H' => m = as.length - k ∧ k ≤ as.length ∧ Lw Z f J out as F1 k σ' H', ⟨as.length, by simp, Nat.zero_le _, s0, F1, O, Same.refl _, h0 F1 g1.f, at0.gr g1, hm⟩, fun k m σ' H' ⟨em, hk, w⟩ => ?_⟩
  subst em
  have w' := w
  obtain ⟨_, F', O', e, _, at', _⟩ := w'
  by_cases hlt : k < as.length
  · have ha : as[k]? = some as[k] := List.getElem?_eq_getElem hlt
    obtain ⟨hgo, hy⟩ := (wk.2 k F' H' e at'.ok.ex).1 _ ha
    refine Or.inr ⟨hgo, Lw Z f J out as F1 (k + 1), fun σ2 H2 w2 => ⟨as.length - (k + 1), by omega, rfl, hlt, w2⟩, fun x H2 y => ?_⟩
    refine lw_turn acc1 ha w fun s F' O' o e j2 at' hf ac => ?_
    obtain ⟨F2, g2, r⟩ := ((wk.2 k F' H' e at'.ok.ex).1 _ ha).2 x H2 y
    refine hg _ x σ' F2 H2 _ r g2.fh fun σ2 p => ?_
    refine turn s _ σ' σ2 F' F2 O' o _ (List.mem_of_getElem? ha) (g1.f.trans e) g2.f j2 p hf ?_ H2 (at'.gr g2)
    exact ⟨fun s e σ3 F3 O3 e3 => ac.nx s e σ3 F3 O3 (g2.f.trans e3), fun s e σ3 F3 O3 e3 => ac.bk s e σ3 F3 O3 (g2.f.trans e3), fun r e v F3 O3 e3 => ac.rt r e v F3 O3 (g2.f.trans e3)⟩
  · have e2 : k = as.length := by omega
    exact Or.inl ⟨(wk.2 k F' H' e at'.ok.ex).2 (by omega), lw_end e2 acc1 w⟩

/-! ### while -/
def whileN (c : S → Option Bool) (f : S → Option (Fw ρ S)) : Nat → S → Option (Fw ρ S)
  | 0, _ => none
  | n + 1, s => match c s with
    | some true => (match f s with
      | some (.nx s') => whileN c f n s'
      | some (.rt r) => some (.rt r)
      | some (.bk s') => some (.nx s')
      | none => none)
    | some false => some (.nx s)
    | none => none
theorem sx_while {c : S → Option Bool} {f : S → Option (Fw ρ S)} {n : Nat} {s0 : S} {out : Fw ρ S} {J : S → L2.St → Hp → Own → Prop} {Ro : ρ → V → Hp → Own → Prop} {body : TS}
    (hm : whileN c f n s0 = some out) (h0 : J s0 σ F O) (acc : AccL Z D J Ro F out)
    (test : ∀ s σ' F' O' b, Same F F' → J s σ' F' O' → c s = some b → EvT tt σ' F' O' b)
    (turn : ∀ s σ' F' F2 O' o D', Same F F' → Same F' F2 → J s σ' F' O' → c s = some true → f s = some o → Acc Z D' J Ro F2 o → Sx Z body D' σ' F2 O')
    (same : ∀ s σ' F' F2 O', J s σ' F' O' → Same F' F2 → J s σ' F2 O') : Sx Z (tWhile tt body) D σ F O := fun H at0 => by
  refine ⟨fun m σ' H' => ∃ s F' O', Same F F' ∧ J s σ' F' O' ∧ At Z F' O' H' ∧ whileN c f m s = some out, ⟨n, s0, F, O, Same.refl _, h0, at0, hm⟩, fun m σ' H' ⟨s, F', O', e, j2, at', hw⟩ => ?_⟩
  cases m with
  | zero => simp only [whileN] at hw; cases hw
  | succ m =>
    cases hc : c s with
    | none => simp only [whileN, hc] at hw; cases hw
    | some b =>
      refine test s σ' F' O' b e j2 hc H' at'.ok _ fun F2 H2 g2 => ?_
      cases b with
      | false =>
        simp only [whileN, hc] at hw
        exact acc.nx s (Option.some.inj hw).symm σ' F2 O' (e.trans g2.f) (same _ _ _ _ _ j2 g2.f) H2 (at'.gr g2)
      | true =>
        cases hf : f s with
        | none => simp only [whileN, hc, hf] at hw; cases hw
        | some o =>
          refine ⟨fun σ3 H3 => ∃ s F3 O3, Same F F3 ∧ J s σ3 F3 O3 ∧ At Z F3 O3 H3 ∧ whileN c f m s = some out, fun σ3 H3 w => ⟨m, by omega, w⟩, ?_⟩
          refine turn s σ' F' F2 O' o _ e g2.f j2 hc hf ⟨fun s' eo σ3 F3 O3 e3 j3 => ?_, fun s' eo σ3 F3 O3 e3 j3 H3 at3 => ?_, fun r eo v F3 O3 e3 r3 H3 at3 => ?_⟩ H2 (at'.gr g2)
          · subst eo
            simp only [whileN, hc, hf] at hw
            exact ⟨fun H3 at3 => ⟨s', F3, O3, (e.trans g2.f).trans e3, j3, at3, hw⟩, fun H3 at3 => ⟨s', F3, O3, (e.trans g2.f).trans e3, j3, at3, hw⟩⟩
          · subst eo
            simp only [whileN, hc, hf] at hw
            exact acc.nx s' (Option.some.inj hw).symm σ3 F3 O3 ((e.trans g2.f).trans e3) j3 H3 at3
          · subst eo
            simp only [whileN, hc, hf] at hw
            exact acc.rt r (Option.some.inj hw).symm v F3 O3 ((e.trans g2.f).trans e3) r3 H3 at3

/-! ### comprehensions -/
/-- f tells what an item gives: nothing known; left out; a thing -/
def mapF (f : α → Option (Option β)) : List α → Option (List β)
  | [] => some []
  | a :: as => match f a with
    | none => none
    | some o => match mapF f as with
      | none => none
      | some bs => some (match o with | some b => b :: bs | none => bs)
theorem mapF_len {f : α → Option (Option β)} : ∀ {as : List α} {bs : List β}, mapF f as = some bs → bs.length ≤ as.length
  | [], _, h => by cases h; exact Nat.le_refl _
  | a :: as, bs, h => by
    unfold mapF at h
    cases e : f a with
    | none => rw [e] at h; cases h
    | some o =>
      rw [e] at h
      cases e2 : mapF f as with
      | none => rw [e2] at h; cases h
      | some cs =>
        rw [e2] at h
        have ih := mapF_len e2
        cases o with
        | none => cases h; exact Nat.le_succ_of_le ih
        | some b => cases h; exact Nat.succ_le_succ ih
theorem mapF_cons {f : α → Option (Option β)} {a : α} {as : List α} {bs : List β} (h : mapF f (a :: as) = some bs) : ∃ o cs, f a = some o ∧ mapF f as = some cs ∧ bs = (match o with | some b => b :: cs | none => cs) := by
  unfold mapF at h
  cases e : f a with
  | none => rw [e] at h; cases h
  | some o =>
    rw [e] at h
    cases e2 : mapF f as with
    | none => rw [e2] at h; cases h
    | some cs =>
      rw [e2] at h
      exact ⟨o, cs, rfl, rfl, (Option.some.inj h).symm⟩
theorem ev_lc {f : α → Option (Option β)} {wi : TI} {g : TG} {vs : List Nat} {as : List α} {bs : List β} {P : α → L2.St → L2.St → Hp → Prop}
    (hm : mapF f as = some bs) (hi : EvI wi σ F O R as) (hg : Tg g R P)
    (turn : ∀ a σ2 F' F2 ob, a ∈ as → Same F F' → Same F' F2 → P a (wipe σ vs) σ2 F2 → f a = some ob → wipe σ2 vs = wipe σ vs ∧ EvT tt σ2 F2 O ob.isSome ∧ ∀ b, ob = some b → Ev te σ2 F2 O (val R' b)) :
    EvN (tLc wi g tt te vs) σ F O R' bs := fun H k Q q => by
  refine hi H k _ fun J F1 H1 g1 wk L hL => ?_
  have k1 := k.gr g1
  let W : Nat → Hp → Prop := fun i H' => ∃ F' acc done rest, Gr F1 H1 F' H' ∧ F' L = none ∧ H' L = some (.lst acc) ∧ All2 R' done acc F' ∧ mapF f (as.drop i) = some rest ∧ done ++ rest = bs ∧ done.length ≤ i
  have okL : ∀ {F' H'}, Gr F1 H1 F' H' → Ok F' O H' := fun gg => k1.gr gg
  refine ⟨fun i m H' => m = as.length - i ∧ i ≤ as.length ∧ W i H', ⟨as.length, by simp, Nat.zero_le _, F1, [], [], bs, ⟨Same.refl _, same_new hL, g1.fh.trans (same_new hL), fun _ h _ => h⟩, free_of g1.fh hL, upd_same, trivial, hm, rfl, Nat.le_refl _⟩, fun i m H' ⟨em, hile, F', acc, done, rest, gg, fL, hacc, ha2, hrest, hbs, hdl⟩ => ?_⟩
  subst em
  by_cases hlt : i < as.length
  · have ha : as[i]? = some as[i] := List.getElem?_eq_getElem hlt
    obtain ⟨hgo, hy⟩ := (wk.2 i F' H' gg.f gg.fh).1 _ ha
    refine Or.inr ⟨hgo, W (i + 1), fun H2 w => ⟨as.length - (i + 1), by omega, rfl, hlt, w⟩, fun x H2 y => ?_⟩
    obtain ⟨F2, g2, r⟩ := hy x H2 y
    rw [List.drop_eq_getElem_cons hlt] at hrest
    obtain ⟨o, cs, e1, e2, e3⟩ := mapF_cons hrest
    refine hg _ x (wipe σ vs) F2 H2 _ r g2.fh fun σ2 p => ?_
    obtain ⟨hw, ht, he⟩ := turn as[i] σ2 F' F2 o (List.mem_of_getElem? ha) (g1.f.trans gg.f) g2.f p e1
    have gg2 := gg.trans g2
    refine ⟨hw, ht H2 (okL gg2) _ fun F3 H3 g3 => ?_⟩
    have gg3 := gg2.trans g3
    have fL3 : F3 L = none := (g2.trans g3).nw L fL (by rw [hacc]; exact fun z => by cases z)
    have hacc3 : H3 L = some (.lst acc) := (g2.trans g3).h _ _ hacc
    cases o with
    | none =>
      show W (i + 1) H3
      exact ⟨F3, acc, done, cs, gg3, fL3, hacc3, ha2.mono (g2.trans g3).f, e2, by rw [← hbs, e3], by omega⟩
    | some b =>
      show te σ2 H3 _
      refine ((he b rfl).mono g3.f) H3 (okL gg3) _ fun v F4 H4 g4 r4 => ?_
      have fL4 : F4 L = none := g4.nw L fL3 (by rw [hacc3]; exact fun z => by cases z)
      have gg4 := gg3.trans g4
      have lacc : acc.length ≤ limL := by
        rw [← ha2.len]
        have := wk.1
        omega
      refine ⟨acc, g4.h _ _ hacc3, sz_lt lacc, F4, acc ++ [v], done ++ [b], cs, ⟨gg4.f, fun a u hu => ?_, same_mut gg4.fh fL4, gg4.nw⟩, fL4, upd_same, (ha2.mono ((g2.trans g3).trans g4).f).app (All2.one r4), e2, by rw [← hbs, e3, List.append_assoc]; rfl, by rw [List.length_append]; simp; omega⟩
      rw [upd_ne (ne_of_none hu hL)]
      exact gg4.h a u hu
  · refine Or.inl ⟨(wk.2 i F' H' gg.f gg.fh).2 (by omega), ?_⟩
    rw [List.drop_eq_nil_of_le (by omega)] at hrest
    have er : rest = [] := (Option.some.inj hrest).symm
    rw [er, List.append_nil] at hbs
    subst hbs
    exact q L acc F' H' (g1.trans gg) (gr_none g1 hL) fL hacc ⟨ha2, Nat.le_trans (by omega) wk.1⟩
theorem et_yes : EvT tYes σ F O true := fun H k Q q => q F H (Gr.refl k.ex)
end
end Lm
/-! Lm: texts. -/
namespace Lm
open PySem PySem.Spec L2 PySem.Builtin.Str

/-! ### texts as lists of signs -/
theorem tl_of (l : List Nat) : (mk l).cps.toList = l := rfl
theorem mk_of {x : Str} {l : List Nat} (h : x.cps.toList = l) : x = mk l := by
  apply TL.ext_tl
  exact h
def startsS (l p : List Nat) : Bool := p.isPrefixOf l
def endsS (l p : List Nat) : Bool := p.isSuffixOf l
/-- p stands somewhere in l -/
def inS (p : List Nat) : List Nat → Bool
  | [] => p.isEmpty
  | c :: r => p.isPrefixOf (c :: r) || inS p r
/-- the first place from i on, counted -/
def findL (p : List Nat) : Nat → List Nat → Option Nat
  | i, [] => if p.isEmpty then some i else none
  | i, c :: r => if p.isPrefixOf (c :: r) then some i else findL p (i + 1) r
def optI : Option Nat → Int
  | some i => (i : Int)
  | none => -1
def splitC (c : Nat) : List Nat → List Nat → List (List Nat)
  | acc, [] => [acc]
  | acc, x :: r => if x = c then acc :: splitC c [] r else splitC c (acc ++ [x]) r
abbrev joinS (s : List Nat) (ps : List (List Nat)) : List Nat := TL.joinL s ps
def lstripS (l cs : List Nat) : List Nat := l.dropWhile cs.contains
def rstripS (l cs : List Nat) : List Nat := (l.reverse.dropWhile cs.contains).reverse
def stripS (l cs : List Nat) : List Nat := rstripS (lstripS l cs) cs
def lowC (c : Nat) : Nat := if 65 ≤ c ∧ c ≤ 90 then c + 32 else c
def lowerS (l : List Nat) : List Nat := l.map lowC
def partS (l s : List Nat) : List Nat × List Nat × List Nat := match TL.par s [] l with
  | some (a, b) => (a, s, b)
  | none => (l, [], [])
/-! Options -/
def catS (a b : List Nat) : Option (List Nat) := if (a ++ b).length ≤ lim then some (a ++ b) else none
def repS (a : List Nat) (n : Int) : Option (List Nat) := if (List.replicate n.toNat a).flatten.length ≤ lim ∧ n < 2 ^ 61 ∧ -(2 ^ 61) ≤ n then some (List.replicate n.toNat a).flatten else none
def joinO (s : List Nat) (ps : List (List Nat)) : Option (List Nat) := if (joinS s ps).length ≤ lim then some (joinS s ps) else none
/-- does not fail -/
theorem iteo {α : Type} {p : Prop} [Decidable p] {a b : α} (h : (if p then some a else none) = some b) : p ∧ a = b := by
  by_cases hp : p
  · rw [if_pos hp] at h
    exact ⟨hp, Option.some.inj h⟩
  · rw [if_neg hp] at h
    cases h

section
variable {x y : List Nat}
theorem pref_take {p l : List Nat} : p.isPrefixOf l = (l.take p.length == p) := by
  rw [Bool.eq_iff_iff, List.isPrefixOf_iff_prefix, beq_iff_eq, List.prefix_iff_eq_take]
  exact ⟨fun h => h.symm, fun h => h.symm⟩
theorem starts_mk : Txt.startswith (mk x) (mk y) = startsS x y := by
  unfold Txt.startswith startsS
  rw [PySem.StrLaws.subAt_eq, mk_len, mk_len, pref_take, tl_of, tl_of, List.drop_zero]
  by_cases h : 0 + y.length ≤ x.length
  · rw [decide_eq_true h, Bool.true_and]
  · rw [decide_eq_false h, Bool.false_and]
    symm
    rw [beq_eq_false_iff_ne]
    intro e
    have := congrArg List.length e
    rw [List.length_take] at this
    omega
theorem suff_drop {p l : List Nat} (h : p.length ≤ l.length) : p.isSuffixOf l = (l.drop (l.length - p.length) == p) := by
  rw [Bool.eq_iff_iff, List.isSuffixOf_iff_suffix, beq_iff_eq, List.suffix_iff_eq_drop]
  exact ⟨fun h => h.symm, fun h => h.symm⟩
theorem ends_mk : Txt.endswith (mk x) (mk y) = endsS x y := by
  unfold Txt.endswith endsS
  rw [PySem.StrLaws.subAt_eq, mk_len, mk_len, tl_of, tl_of]
  by_cases h : 0 + y.length ≤ x.length
  · rw [decide_eq_true h, Bool.true_and, suff_drop (by omega), List.take_of_length_le]
    rw [List.length_drop]
    omega
  · rw [decide_eq_false h, Bool.false_and]
    symm
    rw [Bool.eq_false_iff]
    intro e
    have := (List.isSuffixOf_iff_suffix.mp e).length_le
    omega
theorem lower_mk (h : ∀ c ∈ x, c < 128) : Txt.lower (mk x) = mk (lowerS x) := by
  rw [PyProof.Rows.lower_ascii h]
  apply mk_of
  show (Array.map _ x.toArray).toList = _
  simp [lowerS]
  intro a _
  rfl
theorem okS_lower (h : OkS x) : OkS (lowerS x) := by
  refine ⟨by unfold lowerS; rw [List.length_map]; exact h.1, fun c m => ?_⟩
  obtain ⟨d, md, e⟩ := List.mem_map.mp m
  have := h.2 d md
  subst e
  unfold lowC
  split <;> omega
theorem contains_mk (l : List Nat) : (mk l).cps.contains = l.contains := by
  funext c
  show l.toArray.contains c = l.contains c
  simp
theorem takeWhile_drop (p : Nat → Bool) (l : List Nat) : l.drop (l.takeWhile p).length = l.dropWhile p := by
  induction l with
  | nil => rfl
  | cons a r ih =>
    rw [List.takeWhile_cons, List.dropWhile_cons]
    split
    · exact ih
    · rfl
theorem lstrip_mk : Txt.lstripChars (mk x) (mk y) = mk (lstripS x y) := by
  unfold Txt.lstripChars
  rw [PyProof.Rows.stripBy_eq]
  apply mk_of
  rw [PySem.StrLaws.strSub_toList, tl_of, contains_mk]
  have e1 : stripHi y.contains false (mk x) (stripLo y.contains true (mk x)) = x.length := by
    show (mk x).length = x.length
    exact mk_len x
  have e2 : stripLo y.contains true (mk x) = (x.takeWhile y.contains).length := rfl
  rw [e1, e2, takeWhile_drop]
  unfold lstripS
  rw [List.take_of_length_le]
  have h1 : (x.takeWhile y.contains).length + (x.dropWhile y.contains).length = x.length := by
    rw [← List.length_append, List.takeWhile_append_dropWhile]
  omega
theorem rev_take (l : List Nat) (n : Nat) : (l.reverse.drop n).reverse = l.take (l.length - n) := by
  rw [List.drop_reverse, List.reverse_reverse]
theorem rstrip_mk : Txt.rstripChars (mk x) (mk y) = mk (rstripS x y) := by
  unfold Txt.rstripChars
  rw [PyProof.Rows.stripBy_eq]
  apply mk_of
  rw [PySem.StrLaws.strSub_toList, tl_of, contains_mk]
  have e2 : stripLo y.contains false (mk x) = 0 := rfl
  have e1 : stripHi y.contains true (mk x) 0 = x.length - (x.reverse.takeWhile y.contains).length := by
    show (mk x).length - _ = _
    rw [mk_len]
    first | done | rfl
  rw [e2, e1, List.drop_zero, Nat.sub_zero]
  unfold rstripS
  rw [← takeWhile_drop, rev_take]
theorem strip_mk : Txt.stripChars (mk x) (mk y) = mk (stripS x y) := by
  unfold Txt.stripChars
  rw [PyProof.Rows.stripBy_eq]
  apply mk_of
  rw [PySem.StrLaws.strSub_toList, tl_of, contains_mk]
  have e2 : stripLo y.contains true (mk x) = (x.takeWhile y.contains).length := rfl
  have e1 : ∀ k, stripHi y.contains true (mk x) k = x.length - ((x.drop k).reverse.takeWhile y.contains).length := fun k => by
    show (mk x).length - _ = _
    rw [mk_len]
    first | done | rfl
  rw [e2, e1, takeWhile_drop]
  unfold stripS rstripS lstripS
  rw [← takeWhile_drop y.contains (x.dropWhile y.contains).reverse, rev_take]
  have h1 : (x.takeWhile y.contains).length + (x.dropWhile y.contains).length = x.length := by
    rw [← List.length_append, List.takeWhile_append_dropWhile]
  congr 1
  omega
theorem mem_dropWhile {p : Nat → Bool} {l : List Nat} {c : Nat} (h : c ∈ l.dropWhile p) : c ∈ l := (List.dropWhile_sublist p).subset h
theorem okS_lstrip (h : OkS x) : OkS (lstripS x y) := ⟨Nat.le_trans (List.dropWhile_sublist _).length_le h.1, fun c m => h.2 c (mem_dropWhile m)⟩
theorem okS_rstrip (h : OkS x) : OkS (rstripS x y) := by
  unfold rstripS
  refine ⟨?_, fun c m => ?_⟩
  · rw [List.length_reverse]
    have := (List.dropWhile_sublist (y.contains) (l := x.reverse)).length_le
    rw [List.length_reverse] at this
    exact Nat.le_trans this h.1
  · exact h.2 c (List.mem_reverse.mp (mem_dropWhile (List.mem_reverse.mp m)))
theorem okS_strip (h : OkS x) : OkS (stripS x y) := okS_rstrip (okS_lstrip h)
theorem spl_one (c : Nat) : ∀ (l acc : List Nat), TL.spl [c] 0 acc l = splitC c acc l
  | [], acc => rfl
  | a :: r, acc => by
    unfold splitC
    by_cases e : a = c
    · rw [if_pos e, TL.spl_hit (by subst e; exact TL.pre_self [a] r), ← spl_one c r []]
      rfl
    · rw [if_neg e, TL.spl_miss (TL.pre_of_head [] r e), spl_one c r]
theorem mk_tl (z : Str) : mk (TL.tl z) = z := TL.mk_tl z
theorem map_mk_tl : ∀ (l : List Str), (l.map TL.tl).map mk = l
  | [] => rfl
  | z :: r => by rw [List.map_cons, List.map_cons, mk_tl, map_mk_tl r]
theorem all_256 {l : List Nat} (h : ∀ c ∈ l, c < 128) : (mk l).cps.all (· < 256) = true := by
  show l.toArray.all (· < 256) = true
  rw [List.all_toArray, List.all_eq_true]
  intro c m
  exact decide_eq_true (Nat.lt_trans (h c m) (by decide))
theorem split_mk {c : Nat} (hc : c < 128) : Txt.split (mk x) (mk [c]) = (splitC c [] x).map mk := by
  have h := TL.split_spl (mk x) (mk [c]) (by show [c] ≠ []; simp) (TL.kind_ok (all_256 fun d m => by rw [List.mem_singleton.mp m]; exact hc))
  rw [← map_mk_tl (Txt.split (mk x) (mk [c])), h]
  show (TL.spl [c] 0 [] x).map mk = _
  rw [spl_one]
theorem splitC_len (c : Nat) : ∀ (l acc : List Nat), (splitC c acc l).length ≤ l.length + 1
  | [], acc => by simp [splitC]
  | a :: r, acc => by
    unfold splitC
    have h1 := splitC_len c r []
    have h2 := splitC_len c r (acc ++ [a])
    split
    · rw [List.length_cons, List.length_cons]; omega
    · rw [List.length_cons]; omega
theorem splitC_mem (c : Nat) : ∀ (l acc : List Nat), ∀ p ∈ splitC c acc l, p.length ≤ acc.length + l.length ∧ ∀ d ∈ p, d ∈ acc ∨ d ∈ l
  | [], acc, p, m => by
    have e : p = acc := by simpa [splitC] using m
    subst e
    exact ⟨by simp, fun d md => Or.inl md⟩
  | a :: r, acc, p, m => by
    unfold splitC at m
    split at m
    · rcases List.mem_cons.mp m with e | m
      · subst e
        exact ⟨by omega, fun d md => Or.inl md⟩
      · have := splitC_mem c r [] p m
        refine ⟨by have := this.1; rw [List.length_nil] at this; rw [List.length_cons]; omega, fun d md => Or.inr ?_⟩
        rcases this.2 d md with z | z
        · cases z
        · exact List.mem_cons_of_mem _ z
    · have := splitC_mem c r (acc ++ [a]) p m
      refine ⟨by have := this.1; rw [List.length_append, List.length_singleton] at this; rw [List.length_cons]; omega, fun d md => ?_⟩
      rcases this.2 d md with z | z
      · rcases List.mem_append.mp z with z | z
        · exact Or.inl z
        · rw [List.mem_singleton.mp z]; exact Or.inr (List.mem_cons_self ..)
      · exact Or.inr (List.mem_cons_of_mem _ z)
theorem okS_split {c : Nat} (h : OkS x) : ∀ p ∈ splitC c [] x, OkS p := fun p m => by
  have := splitC_mem c x [] p m
  refine ⟨by have h1 := this.1; rw [List.length_nil] at h1; exact Nat.le_trans (by omega) h.1, fun d md => ?_⟩
  rcases this.2 d md with z | z
  · cases z
  · exact h.2 d z
theorem join_mk (s : List Nat) (ps : List (List Nat)) : Txt.join (mk s) (ps.map mk) = mk (joinS s ps) := by
  rw [TL.join_eq]
  apply mk_of
  rw [show (Str.join (mk s) (ps.map mk)).cps.toList = TL.tl (Str.join (mk s) (ps.map mk)) from rfl, TL.tl_join]
  congr 1
  rw [List.map_map]
  exact List.map_id'' (fun l => rfl) ps
theorem joinS_nil (s : List Nat) : joinS s [] = [] := rfl
theorem joinS_one (s p : List Nat) : joinS s [p] = p := rfl
theorem joinS_cons (s p q : List Nat) (r : List (List Nat)) : joinS s (p :: q :: r) = p ++ s ++ joinS s (q :: r) := by
  first
    | rfl
    | (rw [List.append_assoc]; rfl)
theorem joinS_len (s : List Nat) : ∀ ps : List (List Nat), (ps.map List.length).sum + ps.length * s.length ≤ (joinS s ps).length + s.length
  | [] => by simp
  | [p] => by rw [joinS_one]; simp
  | p :: q :: r => by
    rw [joinS_cons, List.length_append, List.length_append]
    have ih := joinS_len s (q :: r)
    simp only [List.map_cons, List.sum_cons, List.length_cons, Nat.succ_mul] at ih ⊢
    omega
theorem joinS_mem (s : List Nat) : ∀ ps : List (List Nat), ∀ c ∈ joinS s ps, c ∈ s ∨ ∃ p ∈ ps, c ∈ p
  | [], c, m => by cases m
  | [p], c, m => Or.inr ⟨p, List.mem_cons_self .., m⟩
  | p :: q :: r, c, m => by
    rw [joinS_cons, List.mem_append, List.mem_append] at m
    rcases m with (m | m) | m
    · exact Or.inr ⟨p, List.mem_cons_self .., m⟩
    · exact Or.inl m
    · rcases joinS_mem s (q :: r) c m with h | ⟨p', h1, h2⟩
      · exact Or.inl h
      · exact Or.inr ⟨p', List.mem_cons_of_mem _ h1, h2⟩
theorem par_mem (S : List Nat) : ∀ (l acc a b : List Nat), TL.par S acc l = some (a, b) → (∀ c ∈ a, c ∈ acc ∨ c ∈ l) ∧ (∀ c ∈ b, c ∈ l) ∧ a.length ≤ acc.length + l.length ∧ b.length ≤ l.length
  | [], acc, a, b, h => by cases h
  | c :: r, acc, a, b, h => by
    cases hp : TL.pre S (c :: r) with
    | true =>
      rw [TL.par_hit hp] at h
      cases h
      exact ⟨fun d m => Or.inl m, fun d m => List.mem_of_mem_drop m, by omega, by rw [List.length_drop]; omega⟩
    | false =>
      rw [TL.par_miss hp] at h
      obtain ⟨h1, h2, h3, h4⟩ := par_mem S r _ a b h
      refine ⟨fun d m => ?_, fun d m => List.mem_cons_of_mem _ (h2 d m), by rw [List.length_append, List.length_singleton] at h3; rw [List.length_cons]; omega, by rw [List.length_cons]; omega⟩
      rcases h1 d m with z | z
      · rcases List.mem_append.mp z with z | z
        · exact Or.inl z
        · rw [List.mem_singleton.mp z]; exact Or.inr (List.mem_cons_self ..)
      · exact Or.inr (List.mem_cons_of_mem _ z)
theorem okS_part (h : OkS x) (hy : OkS y) : OkS (partS x y).1 ∧ OkS (partS x y).2.1 ∧ OkS (partS x y).2.2 := by
  unfold partS
  cases e : TL.par y [] x with
  | none => exact ⟨h, ⟨Nat.zero_le _, fun c m => by cases m⟩, ⟨Nat.zero_le _, fun c m => by cases m⟩⟩
  | some ab =>
    obtain ⟨a, b⟩ := ab
    obtain ⟨h1, h2, h3, h4⟩ := par_mem y x [] a b e
    rw [List.length_nil, Nat.zero_add] at h3
    exact ⟨⟨Nat.le_trans h3 h.1, fun c m => (h1 c m).elim (fun z => by cases z) (h.2 c)⟩, hy, ⟨Nat.le_trans h4 h.1, fun c m => h.2 c (h2 c m)⟩⟩
theorem part_mk (hy : y ≠ []) : Txt.partition (mk x) (mk y) = (mk (partS x y).1, mk (partS x y).2.1, mk (partS x y).2.2) := by
  rw [TL.partition_par (mk x) (mk y) hy]
  unfold partS
  show (match TL.par y [] x with | some (a, b) => _ | none => _) = _
  cases e : TL.par y [] x with
  | none => rfl
  | some ab => rfl
/-- a text within a text -/
theorem inS_iff (p : List Nat) : ∀ l : List Nat, inS p l = true ↔ ∃ i, i + p.length ≤ l.length ∧ (l.drop i).take p.length = p
  | [] => by
    unfold inS
    rw [List.isEmpty_iff]
    constructor
    · intro e; subst e; exact ⟨0, by simp, by simp⟩
    · rintro ⟨i, h1, h2⟩
      cases p with
      | nil => rfl
      | cons a r => simp at h1
  | c :: r => by
    unfold inS
    rw [Bool.or_eq_true, inS_iff p r, List.isPrefixOf_iff_prefix, List.prefix_iff_eq_take]
    constructor
    · rintro (h | ⟨i, h1, h2⟩)
      · refine ⟨0, ?_, by rw [List.drop_zero]; exact h.symm⟩
        have := congrArg List.length h
        rw [List.length_take] at this
        omega
      · exact ⟨i + 1, by rw [List.length_cons]; omega, by rw [List.drop_succ_cons]; exact h2⟩
    · rintro ⟨i, h1, h2⟩
      cases i with
      | zero => exact Or.inl (by rw [List.drop_zero] at h2; exact h2.symm)
      | succ i => exact Or.inr ⟨i, by rw [List.length_cons] at h1; omega, by rw [List.drop_succ_cons] at h2; exact h2⟩
theorem in_mk : (!(occurrences (mk x) (mk y) 0 (mk x).length 1).isEmpty) = inS y x := by
  rw [Bool.eq_iff_iff, PySem.StrLaws.found_iff, inS_iff]
  constructor
  · rintro ⟨i, h1, h2⟩
    rw [mk_len, mk_len] at h1
    rw [PySem.StrLaws.subAt_eq, mk_len, tl_of, tl_of, beq_iff_eq] at h2
    exact ⟨i, h1, h2⟩
  · rintro ⟨i, h1, h2⟩
    refine ⟨i, by rw [mk_len, mk_len]; exact h1, ?_⟩
    rw [PySem.StrLaws.subAt_eq, mk_len, tl_of, tl_of, beq_iff_eq]
    exact h2
/-- where a text first stands -/
theorem at_mk {i : Nat} : PySem.StrLaws.At (mk x) (mk y) (mk x).length i ↔ i + y.length ≤ x.length ∧ (x.drop i).take y.length = y := by
  unfold PySem.StrLaws.At
  rw [mk_len, mk_len, PySem.StrLaws.subAt_eq, mk_len, tl_of, tl_of, beq_iff_eq]
theorem pref_iff {p l : List Nat} : p.isPrefixOf l = true ↔ p.length ≤ l.length ∧ l.take p.length = p := by
  rw [pref_take, beq_iff_eq]
  constructor
  · intro h
    refine ⟨?_, h⟩
    have := congrArg List.length h
    rw [List.length_take] at this
    omega
  · exact fun h => h.2
theorem findL_some (p : List Nat) : ∀ (l : List Nat) (i j : Nat), findL p i l = some j → i ≤ j ∧ (j - i) + p.length ≤ l.length ∧ (l.drop (j - i)).take p.length = p ∧ ∀ k, k < j - i → ¬ (k + p.length ≤ l.length ∧ (l.drop k).take p.length = p)
  | [], i, j, h => by
    unfold findL at h
    split at h
    · next e =>
      cases h
      rw [List.isEmpty_iff.mp e]
      exact ⟨Nat.le_refl _, by simp, by simp, fun k hk => by omega⟩
    · cases h
  | c :: r, i, j, h => by
    unfold findL at h
    split at h
    · next e =>
      cases h
      obtain ⟨h1, h2⟩ := pref_iff.mp e
      rw [Nat.sub_self]
      exact ⟨Nat.le_refl _, by omega, by rw [List.drop_zero]; exact h2, fun k hk => by omega⟩
    · next e =>
      obtain ⟨h1, h2, h3, h4⟩ := findL_some p r (i + 1) j h
      have e1 : j - i = (j - (i + 1)) + 1 := by omega
      rw [e1]
      refine ⟨by omega, by rw [List.length_cons]; omega, by rw [List.drop_succ_cons]; exact h3, fun k hk => ?_⟩
      cases k with
      | zero =>
        rintro ⟨z1, z2⟩
        exact e (pref_iff.mpr ⟨by omega, by rw [List.drop_zero] at z2; exact z2⟩)
      | succ k =>
        rintro ⟨z1, z2⟩
        exact h4 k (by omega) ⟨by rw [List.length_cons] at z1; omega, by rw [List.drop_succ_cons] at z2; exact z2⟩
theorem findL_none (p : List Nat) : ∀ (l : List Nat) (i : Nat), findL p i l = none → ∀ k, ¬ (k + p.length ≤ l.length ∧ (l.drop k).take p.length = p)
  | [], i, h, k => by
    unfold findL at h
    split at h
    · cases h
    · next e =>
      rintro ⟨h1, h2⟩
      rw [List.length_nil] at h1
      exact e (List.isEmpty_iff.mpr (List.eq_nil_of_length_eq_zero (by omega)))
  | c :: r, i, h, k => by
    unfold findL at h
    split at h
    · cases h
    · next e =>
      cases k with
      | zero =>
        rintro ⟨z1, z2⟩
        exact e (pref_iff.mpr ⟨by omega, by rw [List.drop_zero] at z2; exact z2⟩)
      | succ k =>
        rintro ⟨z1, z2⟩
        exact findL_none p r (i + 1) h k ⟨by rw [List.length_cons] at z1; omega, by rw [List.drop_succ_cons] at z2; exact z2⟩
/-- find from a place -/
def findS (l p : List Nat) (i : Int) : Int := if (fromIndex l.length i) ≤ l.length then optI (findL p (fromIndex l.length i) (l.drop (fromIndex l.length i))) else -1
theorem find3_mk (i : Int) : Txt.find3 (mk x) (mk y) i = findS x y i := by
  unfold Txt.find3 findS
  have hl := mk_len x
  have e0 : fromIndex (mk x).length i = fromIndex x.length i := by rw [hl]
  rw [e0]
  generalize fromIndex x.length i = lo
  rcases PySem.StrLaws.occ_head_from (mk x) (mk y) lo 1 (Nat.le_refl _) with ⟨h1, h2⟩ | ⟨j, r, h1, h2, h3, h4⟩
  · rw [h1]
    show (-1 : Int) = _
    by_cases hle : lo ≤ x.length
    · rw [if_pos hle]
      cases e : findL y lo (x.drop lo) with
      | none => rfl
      | some j =>
        obtain ⟨a1, a2, a3, _⟩ := findL_some y _ _ _ e
        rw [List.length_drop] at a2
        rw [List.drop_drop] at a3
        have e3 : lo + (j - lo) = j := by omega
        rw [e3] at a3
        exact absurd (at_mk.mpr ⟨by omega, a3⟩) (h2 j a1)
    · rw [if_neg hle]
  · rw [h1]
    obtain ⟨a1, a2⟩ := at_mk.mp h3
    rw [if_pos (by omega)]
    cases e : findL y lo (x.drop lo) with
    | none =>
      have := findL_none y _ _ e (j - lo)
      rw [List.length_drop, List.drop_drop] at this
      have e3 : lo + (j - lo) = j := by omega
      rw [e3] at this
      exact absurd ⟨by omega, a2⟩ this
    | some m =>
      obtain ⟨b1, b2, b3, b4⟩ := findL_some y _ _ _ e
      rw [List.length_drop] at b2 b4
      rw [List.drop_drop] at b3
      have e3 : lo + (m - lo) = m := by omega
      rw [e3] at b3
      have : m = j := by
        rcases Nat.lt_trichotomy m j with hlt | heq | hgt
        · exact absurd (at_mk.mpr ⟨by omega, b3⟩) (h4 m b1 hlt)
        · exact heq
        · refine absurd ?_ (b4 (j - lo) (by omega))
          rw [List.drop_drop]
          have e4 : lo + (j - lo) = j := by omega
          rw [e4]
          exact ⟨by omega, a2⟩
      subst this
      rfl
theorem find_mk : Txt.find (mk x) (mk y) = optI (findL y 0 x) := by
  have h := find3_mk (x := x) (y := y) 0
  unfold Txt.find3 findS at h
  unfold Txt.find
  have e : ∀ n : Nat, fromIndex n 0 = 0 := fun n => by
    unfold fromIndex
    simp
  rw [e, e, if_pos (Nat.zero_le _), List.drop_zero] at h
  exact h
end
end Lm
/-! Lm: the methods of texts, what joins ways, how mirrors fail. -/
namespace Lm
open PySem PySem.Spec L2 PySem.Builtin.Str

/-! ### mirrors -/
theorem bsome {α β : Type} {o : Option α} {f : α → Option β} {b : β} (h : o.bind f = some b) : ∃ a, o = some a ∧ f a = some b := by
  cases o with
  | none => cases h
  | some a => exact ⟨a, rfl, h⟩
def lt {α β : Type} (a : α) (f : α → Option β) : Option β := f a
theorem lt_e {α β : Type} {a : α} {f : α → Option β} {b : β} (h : lt a f = some b) : ∃ x, a = x ∧ f x = some b := ⟨a, rfl, h⟩
def cnd {α : Type} (c : Bool) (a b : Option α) : Option α := match c with | true => a | false => b
theorem cnd_t {α : Type} {c : Bool} {a b : Option α} {x : α} (h : cnd c a b = some x) (e : c = true) : a = some x := by subst e; exact h
theorem cnd_f {α : Type} {c : Bool} {a b : Option α} {x : α} (h : cnd c a b = some x) (e : c = false) : b = some x := by subst e; exact h
def fwd {ρ S γ : Type} (o : Option (Fw ρ S)) (k : S → Option γ) (kr : ρ → Option γ) : Option γ := match o with
  | some (.nx s) => k s
  | some (.rt r) => kr r
  | some (.bk _) => none
  | none => none
theorem fwd_o {ρ S γ : Type} {o : Option (Fw ρ S)} {k : S → Option γ} {kr : ρ → Option γ} {x : γ} (h : fwd o k kr = some x) : ∃ w, o = some w ∧ (∀ s, w = .nx s → k s = some x) ∧ (∀ r, w = .rt r → kr r = some x) := by
  cases o with
  | none => cases h
  | some w =>
    refine ⟨w, rfl, fun s e => ?_, fun r e => ?_⟩
    · subst e; exact h
    · subst e; exact h
def grd (p : Prop) [Decidable p] : Option Unit := if p then some () else none
theorem grd_e {p : Prop} [Decidable p] {u : Unit} (h : grd p = some u) : p := by
  unfold grd at h
  by_cases hp : p
  · exact hp
  · rw [if_neg hp] at h; cases h
def appO {α : Type} (as : List α) (a : α) : Option (List α) := if (as ++ [a]).length ≤ limL then some (as ++ [a]) else none
def catO {α : Type} (as bs : List α) : Option (List α) := if (as ++ bs).length ≤ limL then some (as ++ bs) else none
def repO {α : Type} (as : List α) (n : Int) : Option (List α) := if ((List.replicate n.toNat as).flatten).length ≤ limL ∧ n < 2 ^ 61 ∧ -(2 ^ 61) ≤ n then some (List.replicate n.toNat as).flatten else none
def ixO {α : Type} (as : List α) (i : Int) : Option α := atI as i
def setO {α : Type} (as : List α) (i : Int) (a : α) : Option (List α) := (ixN as.length i).map fun m => as.set m a
theorem setO_e {α : Type} {as bs : List α} {i : Int} {a : α} (h : setO as i a = some bs) : ∃ m, ixN as.length i = some m ∧ as.set m a = bs := by
  unfold setO at h
  cases e : ixN as.length i with
  | none => rw [e] at h; cases h
  | some m => rw [e] at h; exact ⟨m, rfl, Option.some.inj h⟩
def mulO (i j : Int) : Option Int := if i.natAbs.log2 + j.natAbs.log2 < 4000000 then some (i * j) else none
def divO (i j : Int) : Option Int := if 0 < j ∧ j < 1073741824 then some (i / j) else none
def modO (i j : Int) : Option Int := if 0 < j then some (i % j) else none
def rngO (lo hi : Int) : Option (List Int) := if (-(2 ^ 61) ≤ lo ∧ lo < 2 ^ 61 ∧ -(2 ^ 61) ≤ hi ∧ hi < 2 ^ 61) ∧ (hi - lo).toNat ≤ limL then some (rng lo hi) else none

section
variable {α β γ : Type} {R : Rep α} {R' : Rep β} {Z : Bs} {D : Ends} {σ : L2.St} {F F1 : Hp} {O : Own} {ta tb tc te to : TE} {ts tt tu : TS} {A B C : Ar} {K : PySem.W.Frag} {i j : Int} {l m p : List Nat}
theorem o_mulO {c : Int} (h : mulO i j = some c) : Op2 xMul (val rInt i) (val rInt j) (val rInt c) := by
  obtain ⟨h1, h2⟩ := iteo h
  subst h2
  exact o_mul h1
theorem o_divO {c : Int} (h : divO i j = some c) : Op2 xDiv (val rInt i) (val rInt j) (val rInt c) := by
  obtain ⟨h1, h2⟩ := iteo h
  subst h2
  exact o_div h1
theorem o_modO {c : Int} (h : modO i j = some c) : Op2 xMod (val rInt i) (val rInt j) (val rInt c) := by
  obtain ⟨h1, h2⟩ := iteo h
  subst h2
  exact o_mod h1
theorem ei_rng1O {ta : TA} {n : Int} {as : List Int} (h : EvA ta σ F O [val rInt n]) (e : rngO 0 n = some as) : EvI (iRng1 ta) σ F O rInt as := by
  obtain ⟨h1, h2⟩ := iteo e
  subst h2
  refine ei_rng1 h (by omega) ?_
  have e9 : (limL : Int) = 4000000 := rfl
  have e8 : limL = 4000000 := rfl
  rw [e8] at h1
  omega
theorem ei_rng2O {ta : TA} {lo n : Int} {as : List Int} (h : EvA ta σ F O [val rInt lo, val rInt n]) (e : rngO lo n = some as) : EvI (iRng2 ta) σ F O rInt as := by
  obtain ⟨h1, h2⟩ := iteo e
  subst h2
  exact ei_rng2 h h1.1 h1.2

/-! ### text operators -/
def xCatS : R2 := fun x y H Q => ∃ i j, x = .str i ∧ y = .str j ∧ i.length + j.length ≤ sizeLine ∧ Q (.str (i ++ j)) H
def xRepS : R2 := fun x y H Q => ∃ a n, x = .str a ∧ y = .int n ∧ MulOk a n ∧ Q (.str (Txt.mul a n)) H
def xIn1 : R2 := fun x y H Q => ∃ (c : Nat) (z : Str), x = .str ⟨#[c]⟩ ∧ y = .str z ∧ Q (.bl (decide (c ∈ z.cps.toList))) H
def xNin1 : R2 := fun x y H Q => ∃ (c : Nat) (z : Str), x = .str ⟨#[c]⟩ ∧ y = .str z ∧ Q (.bl (!decide (c ∈ z.cps.toList))) H
def xInS : R2 := fun x y H Q => ∃ i j, x = .str i ∧ y = .str j ∧ Q (.bl (!(occurrences j i 0 j.length 1).isEmpty)) H
def xNinS : R2 := fun x y H Q => ∃ i j, x = .str i ∧ y = .str j ∧ Q (.bl (!(!(occurrences j i 0 j.length 1).isEmpty))) H
theorem op_xCatS {X : Cx} : OpR X (binaryOp .Add) xCatS := op_add_str
theorem op_xRepS {X : Cx} : OpR X (binaryOp .Mult) xRepS := by
  intro pins s σ H x y v u Q I rx ry h
  obtain ⟨a, n, rfl, rfl, hm, q⟩ := h
  obtain ⟨t, rfl⟩ := rx
  obtain ⟨t', rfl⟩ := ry
  exact SB.mul hm fun t2 k => ⟨.str _, H, I.tok k, ⟨t2, rfl⟩, q⟩
theorem op_xIn1 {X : Cx} : OpR X (compareOp .In) xIn1 := op_in_sign
theorem op_xNin1 {X : Cx} : OpR X (compareOp .NotIn) xNin1 := op_notIn_sign
theorem op_xInS {X : Cx} : OpR X (compareOp .In) xInS := op_in_str
theorem op_xNinS {X : Cx} : OpR X (compareOp .NotIn) xNinS := op_notIn_str
theorem cat_mk : (mk l ++ mk m) = mk (l ++ m) := by
  apply mk_of
  rw [Str.cps_append, Array.toList_append]
theorem okS_cat (h : OkS l) (k : OkS m) (e : (l ++ m).length ≤ lim) : OkS (l ++ m) := ⟨e, fun c z => (List.mem_append.mp z).elim (h.2 c) (k.2 c)⟩
theorem o_catS {c : List Nat} (h : catS l m = some c) : Op2 xCatS (val rS l) (val rS m) (val rS c) := fun v w F H Q e a b q => by
  obtain ⟨h1, h2⟩ := iteo h
  subst h2
  refine ⟨mk l, mk m, a.1, b.1, ?_, q _ F H (Gr.refl e) ⟨by rw [cat_mk], okS_cat a.2 b.2 h1⟩⟩
  rw [mk_len, mk_len]
  rw [List.length_append] at h1
  exact sz_line (sz_lim h1)
theorem foldl_app (a : Array Nat) : ∀ (n : Nat) (b : Array Nat), ((List.replicate n a).foldl (· ++ ·) b).toList = b.toList ++ (List.replicate n a.toList).flatten
  | 0, b => by simp
  | n + 1, b => by
    rw [List.replicate_succ, List.foldl_cons, foldl_app a n, List.replicate_succ, List.flatten_cons, Array.toList_append, List.append_assoc]
theorem mul_mk (n : Int) : Txt.mul (mk l) n = mk (List.replicate n.toNat l).flatten := by
  apply mk_of
  unfold Txt.mul
  by_cases h : n < 1
  · rw [if_pos h]
    have e : n.toNat = 0 := by omega
    rw [e]
    rfl
  · rw [if_neg h]
    by_cases h2 : (n == 1 || (mk l).length == 0) = true
    · rw [if_pos h2]
      rw [Bool.or_eq_true, beq_iff_eq, beq_iff_eq, mk_len] at h2
      rcases h2 with h2 | h2
      · subst h2
        simp
      · have e : l = [] := List.eq_nil_of_length_eq_zero h2
        subst e
        simp
    · rw [if_neg h2]
      show ((List.replicate n.toNat l.toArray).foldl (· ++ ·) #[]).toList = _
      rw [foldl_app]
      simp
theorem rep_len (n : Nat) : (List.replicate n l).flatten.length = n * l.length := by
  rw [List.length_flatten, List.map_replicate, sum_rep]
theorem mulOk_mk {n : Int} (h : (List.replicate n.toNat l).flatten.length ≤ lim ∧ n < 2 ^ 61 ∧ -(2 ^ 61) ≤ n) : MulOk (mk l) n := by
  obtain ⟨h1, h2, h3⟩ := h
  rw [rep_len] at h1
  refine ⟨?_, fun hn _ => ?_, fun hn _ => ?_⟩
  · rw [Bool.or_eq_false_iff]
    exact ⟨decide_eq_false (by omega), decide_eq_false (by omega)⟩
  · rw [mk_len]
    intro z
    have hp : (0 : Int) < n := by omega
    have h5 : ((l.length : Nat) : Int) ≤ (2 ^ 63 - 1) / n := by
      rw [Int.le_ediv_iff_mul_le hp]
      have h6 : ((n.toNat * l.length : Nat) : Int) ≤ (lim : Int) := Int.ofNat_le.mpr h1
      rw [Int.natCast_mul, Int.toNat_of_nonneg (by omega), Int.mul_comm] at h6
      have e9 : (lim : Int) = 1000000 := rfl
      omega
    omega
  · rw [mk_len]
    unfold tooLong
    apply decide_eq_false
    rw [Nat.mul_comm] at h1
    exact Nat.not_lt.mpr (sz_line (sz_lim h1))
theorem o_repS {n : Int} {c : List Nat} (h : repS l n = some c) : Op2 xRepS (val rS l) (val rInt n) (val rS c) := fun v w F H Q e a b q => by
  obtain ⟨h1, h2⟩ := iteo h
  subst h2
  refine ⟨mk l, n, a.1, b, mulOk_mk h1, q _ F H (Gr.refl e) ⟨by rw [mul_mk], h1.1, fun c z => ?_⟩⟩
  obtain ⟨x, hx, hc⟩ := List.mem_flatten.mp z
  rw [(List.mem_replicate.mp hx).2] at hc
  exact a.2.2 c hc
theorem o_in1 {c : Nat} : Op2 xIn1 (val rC c) (val rS l) (val rB (decide (c ∈ l))) := op_sc flB fun v w F H Q e a b q => ⟨c, mk l, a.1, b.1, q⟩
theorem o_nin1 {c : Nat} : Op2 xNin1 (val rC c) (val rS l) (val rB (!decide (c ∈ l))) := op_sc flB fun v w F H Q e a b q => ⟨c, mk l, a.1, b.1, q⟩
theorem o_inS : Op2 xInS (val rS p) (val rS l) (val rB (inS p l)) := op_sc flB fun v w F H Q e a b q => ⟨mk p, mk l, a.1, b.1, by rw [in_mk]; exact q⟩
theorem o_ninS : Op2 xNinS (val rS p) (val rS l) (val rB (!inS p l)) := op_sc flB fun v w F H Q e a b q => ⟨mk p, mk l, a.1, b.1, by rw [in_mk]; exact q⟩
theorem o_catLO {as bs cs : List α} (h : catO as bs = some cs) : Op2N rCat (spn R as) (spn R bs) R cs := by
  obtain ⟨h1, h2⟩ := iteo h
  subst h2
  exact o_catL h1
theorem o_repLO {as cs : List α} {n : Int} (h : repO as n = some cs) : Op2N rRep (spn R as) (val rInt n) R cs := by
  obtain ⟨h1, h2⟩ := iteo h
  subst h2
  exact o_repL (by omega) (by omega) h1.1

/-! ### methods of texts -/
abbrev RM := V → List V → Hp → VK → Prop
def Cm (r : RM) (l : List Nat) (as : List Ar) (C : Ar) : Prop := ∀ vs F H (Q : VK), OkS l → Same F H → AllA as vs F H → (∀ u F' H', Gr F H F' H' → C.p u F' H' → Q u H') → r (.str (mk l)) vs H Q
def CmN {α : Type} (r : RM) (l : List Nat) (as : List Ar) (R : Rep α) (bs : List α) : Prop := ∀ vs F H (Q : VK), OkS l → Same F H → AllA as vs F H →
  (∀ p xs F' H', Gr F H F' H' → H p = none → F' p = none → H' p = some (.lst xs) → AllB R bs xs F' → Q (.ref p) H') → r (.str (mk l)) vs H Q
theorem ev_m {r : RM} {ta : TA} {as : List Ar} (ho : Ev to σ F O (val rS l)) (ha : EvA ta σ F O as) (hr : Cm r l as C) : Ev (tBM K "str" r to ta) σ F O C := fun H k Q q =>
  ho H k _ fun v F1 H1 g1 a => by
    have a1 : v = .str (mk l) := a.1
    subst a1
    exact ⟨rfl, (ha.mono g1.f) H1 (k.gr g1) _ fun vs F2 H2 g2 b => hr vs F2 H2 Q a.2 g2.fh b fun u F3 H3 g3 c => q u F3 H3 ((g1.trans g2).trans g3) c⟩
theorem ev_mN {r : RM} {ta : TA} {as : List Ar} {bs : List α} (ho : Ev to σ F O (val rS l)) (ha : EvA ta σ F O as) (hr : CmN r l as R bs) : EvN (tBM K "str" r to ta) σ F O R bs := fun H k Q q =>
  ho H k _ fun v F1 H1 g1 a => by
    have a1 : v = .str (mk l) := a.1
    subst a1
    exact ⟨rfl, (ha.mono g1.f) H1 (k.gr g1) _ fun vs F2 H2 g2 b => hr vs F2 H2 Q a.2 g2.fh b fun p xs F3 H3 g3 n f x c => q p xs F3 H3 ((g1.trans g2).trans g3) (gr_none (g1.trans g2) n) f x c⟩
theorem ev_m0 {r : RM} (ho : Ev to σ F O (val rS l)) (hr : Cm r l [] C) : Ev (tBM0 K "str" r to) σ F O C := fun H k Q q =>
  ho H k _ fun v F1 H1 g1 a => by
    have a1 : v = .str (mk l) := a.1
    subst a1
    exact ⟨rfl, hr [] F1 H1 Q a.2 g1.fh trivial fun u F3 H3 g3 c => q u F3 H3 (g1.trans g3) c⟩
def mStarts : RM := fun x xs H Q => ∃ a b, x = .str a ∧ xs = [.str b] ∧ Q (.bl (Txt.startswith a b)) H
def mEnds : RM := fun x xs H Q => ∃ a b, x = .str a ∧ xs = [.str b] ∧ Q (.bl (Txt.endswith a b)) H
def mFind : RM := fun x xs H Q => ∃ a b, x = .str a ∧ xs = [.str b] ∧ Q (.int (Txt.find a b)) H
def mFind3 : RM := fun x xs H Q => ∃ (a b : Str) (i : Int), x = .str a ∧ xs = [.str b, .int i] ∧ Q (.int (Txt.find3 a b i)) H
def mSplit : RM := fun x xs H Q => ∃ a b, x = .str a ∧ xs = [.str b] ∧ (b.length == 0) = false ∧ a.length + 2 ≤ sizeLine ∧ rNewStrs (Txt.split a b) H Q
def mPart : RM := fun x xs H Q => ∃ a b, x = .str a ∧ xs = [.str b] ∧ (b.length == 0) = false ∧ a.length ≤ sizeLine ∧ ∀ p, H p = none → Q (.ref p) (upd H p (.tup [.str (Txt.partition a b).1, .str (Txt.partition a b).2.1, .str (Txt.partition a b).2.2]))
def mJoin (K : PySem.W.Frag) : RM := fun x xs H Q => ∃ a p, ∃ ys : List Str, x = .str a ∧ xs = [.ref p] ∧ (SqL K H p (ys.map V.str) ∨ SqT K H p (ys.map V.str)) ∧ (ys.map (·.length)).sum + ys.length * a.length ≤ 16777216 ∧ Q (.str (Txt.join a ys)) H
def mStrip : RM := fun x xs H Q => ∃ a b, x = .str a ∧ xs = [.str b] ∧ a.length ≤ sizeLine ∧ Q (.str (Txt.stripChars a b)) H
def mLstrip : RM := fun x xs H Q => ∃ a b, x = .str a ∧ xs = [.str b] ∧ a.length ≤ sizeLine ∧ Q (.str (Txt.lstripChars a b)) H
def mRstrip : RM := fun x xs H Q => ∃ a b, x = .str a ∧ xs = [.str b] ∧ a.length ≤ sizeLine ∧ Q (.str (Txt.rstripChars a b)) H
def mLower : RM := fun x xs H Q => ∃ a, x = .str a ∧ xs = [] ∧ a.length ≤ 5592405 ∧ Q (.str (Txt.lower a)) H
theorem mt_mStarts {X : Cx} : MtR X "str.startswith" mStarts := mt_startswith
theorem mt_mEnds {X : Cx} : MtR X "str.endswith" mEnds := mt_endswith
theorem mt_mFind {X : Cx} : MtR X "str.find" mFind := mt_find
theorem mt_mFind3 {X : Cx} : MtR X "str.find" mFind3 := mt_find3
theorem mt_mSplit {X : Cx} : MtR X "str.split" mSplit := mt_split
theorem mt_mPart {X : Cx} : MtR X "str.partition" mPart := mt_partition
theorem mt_mJoin {X : Cx} : MtR X "str.join" (mJoin X.K) := mt_join
theorem mt_mStrip {X : Cx} : MtR X "str.strip" mStrip := mt_stripChars
theorem mt_mLstrip {X : Cx} : MtR X "str.lstrip" mLstrip := mt_lstripChars
theorem mt_mRstrip {X : Cx} : MtR X "str.rstrip" mRstrip := mt_rstripChars
theorem mt_mLower {X : Cx} : MtR X "str.lower" mLower := mt_lower
theorem m_starts : Cm mStarts l [val rS m] (val rB (startsS l m)) := fun vs F H Q k e a q => by
  obtain ⟨v, rfl, b⟩ := alla1 a
  exact ⟨mk l, mk m, rfl, by rw [show v = .str (mk m) from b.1], by rw [starts_mk]; exact q _ F H (Gr.refl e) rfl⟩
theorem m_ends : Cm mEnds l [val rS m] (val rB (endsS l m)) := fun vs F H Q k e a q => by
  obtain ⟨v, rfl, b⟩ := alla1 a
  exact ⟨mk l, mk m, rfl, by rw [show v = .str (mk m) from b.1], by rw [ends_mk]; exact q _ F H (Gr.refl e) rfl⟩
theorem m_find : Cm mFind l [val rS m] (val rInt (optI (findL m 0 l))) := fun vs F H Q k e a q => by
  obtain ⟨v, rfl, b⟩ := alla1 a
  exact ⟨mk l, mk m, rfl, by rw [show v = .str (mk m) from b.1], by rw [find_mk]; exact q _ F H (Gr.refl e) rfl⟩
theorem m_find3 : Cm mFind3 l [val rS m, val rInt i] (val rInt (findS l m i)) := fun vs F H Q k e a q => by
  obtain ⟨v, w, rfl, b, c⟩ := alla2 a
  exact ⟨mk l, mk m, i, rfl, by rw [show v = .str (mk m) from b.1, show w = .int i from c], by rw [find3_mk]; exact q _ F H (Gr.refl e) rfl⟩
theorem m_lstrip : Cm mLstrip l [val rS m] (val rS (lstripS l m)) := fun vs F H Q k e a q => by
  obtain ⟨v, rfl, b⟩ := alla1 a
  exact ⟨mk l, mk m, rfl, by rw [show v = .str (mk m) from b.1], by rw [mk_len]; exact sz_line (sz_lim k.1), by rw [lstrip_mk]; exact q _ F H (Gr.refl e) ⟨rfl, okS_lstrip k⟩⟩
theorem m_rstrip : Cm mRstrip l [val rS m] (val rS (rstripS l m)) := fun vs F H Q k e a q => by
  obtain ⟨v, rfl, b⟩ := alla1 a
  exact ⟨mk l, mk m, rfl, by rw [show v = .str (mk m) from b.1], by rw [mk_len]; exact sz_line (sz_lim k.1), by rw [rstrip_mk]; exact q _ F H (Gr.refl e) ⟨rfl, okS_rstrip k⟩⟩
theorem m_strip : Cm mStrip l [val rS m] (val rS (stripS l m)) := fun vs F H Q k e a q => by
  obtain ⟨v, rfl, b⟩ := alla1 a
  exact ⟨mk l, mk m, rfl, by rw [show v = .str (mk m) from b.1], by rw [mk_len]; exact sz_line (sz_lim k.1), by rw [strip_mk]; exact q _ F H (Gr.refl e) ⟨rfl, okS_strip k⟩⟩
theorem m_lower : Cm mLower l [] (val rS (lowerS l)) := fun vs F H Q k e a q => by
  cases vs with
  | nil => exact ⟨mk l, rfl, rfl, by rw [mk_len]; exact Nat.le_trans k.1 (by decide), by rw [lower_mk k.2]; exact q _ F H (Gr.refl e) ⟨rfl, okS_lower k⟩⟩
  | cons v vs => exact a.elim
theorem m_split {c : Nat} (hc : c < 128) : CmN mSplit l [val rS [c]] rS (splitC c [] l) := fun vs F H Q k e a q => by
  obtain ⟨v, rfl, b⟩ := alla1 a
  refine ⟨mk l, mk [c], rfl, by rw [show v = .str (mk [c]) from b.1], rfl, ?_, fun p hp => ?_⟩
  · rw [mk_len]
    have h1 : l.length ≤ 1000000 := k.1
    exact Nat.le_trans (Nat.add_le_add_right h1 2) (by decide)
  · rw [split_mk hc]
    refine new_post e ⟨All2.of_strs _ (okS_split k), ?_⟩ q p hp
    have := splitC_len c l []
    have h1 : l.length ≤ 1000000 := k.1
    exact Nat.le_trans this (Nat.le_trans (Nat.add_le_add_right h1 1) (by decide))
theorem m_part (hm : m ≠ []) : Cm mPart l [val rS m] (val (rT3 rS rS rS) (partS l m)) := fun vs F H Q k e a q => by
  obtain ⟨v, rfl, b⟩ := alla1 a
  have b2 : v = .str (mk m) ∧ OkS m := b
  refine ⟨mk l, mk m, rfl, by rw [b2.1], ?_, by rw [mk_len]; exact sz_line (sz_lim k.1), fun p hp => ?_⟩
  · rw [mk_len]
    rw [beq_eq_false_iff_ne]
    intro z
    exact hm (List.eq_nil_of_length_eq_zero z)
  · rw [part_mk hm]
    obtain ⟨k1, k2, k3⟩ := okS_part k b2.2
    exact q _ _ _ (Gr.frz e hp) ⟨p, _, _, _, rfl, upd_same, ⟨rfl, k1⟩, ⟨rfl, k2⟩, ⟨rfl, k3⟩⟩
theorem okS_join {ps : List (List Nat)} (hs : OkS l) (h : ∀ p ∈ ps, OkS p) (e : (joinS l ps).length ≤ lim) : OkS (joinS l ps) := ⟨e, fun c z => by
  rcases joinS_mem l ps c z with h1 | ⟨p, h1, h2⟩
  · exact hs.2 c h1
  · exact (h p h1).2 c h2⟩
theorem m_join {ps : List (List Nat)} {c : List Nat} (h : joinO l ps = some c) : Cm (mJoin K) l [spn rS ps] (val rS c) := fun vs F H Q k e a q => by
  obtain ⟨h1, h2⟩ := iteo h
  subst h2
  obtain ⟨v, rfl, p, xs, ev, hp, hx⟩ := alla1 a
  subst ev
  refine ⟨mk l, p, ps.map mk, rfl, rfl, Or.inl ?_, ?_, by rw [join_mk]; exact q _ F H (Gr.refl e) ⟨rfl, okS_join k hx.all.oks h1⟩⟩
  · rw [← hx.all.strs]
    exact sq_of hp
  · have h2 := joinS_len l ps
    rw [List.map_map, List.length_map, mk_len]
    have e1 : (fun (x : Str) => x.length) ∘ mk = List.length := by
      funext z
      exact mk_len z
    rw [e1]
    have h3 : (joinS l ps).length ≤ 1000000 := h1
    have h4 : l.length ≤ 1000000 := k.1
    omega

/-! ### ways that meet -/
/-- a statement whose ways all end in J, then the rest -/
theorem sx_join {S : Type} (J : S → L2.St → Hp → Own → Prop) (s : S) (h2 : ∀ σ' F' O', Same F F' → J s σ' F' O' → Sx Z tu D σ' F' O')
    (h1 : (∀ σ' F' O', Same F F' → J s σ' F' O' → Nx Z { D with nx := tu D } σ' F' O') → Sx Z tt { D with nx := tu D } σ F O) : Sx Z (tSeq tt tu) D σ F O := h1 h2
/-! ### several targets, a def's end -/
theorem sx_asg2 {a : α} {b : β} {n k : Nat} (h : Ev te σ F O (val (rT2 R R') (a, b))) (q : ∀ v w F', Same F F' → R.rp a v F' → R'.rp b w F' → Nx Z D ((σ.set n (some v)).set k (some w)) F' O) : Sx Z (tAsg te (gTup K 2 (gCons (gName n) (gCons (gName k) gNil)))) D σ F O := fun H at0 =>
  h H at0.ok _ fun x F' H' g r => tg_2 (K := K) (a, b) x σ F' H' _ r g.fh fun σ' ⟨v, w, e, h1, h2⟩ => by
    subst e
    exact q v w F' g.f h1 h2 H' (at0.gr g)
theorem sx_asg3 {a : α} {b : β} {c : γ} {R'' : Rep γ} {n k j : Nat} (h : Ev te σ F O (val (rT3 R R' R'') (a, b, c))) (q : ∀ v w x F', Same F F' → R.rp a v F' → R'.rp b w F' → R''.rp c x F' → Nx Z D (((σ.set n (some v)).set k (some w)).set j (some x)) F' O) :
    Sx Z (tAsg te (gTup K 3 (gCons (gName n) (gCons (gName k) (gCons (gName j) gNil))))) D σ F O := fun H at0 =>
  h H at0.ok _ fun x F' H' g r => tg_3 (K := K) (a, b, c) x σ F' H' _ r g.fh fun σ' ⟨v, w, y, e, h1, h2, h3⟩ => by
    subst e
    exact q v w y F' g.f h1 h2 h3 H' (at0.gr g)
theorem rt_val {v : V} {Q : VK} {nx : L2.St → Hp → Prop} {F0 H0 : Hp} (k : ∀ v F' H', Gr F0 H0 F' H' → C.p v F' H' → Q v H') (h : ∀ H, C.p v F H) : Rt ⟨F0, H0⟩ { nx := nx, rt := Q } v F O := fun H a => k v F H a.done (h H)
theorem rt_own {p : Addr} {xs : List V} {bs : List α} {Q : VK} {nx : L2.St → Hp → Prop} {F0 H0 : Hp} (k : ∀ p xs F' H', Gr F0 H0 F' H' → H0 p = none → F' p = none → H' p = some (.lst xs) → AllB R bs xs F' → Q (.ref p) H')
    (m : (p, HO.lst xs) ∈ O) (h : AllB R bs xs F) : Rt ⟨F0, H0⟩ { nx := nx, rt := Q } (.ref p) F O := fun H a => k p xs F H a.done (a.ob _ m) (a.ok.own _ m).1 (a.ok.own _ m).2 h
/-- an owned list is frozen, wherever it stands -/
theorem At.frzI {n : Nat} {H : Hp} {p : Addr} {o : HO} (k : At Z F O H) (h : O[n]? = some (p, o)) : At Z (upd F p o) (O.eraseIdx n) H := by
  have hm := List.mem_of_getElem? h
  have hp := k.ok.own (p, o) hm
  have hn := (List.getElem?_eq_some_iff.mp h)
  have sub : ∀ q ∈ O.eraseIdx n, q ∈ O := fun q m => (List.eraseIdx_sublist O n).subset m
  have ne : ∀ q ∈ O.eraseIdx n, q.1 ≠ p := fun q m z => by
    obtain ⟨j, hj, e1⟩ := List.mem_eraseIdx_iff_getElem?.mp m
    have a1 : (O.map (·.1))[n]? = some p := by rw [List.getElem?_map, h]; rfl
    have a2 : (O.map (·.1))[j]? = some p := by rw [List.getElem?_map, e1, ← z]; rfl
    have l1 := (List.getElem?_eq_some_iff.mp a1)
    have l2 := (List.getElem?_eq_some_iff.mp a2)
    exact hj ((List.getElem_inj k.nd).mp (l2.2.trans l1.2.symm))
  refine ⟨⟨fun a u e => ?_, fun q m => ?_⟩, k.b, k.f0.trans (same_new hp.1), fun a h1 h2 => ?_, fun q m => k.ob q (sub q m), k.nd.sublist ((List.eraseIdx_sublist O n).map _)⟩
  · by_cases z : a = p
    · subst z; rw [upd_same] at e; cases e; exact hp.2
    · rw [upd_ne z] at e; exact k.ok.ex a u e
  · have h1 := k.ok.own q (sub q m)
    exact ⟨by rw [upd_ne (ne q m)]; exact h1.1, h1.2⟩
  · rw [upd_ne (fun z => h2 (by rw [z]; exact k.ob (p, o) hm))]
    exact k.sep a h1 h2
theorem sx_frzI {n : Nat} {p : Addr} {o : HO} (h : O[n]? = some (p, o)) (k : F p = none → Sx Z ts D σ (upd F p o) (O.eraseIdx n)) : Sx Z ts D σ F O := fun H a => k (a.ok.own _ (List.mem_of_getElem? h)).1 H (a.frzI h)
theorem nx_frzI {n : Nat} {p : Addr} {o : HO} (h : O[n]? = some (p, o)) (k : F p = none → Nx Z D σ (upd F p o) (O.eraseIdx n)) : Nx Z D σ F O := fun H a => k (a.ok.own _ (List.mem_of_getElem? h)).1 H (a.frzI h)
end
end Lm
/-! Lm: the text's defs. -/
namespace Lm
open PySem PySem.Spec PyProof.Rows L2
/-- a def of the text, as the top has left it -/
structure Df (K : PySem.W.Frag) (mg : Str → Option Value) (x : Str) (st : Stmt) : Prop where
  ex : ∃ f fd, FunD K x x (defArgs st) (defBody st) (defScope st) [] [] f fd ∧ mg x = some (.ref f)
/-- a def that keeps a promise, to be called by its name -/
structure Cal (P : Program) (w : World) (K : PySem.W.Frag) (mg : Str → Option Value) (base : Heap) (k : Nat) (x : Str) (ps : List Str) (sp : Sp) : Prop where
  ex : ∃ f fd, FnOk P w K mg base CX0 k f fd ps sp ∧ mg x = some (.ref f) ∧ PySem.W.keepIn K (.ref f) = true ∧ Binds K fd ps [] ∧ (∀ (s : Shared) (us : List Value), us.length = ps.length → BindsTo s fd ⟨us, []⟩ (ps.zip us)) ∧ ∃ oc od osl, K.lookup f = some ⟨oc, od, .func fd, osl⟩
section
variable {X : Cx} {k : Nat} {ps : List Str} {sp : Sp} {x : Str} {p pos : Pos} {e : Expr} {es : List Expr} {t : TA}
theorem pe_cal (c : Cal X.prog X.w X.K X.mg X.base k x ps sp) (hr : Room k X.A) (hg : Gl X x) (ha : PA X (e :: es) t) (hdb : (x == ("__debug__" : Str)) = false := by decide)
    (he : starEach (e :: es) X.env = (false, eval e X.env) :: starEach es X.env := by rfl) (hpl : (backTo pos (starEach es X.env)).any (·.1) = false := by rfl) : PE X (.Call (.Name x p) (e :: es) [] pos) (tCall sp [] E0 t) := by
  obtain ⟨f, fd, F, hm, hk, hb, _⟩ := c.ex
  exact pe_call F hr hg hm hk hb .nil pass0 ha hdb he hpl
theorem pe_cal0 (c : Cal X.prog X.w X.K X.mg X.base k x ps sp) (hr : Room k X.A) (hg : Gl X x) (hdb : (x == ("__debug__" : Str)) = false := by decide) : PE X (.Call (.Name x p) [] [] pos) (tCall sp [] E0 tNil) := by
  obtain ⟨f, fd, F, hm, hk, hb, _⟩ := c.ex
  exact pe_call0 F hr hg hm hk hb .nil pass0 hdb
end
/-- the body of a def keeps its promise -/
theorem cal_of {P : Program} {w : World} {K : PySem.W.Frag} {mg : Str → Option Value} {base : Heap} {k : Nat} {x : Str} {st : Stmt} {N ps : List Str} {sp : Sp} (D : Df K mg x st) (S : FnScope N ps (defScope st))
    (hb : ∀ (kV doc pm : Value) (an : Option Addr) (cdv ct : Value) (us : List Value), us.length = ps.length → bindArgs (PySem.W.fnOf x x (defArgs st) (defBody st) (defScope st) .none kV doc pm an cdv ct) ⟨us, []⟩ = pure (ps.zip us))
    (len : ∀ vs H Q E, sp vs H Q E → vs.length = ps.length)
    (body : ∀ (f : Addr) (cdv : Value) (A : Around) (outer : List Env) (s : Shared) (H : Hp) (vs : List V) (Q : VK) (E : XK), Room k (A.deeper (envOfC x (defScope st) s.heap.objs.size f cdv)) → sp vs H Q E →
      ∃ t, PSs (cxOf CX0 P w K mg base N x (defScope st) f cdv A outer s H E).nox (defBody st) t ∧ t { nx := fun _ H' => Q .non H', rt := Q } (start N vs) H) :
    Cal P w K mg base (k + 1) x ps sp := by
  obtain ⟨f, fd, F, hm⟩ := D.ex
  exact ⟨f, fd, F.ok S len (fun cdv A outer s H vs Q E hr h => (body f cdv A outer s H vs Q E hr h).elim fun t z => ⟨t, z.1.nox, z.2⟩), hm, F.kp, F.bindsN hb, F.bindsA hb, by
    obtain ⟨oc, od, dV, kV, doc, pm, an, cdv, ct, osl, _, lk, _, _, _⟩ := F.ex
    exact ⟨oc, od, osl, lk⟩⟩
/-- the law's own def, as the end of a head asks it -/
theorem fin_of {P : Program} {w : World} {K : PySem.W.Frag} {mg : Str → Option Value} {k : Nat} {x a : Str} {sp : Sp} {fa : Addr} (hfa : mg x = some (.ref fa)) (base0 : Heap) (c : ∀ base : Heap, Cal P w K mg base k x [a] sp) :
    ∃ fd : FuncData, (∀ (s : Shared) (v : Value), BindsTo s fd ⟨[v], []⟩ [(a, v)]) ∧ ∀ base : Heap, FnOk P w K mg base CX0 k fa fd [a] sp := by
  obtain ⟨f, fd, F, hm, hk, hb, hA, oc, od, osl, lk⟩ := (c base0).ex
  have e : fa = f := by rw [hfa] at hm; cases hm; rfl
  subst e
  refine ⟨fd, fun s v => hA s [v] rfl, fun base => ?_⟩
  obtain ⟨f2, fd2, F2, hm2, _, _, _, oc2, od2, osl2, lk2⟩ := (c base).ex
  have e2 : fa = f2 := by rw [hfa] at hm2; cases hm2; rfl
  subst e2
  rw [lk] at lk2
  cases lk2
  exact F2
end Lm
/-! Lm: data of any shape, more tests. -/
namespace Lm
open PySem PySem.Spec L2
mutual
def rpD : PyData → V → Hp → Prop
  | .none, v, _ => v = .non
  | .bool b, v, _ => v = .bl b
  | .int i, v, _ => v = .int i
  | .str x, v, _ => v = .str x ∧ OkS x.cps.toList
  | .list ds, v, F => ∃ p xs, v = .ref p ∧ F p = some (.lst xs) ∧ rpDs ds xs F ∧ ds.length ≤ limL
  | .tuple ds, v, F => ∃ p xs, v = .ref p ∧ F p = some (.tup xs) ∧ rpDs ds xs F ∧ ds.length ≤ limL
  | .dict kvs, v, F => kvs = [] ∧ ∃ p, v = .ref p ∧ F p = some (.dK [])
def rpDs : List PyData → List V → Hp → Prop
  | [], vs, _ => vs = []
  | d :: ds, vs, F => ∃ v ws, vs = v :: ws ∧ rpD d v F ∧ rpDs ds ws F
end
mutual
theorem rpD_mono {F F' : Hp} (e : Same F F') : ∀ (d : PyData) (v : V), rpD d v F → rpD d v F'
  | .none, _, h => h
  | .bool _, _, h => h
  | .int _, _, h => h
  | .str _, _, h => h
  | .list ds, _, ⟨p, xs, h1, h2, h3, h4⟩ => ⟨p, xs, h1, e _ _ h2, rpDs_mono e ds xs h3, h4⟩
  | .tuple ds, _, ⟨p, xs, h1, h2, h3, h4⟩ => ⟨p, xs, h1, e _ _ h2, rpDs_mono e ds xs h3, h4⟩
  | .dict _, _, ⟨h0, p, h1, h2⟩ => ⟨h0, p, h1, e _ _ h2⟩
theorem rpDs_mono {F F' : Hp} (e : Same F F') : ∀ (ds : List PyData) (vs : List V), rpDs ds vs F → rpDs ds vs F'
  | [], _, h => h
  | d :: ds, _, ⟨v, ws, h1, h2, h3⟩ => ⟨v, ws, h1, rpD_mono e d v h2, rpDs_mono e ds ws h3⟩
end
def rD : Rep PyData := ⟨rpD, fun e h => rpD_mono e _ _ h⟩
theorem rpDs_all {F : Hp} : ∀ {ds : List PyData} {vs : List V}, rpDs ds vs F ↔ All2 rD ds vs F
  | [], [] => by simp [rpDs, All2]
  | [], _ :: _ => by simp [rpDs, All2]
  | d :: ds, [] => by simp [rpDs, All2]
  | d :: ds, v :: vs => by
    constructor
    · rintro ⟨w, ws, e, h1, h2⟩
      cases e
      exact ⟨h1, rpDs_all.mp h2⟩
    · rintro ⟨h1, h2⟩
      exact ⟨v, vs, rfl, h1, rpDs_all.mpr h2⟩
/-- how a kind is told as data -/
structure Enc {α : Type} (R : Rep α) (f : α → PyData) : Prop where
  to : ∀ {a v F}, R.rp a v F → rpD (f a) v F
def encS (l : List Nat) : PyData := .str (mk l)
def encC (c : Nat) : PyData := .str (mk [c])
theorem okS_one {c : Nat} (h : c < 128) : OkS [c] := ⟨by show 1 ≤ lim; decide, fun d m => by rw [List.mem_singleton.mp m]; exact h⟩
theorem eI : Enc rInt PyData.int := ⟨fun h => h⟩
theorem eB : Enc rB PyData.bool := ⟨fun h => h⟩
theorem eS : Enc rS encS := ⟨fun h => h⟩
theorem eC : Enc rC encC := ⟨fun h => ⟨h.1, okS_one h.2⟩⟩
theorem eN : Enc rN (fun _ => PyData.none) := ⟨fun h => h⟩
theorem eD : Enc rD id := ⟨fun h => h⟩
section
variable {α β γ : Type} {R : Rep α} {R' : Rep β} {R'' : Rep γ} {f : α → PyData} {g : β → PyData} {k : γ → PyData}
theorem all_enc (h : Enc R f) {F : Hp} : ∀ {as : List α} {vs : List V}, All2 R as vs F → All2 rD (as.map f) vs F
  | [], [], _ => trivial
  | _ :: _, _ :: _, q => ⟨h.to q.1, all_enc h q.2⟩
  | [], _ :: _, q => q.elim
  | _ :: _, [], q => q.elim
theorem eL (h : Enc R f) : Enc (rL R) (fun as => PyData.list (as.map f)) := ⟨fun ⟨p, xs, h1, h2, h3⟩ => ⟨p, xs, h1, h2, rpDs_all.mpr (all_enc h h3.all), by rw [List.length_map]; exact h3.len⟩⟩
theorem eTL (h : Enc R f) : Enc (rTL R) (fun as => PyData.tuple (as.map f)) := ⟨fun ⟨p, xs, h1, h2, h3⟩ => ⟨p, xs, h1, h2, rpDs_all.mpr (all_enc h h3.all), by rw [List.length_map]; exact h3.len⟩⟩
theorem eT2 (h : Enc R f) (h' : Enc R' g) : Enc (rT2 R R') (fun t => PyData.tuple [f t.1, g t.2]) := ⟨fun ⟨p, x, y, h1, h2, h3, h4⟩ => ⟨p, [x, y], h1, h2, ⟨x, [y], rfl, h.to h3, y, [], rfl, h'.to h4, rfl⟩, by show 2 ≤ limL; decide⟩⟩
theorem eT3 (h : Enc R f) (h' : Enc R' g) (h'' : Enc R'' k) : Enc (rT3 R R' R'') (fun t => PyData.tuple [f t.1, g t.2.1, k t.2.2]) := ⟨fun ⟨p, x, y, z, h1, h2, h3, h4, h5⟩ => ⟨p, [x, y, z], h1, h2, ⟨x, [y, z], rfl, h.to h3, y, [z], rfl, h'.to h4, z, [], rfl, h''.to h5, rfl⟩, by show 3 ≤ limL; decide⟩⟩
def encO (f : α → PyData) : Option α → PyData
  | none => .none
  | some a => f a
theorem eO (h : Enc R f) : Enc (rO R) (encO f) := ⟨fun {o} {v} {F} q => by
  cases o with
  | none => exact q
  | some a => exact h.to q.1⟩
end

section
variable {α β γ : Type} {R : Rep α} {R' : Rep β} {f : α → PyData} {g : β → PyData} {σ : L2.St} {F F1 : Hp} {O : Own} {ta tb tc te : TE} {tt tu : TT} {A B C : Ar} {K : PySem.W.Frag} {i j : Int} {d e : PyData}
theorem ev_d {a : α} (h : Enc R f) (hv : Ev te σ F O (val R a)) : Ev te σ F O (val rD (f a)) := fun H k Q q => hv H k Q fun v F' H' g r => q v F' H' g (h.to r)
theorem ev_tupD {ta : TA} {ds : List PyData} (h : EvA ta σ F O (AllV rD ds)) (hl : ds.length ≤ limL) : Ev (tTup ta) σ F O (val rD (.tuple ds)) := fun H k Q q =>
  (ev_tupL h hl) H k Q fun v F' H' g ⟨p, xs, h1, h2, h3⟩ => q v F' H' g ⟨p, xs, h1, h2, rpDs_all.mpr h3.all, h3.len⟩
def ixD (d : PyData) (i : Int) : Option PyData := match d with
  | .tuple ds => atI ds i
  | _ => none
theorem o_ixD {c : PyData} (h : ixD d i = some c) : Op2 (rIxT K) (val rD d) (val rInt i) (val rD c) := fun v w F H Q k a b q => by
  cases d with
  | tuple ds =>
    obtain ⟨p, xs, ev, hp, hx, hl⟩ := a
    obtain ⟨y, e1, r⟩ := atI_get (rpDs_all.mp hx) h
    exact ⟨p, xs, i, y, ev, b, st_of (k _ _ hp), e1, q y F H (Gr.refl k) r⟩
  | _ => cases h
/-- data known to be a text, an int -/
def asS : PyData → Option (List Nat)
  | .str x => some x.cps.toList
  | _ => none
def asI : PyData → Option Int
  | .int i => some i
  | _ => none
theorem ev_asS {l : List Nat} (h : asS d = some l) (hv : Ev te σ F O (val rD d)) : Ev te σ F O (val rS l) := fun H k Q q => hv H k Q fun v F' H' g r => q v F' H' g (by
  cases d with
  | str x =>
    have h2 : x.cps.toList = l := Option.some.inj h
    subst h2
    exact ⟨by rw [r.1], r.2⟩
  | _ => cases h)
theorem ev_asI (h : asI d = some i) (hv : Ev te σ F O (val rD d)) : Ev te σ F O (val rInt i) := fun H k Q q => hv H k Q fun v F' H' g r => q v F' H' g (by
  cases d with
  | int x =>
    have h2 : x = i := Option.some.inj h
    subst h2
    exact r
  | _ => cases h)
def isND : PyData → Bool
  | .none => true
  | _ => false
theorem nonD {v : V} {F : Hp} (h : rpD d v F) : decide (v = .non) = isND d := by
  cases d with
  | none => exact decide_eq_true h
  | bool b => have e : v = .bl b := h; subst e; rfl
  | int b => have e : v = .int b := h; subst e; rfl
  | str x => rw [h.1]; rfl
  | list ds => obtain ⟨p, xs, h1, _⟩ := h; rw [h1]; rfl
  | tuple ds => obtain ⟨p, xs, h1, _⟩ := h; rw [h1]; rfl
  | dict ds => obtain ⟨_, p, h1, _⟩ := h; rw [h1]; rfl
theorem o_isD : Op2 xIsN (val rD d) (val rN ()) (val rB (isND d)) := op_sc flB fun v w _ _ Q _ a b q => ⟨b, by rw [nonD a]; exact q⟩
theorem o_notD : Op2 xNotN (val rD d) (val rN ()) (val rB (!isND d)) := op_sc flB fun v w _ _ Q _ a b q => ⟨b, by rw [nonD a]; exact q⟩
/- == of data -/
mutual
theorem rpD_Dp {F H : Hp} (e : Same F H) : ∀ (d : PyData) (v : V), d.canLay0 = true → rpD d v F → Dp K H v d
  | .none, _, _, h => by have h2 : _ = V.non := h; subst h2; exact .non
  | .bool b, _, _, h => by have h2 : _ = V.bl b := h; subst h2; exact .bl b
  | .int b, _, _, h => by have h2 : _ = V.int b := h; subst h2; exact .int b
  | .str x, _, _, h => by rw [h.1]; exact .str x
  | .list ds, _, c, ⟨p, xs, h1, h2, h3, h4⟩ => by rw [h1]; exact .lst (sq_of (e _ _ h2)) (rpD_DpAll e ds xs c h3)
  | .tuple ds, _, c, ⟨p, xs, h1, h2, h3, h4⟩ => by rw [h1]; exact .tup (st_of (e _ _ h2)) (rpD_DpAll e ds xs c h3)
  | .dict _, _, c, _ => by cases c
theorem rpD_DpAll {F H : Hp} (e : Same F H) : ∀ (ds : List PyData) (vs : List V), PyData.canLayAll0 ds = true → rpDs ds vs F → DpAll K H vs ds
  | [], _, _, h => by have h2 : _ = [] := h; subst h2; exact .nil
  | d :: ds, _, c, ⟨v, ws, h1, h2, h3⟩ => by
    subst h1
    have c2 : (d.canLay0 && PyData.canLayAll0 ds) = true := c
    rw [Bool.and_eq_true] at c2
    exact .cons (rpD_Dp e d v c2.1 h2) (rpD_DpAll e ds ws c2.2 h3)
end
/-- data on one side of == : a value, a list's spine -/
structure Dt (K : PySem.W.Frag) (A : Ar) (d : PyData) : Prop where
  dp : ∀ {v F H}, Same F H → A.p v F H → Dp K H v d
  sh : SeqAt.shaped d = true
theorem dt_v {a : α} (h : Enc R f) (s : SeqAt.shaped (f a) = true) : Dt K (val R a) (f a) := ⟨fun e r => rpD_Dp e _ _ (SeqAt.canLay_of_shaped s) (h.to r), s⟩
theorem dt_l {as : List α} (h : Enc R f) (s : SeqAt.shaped (.list (as.map f)) = true) : Dt K (spn R as) (.list (as.map f)) := ⟨fun e ⟨p, xs, h1, h2, h3⟩ => by
  rw [h1]
  exact .lst (sq_of h2) (rpD_DpAll e _ _ (SeqAt.canLay_of_shaped s) (rpDs_all.mpr (all_enc h h3.all))), s⟩
theorem o_eqD (h1 : Dt K A d) (h2 : Dt K B e) : Op2 (rEqD K) A B (val rB (PyData.eqv d e)) := op_sc flB fun v w F H Q s a b q => ⟨d, e, h1.dp s a, h2.dp s b, h1.sh, h2.sh, q⟩
theorem o_neD (h1 : Dt K A d) (h2 : Dt K B e) : Op2 (rNeD K) A B (val rB (!PyData.eqv d e)) := op_sc flB fun v w F H Q s a b q => ⟨d, e, h1.dp s a, h2.dp s b, h1.sh, h2.sh, q⟩
def eqO (d e : PyData) : Option Bool := if SeqAt.shaped d = true ∧ SeqAt.shaped e = true then some (PyData.eqv d e) else none
theorem eqO_e {b : Bool} (h : eqO d e = some b) : SeqAt.shaped d = true ∧ SeqAt.shaped e = true ∧ PyData.eqv d e = b := by
  obtain ⟨h1, h2⟩ := iteo h
  exact ⟨h1.1, h1.2, h2⟩

/-! ### tests in short -/
theorem et_is {a b : Bool} (h : EvT tt σ F O a) (e : a = b) : EvT tt σ F O b := e ▸ h
theorem et_andP {a b : Bool} (h1 : EvT tt σ F O a) (h2 : a = true → EvT tu σ F O b) : EvT (tAnd tt tu) σ F O (a && b) := et_and h1 (fun e => by rw [e, Bool.true_and]; exact h2 e) (fun e => by rw [e, Bool.false_and])
theorem et_orP {a b : Bool} (h1 : EvT tt σ F O a) (h2 : a = false → EvT tu σ F O b) : EvT (tOr tt tu) σ F O (a || b) := et_or h1 (fun e => by rw [e, Bool.false_or]; exact h2 e) (fun e => by rw [e, Bool.true_or])
theorem ev_andP {a b : Bool} (h1 : Ev ta σ F O (val rB a)) (h2 : a = true → Ev tb σ F O (val rB b)) : Ev (tAndV ta tb) σ F O (val rB (a && b)) := ev_and h1 (fun e => by rw [e, Bool.true_and]; exact h2 e) (fun e => by rw [e, Bool.false_and])
theorem ev_orP {a b : Bool} (h1 : Ev ta σ F O (val rB a)) (h2 : a = false → Ev tb σ F O (val rB b)) : Ev (tOrV ta tb) σ F O (val rB (a || b)) := ev_or h1 (fun e => by rw [e, Bool.false_or]; exact h2 e) (fun e => by rw [e, Bool.true_or])
theorem ev_ifP {c : Bool} {a b : α} (h : EvT tt σ F O c) (h1 : c = true → Ev ta σ F O (val R a)) (h2 : c = false → Ev tb σ F O (val R b)) : Ev (tIf tt ta tb) σ F O (val R (bif c then a else b)) := ev_if h (fun e => by rw [e]; exact h1 e) (fun e => by rw [e]; exact h2 e)
theorem ev_chainP {r r' : R2} {b1 b2 : Bool} (ha : Ev ta σ F O A) (hb : Ev tb σ F O B) (ho : Op2 r A B (val rB b1)) (hc : Ev tc σ F O C) (ho2 : Op2 r' B C (val rB b2)) : Ev (tChain r r' ta tb tc) σ F O (val rB (b1 && b2)) :=
  ev_chain ha hb ho (fun _ => hc) (fun e => by rw [e, Bool.true_and]; exact ho2) (fun e => by rw [e, Bool.false_and])
def uNeg : V → Hp → VK → Prop := rU fun i => .int (-i)
theorem un_uNeg {X : Cx} : UnR X (unaryOp .USub) uNeg := un_neg
theorem ev_neg (h : Ev te σ F O (val rInt i)) : Ev (tUn uNeg te) σ F O (val rInt (-i)) := fun H k Q q => h H k _ fun v F' H' g a => ⟨i, a, q _ F' H' g rfl⟩
end
end Lm
/-! Lm: odds and ends. -/
namespace Lm
open PySem PySem.Spec L2
section
variable {α β γ : Type} {R : Rep α} {R' : Rep β} {σ : L2.St} {F F1 : Hp} {O : Own} {ta tb tc te : TE} {tt tu : TT} {A B C : Ar} {K : PySem.W.Frag} {i j : Int} {d e : PyData}
theorem ev_isN {as bs : List α} (h : EvN te σ F O R as) (e : as = bs) : EvN te σ F O R bs := e ▸ h
theorem alla0 {F H : Hp} {vs : List V} (h : AllA [] vs F H) : vs = [] := by
  cases vs with
  | nil => rfl
  | cons v vs => exact h.elim
theorem alla4 {F H : Hp} {vs : List V} {A B C E : Ar} (h : AllA [A, B, C, E] vs F H) : ∃ v w x y, vs = [v, w, x, y] ∧ A.p v F H ∧ B.p w F H ∧ C.p x F H ∧ E.p y F H := by
  match vs, h with
  | [v, w, x, y], h => exact ⟨v, w, x, y, rfl, h.1, h.2.1, h.2.2.1, h.2.2.2.1⟩
theorem alla5 {F H : Hp} {vs : List V} {A B C E G : Ar} (h : AllA [A, B, C, E, G] vs F H) : ∃ v w x y z, vs = [v, w, x, y, z] ∧ A.p v F H ∧ B.p w F H ∧ C.p x F H ∧ E.p y F H ∧ G.p z F H := by
  match vs, h with
  | [v, w, x, y, z], h => exact ⟨v, w, x, y, z, rfl, h.1, h.2.1, h.2.2.1, h.2.2.2.1, h.2.2.2.2.1⟩
theorem o_ixT20 {a : α} {b : β} : Op2 (rIxT K) (val (rT2 R R') (a, b)) (val rInt 0) (val R a) := o_ixA
theorem o_ixT21 {a : α} {b : β} : Op2 (rIxT K) (val (rT2 R R') (a, b)) (val rInt 1) (val R' b) := o_ixB
/-! ### isinstance of a built-in class -/
def HasTy (K : PySem.W.Frag) (A : Ar) (T : String) : Prop := ∀ {v F H}, Same F H → A.p v F H → TyOf K H v (.type T)
theorem ev_ty {T : String} : Ev (tC (.ty T)) σ F O (val (rV (.ty T)) ()) := ev_c fun _ => rfl
theorem b_isi {T U : String} {b : Bool} (h : HasTy K A T) (hb : kitB T U = some b) : Cb (rIsi K) [A, val (rV (.ty U)) ()] (val rB b) := cb_sc flB fun vs F H Q e a q => by
  obtain ⟨v, w, rfl, h1, h2⟩ := alla2 a
  have h3 : w = .ty U := h2
  subst h3
  exact ⟨v, .ty U, .type T, .type U, b, rfl, .ty U, .base (h e h1), kit_ty hb, q⟩
theorem tI {a : Int} : HasTy K (val rInt a) "int" := fun _ h => by
  have h2 : _ = V.int a := h
  subst h2; exact .int a
theorem tyB {a : Bool} : HasTy K (val rB a) "bool" := fun _ h => by
  have h2 : _ = V.bl a := h
  subst h2; exact .bl a
theorem tS {a : List Nat} : HasTy K (val rS a) "str" := fun _ h => by
  rw [show _ = V.str (mk a) from h.1]; exact .str _
theorem tyN {a : Unit} : HasTy K (val rN a) "NoneType" := fun _ h => by
  have h2 : _ = V.non := h
  subst h2; exact .non
theorem tL {as : List α} : HasTy K (val (rL R) as) "list" := fun e ⟨p, xs, h1, h2, _⟩ => by
  subst h1; exact .lst (e _ _ h2)
theorem tP {as : List α} : HasTy K (spn R as) "list" := fun e ⟨p, xs, h1, h2, _⟩ => by
  subst h1; exact .lst h2
theorem tT2 {t : α × β} : HasTy K (val (rT2 R R') t) "tuple" := fun e ⟨p, x, y, h1, h2, _⟩ => by
  subst h1; exact .tup (e _ _ h2)
def tyD : PyData → String
  | .none => "NoneType"
  | .bool _ => "bool"
  | .int _ => "int"
  | .str _ => "str"
  | .list _ => "list"
  | .tuple _ => "tuple"
  | .dict _ => "dict"
theorem tD : HasTy K (val rD d) (tyD d) := fun {v} {F} {H} e h => by
  cases d with
  | none => have h2 : v = V.non := h; subst h2; exact .non
  | bool b => have h2 : v = V.bl b := h; subst h2; exact .bl b
  | int b => have h2 : v = V.int b := h; subst h2; exact .int b
  | str x => rw [show v = V.str x from h.1]; exact .str _
  | list ds => obtain ⟨p, xs, h1, h2, _⟩ := h; subst h1; exact .lst (e _ _ h2)
  | tuple ds => obtain ⟨p, xs, h1, h2, _⟩ := h; subst h1; exact .tup (e _ _ h2)
  | dict ds => obtain ⟨_, p, h1, h2⟩ := h; subst h1; exact .dK (e _ _ h2)
def isStrD : PyData → Bool
  | .str _ => true
  | _ => false
def isIntD : PyData → Bool
  | .int _ => true
  | .bool _ => true
  | _ => false
def isBoolD : PyData → Bool
  | .bool _ => true
  | _ => false
def isListD : PyData → Bool
  | .list _ => true
  | _ => false
def isTupD : PyData → Bool
  | .tuple _ => true
  | _ => false
theorem k_str : kitB (tyD d) "str" = some (isStrD d) := by
  cases d with
  | none => exact (by decide +kernel : kitB "NoneType" "str" = some false)
  | bool _ => exact (by decide +kernel : kitB "bool" "str" = some false)
  | int _ => exact (by decide +kernel : kitB "int" "str" = some false)
  | str _ => exact (by decide +kernel : kitB "str" "str" = some true)
  | list _ => exact (by decide +kernel : kitB "list" "str" = some false)
  | tuple _ => exact (by decide +kernel : kitB "tuple" "str" = some false)
  | dict _ => exact (by decide +kernel : kitB "dict" "str" = some false)
theorem k_int : kitB (tyD d) "int" = some (isIntD d) := by
  cases d with
  | none => exact (by decide +kernel : kitB "NoneType" "int" = some false)
  | bool _ => exact (by decide +kernel : kitB "bool" "int" = some true)
  | int _ => exact (by decide +kernel : kitB "int" "int" = some true)
  | str _ => exact (by decide +kernel : kitB "str" "int" = some false)
  | list _ => exact (by decide +kernel : kitB "list" "int" = some false)
  | tuple _ => exact (by decide +kernel : kitB "tuple" "int" = some false)
  | dict _ => exact (by decide +kernel : kitB "dict" "int" = some false)
theorem k_bool : kitB (tyD d) "bool" = some (isBoolD d) := by
  cases d with
  | none => exact (by decide +kernel : kitB "NoneType" "bool" = some false)
  | bool _ => exact (by decide +kernel : kitB "bool" "bool" = some true)
  | int _ => exact (by decide +kernel : kitB "int" "bool" = some false)
  | str _ => exact (by decide +kernel : kitB "str" "bool" = some false)
  | list _ => exact (by decide +kernel : kitB "list" "bool" = some false)
  | tuple _ => exact (by decide +kernel : kitB "tuple" "bool" = some false)
  | dict _ => exact (by decide +kernel : kitB "dict" "bool" = some false)
theorem k_list : kitB (tyD d) "list" = some (isListD d) := by
  cases d with
  | none => exact (by decide +kernel : kitB "NoneType" "list" = some false)
  | bool _ => exact (by decide +kernel : kitB "bool" "list" = some false)
  | int _ => exact (by decide +kernel : kitB "int" "list" = some false)
  | str _ => exact (by decide +kernel : kitB "str" "list" = some false)
  | list _ => exact (by decide +kernel : kitB "list" "list" = some true)
  | tuple _ => exact (by decide +kernel : kitB "tuple" "list" = some false)
  | dict _ => exact (by decide +kernel : kitB "dict" "list" = some false)
theorem k_tup : kitB (tyD d) "tuple" = some (isTupD d) := by
  cases d with
  | none => exact (by decide +kernel : kitB "NoneType" "tuple" = some false)
  | bool _ => exact (by decide +kernel : kitB "bool" "tuple" = some false)
  | int _ => exact (by decide +kernel : kitB "int" "tuple" = some false)
  | str _ => exact (by decide +kernel : kitB "str" "tuple" = some false)
  | list _ => exact (by decide +kernel : kitB "list" "tuple" = some false)
  | tuple _ => exact (by decide +kernel : kitB "tuple" "tuple" = some true)
  | dict _ => exact (by decide +kernel : kitB "dict" "tuple" = some false)
/-! ### an item of a tuple of texts, a slice of a data tuple -/
theorem inv_str {x : List Nat} : ∀ xs : List (List Nat), inV (V.str (mk x)) ((xs.map mk).map V.str) = decide (x ∈ xs)
  | [] => rfl
  | y :: ys => by
    have e : inV (V.str (mk x)) (((y :: ys).map mk).map V.str) = (eqV (V.str (mk y)) (V.str (mk x)) || inV (V.str (mk x)) ((ys.map mk).map V.str)) := rfl
    rw [e, inv_str ys]
    have e2 : eqV (V.str (mk y)) (V.str (mk x)) = decide (x = y) := by
      show decide (mk y = mk x) = decide (x = y)
      by_cases h : x = y
      · subst h; simp
      · rw [decide_eq_false h, decide_eq_false (fun z => h (mk_inj z).symm)]
    rw [e2, Bool.eq_iff_iff, Bool.or_eq_true]
    simp only [decide_eq_true_eq, List.mem_cons]
theorem flat_strs : ∀ xs : List Str, (xs.map V.str).all flatV = true
  | [] => rfl
  | x :: xs => by rw [List.map_cons, List.all_cons, flat_strs xs]; rfl
theorem o_inTS {x : List Nat} {xs : List (List Nat)} : Op2 (rIn K false) (val rS x) (val (rTL rS) xs) (val rB (decide (x ∈ xs))) := op_sc flB fun v w F H Q e a b q => by
  obtain ⟨p, ys, h1, h2, h3⟩ := b
  refine ⟨p, ys, h1, Or.inr (st_of (e _ _ h2)), by rw [a.1]; rfl, by rw [h3.all.strs]; exact flat_strs _, ?_⟩
  show Q (.bl (inV v ys)) H
  rw [h3.all.strs, a.1, inv_str]
  exact q
theorem o_ninTS {x : List Nat} {xs : List (List Nat)} : Op2 (rIn K true) (val rS x) (val (rTL rS) xs) (val rB (!decide (x ∈ xs))) := op_sc flB fun v w F H Q e a b q => by
  obtain ⟨p, ys, h1, h2, h3⟩ := b
  refine ⟨p, ys, h1, Or.inr (st_of (e _ _ h2)), by rw [a.1]; rfl, by rw [h3.all.strs]; exact flat_strs _, ?_⟩
  show Q (.bl (!inV v ys)) H
  rw [h3.all.strs, a.1, inv_str]
  exact q
end
end Lm
/-! Lm: expressions that change an owned cell (the tape). -/
namespace Lm
open PySem PySem.Spec L2
/-- a tape that stands at k -/
abbrev tp (k : Int) : HO := .lst [.int k]
/-- growth but at p -/
structure GrT (p : Addr) (F H F' H' : Hp) : Prop where
  f : Same F F'
  h : ∀ a o, a ≠ p → H a = some o → H' a = some o
  fh : Same F' H'
  nw : ∀ a, F a = none → H a ≠ none → F' a = none
section
variable {Z : Bs} {F H F' H' : Hp} {O : Own} {p : Addr} {o o' : HO}
/-- all of H but p -/
def but (p : Addr) (H : Hp) : Hp := fun a => if a = p then none else H a
theorem but_same : Same (but p H) H := fun a u e => by
  unfold but at e
  by_cases z : a = p
  · rw [if_pos z] at e; cases e
  · rw [if_neg z] at e; exact e
theorem At.startT (e : Same F H) (hf : F p = none) (hh : H p = some o) : At ⟨F, but p H⟩ F [(p, o)] H := by
  refine ⟨⟨e, fun q m => ?_⟩, but_same, Same.refl _, fun _ h _ => h, fun q m => ?_, ?_⟩
  · rw [List.mem_singleton.mp m]; exact ⟨hf, hh⟩
  · rw [List.mem_singleton.mp m]; exact if_pos rfl
  · show [p].Nodup
    simp
theorem At.doneT (k : At ⟨F, but p H⟩ F' O H') (m : (p, o') ∈ O) : GrT p F H F' H' ∧ H' p = some o' := by
  have hp := k.ok.own _ m
  refine ⟨⟨k.f0, fun a o ne h => k.b a o (by show but p H a = _; unfold but; rw [if_neg ne]; exact h), k.ok.ex, fun a h1 h2 => ?_⟩, hp.2⟩
  by_cases z : a = p
  · subst z; exact hp.1
  · exact k.sep a h1 (by show but p H a ≠ none; unfold but; rw [if_neg z]; exact h2)
theorem set_keys {n : Nat} (h : O[n]? = some (p, o)) : (O.set n (p, o')).map (·.1) = O.map (·.1) := by
  rw [List.map_set]
  apply List.ext_getElem?
  intro i
  rw [List.getElem?_set]
  split
  · next e =>
    subst e
    rw [List.length_map]
    have hn := (List.getElem?_eq_some_iff.mp h).1
    rw [if_pos hn, List.getElem?_map, h]
    rfl
  · rfl
theorem At.grT {n : Nat} (k : At Z F O H) (g : GrT p F H F' H') (h : O[n]? = some (p, o)) (hx : H' p = some o') : At Z F' (O.set n (p, o')) H' := by
  have hp := k.ok.own (p, o) (List.mem_of_getElem? h)
  have em : (O.set n (p, o')).map (·.1) = O.map (·.1) := set_keys h
  have pne : p ∈ O.map (·.1) := List.mem_map.mpr ⟨_, List.mem_of_getElem? h, rfl⟩
  have hF' : F' p = none := g.nw p hp.1 (by rw [hp.2]; exact fun z => by cases z)
  refine ⟨⟨g.fh, fun q m => ?_⟩, fun a u e => ?_, k.f0.trans g.f, fun a h1 h2 => ?_, fun q m => ?_, by rw [em]; exact k.nd⟩
  · obtain ⟨i, hi⟩ := List.getElem?_of_mem m
    rw [List.getElem?_set] at hi
    by_cases e : n = i
    · rw [if_pos e] at hi
      split at hi
      · cases hi
        exact ⟨hF', hx⟩
      · cases hi
    · rw [if_neg e] at hi
      have h1 := k.ok.own q (List.mem_of_getElem? hi)
      have ne : q.1 ≠ p := fun z => by
        have a1 : (O.map (·.1))[n]? = some p := by rw [List.getElem?_map, h]; rfl
        have a2 : (O.map (·.1))[i]? = some p := by rw [List.getElem?_map, hi, ← z]; rfl
        have l1 := (List.getElem?_eq_some_iff.mp a1)
        have l2 := (List.getElem?_eq_some_iff.mp a2)
        exact e ((List.getElem_inj k.nd).mp (l1.2.trans l2.2.symm))
      exact ⟨g.nw _ h1.1 (by rw [h1.2]; exact fun z => by cases z), g.h _ _ ne h1.2⟩
  · refine g.h a u (fun z => ?_) (k.b a u e)
    subst z
    rw [k.ob _ (List.mem_of_getElem? h)] at e
    cases e
  · exact g.nw a (k.sep a h1 h2) (by
      cases e : Z.B a with
      | none => exact absurd e h2
      | some u => rw [k.b a u e]; exact fun z => by cases z)
  · obtain ⟨u, e⟩ : ∃ u, u ∈ O ∧ u.1 = q.1 := by
      have : q.1 ∈ (O.set n (p, o')).map (·.1) := List.mem_map.mpr ⟨q, m, rfl⟩
      rw [em] at this
      obtain ⟨u, a, b⟩ := List.mem_map.mp this
      exact ⟨u, a, b⟩
    rw [← e.2]
    exact k.ob u e.1
/-- an owned object stands for a while among what must not change -/
def Bs.hide (Z : Bs) (p : Addr) (o : HO) : Bs := ⟨Z.F0, upd Z.B p o⟩
theorem At.hide (k : At Z F ((p, o) :: O) H) : At (Z.hide p o) F O H := by
  have hp := k.ok.own (p, o) (List.mem_cons_self ..)
  have nd := List.nodup_cons.mp (show ((p, o) :: O |>.map (·.1)).Nodup from k.nd)
  refine ⟨⟨k.ok.ex, fun q m => k.ok.own q (List.mem_cons_of_mem _ m)⟩, fun a u e => ?_, k.f0, fun a h1 h2 => ?_, fun q m => ?_, nd.2⟩
  · have e' : upd Z.B p o a = some u := e
    by_cases z : a = p
    · subst z; rw [upd_same] at e'; cases e'; exact hp.2
    · rw [upd_ne z] at e'; exact k.b a u e'
  · have h2' : upd Z.B p o a ≠ none := h2
    by_cases z : a = p
    · subst z; exact hp.1
    · rw [upd_ne z] at h2'; exact k.sep a h1 h2'
  · show upd Z.B p o q.1 = none
    rw [upd_ne (fun z => nd.1 (List.mem_map.mpr ⟨q, m, z⟩))]
    exact k.ob q (List.mem_cons_of_mem _ m)
theorem At.show (k : At (Z.hide p o) F O H) (hf : Z.F0 p = none) (hb : Z.B p = none) : At Z F ((p, o) :: O) H := by
  have bp : (Z.hide p o).B p = some o := upd_same
  refine ⟨⟨k.ok.ex, fun q m => ?_⟩, fun a u e => k.b a u (by
      show upd Z.B p o a = some u
      rw [upd_ne (ne_of_none e hb)]; exact e), k.f0, fun a h1 h2 => k.sep a h1 (by
      show upd Z.B p o a ≠ none
      by_cases z : a = p
      · subst z; exact absurd hb h2
      · rw [upd_ne z]; exact h2), fun q m => ?_, ?_⟩
  · rcases List.mem_cons.mp m with e | m
    · subst e
      exact ⟨k.sep p hf (by rw [bp]; exact fun z => by cases z), k.b p o bp⟩
    · exact k.ok.own q m
  · rcases List.mem_cons.mp m with e | m
    · subst e; exact hb
    · have h1 : upd Z.B p o q.1 = none := k.ob q m
      by_cases z : q.1 = p
      · rw [z, upd_same] at h1; cases h1
      · rw [upd_ne z] at h1; exact h1
  · rw [List.map_cons, List.nodup_cons]
    refine ⟨fun m => ?_, k.nd⟩
    obtain ⟨q, m, e⟩ := List.mem_map.mp m
    have h1 := k.ob q m
    rw [e, bp] at h1
    cases h1
end

/-! ### judgements -/
def EvM (Z : Bs) (te : TE) (σ : L2.St) (F : Hp) (O O' : Own) (A : Ar) : Prop := ∀ F1 H, Same F F1 → At Z F1 O H → ∀ Q : VK, (∀ v F2 H2, Same F1 F2 → At Z F2 O' H2 → A.p v F2 H2 → Q v H2) → te σ H Q
def EvMN {α : Type} (Z : Bs) (te : TE) (σ : L2.St) (F : Hp) (O O' : Own) (R : Rep α) (as : List α) : Prop := ∀ F1 H, Same F F1 → At Z F1 O H → ∀ Q : VK,
  (∀ p xs F2 H2, Same F1 F2 → At Z F2 ((p, .lst xs) :: O') H2 → AllB R as xs F2 → Q (.ref p) H2) → te σ H Q
def EvTM (Z : Bs) (tt : TT) (σ : L2.St) (F : Hp) (O O' : Own) (b : Bool) : Prop := ∀ F1 H, Same F F1 → At Z F1 O H → ∀ Q : Bool → Hp → Prop, (∀ F2 H2, Same F1 F2 → At Z F2 O' H2 → Q b H2) → tt σ H Q
def EvAM (Z : Bs) (ta : TA) (σ : L2.St) (F : Hp) (O O' : Own) (as : List Ar) : Prop := ∀ F1 H, Same F F1 → At Z F1 O H → ∀ Q : List V → Hp → Prop, (∀ vs F2 H2, Same F1 F2 → At Z F2 O' H2 → AllA as vs F2 H2 → Q vs H2) → ta σ H Q
def EvIM {α : Type} (Z : Bs) (wi : TI) (σ : L2.St) (F : Hp) (O O' : Own) (R : Rep α) (as : List α) : Prop := ∀ F1 H, Same F F1 → At Z F1 O H → ∀ Q : It → Hp → Prop, (∀ J F2 H2, Same F1 F2 → At Z F2 O' H2 → Wk J F2 R as → Q J H2) → wi σ H Q
section
variable {α β γ ρ S : Type} {R : Rep α} {R' : Rep β} {Z : Bs} {D : Ends} {σ : L2.St} {F F1 : Hp} {O O1 O2 O' : Own} {te ta tb tc to : TE} {tt tu : TT} {t u : TS} {ts : TA} {A B C : Ar} {K : PySem.W.Frag} {i j : Nat} {p : Addr} {o : HO} {k : Int}
theorem EvI.mono {wi : TI} {as : List α} (h : EvI wi σ F O R as) (e : Same F F1) : EvI wi σ F1 O R as := fun H k Q q =>
  h H (k.less e) Q fun J F' H' g w => q J (un F1 F') H' (gr_un e k.ex g) ⟨w.1, fun i F2 H2 s1 s2 => w.2 i F2 H2 ((un_r (k.ex.trans g.h) g.fh).trans s1) s2⟩
theorem evM_l (h : Ev te σ F O A) : EvM Z te σ F O O A := fun F1 H e at0 Q q => (h.mono e) H at0.ok Q fun v F2 H2 g a => q v F2 H2 g.f (at0.gr g) a
theorem evMN_l {as : List α} (h : EvN te σ F O R as) : EvMN Z te σ F O O R as := fun F1 H e at0 Q q => (h.mono e) H at0.ok Q fun p xs F2 H2 g n f x r => q p xs F2 H2 g.f (at0.new g n f x) r
theorem etM_l {b : Bool} (h : EvT tt σ F O b) : EvTM Z tt σ F O O b := fun F1 H e at0 Q q => (h.mono e) H at0.ok Q fun F2 H2 g => q F2 H2 g.f (at0.gr g)
theorem eaM_l {as : List Ar} (h : EvA ts σ F O as) : EvAM Z ts σ F O O as := fun F1 H e at0 Q q => (h.mono e) H at0.ok Q fun v F2 H2 g a => q v F2 H2 g.f (at0.gr g) a
theorem eiM_l {wi : TI} {as : List α} (h : EvI wi σ F O R as) : EvIM Z wi σ F O O R as := fun F1 H e at0 Q q => (h.mono e) H at0.ok Q fun J F2 H2 g w => q J F2 H2 g.f (at0.gr g) w
theorem evM_frz {as : List α} (h : EvMN Z te σ F O O' R as) : EvM Z te σ F O O' (val (rL R) as) := fun F1 H e at0 Q q => h F1 H e at0 Q fun p xs F2 H2 e2 at2 r => by
  have hp := at2.ok.own _ (List.mem_cons_self ..)
  exact q _ (upd F2 p (.lst xs)) H2 (e2.trans (same_new hp.1)) at2.frz ⟨p, xs, rfl, upd_same, r.mono (same_new hp.1)⟩
theorem evM_nspn {as : List α} (h : EvMN Z te σ F O O' R as) : EvM Z te σ F O O' (spn R as) := fun F1 H e at0 Q q => h F1 H e at0 Q fun p xs F2 H2 e2 at2 r => by
  have hp := at2.ok.own _ (List.mem_cons_self ..)
  exact q _ F2 H2 e2 at2.drop ⟨p, xs, rfl, hp.2, r⟩
theorem evM_spn {as : List α} (h : EvM Z te σ F O O' (val (rL R) as)) : EvM Z te σ F O O' (spn R as) := fun F1 H e at0 Q q => h F1 H e at0 Q fun v F2 H2 e2 at2 ⟨p, xs, h1, h2, h3⟩ => q v F2 H2 e2 at2 ⟨p, xs, h1, at2.ok.ex _ _ h2, h3⟩
theorem evM_is {a b : α} (h : EvM Z te σ F O O' (val R a)) (e : a = b) : EvM Z te σ F O O' (val R b) := e ▸ h
theorem evMN_is {as bs : List α} (h : EvMN Z te σ F O O' R as) (e : as = bs) : EvMN Z te σ F O O' R bs := e ▸ h
theorem etM_is {a b : Bool} (h : EvTM Z tt σ F O O' a) (e : a = b) : EvTM Z tt σ F O O' b := e ▸ h

/-! ### operators, arguments -/
theorem evM_op {r : R2} {a : α} (ha : EvM Z ta σ F O O1 (val R a)) (hb : EvM Z tb σ F O1 O2 B) (ho : Op2 r (val R a) B C) : EvM Z (tOp r ta tb) σ F O O2 C := fun F1 H e at0 Q q =>
  ha F1 H e at0 _ fun v F2 H2 e2 at2 a => hb F2 H2 (e.trans e2) at2 _ fun w F3 H3 e3 at3 b => ho v w F3 H3 Q at3.ok.ex (R.mono e3 a) b fun u F4 H4 g c => q u F4 H4 ((e2.trans e3).trans g.f) (at3.gr g) c
/-- the second has no effect -/
theorem evM_op1 {r : R2} (ha : EvM Z ta σ F O O1 A) (hb : Ev tb σ F O1 B) (ho : Op2 r A B C) : EvM Z (tOp r ta tb) σ F O O1 C := fun F1 H e at0 Q q =>
  ha F1 H e at0 _ fun v F2 H2 e2 at2 a => (hb.mono (e.trans e2)) H2 at2.ok _ fun w F3 H3 g b => ho v w F3 H3 Q g.fh (A.mono g.f g.h a) b fun u F4 H4 g4 c => q u F4 H4 (e2.trans (g.trans g4).f) (at2.gr (g.trans g4)) c
theorem evM_opN {r : R2} {a : α} {as : List β} (ha : EvM Z ta σ F O O1 (val R a)) (hb : EvM Z tb σ F O1 O2 B) (ho : Op2N r (val R a) B R' as) : EvMN Z (tOp r ta tb) σ F O O2 R' as := fun F1 H e at0 Q q =>
  ha F1 H e at0 _ fun v F2 H2 e2 at2 a => hb F2 H2 (e.trans e2) at2 _ fun w F3 H3 e3 at3 b => ho v w F3 H3 Q at3.ok.ex (R.mono e3 a) b fun p xs F4 H4 g n f x r => q p xs F4 H4 ((e2.trans e3).trans g.f) (at3.new g n f x) r
theorem evM_opN1 {r : R2} {as : List β} (ha : EvM Z ta σ F O O1 A) (hb : Ev tb σ F O1 B) (ho : Op2N r A B R' as) : EvMN Z (tOp r ta tb) σ F O O1 R' as := fun F1 H e at0 Q q =>
  ha F1 H e at0 _ fun v F2 H2 e2 at2 a => (hb.mono (e.trans e2)) H2 at2.ok _ fun w F3 H3 g b => ho v w F3 H3 Q g.fh (A.mono g.f g.h a) b fun p xs F4 H4 g4 n f x r => q p xs F4 H4 (e2.trans (g.trans g4).f) (at2.new (g.trans g4) (gr_none g n) f x) r
/-- an operator on a spine takes a frozen list -/
theorem op_l {r : R2} {as : List α} (h : Op2 r (spn R as) B C) : Op2 r (val (rL R) as) B C := fun v w F H Q e ⟨p, xs, h1, h2, h3⟩ b q => h v w F H Q e ⟨p, xs, h1, e _ _ h2, h3⟩ b q
theorem opN_l {r : R2} {as : List α} {bs : List β} (h : Op2N r (spn R as) B R' bs) : Op2N r (val (rL R) as) B R' bs := fun v w F H Q e ⟨p, xs, h1, h2, h3⟩ b q => h v w F H Q e ⟨p, xs, h1, e _ _ h2, h3⟩ b q
/-- values that stay -/
def StA (A : Ar) : Prop := ∀ v F H F' H', Same F F' → A.p v F H → A.p v F' H'
theorem st_val {a : α} : StA (val R a) := fun _ _ _ _ _ e h => R.mono e h
theorem eaM_c {as : List Ar} {a : α} (h : EvM Z te σ F O O1 (val R a)) (hr : EvAM Z ts σ F O1 O2 as) : EvAM Z (tCons te ts) σ F O O2 (val R a :: as) := fun F1 H e at0 Q q =>
  h F1 H e at0 _ fun v F2 H2 e2 at2 a => hr F2 H2 (e.trans e2) at2 _ fun vs F3 H3 e3 at3 b => q (v :: vs) F3 H3 (e2.trans e3) at3 ⟨R.mono e3 a, b⟩
theorem eaM_1 {as : List Ar} (h : EvM Z te σ F O O1 A) (hr : EvA ts σ F O1 as) : EvAM Z (tCons te ts) σ F O O1 (A :: as) := fun F1 H e at0 Q q =>
  h F1 H e at0 _ fun v F2 H2 e2 at2 a => (hr.mono (e.trans e2)) H2 at2.ok _ fun vs F3 H3 g b => q (v :: vs) F3 H3 (e2.trans g.f) (at2.gr g) ⟨A.mono g.f g.h a, b⟩
/-- what is built of a value, of arguments -/
theorem evM_un {T : TE → TE} (hT : ∀ te H Q, T te σ H Q = te σ H fun v H1 => T (fun _ H2 k => k v H2) σ H1 Q) (h : EvM Z te σ F O O1 A) (hc : ∀ t9 F9, Same F F9 → Ev t9 σ F9 O1 A → Ev (T t9) σ F9 O1 C) : EvM Z (T te) σ F O O1 C := fun F1 H e at0 Q q => by
  rw [hT]
  refine h F1 H e at0 _ fun v F2 H2 e2 at2 a => ?_
  have h9 := hc (fun _ H' k => ∀ _ : H' = H2, k v H2) F2 (e.trans e2) (fun H9 k9 Q9 q9 z => q9 v F2 H2 (z ▸ Gr.refl k9.ex) a) H2 at2.ok Q fun w F3 H3 g c => q w F3 H3 (e2.trans g.f) (at2.gr g) c
  rw [hT] at h9
  exact h9 rfl
theorem evMN_un {T : TE → TE} {bs : List β} (hT : ∀ te H Q, T te σ H Q = te σ H fun v H1 => T (fun _ H2 k => k v H2) σ H1 Q) (h : EvM Z te σ F O O1 A) (hc : ∀ t9 F9, Same F F9 → Ev t9 σ F9 O1 A → EvN (T t9) σ F9 O1 R' bs) : EvMN Z (T te) σ F O O1 R' bs := fun F1 H e at0 Q q => by
  rw [hT]
  refine h F1 H e at0 _ fun v F2 H2 e2 at2 a => ?_
  have h9 := hc (fun _ H' k => ∀ _ : H' = H2, k v H2) F2 (e.trans e2) (fun H9 k9 Q9 q9 z => q9 v F2 H2 (z ▸ Gr.refl k9.ex) a) H2 at2.ok Q fun p xs F3 H3 g n f x r => q p xs F3 H3 (e2.trans g.f) (at2.new g n f x) r
  rw [hT] at h9
  exact h9 rfl
theorem etM_un {T : TE → TT} {b : Bool} (hT : ∀ te H Q, T te σ H Q = te σ H fun v H1 => T (fun _ H2 k => k v H2) σ H1 Q) (h : EvM Z te σ F O O1 A) (hc : ∀ t9 F9, Same F F9 → Ev t9 σ F9 O1 A → EvT (T t9) σ F9 O1 b) : EvTM Z (T te) σ F O O1 b := fun F1 H e at0 Q q => by
  rw [hT]
  refine h F1 H e at0 _ fun v F2 H2 e2 at2 a => ?_
  have h9 := hc (fun _ H' k => ∀ _ : H' = H2, k v H2) F2 (e.trans e2) (fun H9 k9 Q9 q9 z => q9 v F2 H2 (z ▸ Gr.refl k9.ex) a) H2 at2.ok Q fun F3 H3 g => q F3 H3 (e2.trans g.f) (at2.gr g)
  rw [hT] at h9
  exact h9 rfl
theorem eiM_un {T : TE → TI} {bs : List β} (hT : ∀ te H Q, T te σ H Q = te σ H fun v H1 => T (fun _ H2 k => k v H2) σ H1 Q) (h : EvM Z te σ F O O1 A) (hc : ∀ t9 F9, Same F F9 → Ev t9 σ F9 O1 A → EvI (T t9) σ F9 O1 R' bs) : EvIM Z (T te) σ F O O1 R' bs := fun F1 H e at0 Q q => by
  rw [hT]
  refine h F1 H e at0 _ fun v F2 H2 e2 at2 a => ?_
  have h9 := hc (fun _ H' k => ∀ _ : H' = H2, k v H2) F2 (e.trans e2) (fun H9 k9 Q9 q9 z => q9 v F2 H2 (z ▸ Gr.refl k9.ex) a) H2 at2.ok Q fun J F3 H3 g w => q J F3 H3 (e2.trans g.f) (at2.gr g) w
  rw [hT] at h9
  exact h9 rfl
theorem evM_args {T : TA → TE} {as : List Ar} (hT : ∀ te H Q, T te σ H Q = te σ H fun v H1 => T (fun _ H2 k => k v H2) σ H1 Q) (h : EvAM Z ts σ F O O1 as) (hc : ∀ t9 F9, Same F F9 → EvA t9 σ F9 O1 as → Ev (T t9) σ F9 O1 C) : EvM Z (T ts) σ F O O1 C := fun F1 H e at0 Q q => by
  rw [hT]
  refine h F1 H e at0 _ fun v F2 H2 e2 at2 a => ?_
  have h9 := hc (fun _ H' k => ∀ _ : H' = H2, k v H2) F2 (e.trans e2) (fun H9 k9 Q9 q9 z => q9 v F2 H2 (z ▸ Gr.refl k9.ex) a) H2 at2.ok Q fun w F3 H3 g c => q w F3 H3 (e2.trans g.f) (at2.gr g) c
  rw [hT] at h9
  exact h9 rfl
theorem evMN_args {T : TA → TE} {as : List Ar} {bs : List β} (hT : ∀ te H Q, T te σ H Q = te σ H fun v H1 => T (fun _ H2 k => k v H2) σ H1 Q) (h : EvAM Z ts σ F O O1 as) (hc : ∀ t9 F9, Same F F9 → EvA t9 σ F9 O1 as → EvN (T t9) σ F9 O1 R' bs) : EvMN Z (T ts) σ F O O1 R' bs := fun F1 H e at0 Q q => by
  rw [hT]
  refine h F1 H e at0 _ fun v F2 H2 e2 at2 a => ?_
  have h9 := hc (fun _ H' k => ∀ _ : H' = H2, k v H2) F2 (e.trans e2) (fun H9 k9 Q9 q9 z => q9 v F2 H2 (z ▸ Gr.refl k9.ex) a) H2 at2.ok Q fun p xs F3 H3 g n f x r => q p xs F3 H3 (e2.trans g.f) (at2.new g n f x) r
  rw [hT] at h9
  exact h9 rfl
theorem eiM_args {T : TA → TI} {as : List Ar} {bs : List β} (hT : ∀ te H Q, T te σ H Q = te σ H fun v H1 => T (fun _ H2 k => k v H2) σ H1 Q) (h : EvAM Z ts σ F O O1 as) (hc : ∀ t9 F9, Same F F9 → EvA t9 σ F9 O1 as → EvI (T t9) σ F9 O1 R' bs) : EvIM Z (T ts) σ F O O1 R' bs := fun F1 H e at0 Q q => by
  rw [hT]
  refine h F1 H e at0 _ fun v F2 H2 e2 at2 a => ?_
  have h9 := hc (fun _ H' k => ∀ _ : H' = H2, k v H2) F2 (e.trans e2) (fun H9 k9 Q9 q9 z => q9 v F2 H2 (z ▸ Gr.refl k9.ex) a) H2 at2.ok Q fun J F3 H3 g w => q J F3 H3 (e2.trans g.f) (at2.gr g) w
  rw [hT] at h9
  exact h9 rfl
/-- a method of a text: the arguments have the effect -/
theorem evM_m {l : List Nat} {r : RM} {as : List Ar} (ho : EvM Z to σ F O O1 (val rS l)) (ha : EvAM Z ts σ F O1 O2 as) (hr : Cm r l as C) : EvM Z (tBM K "str" r to ts) σ F O O2 C := fun F1 H e at0 Q q =>
  ho F1 H e at0 _ fun v F2 H2 e2 at2 a => by
    have a1 : v = .str (mk l) := a.1
    subst a1
    exact ⟨rfl, ha F2 H2 (e.trans e2) at2 _ fun vs F3 H3 e3 at3 b => hr vs F3 H3 Q a.2 at3.ok.ex b fun u F4 H4 g c => q u F4 H4 ((e2.trans e3).trans g.f) (at3.gr g) c⟩
theorem evM_mN {l : List Nat} {r : RM} {as : List Ar} {bs : List β} (ho : EvM Z to σ F O O1 (val rS l)) (ha : EvAM Z ts σ F O1 O2 as) (hr : CmN r l as R' bs) : EvMN Z (tBM K "str" r to ts) σ F O O2 R' bs := fun F1 H e at0 Q q =>
  ho F1 H e at0 _ fun v F2 H2 e2 at2 a => by
    have a1 : v = .str (mk l) := a.1
    subst a1
    exact ⟨rfl, ha F2 H2 (e.trans e2) at2 _ fun vs F3 H3 e3 at3 b => hr vs F3 H3 Q a.2 at3.ok.ex b fun p xs F4 H4 g n f x r => q p xs F4 H4 ((e2.trans e3).trans g.f) (at3.new g n f x) r⟩
theorem evM_m0 {l : List Nat} {r : RM} (ho : EvM Z to σ F O O1 (val rS l)) (hr : Cm r l [] C) : EvM Z (tBM0 K "str" r to) σ F O O1 C := fun F1 H e at0 Q q =>
  ho F1 H e at0 _ fun v F2 H2 e2 at2 a => by
    have a1 : v = .str (mk l) := a.1
    subst a1
    exact ⟨rfl, hr [] F2 H2 Q a.2 at2.ok.ex trivial fun u F4 H4 g c => q u F4 H4 (e2.trans g.f) (at2.gr g) c⟩

/-! ### ways -/
theorem evM_if {c : Bool} (h : EvTM Z tt σ F O O1 c) (h1 : c = true → EvM Z ta σ F O1 O2 A) (h2 : c = false → EvM Z tb σ F O1 O2 A) : EvM Z (tIf tt ta tb) σ F O O2 A := fun F1 H e at0 Q q => h F1 H e at0 _ fun F2 H2 e2 at2 => by
  cases c with
  | true =>
    show ta σ H2 Q
    exact h1 rfl F2 H2 (e.trans e2) at2 Q fun v F3 H3 e3 at3 a => q v F3 H3 (e2.trans e3) at3 a
  | false =>
    show tb σ H2 Q
    exact h2 rfl F2 H2 (e.trans e2) at2 Q fun v F3 H3 e3 at3 a => q v F3 H3 (e2.trans e3) at3 a
theorem etM_and {a b : Bool} (h1 : EvTM Z tt σ F O O1 a) (h2 : a = true → EvTM Z tu σ F O1 O2 b) (h3 : a = false → b = false ∧ O1 = O2) : EvTM Z (tAnd tt tu) σ F O O2 b := fun F1 H e at0 Q q => h1 F1 H e at0 _ fun F2 H2 e2 at2 => by
  cases a with
  | true =>
    show tu σ H2 Q
    exact h2 rfl F2 H2 (e.trans e2) at2 Q fun F3 H3 e3 at3 => q F3 H3 (e2.trans e3) at3
  | false =>
    show Q false H2
    rw [← (h3 rfl).1]
    exact q F2 H2 e2 ((h3 rfl).2 ▸ at2)
theorem etM_or {a b : Bool} (h1 : EvTM Z tt σ F O O1 a) (h2 : a = false → EvTM Z tu σ F O1 O2 b) (h3 : a = true → b = true ∧ O1 = O2) : EvTM Z (tOr tt tu) σ F O O2 b := fun F1 H e at0 Q q => h1 F1 H e at0 _ fun F2 H2 e2 at2 => by
  cases a with
  | false =>
    show tu σ H2 Q
    exact h2 rfl F2 H2 (e.trans e2) at2 Q fun F3 H3 e3 at3 => q F3 H3 (e2.trans e3) at3
  | true =>
    show Q true H2
    rw [← (h3 rfl).1]
    exact q F2 H2 e2 ((h3 rfl).2 ▸ at2)
theorem etM_not {b : Bool} (h : EvTM Z tt σ F O O1 b) : EvTM Z (tNot tt) σ F O O1 (!b) := fun F1 H e at0 Q q => h F1 H e at0 _ fun F2 H2 e2 at2 => q F2 H2 e2 at2
theorem evM_and {a b : Bool} (h1 : EvM Z ta σ F O O1 (val rB a)) (h2 : a = true → EvM Z tb σ F O1 O2 (val rB b)) (h3 : a = false → b = false ∧ O1 = O2) : EvM Z (tAndV ta tb) σ F O O2 (val rB b) := fun F1 H e at0 Q q => h1 F1 H e at0 _ fun v F2 H2 e2 at2 ev => ⟨a, ev, by
  cases a with
  | true =>
    show tb σ H2 Q
    exact h2 rfl F2 H2 (e.trans e2) at2 Q fun v F3 H3 e3 at3 c => q v F3 H3 (e2.trans e3) at3 c
  | false =>
    show Q (.bl false) H2
    exact q _ F2 H2 e2 ((h3 rfl).2 ▸ at2) (by rw [(h3 rfl).1]; rfl)⟩
theorem evM_or {a b : Bool} (h1 : EvM Z ta σ F O O1 (val rB a)) (h2 : a = false → EvM Z tb σ F O1 O2 (val rB b)) (h3 : a = true → b = true ∧ O1 = O2) : EvM Z (tOrV ta tb) σ F O O2 (val rB b) := fun F1 H e at0 Q q => h1 F1 H e at0 _ fun v F2 H2 e2 at2 ev => ⟨a, ev, by
  cases a with
  | false =>
    show tb σ H2 Q
    exact h2 rfl F2 H2 (e.trans e2) at2 Q fun v F3 H3 e3 at3 c => q v F3 H3 (e2.trans e3) at3 c
  | true =>
    show Q (.bl true) H2
    exact q _ F2 H2 e2 ((h3 rfl).2 ▸ at2) (by rw [(h3 rfl).1]; rfl)⟩

/-! ### the tape itself; calls that take it -/
abbrev rA (p : Addr) : Rep Unit := rV (.ref p)
/-- its number -/
theorem ev_tape (h : σ[i]? = some (some (.ref p))) (m : (p, tp k) ∈ O) (hi : Ev te σ F O (val rInt 0)) : Ev (tOp (rIxL K) (tVar i) te) σ F O (val rInt k) :=
  ev_op (ev_o (R := rInt) (as := [k]) h m ⟨⟨rfl, trivial⟩, show (1 : Nat) ≤ limL by decide⟩) hi (o_ixL rfl)
theorem sx_tape {n : Nat} {z : Int} (hj : σ[j]? = some (some (.ref p))) (hO : O[n]? = some (p, tp k)) (h : Ev te σ F O (val rInt z)) (hi : Ev tb σ F O (val rInt 0))
    (q : ∀ F', Same F F' → Nx Z D σ F' (O.set n (p, tp z))) : Sx Z (tAsg te (gSub (tVar j) tb rSetL)) D σ F O :=
  sx_setL (R := rInt) (as := [k]) (m := 0) hj hO ⟨⟨rfl, trivial⟩, show (1 : Nat) ≤ limL by decide⟩ h hi rfl fun v F' e r => by
    obtain ⟨⟨r1, _⟩, _⟩ := r
    have r2 : v = .int z := r1
    subst r2
    exact q F' e
/-- promises of defs that change what one parameter refers to: cell tells how it stands in the heap -/
def spM {τ : Type} (cell : τ → HO) (P : Addr → List Ar → τ → Ar → τ → Prop) : Sp := fun vs H Q _ => ∃ F p As k C k', P p As k C k' ∧ Same F H ∧ F p = none ∧ H p = some (cell k) ∧ AllA As vs F H ∧ ∀ v F' H', GrT p F H F' H' → H' p = some (cell k') → C.p v F' H' → Q v H'
def spMN {τ α : Type} (cell : τ → HO) (R : Rep α) (P : Addr → List Ar → τ → List α → τ → Prop) : Sp := fun vs H Q _ => ∃ F p As k bs k', P p As k bs k' ∧ Same F H ∧ F p = none ∧ H p = some (cell k) ∧ AllA As vs F H ∧
  ∀ q xs F' H', GrT p F H F' H' → H' p = some (cell k') → H q = none → F' q = none → H' q = some (.lst xs) → AllB R bs xs F' → Q (.ref q) H'
theorem At.newT {F2 H H2 : Hp} {n : Nat} {o' o2 : HO} {q : Addr} (k : At Z F O H) (g : GrT p F H F2 H2) (h : O[n]? = some (p, o)) (hx : H2 p = some o') (hn : H q = none) (hf : F2 q = none) (hq : H2 q = some o2) : At Z F2 ((q, o2) :: O.set n (p, o')) H2 := by
  have k' := k.grT g h hx
  refine ⟨⟨k'.ok.ex, fun r m => ?_⟩, k'.b, k'.f0, k'.sep, fun r m => ?_, ?_⟩
  · rcases List.mem_cons.mp m with e | m
    · subst e; exact ⟨hf, hq⟩
    · exact k'.ok.own r m
  · rcases List.mem_cons.mp m with e | m
    · subst e; exact k.b.free hn
    · exact k'.ob r m
  · rw [List.map_cons, List.nodup_cons]
    refine ⟨fun m => ?_, k'.nd⟩
    rw [set_keys h] at m
    obtain ⟨r, m, e⟩ := List.mem_map.mp m
    have e2 := (k.ok.own r m).2
    rw [e, hn] at e2
    cases e2
theorem evM_call {τ : Type} {cell : τ → HO} {P : Addr → List Ar → τ → Ar → τ → Prop} {E : XK} {as : List Ar} {k k' : τ} {n : Nat} (h : EvAM Z ts σ F O O1 as) (hp : P p as k C k') (hO : O1[n]? = some (p, cell k)) : EvM Z (tCall (spM cell P) [] E ts) σ F O (O1.set n (p, cell k')) C := fun F1 H e at0 Q q =>
  h F1 H e at0 _ fun vs F2 H2 e2 at2 a => by
    have o := at2.ok.own _ (List.mem_of_getElem? hO)
    exact ⟨F2, p, as, k, C, k', hp, at2.ok.ex, o.1, o.2, by rw [List.append_nil]; exact a, fun v F3 H3 g x c => q v F3 H3 (e2.trans g.f) (at2.grT g hO x) c⟩
theorem evM_callN {τ : Type} {cell : τ → HO} {P : Addr → List Ar → τ → List α → τ → Prop} {E : XK} {as : List Ar} {bs : List α} {k k' : τ} {n : Nat} (h : EvAM Z ts σ F O O1 as) (hp : P p as k bs k') (hO : O1[n]? = some (p, cell k)) : EvMN Z (tCall (spMN cell R P) [] E ts) σ F O (O1.set n (p, cell k')) R bs := fun F1 H e at0 Q q =>
  h F1 H e at0 _ fun vs F2 H2 e2 at2 a => by
    have o := at2.ok.own _ (List.mem_of_getElem? hO)
    exact ⟨F2, p, as, k, bs, k', hp, at2.ok.ex, o.1, o.2, by rw [List.append_nil]; exact a, fun r xs F3 H3 g x n f y c => q r xs F3 H3 (e2.trans g.f) (at2.newT g hO x n f y) c⟩
theorem rtM_val {τ : Type} {cell : τ → HO} {F0 H0 : Hp} {v : V} {Q : VK} {nx : L2.St → Hp → Prop} {k' : τ} (k : ∀ v F' H', GrT p F0 H0 F' H' → H' p = some (cell k') → C.p v F' H' → Q v H') (m : (p, cell k') ∈ O) (h : ∀ H, C.p v F H) : Rt ⟨F0, but p H0⟩ { nx := nx, rt := Q } v F O := fun H a =>
  k v F H (a.doneT m).1 (a.doneT m).2 (h H)
theorem rtM_own {τ : Type} {cell : τ → HO} {F0 H0 : Hp} {q : Addr} {xs : List V} {bs : List α} {Q : VK} {nx : L2.St → Hp → Prop} {k' : τ} {i j : Nat} (k : ∀ q xs F' H', GrT p F0 H0 F' H' → H' p = some (cell k') → H0 q = none → F' q = none → H' q = some (.lst xs) → AllB R bs xs F' → Q (.ref q) H')
    (m : O[i]? = some (p, cell k')) (mq : O[j]? = some (q, HO.lst xs)) (hij : i ≠ j) (h : AllB R bs xs F) : Rt ⟨F0, but p H0⟩ { nx := nx, rt := Q } (.ref q) F O := fun H a => by
  have hq : q ≠ p := fun z => by
    have a1 : (O.map (·.1))[i]? = some p := by rw [List.getElem?_map, m]; rfl
    have a2 : (O.map (·.1))[j]? = some p := by rw [List.getElem?_map, mq, ← z]; rfl
    have l1 := (List.getElem?_eq_some_iff.mp a1)
    have l2 := (List.getElem?_eq_some_iff.mp a2)
    exact hij ((List.getElem_inj a.nd).mp (l1.2.trans l2.2.symm))
  have mp := List.mem_of_getElem? m
  have mq' := List.mem_of_getElem? mq
  refine k q xs F H (a.doneT mp).1 (a.doneT mp).2 ?_ (a.ok.own _ mq').1 (a.ok.own _ mq').2 h
  have h2 : but p H0 q = none := a.ob _ mq'
  unfold but at h2
  rw [if_neg hq] at h2
  exact h2

/-! ### statements -/
theorem sx_asgM {a : α} (h : EvM Z te σ F O O1 (val R a)) (k : ∀ v F', Same F F' → R.rp a v F' → Nx Z D (σ.set i (some v)) F' O1) : Sx Z (tAsg te (gName i)) D σ F O := fun H at0 =>
  h F H (Same.refl _) at0 _ fun v F' H' e at2 r => k v F' e r H' at2
theorem sx_asgMN {as : List α} (h : EvMN Z te σ F O O1 R as) (k : ∀ p xs F', Same F F' → AllB R as xs F' → Nx Z D (σ.set i (some (.ref p))) F' ((p, .lst xs) :: O1)) : Sx Z (tAsg te (gName i)) D σ F O := fun H at0 =>
  h F H (Same.refl _) at0 _ fun p xs F' H' e at2 r => k p xs F' e r H' at2
theorem sx_asgM2 {a : α} {b : β} {n m : Nat} (h : EvM Z te σ F O O1 (val (rT2 R R') (a, b))) (q : ∀ v w F', Same F F' → R.rp a v F' → R'.rp b w F' → Nx Z D ((σ.set n (some v)).set m (some w)) F' O1) : Sx Z (tAsg te (gTup K 2 (gCons (gName n) (gCons (gName m) gNil)))) D σ F O := fun H at0 =>
  h F H (Same.refl _) at0 _ fun x F' H' e at2 r => tg_2 (K := K) (a, b) x σ F' H' _ r at2.ok.ex fun σ' ⟨v, w, e2, h1, h2⟩ => by
    subst e2
    exact q v w F' e h1 h2 H' at2
theorem sx_asgM3 {a : α} {b : β} {c : γ} {R'' : Rep γ} {n m l : Nat} (h : EvM Z te σ F O O1 (val (rT3 R R' R'') (a, b, c))) (q : ∀ v w x F', Same F F' → R.rp a v F' → R'.rp b w F' → R''.rp c x F' → Nx Z D (((σ.set n (some v)).set m (some w)).set l (some x)) F' O1) :
    Sx Z (tAsg te (gTup K 3 (gCons (gName n) (gCons (gName m) (gCons (gName l) gNil))))) D σ F O := fun H at0 =>
  h F H (Same.refl _) at0 _ fun x F' H' e at2 r => tg_3 (K := K) (a, b, c) x σ F' H' _ r at2.ok.ex fun σ' ⟨v, w, y, e2, h1, h2, h3⟩ => by
    subst e2
    exact q v w y F' e h1 h2 h3 H' at2
theorem sx_dropM (h : EvM Z te σ F O O1 A) (k : ∀ F', Same F F' → Nx Z D σ F' O1) : Sx Z (tDrop te) D σ F O := fun H at0 =>
  h F H (Same.refl _) at0 _ fun v F' H' e at2 _ => k F' e H' at2
theorem sx_retM {a : α} (h : EvM Z te σ F O O1 (val R a)) (k : ∀ v F', Same F F' → R.rp a v F' → Rt Z D v F' O1) : Sx Z (tRet te) D σ F O := fun H at0 =>
  h F H (Same.refl _) at0 _ fun v F' H' e at2 r => k v F' e r H' at2
theorem sx_retMN {as : List α} (h : EvMN Z te σ F O O1 R as) (k : ∀ p xs F', Same F F' → AllB R as xs F' → Rt Z D (.ref p) F' ((p, .lst xs) :: O1)) : Sx Z (tRet te) D σ F O := fun H at0 =>
  h F H (Same.refl _) at0 _ fun p xs F' H' e at2 r => k p xs F' e r H' at2
theorem sx_ifM {b : Bool} (h : EvTM Z tt σ F O O1 b) (h1 : b = true → ∀ F', Same F F' → Sx Z t D σ F' O1) (h2 : b = false → ∀ F', Same F F' → Sx Z u D σ F' O1) : Sx Z (tIfS tt t u) D σ F O := fun H at0 =>
  h F H (Same.refl _) at0 _ fun F' H' e at2 => by
    cases b with
    | true =>
      show t D σ H'
      exact h1 rfl F' e H' at2
    | false =>
      show u D σ H'
      exact h2 rfl F' e H' at2
/-- xs.append(e) -/
theorem sx_appM {n : Nat} {xs : List V} {as : List α} {a : α} (hj : σ[j]? = some (some (.ref p))) (hO0 : ∃ o, (p, o) ∈ O ∧ o = HO.lst xs) (hO : O1[n]? = some (p, .lst xs)) (hx : AllB R as xs F) (h : EvM Z te σ F O O1 (val R a)) (hz : (as ++ [a]).length ≤ limL)
    (k : ∀ v F', Same F F' → AllB R (as ++ [a]) (xs ++ [v]) F' → Nx Z D σ F' (O1.set n (p, .lst (xs ++ [v])))) : Sx Z (tDrop (tBM K "list" rAppend (tVar j) (tCons te tNil))) D σ F O := fun H at0 => by
  obtain ⟨_, m0, rfl⟩ := hO0
  have hp := at0.ok.own _ m0
  refine ⟨.ref p, hj, Or.inl ⟨rfl, xs, Or.inl (Or.inl hp.2)⟩, h F H (Same.refl _) at0 _ fun v F' H' e at2 r => ?_⟩
  have hp2 := at2.ok.own _ (List.mem_of_getElem? hO)
  refine ⟨p, xs, v, rfl, rfl, hp2.2, sz_lt hx.sz, k v F' e ⟨All2.app (hx.all.mono e) (All2.one r), hz⟩ _ (At.write at2 hO)⟩
theorem sx_forM {f : S → α → Option (Fw ρ S)} {s0 : S} {out : Fw ρ S} {J : S → L2.St → Hp → Own → Prop} {Ro : ρ → V → Hp → Own → Prop} {g : TG} {body : TS} {wi : TI} {as : List α} {P : α → L2.St → L2.St → Hp → Prop}
    (hm : loop f as s0 = some out) (hi : EvIM Z wi σ F O O1 R as) (hg : Tg g R P) (h0 : ∀ F', Same F F' → J s0 σ F' O1) (acc : AccL Z D J Ro F out)
    (turn : ∀ s a σ' σ2 F' F2 O' o D', a ∈ as → Same F F' → Same F' F2 → J s σ' F' O' → P a σ' σ2 F2 → f s a = some o → Acc Z D' J Ro F2 o → Sx Z body D' σ2 F2 O') : Sx Z (tFor wi g body) D σ F O := fun H at0 => by
  refine hi F H (Same.refl _) at0 _ fun J' F1 H1 g1 at1 wk => ?_
  have acc1 : AccL Z D J Ro F1 out := ⟨fun s e σ2 F2 O2 e2 => acc.nx s e σ2 F2 O2 (g1.trans e2), fun r e v F2 O2 e2 => acc.rt r e v F2 O2 (g1.trans e2)⟩
  refine ⟨fun k m σ' H' => m = as.length - k ∧ k ≤ as.length ∧ Lw Z f J out as F1 k σ' H', ⟨as.length, by simp, Nat.zero_le _, s0, F1, O1, Same.refl _, h0 F1 g1, at1, hm⟩, fun k m σ' H' ⟨em, hk, w⟩ => ?_⟩
  subst em
  have w' := w
  obtain ⟨_, F', O', e, _, at', _⟩ := w'
  by_cases hlt : k < as.length
  · have ha : as[k]? = some as[k] := List.getElem?_eq_getElem hlt
    obtain ⟨hgo, hy⟩ := (wk.2 k F' H' e at'.ok.ex).1 _ ha
    refine Or.inr ⟨hgo, Lw Z f J out as F1 (k + 1), fun σ2 H2 w2 => ⟨as.length - (k + 1), by omega, rfl, hlt, w2⟩, fun x H2 y => ?_⟩
    refine lw_turn acc1 ha w fun s F' O' o e j2 at' hf ac => ?_
    obtain ⟨F2, g2, r⟩ := ((wk.2 k F' H' e at'.ok.ex).1 _ ha).2 x H2 y
    refine hg _ x σ' F2 H2 _ r g2.fh fun σ2 p => ?_
    refine turn s _ σ' σ2 F' F2 O' o _ (List.mem_of_getElem? ha) (g1.trans e) g2.f j2 p hf ?_ H2 (at'.gr g2)
    exact ⟨fun s e σ3 F3 O3 e3 => ac.nx s e σ3 F3 O3 (g2.f.trans e3), fun s e σ3 F3 O3 e3 => ac.bk s e σ3 F3 O3 (g2.f.trans e3), fun r e v F3 O3 e3 => ac.rt r e v F3 O3 (g2.f.trans e3)⟩
  · have e2 : k = as.length := by omega
    exact Or.inl ⟨(wk.2 k F' H' e at'.ok.ex).2 (by omega), lw_end e2 acc1 w⟩

/-! ### comprehensions whose things move the tape -/
def mapFM {τ : Type} (f : τ → α → Option (Option β × τ)) : List α → τ → Option (List β × τ)
  | [], k => some ([], k)
  | a :: as, k => match f k a with
    | none => none
    | some (o, k') => match mapFM f as k' with
      | none => none
      | some (bs, k2) => some ((match o with | some b => b :: bs | none => bs), k2)
theorem mapFM_cons {τ : Type} {f : τ → α → Option (Option β × τ)} {a : α} {as : List α} {bs : List β} {k k2 : τ} (h : mapFM f (a :: as) k = some (bs, k2)) : ∃ o k' cs, f k a = some (o, k') ∧ mapFM f as k' = some (cs, k2) ∧ bs = (match o with | some b => b :: cs | none => cs) := by
  unfold mapFM at h
  cases e : f k a with
  | none => rw [e] at h; cases h
  | some ok =>
    obtain ⟨o, k'⟩ := ok
    rw [e] at h
    cases e2 : mapFM f as k' with
    | none => simp only [e2] at h; cases h
    | some cs =>
      obtain ⟨cs, k3⟩ := cs
      simp only [e2] at h
      cases h
      exact ⟨o, k', cs, rfl, e2, rfl⟩
theorem evM_lc {τ : Type} {f : τ → α → Option (Option β × τ)} {Of : τ → Own} {k0 k1 : τ} {wi : TI} {g : TG} {vs : List Nat} {as : List α} {bs : List β} {P : α → L2.St → L2.St → Hp → Prop}
    (hm : mapFM f as k0 = some (bs, k1)) (hi : EvIM Z wi σ F O (Of k0) R as) (hg : Tg g R P)
    (turn : ∀ Z' a σ2 F' F2 k ob k', a ∈ as → Same F F' → Same F' F2 → P a (wipe σ vs) σ2 F2 → f k a = some (ob, k') → wipe σ2 vs = wipe σ vs ∧ EvT tt σ2 F2 (Of k) ob.isSome ∧ (ob = none → k' = k) ∧ ∀ b, ob = some b → EvM Z' te σ2 F2 (Of k) (Of k') (val R' b)) :
    EvMN Z (tLc wi g tt te vs) σ F O (Of k1) R' bs := fun F1 H e0 at0 Q q => by
  refine hi F1 H e0 at0 _ fun J F2 H2 e2 at2 wk L hL => ?_
  let W : Nat → Hp → Prop := fun i H' => ∃ F' acc done rest k, Same F2 F' ∧ At Z F' ((L, .lst acc) :: Of k) H' ∧ All2 R' done acc F' ∧ mapFM f (as.drop i) k = some (rest, k1) ∧ done ++ rest = bs ∧ done.length ≤ i
  refine ⟨fun i m H' => m = as.length - i ∧ i ≤ as.length ∧ W i H', ⟨as.length, by simp, Nat.zero_le _, F2, [], [], bs, k0, Same.refl _, at2.new (Gr.gar at2.ok.ex hL) hL (free_of at2.ok.ex hL) upd_same, trivial, hm, rfl, Nat.le_refl _⟩, fun i m H' ⟨em, hile, F', acc, done, rest, k, eF, atk, ha2, hrest, hbs, hdl⟩ => ?_⟩
  subst em
  by_cases hlt : i < as.length
  · have ha : as[i]? = some as[i] := List.getElem?_eq_getElem hlt
    obtain ⟨hgo, hy⟩ := (wk.2 i F' H' eF atk.ok.ex).1 _ ha
    refine Or.inr ⟨hgo, W (i + 1), fun H3 w => ⟨as.length - (i + 1), by omega, rfl, hlt, w⟩, fun x H3 y => ?_⟩
    obtain ⟨F3, g3, r⟩ := hy x H3 y
    rw [List.drop_eq_getElem_cons hlt] at hrest
    obtain ⟨o, k', cs, e1, e2', e3⟩ := mapFM_cons hrest
    refine hg _ x (wipe σ vs) F3 H3 _ r g3.fh fun σ2 p => ?_
    have at3 := atk.gr g3
    obtain ⟨hw, ht, hno, he⟩ := turn (Z.hide L (.lst acc)) as[i] σ2 F' F3 k o k' (List.mem_of_getElem? ha) ((e0.trans e2).trans eF) g3.f p e1
    refine ⟨hw, ht H3 at3.hide.ok _ fun F4 H4 g4 => ?_⟩
    have at4 := at3.gr g4
    have lL : Z.B L = none := atk.ob (L, .lst acc) (List.mem_cons_self ..)
    have lF : Z.F0 L = none := atk.f0.free (atk.ok.own (L, .lst acc) (List.mem_cons_self ..)).1
    cases o with
    | none =>
      show W (i + 1) H4
      have e5 := hno rfl
      subst e5
      exact ⟨F4, acc, done, cs, k', (eF.trans g3.f).trans g4.f, at4, ha2.mono (g3.trans g4).f, e2', by rw [← hbs, e3], by omega⟩
    | some b =>
      show te σ2 H4 _
      refine he b rfl F4 H4 g4.f at4.hide _ fun v F5 H5 e5 at5 r5 => ?_
      have at6 := at5.show lF lL
      have lacc : acc.length ≤ limL := by
        rw [← ha2.len]
        have := wk.1
        omega
      have hacc5 := (at6.ok.own (L, .lst acc) (List.mem_cons_self ..)).2
      exact ⟨acc, hacc5, sz_lt lacc, F5, acc ++ [v], done ++ [b], cs, k', ((eF.trans g3.f).trans g4.f).trans e5, At.write (n := 0) at6 rfl, (ha2.mono ((g3.trans g4).f.trans e5)).app (All2.one r5), e2', by rw [← hbs, e3, List.append_assoc]; rfl, by rw [List.length_append]; simp; omega⟩
  · refine Or.inl ⟨(wk.2 i F' H' eF atk.ok.ex).2 (by omega), ?_⟩
    rw [List.drop_eq_nil_of_le (by omega)] at hrest
    have er := Option.some.inj hrest
    have er1 : rest = [] := (congrArg Prod.fst er).symm
    have er2 : k = k1 := congrArg Prod.snd er
    subst er2
    rw [er1, List.append_nil] at hbs
    subst hbs
    exact q L acc F' H' (e2.trans eF) atk ⟨ha2, Nat.le_trans (by omega) wk.1⟩

/-! ### owned lists looked at by a call, for a while -/
theorem frzA_at : ∀ {O : Own} {H : Hp}, Ok F O H → ∀ q ∈ O, frzA F O q.1 = some q.2
  | [], _, _, _, m => by cases m
  | r :: O, H, k, q, m => by
    show upd (frzA F O) r.1 r.2 q.1 = some q.2
    by_cases z : q.1 = r.1
    · rw [z, upd_same]
      have h1 := (k.own q m).2
      have h2 := (k.own r (List.mem_cons_self ..)).2
      rw [z, h2] at h1
      exact h1
    · rw [upd_ne z]
      rcases List.mem_cons.mp m with e | m
      · exact absurd (by rw [e]) z
      · exact frzA_at (O := O) ⟨k.ex, fun s n => k.own s (List.mem_cons_of_mem _ n)⟩ q m
theorem frzA_same : ∀ {O : Own}, (∀ q ∈ O, F q.1 = none) → Same F (frzA F O)
  | [], _ => Same.refl _
  | r :: O, h => fun a u e => by
    show upd (frzA F O) r.1 r.2 a = some u
    rw [upd_ne (ne_of_none e (h r (List.mem_cons_self ..)))]
    exact frzA_same (O := O) (fun q m => h q (List.mem_cons_of_mem _ m)) a u e
theorem ev_peekP {c : γ} {Rc : Rep γ} {f : γ → V} (hf : Fl Rc f) (h : Same F (frzA F O) → (∀ q ∈ O, frzA F O q.1 = some q.2) → Ev te σ (frzA F O) [] (val Rc c)) : Ev te σ F O (val Rc c) := fun H k Q q =>
  ev_peek hf (h (frzA_same fun q m => (k.own q m).1) (frzA_at k)) H k Q q
theorem et_peekP {b : Bool} (h : Same F (frzA F O) → (∀ q ∈ O, frzA F O q.1 = some q.2) → EvT tt σ (frzA F O) [] b) : EvT tt σ F O b := fun H k Q q =>
  et_peek (h (frzA_same fun q m => (k.own q m).1) (frzA_at k)) H k Q q
/-- a call that gives a new list of things that stand by themselves -/
theorem evN_peek {as : List α} {f : α → V} (hf : Fl R f) (h : Same F (frzA F O) → (∀ q ∈ O, frzA F O q.1 = some q.2) → EvN te σ (frzA F O) [] R as) : EvN te σ F O R as := fun H k Q q =>
  h (frzA_same fun q m => (k.own q m).1) (frzA_at k) H ⟨frz_same k, fun _ m => (by cases m)⟩ Q fun p xs F' H' g n f' x r =>
    q p xs F H' ⟨Same.refl _, g.h, k.ex.trans g.h, fun _ n _ => n⟩ n (free_of k.ex n) x ⟨by rw [r.all.map hf]; exact All2.of_map hf as, r.len⟩
end
end Lm
/-! Lm: more of lists. -/
namespace Lm
open PySem PySem.Spec L2
/-- the greatest, the least -/
def maxO : List Int → Option Int
  | [] => none
  | n :: ns => some (ns.foldl max n)
def minO : List Int → Option Int
  | [] => none
  | n :: ns => some (ns.foldl min n)
theorem foldl_max : ∀ (ns : List Int) (n : Int), (ns.foldl max n ∈ n :: ns) ∧ ∀ y ∈ n :: ns, y ≤ ns.foldl max n
  | [], n => ⟨List.mem_singleton.mpr rfl, fun y m => by rw [List.mem_singleton.mp m]; exact Int.le_refl _⟩
  | a :: ns, n => by
    obtain ⟨h1, h2⟩ := foldl_max ns (max n a)
    show ns.foldl max (max n a) ∈ n :: a :: ns ∧ ∀ y ∈ n :: a :: ns, y ≤ ns.foldl max (max n a)
    have e : n ≤ max n a ∧ a ≤ max n a := ⟨by omega, by omega⟩
    have h3 := h2 (max n a) (List.mem_cons_self ..)
    refine ⟨?_, fun y m => ?_⟩
    · rcases List.mem_cons.mp h1 with z | z
      · by_cases q : n ≤ a
        · have : max n a = a := by omega
          rw [z, this]
          exact List.mem_cons_of_mem _ (List.mem_cons_self ..)
        · have : max n a = n := by omega
          rw [z, this]
          exact List.mem_cons_self ..
      · exact List.mem_cons_of_mem _ (List.mem_cons_of_mem _ z)
    · rcases List.mem_cons.mp m with z | m
      · subst z; exact Int.le_trans e.1 h3
      · rcases List.mem_cons.mp m with z | m
        · subst z; exact Int.le_trans e.2 h3
        · exact h2 y (List.mem_cons_of_mem _ m)
theorem foldl_min : ∀ (ns : List Int) (n : Int), (ns.foldl min n ∈ n :: ns) ∧ ∀ y ∈ n :: ns, ns.foldl min n ≤ y
  | [], n => ⟨List.mem_singleton.mpr rfl, fun y m => by rw [List.mem_singleton.mp m]; exact Int.le_refl _⟩
  | a :: ns, n => by
    obtain ⟨h1, h2⟩ := foldl_min ns (min n a)
    show ns.foldl min (min n a) ∈ n :: a :: ns ∧ ∀ y ∈ n :: a :: ns, ns.foldl min (min n a) ≤ y
    have e : min n a ≤ n ∧ min n a ≤ a := ⟨by omega, by omega⟩
    have h3 := h2 (min n a) (List.mem_cons_self ..)
    refine ⟨?_, fun y m => ?_⟩
    · rcases List.mem_cons.mp h1 with z | z
      · by_cases q : n ≤ a
        · have : min n a = n := by omega
          rw [z, this]
          exact List.mem_cons_self ..
        · have : min n a = a := by omega
          rw [z, this]
          exact List.mem_cons_of_mem _ (List.mem_cons_self ..)
      · exact List.mem_cons_of_mem _ (List.mem_cons_of_mem _ z)
    · rcases List.mem_cons.mp m with z | m
      · subst z; exact Int.le_trans h3 e.1
      · rcases List.mem_cons.mp m with z | m
        · subst z; exact Int.le_trans h3 e.2
        · exact h2 y (List.mem_cons_of_mem _ m)
theorem maxO_e {ns : List Int} {m : Int} (h : maxO ns = some m) : m ∈ ns ∧ ∀ y ∈ ns, y ≤ m := by
  cases ns with
  | nil => cases h
  | cons n ns => cases h; exact foldl_max ns n
theorem minO_e {ns : List Int} {m : Int} (h : minO ns = some m) : m ∈ ns ∧ ∀ y ∈ ns, m ≤ y := by
  cases ns with
  | nil => cases h
  | cons n ns => cases h; exact foldl_min ns n
/-- the first place -/
def idxO (x : Int) : List Int → Option Int
  | [] => none
  | n :: ns => if n = x then some 0 else (idxO x ns).map (· + 1)
theorem idxO_e {x : Int} : ∀ {ns : List Int} {i : Int}, idxO x ns = some i → ∃ j : Nat, i = (j : Int) ∧ ns[j]? = some x ∧ ∀ m < j, ∀ y, ns[m]? = some y → y ≠ x
  | [], _, h => by cases h
  | n :: ns, i, h => by
    unfold idxO at h
    by_cases e : n = x
    · rw [if_pos e] at h
      cases h
      exact ⟨0, rfl, by rw [e]; rfl, fun m h => absurd h (Nat.not_lt_zero _)⟩
    · rw [if_neg e] at h
      cases e2 : idxO x ns with
      | none => rw [e2] at h; cases h
      | some j =>
        rw [e2] at h
        cases h
        obtain ⟨k, hk, h1, h2⟩ := idxO_e e2
        subst hk
        refine ⟨k + 1, rfl, h1, fun m hm y hy => ?_⟩
        cases m with
        | zero => cases hy; exact e
        | succ m => exact h2 m (by omega) y hy
section
variable {α β γ ρ S : Type} {R : Rep α} {R' : Rep β} {Z : Bs} {D : Ends} {σ : L2.St} {F F1 : Hp} {O O1 O2 O' : Own} {te ta tb tc to : TE} {tt tu : TT} {t u : TS} {ts : TA} {A B C : Ar} {K : PySem.W.Frag} {p : Addr} {o : HO} {i j : Int}
theorem b_maxO {ns : List Int} {m : Int} (h : maxO ns = some m) : Cb (rMax K) [spn rInt ns] (val rInt m) := b_max (maxO_e h).1 (maxO_e h).2
theorem b_minO {ns : List Int} {m : Int} (h : minO ns = some m) : Cb (rMin K) [spn rInt ns] (val rInt m) := b_min (minO_e h).1 (minO_e h).2
theorem flat_ints : ∀ ns : List Int, (ns.map V.int).all flatV = true
  | [] => rfl
  | n :: ns => by rw [List.map_cons, List.all_cons, flat_ints ns]; rfl
theorem eqv_int (a b : Int) : eqV (.int a) (.int b) = decide (a = b) := rfl
theorem ev_lindex {ns : List Int} {x c : Int} (h : idxO x ns = some c) (ho : Ev to σ F O (spn rInt ns)) (ha : EvA ts σ F O [val rInt x]) : Ev (tBM K "list" (rIndex K) to ts) σ F O (val rInt c) := fun H k Q q =>
  ho H k _ fun v F1 H1 g1 ⟨p, xs, ev, hp, hx⟩ => by
    subst ev
    refine ⟨Or.inl ⟨rfl, xs, sq_of hp⟩, (ha.mono g1.f) H1 (k.gr g1) _ fun vs F2 H2 g2 b => ?_⟩
    obtain ⟨w, rfl, e⟩ := alla1 b
    have e' : w = .int x := e
    subst e'
    obtain ⟨j, ej, h1, h2⟩ := idxO_e h
    have ex := hx.all.map flI
    subst ex ej
    refine ⟨p, _, .int x, j, .int x, rfl, rfl, sq_of (g2.h _ _ hp), rfl, flat_ints ns, by rw [List.getElem?_map, h1]; rfl, by rw [eqv_int]; exact decide_eq_true rfl, fun m z hm hz => ?_, q _ F2 H2 (g1.trans g2) rfl⟩
    rw [List.getElem?_map] at hz
    cases e3 : ns[m]? with
    | none => rw [e3] at hz; cases hz
    | some y =>
      rw [e3] at hz
      cases hz
      rw [eqv_int]
      exact decide_eq_false (h2 m hm y e3)
/-- a tape is made -/
theorem sx_asgT {n : Nat} {k : Int} (h : EvN te σ F O rInt [k]) (q : ∀ p F', Same F F' → Nx Z D (σ.set n (some (.ref p))) F' ((p, tp k) :: O)) : Sx Z (tAsg te (gName n)) D σ F O :=
  sx_asgN h fun p xs F' e r => by
    have ex : xs = [.int k] := r.all.map flI
    subst ex
    exact q p F' e
theorem ev_none (h : Ev te σ F O (val rN ())) : Ev te σ F O (val (rO R) none) := fun H k Q q => h H k Q fun v F' H' g a => q v F' H' g a
theorem ev_some {a : α} (hn : ∀ v F, R.rp a v F → v ≠ .non) (h : Ev te σ F O (val R a)) : Ev te σ F O (val (rO R) (some a)) := fun H k Q q => h H k Q fun v F' H' g r => q v F' H' g ⟨r, hn _ _ r⟩
theorem nn_I {a : Int} : ∀ v F, rInt.rp a v F → v ≠ .non := fun v F h z => by
  have h2 : v = .int a := h
  rw [z] at h2; cases h2
theorem nn_S {a : List Nat} : ∀ v F, rS.rp a v F → v ≠ .non := fun v F h z => by
  have h2 : v = .str (mk a) := h.1
  rw [z] at h2; cases h2
theorem nn_L {a : List α} : ∀ v F, (rL R).rp a v F → v ≠ .non := fun v F h z => by
  obtain ⟨p, xs, h2, _⟩ := h
  rw [z] at h2; cases h2
theorem nn_T2 {a : α × β} : ∀ v F, (rT2 R R').rp a v F → v ≠ .non := fun v F h z => by
  obtain ⟨p, x, y, h2, _⟩ := h
  rw [z] at h2; cases h2

/-! ### name op= e -/
theorem op_ipS {X : Cx} : PIp X .Add xCatS := iop_add_str
theorem op_ipA {X : Cx} : PIp X .Add xAdd := iop_add
theorem op_ipM {X : Cx} : PIp X .Sub xSub := fun pins s σ H x y v u Q I r1 r2 h => ip_sub pins s σ H x y v u Q I r1 r2 h
theorem sx_aug {γ : Type} {Rc : Rep γ} {n : Nat} {r : R2} {a : α} {c : γ} {v : V} (hs : σ[n]? = some (some v)) (ra : R.rp a v F) (h : Ev te σ F O B) (ho : Op2 r (val R a) B (val Rc c)) (k : ∀ v F', Same F F' → Rc.rp c v F' → Nx Z D (σ.set n (some v)) F' O) : Sx Z (tAug n te r) D σ F O := fun H at0 =>
  ⟨v, hs, h H at0.ok _ fun w F1 H1 g1 b => ho v w F1 H1 _ g1.fh (R.mono g1.f ra) b fun u F2 H2 g2 c => k u F2 (g1.trans g2).f c H2 (at0.gr (g1.trans g2))⟩

/-! ### kinds whose values are told by a function, where the thing is fit -/
structure FlatR {α : Type} (R : Rep α) (f : α → V) (ok : α → Prop) : Prop where
  to : ∀ {a v F}, R.rp a v F → v = f a ∧ ok a
  of : ∀ {a F}, ok a → R.rp a (f a) F
abbrev fS (l : List Nat) : V := .str (mk l)
theorem frS : FlatR rS fS OkS := ⟨fun h => h, fun h => ⟨rfl, h⟩⟩
theorem frI : FlatR rInt V.int (fun _ => True) := ⟨fun h => ⟨h, trivial⟩, fun _ => rfl⟩
theorem frB : FlatR rB V.bl (fun _ => True) := ⟨fun h => ⟨h, trivial⟩, fun _ => rfl⟩
/-- a list of fit things, not too long -/
structure OkL {α : Type} (ok : α → Prop) (as : List α) : Prop where
  len : as.length ≤ limL
  all : ∀ a ∈ as, ok a
variable {f : α → V} {ok : α → Prop}
theorem flat_to (h : FlatR R f ok) : ∀ {as : List α} {xs : List V}, All2 R as xs F → xs = as.map f ∧ ∀ a ∈ as, ok a
  | [], [], _ => ⟨rfl, fun _ m => (by cases m)⟩
  | a :: as, v :: vs, q => by
    obtain ⟨e1, o1⟩ := h.to q.1
    obtain ⟨e2, o2⟩ := flat_to h q.2
    refine ⟨by rw [List.map_cons, e1, e2], fun b m => ?_⟩
    rcases List.mem_cons.mp m with z | m
    · subst z; exact o1
    · exact o2 b m
  | [], _ :: _, q => q.elim
  | _ :: _, [], q => q.elim
theorem flat_of (h : FlatR R f ok) : ∀ {as : List α}, (∀ a ∈ as, ok a) → All2 R as (as.map f) F
  | [], _ => trivial
  | a :: as, q => ⟨h.of (q a (List.mem_cons_self ..)), flat_of h fun b m => q b (List.mem_cons_of_mem _ m)⟩
theorem flatB (h : FlatR R f ok) {as : List α} (q : OkL ok as) : AllB R as (as.map f) F := ⟨flat_of h q.all, q.len⟩
theorem flat_ok (h : FlatR R f ok) {as : List α} {xs : List V} (q : AllB R as xs F) : OkL ok as := ⟨q.len, (flat_to h q.all).2⟩
/-- how such a list stands in the heap -/
abbrev cF (f : α → V) (as : List α) : HO := .lst (as.map f)
theorem sx_asgF (hf : FlatR R f ok) {n : Nat} {as : List α} (h : EvN te σ F O R as) (q : ∀ p F', Same F F' → AllB R as (as.map f) F' → Nx Z D (σ.set n (some (.ref p))) F' ((p, cF f as) :: O)) : Sx Z (tAsg te (gName n)) D σ F O :=
  sx_asgN h fun p xs F' e r => by
    have ex : xs = as.map f := (flat_to hf r.all).1
    subst ex
    exact q p F' e r
theorem sx_asgMF (hf : FlatR R f ok) {n : Nat} {as : List α} (h : EvMN Z te σ F O O1 R as) (q : ∀ p F', Same F F' → AllB R as (as.map f) F' → Nx Z D (σ.set n (some (.ref p))) F' ((p, cF f as) :: O1)) : Sx Z (tAsg te (gName n)) D σ F O :=
  sx_asgMN h fun p xs F' e r => by
    have ex : xs = as.map f := (flat_to hf r.all).1
    subst ex
    exact q p F' e r
theorem sx_appF (hf : FlatR R f ok) {n m : Nat} {as : List α} {a : α} (hj : σ[m]? = some (some (.ref p))) (hO : O[n]? = some (p, cF f as)) (hx : AllB R as (as.map f) F) (h : Ev te σ F O (val R a)) (hz : (as ++ [a]).length ≤ limL)
    (k : ∀ F', Same F F' → AllB R (as ++ [a]) ((as ++ [a]).map f) F' → Nx Z D σ F' (O.set n (p, cF f (as ++ [a])))) : Sx Z (tDrop (tBM K "list" rAppend (tVar m) (tCons te tNil))) D σ F O :=
  sx_app hj hO hx h hz fun v F' e r => by
    have e1 : as.map f ++ [v] = (as ++ [a]).map f := (flat_to hf r.all).1
    have r' := r
    rw [e1] at r' ⊢
    exact k F' e r'
theorem sx_appMF (hf : FlatR R f ok) {n m : Nat} {as : List α} {a : α} (hj : σ[m]? = some (some (.ref p))) (hO0 : (p, cF f as) ∈ O) (hO : O1[n]? = some (p, cF f as)) (hx : AllB R as (as.map f) F) (h : EvM Z te σ F O O1 (val R a)) (hz : (as ++ [a]).length ≤ limL)
    (k : ∀ F', Same F F' → AllB R (as ++ [a]) ((as ++ [a]).map f) F' → Nx Z D σ F' (O1.set n (p, cF f (as ++ [a])))) : Sx Z (tDrop (tBM K "list" rAppend (tVar m) (tCons te tNil))) D σ F O :=
  sx_appM hj ⟨_, hO0, rfl⟩ hO hx h hz fun v F' e r => by
    have e1 : as.map f ++ [v] = (as ++ [a]).map f := (flat_to hf r.all).1
    have r' := r
    rw [e1] at r' ⊢
    exact k F' e r'
theorem sx_setF (hf : FlatR R f ok) {n m : Nat} {as : List α} {a : α} {q : Nat} {z : Int} (hj : σ[q]? = some (some (.ref p))) (hO : O[n]? = some (p, cF f as)) (hx : AllB R as (as.map f) F) (h : Ev te σ F O (val R a)) (hi : Ev tb σ F O (val rInt z))
    (hm : ixN as.length z = some m) (k : ∀ F', Same F F' → AllB R (as.set m a) ((as.set m a).map f) F' → Nx Z D σ F' (O.set n (p, cF f (as.set m a)))) : Sx Z (tAsg te (gSub (tVar q) tb rSetL)) D σ F O :=
  sx_setL hj hO hx h hi hm fun v F' e r => by
    have e1 : (as.map f).set m v = (as.set m a).map f := (flat_to hf r.all).1
    have r' := r
    rw [e1] at r' ⊢
    exact k F' e r'

/-! ### xs.pop(0), xs.pop() -/
def pop0O {α : Type} : List α → Option (α × List α)
  | [] => none
  | a :: as => some (a, as)
def popO {α : Type} (as : List α) : Option (α × List α) := (as[as.length - 1]?).map fun a => (a, as.dropLast)
theorem popO_e {as : List α} {x : α × List α} (h : popO as = some x) : as[as.length - 1]? = some x.1 ∧ x.2 = as.dropLast := by
  unfold popO at h
  cases e : as[as.length - 1]? with
  | none => rw [e] at h; cases h
  | some a => rw [e] at h; cases h; exact ⟨rfl, rfl⟩
theorem All2.dropLast {as : List α} {xs : List V} (h : All2 R as xs F) : All2 R as.dropLast xs.dropLast F := by
  rw [List.dropLast_eq_take, List.dropLast_eq_take, h.len]
  exact h.take _
theorem pop0_all {as : List α} {xs : List V} {x : α × List α} (h : AllB R as xs F) (e : pop0O as = some x) : AllB R x.2 xs.tail F := by
  cases as with
  | nil => cases e
  | cons a as =>
    cases e
    cases xs with
    | nil => exact h.all.elim
    | cons v vs => exact ⟨h.all.2, Nat.le_trans (Nat.le_succ _) h.len⟩
theorem pop_all {as : List α} {xs : List V} {x : α × List α} (h : AllB R as xs F) (e : popO as = some x) : AllB R x.2 xs.dropLast F := by
  rw [(popO_e e).2]
  exact ⟨h.all.dropLast, Nat.le_trans (by rw [List.length_dropLast]; omega) h.len⟩
theorem evM_pop0 {n m : Nat} {as : List α} {xs : List V} {x : α × List α} (hj : σ[m]? = some (some (.ref p))) (hO : O[n]? = some (p, .lst xs)) (hx : AllB R as xs F) (e : pop0O as = some x) (hi : Ev te σ F O (val rInt 0)) : EvM Z (tBM K "list" rPopAt (tVar m) (tCons te tNil)) σ F O (O.set n (p, .lst xs.tail)) (val R x.1) := fun F1 H e0 at0 Q q => by
  have hp := at0.ok.own _ (List.mem_of_getElem? hO)
  refine ⟨.ref p, hj, Or.inl ⟨rfl, xs, sq_of hp.2⟩, (hi.mono e0) H at0.ok _ fun v F2 H2 g2 ev => ?_⟩
  have ev' : v = .int 0 := ev
  subst ev'
  have at2 := at0.gr g2
  have hp2 := at2.ok.own _ (List.mem_of_getElem? hO)
  cases as with
  | nil => cases e
  | cons a as =>
    cases e
    cases xs with
    | nil => exact hx.all.elim
    | cons w ws =>
      exact ⟨p, w :: ws, 0, 0, w, rfl, rfl, hp2.2, by omega, by omega, by simp [seqIndex?], rfl, q w F2 _ g2.f (At.write at2 hO) (R.mono (e0.trans g2.f) hx.all.1)⟩
theorem evM_pop {n m : Nat} {as : List α} {xs : List V} {x : α × List α} (hj : σ[m]? = some (some (.ref p))) (hO : O[n]? = some (p, .lst xs)) (hx : AllB R as xs F) (e : popO as = some x) : EvM Z (tBM0 K "list" rPop (tVar m)) σ F O (O.set n (p, .lst xs.dropLast)) (val R x.1) := fun F1 H e0 at0 Q q => by
  have hp := at0.ok.own _ (List.mem_of_getElem? hO)
  obtain ⟨e1, _⟩ := popO_e e
  obtain ⟨v, hv, r⟩ := hx.all.get e1
  rw [hx.all.len] at hv
  exact ⟨.ref p, hj, Or.inl ⟨rfl, xs, sq_of hp.2⟩, p, xs, v, rfl, rfl, hp.2, hv, q v F1 _ (Same.refl _) (At.write at0 hO) (R.mono e0 r)⟩

/-! ### a def as a value -/
def rFn (mg : Str → Option Value) (x : Str) : Rep Unit := ⟨fun _ v _ => ∃ g, v = .ref g ∧ mg x = some (.ref g), fun _ h => h⟩
def tCallM (i : Nat) (mg : Str → Option Value) (x : Str) (sp : Sp) (t : TA) : TE := fun σ H Q => ∃ g, σ[i]? = some (some (.ref g)) ∧ mg x = some (.ref g) ∧ t σ H fun vs H1 => sp vs H1 Q E0
theorem pe_calM {X : Cx} {k i : Nat} {ps : List Str} {sp : Sp} {x y : Str} {p pos : Pos} {e : Expr} {es : List Expr} {t : TA} (c : Cal X.prog X.w X.K X.mg X.base k x ps sp) (hr : Room k X.A) (hN : X.N[i]? = some y) (hv : Vis X.env.scope y) (ha : PA X (e :: es) t)
    (hdb : (y == ("__debug__" : Str)) = false := by decide) (hcd : (y == ("__classdict__" : Str)) = false := by decide)
    (he : starEach (e :: es) X.env = (false, eval e X.env) :: starEach es X.env := by rfl) (hpl : (backTo pos (starEach es X.env)).any (·.1) = false := by rfl) : PE X (.Call (.Name y p) (e :: es) [] pos) (tCallM i X.mg x sp t) := by
  obtain ⟨f, fd, Fo, hm, hk, hb, _⟩ := c.ex
  refine ⟨fun pins s σ H Q I h => ?_⟩
  obtain ⟨g, hs, hg, ht⟩ := h
  have eg : g = f := by rw [hm] at hg; cases hg; rfl
  subst eg
  refine (pe_callL (i := i) (f := g) (sp := sp) (dvs := []) (E := E0) Fo hr hN hv hk hb .nil pass0 ha hdb hcd he hpl).run pins s σ H Q I ⟨hs, ?_⟩
  have e0 : (fun (vs : List V) (H1 : Hp) => sp (vs ++ []) H1 Q E0) = fun vs H1 => sp vs H1 Q E0 := by
    funext vs H1
    rw [List.append_nil]
  show t σ H (fun vs H1 => sp (vs ++ []) H1 Q E0)
  rw [e0]
  exact ht
theorem ev_callF {P : List Ar → Ar → Prop} {mg : Str → Option Value} {x : Str} {v : V} {u : Unit} {n : Nat} {as : List Ar} (hs : σ[n]? = some (some v)) (r : (rFn mg x).rp u v F) (h : EvA ts σ F O as) (hp : P as C) : Ev (tCallM n mg x (spG P) ts) σ F O C := fun H k Q q => by
  obtain ⟨g, rfl, hg⟩ := r
  exact ⟨g, hs, hg, h H k _ fun vs F1 H1 g1 a => ⟨F1, as, C, hp, g1.fh, a, fun v F2 H2 g2 c => q v F2 H2 (g1.trans g2) c⟩⟩
theorem cal_mg {P : Program} {w : World} {mg : Str → Option Value} {base : Heap} {k : Nat} {x : Str} {ps : List Str} {sp : Sp} (c : Cal P w K mg base k x ps sp) : ∃ g, mg x = some (.ref g) := by
  obtain ⟨f, fd, _, hm, _⟩ := c.ex
  exact ⟨f, hm⟩
theorem ev_fn {mg : Str → Option Value} {x : Str} {g : Addr} (h : mg x = some (.ref g)) : Ev (tC (.ref g)) σ F O (val (rFn mg x) ()) := ev_c fun _ => ⟨g, rfl, h⟩

/-! ### None or a thing; lists of unlike things -/
theorem ev_unO {o : Option α} {a : α} (e : o = some a) (h : Ev te σ F O (val (rO R) o)) : Ev te σ F O (val R a) := fun H k Q q => h H k Q fun v F' H' g r => by
  subst e
  exact q v F' H' g r.1
def rH2 (R : Rep α) (R' : Rep β) : Rep (α × β) := ⟨fun t v F => ∃ p x y, v = .ref p ∧ F p = some (.lst [x, y]) ∧ R.rp t.1 x F ∧ R'.rp t.2 y F,
  fun e ⟨p, x, y, h1, h2, h3, h4⟩ => ⟨p, x, y, h1, e _ _ h2, R.mono e h3, R'.mono e h4⟩⟩
def rH3 {γ : Type} (R : Rep α) (R' : Rep β) (R'' : Rep γ) : Rep (α × β × γ) := ⟨fun t v F => ∃ p x y z, v = .ref p ∧ F p = some (.lst [x, y, z]) ∧ R.rp t.1 x F ∧ R'.rp t.2.1 y F ∧ R''.rp t.2.2 z F,
  fun e ⟨p, x, y, z, h1, h2, h3, h4, h5⟩ => ⟨p, x, y, z, h1, e _ _ h2, R.mono e h3, R'.mono e h4, R''.mono e h5⟩⟩
theorem ev_lstH2 {a : α} {b : β} (h : EvA ts σ F O [val R a, val R' b]) : Ev (tLst ts) σ F O (val (rH2 R R') (a, b)) := fun H k Q q =>
  h H k _ fun vs F1 H1 g1 a => by
    obtain ⟨v, w, rfl, h1, h2⟩ := alla2 a
    refine ⟨by show 2 ≤ sizeLine; decide, fun p hp => q (.ref p) (upd F1 p (.lst [v, w])) _ (g1.trans (Gr.frz g1.fh hp)) ⟨p, v, w, rfl, upd_same, R.mono (same_new (free_of g1.fh hp)) h1, R'.mono (same_new (free_of g1.fh hp)) h2⟩⟩
theorem ev_lstH3 {R'' : Rep γ} {a : α} {b : β} {c : γ} (h : EvA ts σ F O [val R a, val R' b, val R'' c]) : Ev (tLst ts) σ F O (val (rH3 R R' R'') (a, b, c)) := fun H k Q q =>
  h H k _ fun vs F1 H1 g1 a => by
    obtain ⟨v, w, x, rfl, h1, h2, h3⟩ := alla3 a
    refine ⟨by show 3 ≤ sizeLine; decide, fun p hp => q (.ref p) (upd F1 p (.lst [v, w, x])) _ (g1.trans (Gr.frz g1.fh hp)) ⟨p, v, w, x, rfl, upd_same, R.mono (same_new (free_of g1.fh hp)) h1, R'.mono (same_new (free_of g1.fh hp)) h2, R''.mono (same_new (free_of g1.fh hp)) h3⟩⟩
theorem o_ixH20 {t : α × β} : Op2 (rIxL K) (val (rH2 R R') t) (val rInt 0) (val R t.1) := fun v w F H Q k ⟨p, x, y, ev, hp, h1, h2⟩ e q => ⟨p, _, 0, x, ev, e, sq_of (k _ _ hp), rfl, q x F H (Gr.refl k) h1⟩
theorem o_ixH21 {t : α × β} : Op2 (rIxL K) (val (rH2 R R') t) (val rInt 1) (val R' t.2) := fun v w F H Q k ⟨p, x, y, ev, hp, h1, h2⟩ e q => ⟨p, _, 1, y, ev, e, sq_of (k _ _ hp), rfl, q y F H (Gr.refl k) h2⟩
theorem o_ixH30 {R'' : Rep γ} {t : α × β × γ} : Op2 (rIxL K) (val (rH3 R R' R'') t) (val rInt 0) (val R t.1) := fun v w F H Q k ⟨p, x, y, z, ev, hp, h1, h2, h3⟩ e q => ⟨p, _, 0, x, ev, e, sq_of (k _ _ hp), rfl, q x F H (Gr.refl k) h1⟩
theorem o_ixH31 {R'' : Rep γ} {t : α × β × γ} : Op2 (rIxL K) (val (rH3 R R' R'') t) (val rInt 1) (val R' t.2.1) := fun v w F H Q k ⟨p, x, y, z, ev, hp, h1, h2, h3⟩ e q => ⟨p, _, 1, y, ev, e, sq_of (k _ _ hp), rfl, q y F H (Gr.refl k) h2⟩
theorem o_ixH32 {R'' : Rep γ} {t : α × β × γ} : Op2 (rIxL K) (val (rH3 R R' R'') t) (val rInt 2) (val R'' t.2.2) := fun v w F H Q k ⟨p, x, y, z, ev, hp, h1, h2, h3⟩ e q => ⟨p, _, 2, z, ev, e, sq_of (k _ _ hp), rfl, q z F H (Gr.refl k) h3⟩
theorem eH2 {f : α → PyData} {g : β → PyData} (h : Enc R f) (h' : Enc R' g) : Enc (rH2 R R') (fun t => PyData.list [f t.1, g t.2]) := ⟨fun ⟨p, x, y, h1, h2, h3, h4⟩ => ⟨p, [x, y], h1, h2, ⟨x, [y], rfl, h.to h3, y, [], rfl, h'.to h4, rfl⟩, by show (2 : Nat) ≤ limL; decide⟩⟩
theorem eH3 {R'' : Rep γ} {f : α → PyData} {g : β → PyData} {e : γ → PyData} (h : Enc R f) (h' : Enc R' g) (h'' : Enc R'' e) : Enc (rH3 R R' R'') (fun t => PyData.list [f t.1, g t.2.1, e t.2.2]) := ⟨fun ⟨p, x, y, z, h1, h2, h3, h4, h5⟩ => ⟨p, [x, y, z], h1, h2, ⟨x, [y, z], rfl, h.to h3, y, [z], rfl, h'.to h4, z, [], rfl, h''.to h5, rfl⟩, by show (3 : Nat) ≤ limL; decide⟩⟩
/-- x in xs, of data -/
def inDO (d : PyData) (ds : List PyData) : Option Bool := if SeqAt.shaped d = true ∧ SeqAt.shaped (.list ds) = true then some (ds.any fun z => PyData.eqv z d) else none
theorem o_inD {d : PyData} {ds : List PyData} {b : Bool} (h1 : Dt K A d) (h2 : Dt K B (.list ds)) (h : inDO d ds = some b) : Op2 (rInD K) A B (val rB b) := op_sc flB fun v w F H Q s a b' q => by
  obtain ⟨h3, h4⟩ := iteo h
  refine ⟨d, ds, h1.dp s a, h2.dp s b', h1.sh, h2.sh, ?_⟩
  rw [h4]
  exact q
/-! ### padding -/
def ljustO (l : List Nat) (i : Int) : Option (List Nat) := if i ≤ 1000000 ∧ -1000000 ≤ i then some (l ++ List.replicate (i.toNat - l.length) 32) else none
def rjustO (l : List Nat) (i : Int) : Option (List Nat) := if i ≤ 1000000 ∧ -1000000 ≤ i then some (List.replicate (i.toNat - l.length) 32 ++ l) else none
def mLjust : RM := fun x xs H Q => ∃ (a : Str) (i : Int), x = .str a ∧ xs = [.int i] ∧ PadOk i = true ∧ Q (.str (Txt.ljust a i)) H
def mRjust : RM := fun x xs H Q => ∃ (a : Str) (i : Int), x = .str a ∧ xs = [.int i] ∧ PadOk i = true ∧ Q (.str (Txt.rjust a i)) H
theorem mt_mLjust {X : Cx} : MtR X "str.ljust" mLjust := mt_ljust
theorem mt_mRjust {X : Cx} : MtR X "str.rjust" mRjust := mt_rjust
theorem padok {i : Int} (h : i ≤ 1000000 ∧ -1000000 ≤ i) : PadOk i = true := by
  have e : 1000000 < sizeLine := by decide
  unfold PadOk Builtin.Str.tooLong fitsSsize
  rw [Bool.and_eq_true, Bool.not_eq_true', Bool.not_eq_true', Bool.or_eq_false_iff]
  exact ⟨⟨decide_eq_false (by omega), decide_eq_false (by omega)⟩, decide_eq_false (by omega)⟩
theorem ljust_mk {l : List Nat} {i : Int} : Txt.ljust (mk l) i = mk (l ++ List.replicate (i.toNat - l.length) 32) := by
  apply mk_of
  unfold Txt.ljust
  rw [mk_len]
  by_cases h : i ≤ l.length
  · rw [if_pos h]
    have e : i.toNat - l.length = 0 := by omega
    rw [e]
    simp
  · rw [if_neg h]
    simp [Builtin.Str.padded]
theorem rjust_mk {l : List Nat} {i : Int} : Txt.rjust (mk l) i = mk (List.replicate (i.toNat - l.length) 32 ++ l) := by
  apply mk_of
  unfold Txt.rjust
  rw [mk_len]
  by_cases h : i ≤ l.length
  · rw [if_pos h]
    have e : i.toNat - l.length = 0 := by omega
    rw [e]
    simp
  · rw [if_neg h]
    simp [Builtin.Str.padded]
theorem m_ljust {l c : List Nat} (h : ljustO l i = some c) : Cm mLjust l [val rInt i] (val rS c) := fun vs F H Q k e a q => by
  obtain ⟨v, rfl, b⟩ := alla1 a
  have b' : v = .int i := b
  subst b'
  obtain ⟨h1, h2⟩ := iteo h
  subst h2
  have h3 : l.length ≤ 1000000 := k.1
  have okc : OkS (l ++ List.replicate (i.toNat - l.length) 32) := by
    refine ⟨?_, fun c m => ?_⟩
    · show (l ++ List.replicate (i.toNat - l.length) 32).length ≤ 1000000
      rw [List.length_append, List.length_replicate]; omega
    · rcases List.mem_append.mp m with m | m
      · exact k.2 c m
      · rw [(List.mem_replicate.mp m).2]; decide
  exact ⟨mk l, i, rfl, rfl, padok h1, by rw [ljust_mk]; exact q _ F H (Gr.refl e) ⟨rfl, okc⟩⟩
theorem m_rjust {l c : List Nat} (h : rjustO l i = some c) : Cm mRjust l [val rInt i] (val rS c) := fun vs F H Q k e a q => by
  obtain ⟨v, rfl, b⟩ := alla1 a
  have b' : v = .int i := b
  subst b'
  obtain ⟨h1, h2⟩ := iteo h
  subst h2
  have h3 : l.length ≤ 1000000 := k.1
  have okc : OkS (List.replicate (i.toNat - l.length) 32 ++ l) := by
    refine ⟨?_, fun c m => ?_⟩
    · show (List.replicate (i.toNat - l.length) 32 ++ l).length ≤ 1000000
      rw [List.length_append, List.length_replicate]; omega
    · rcases List.mem_append.mp m with m | m
      · rw [(List.mem_replicate.mp m).2]; decide
      · exact k.2 c m
  exact ⟨mk l, i, rfl, rfl, padok h1, by rw [rjust_mk]; exact q _ F H (Gr.refl e) ⟨rfl, okc⟩⟩
end
end Lm
namespace Lm
/-- looked at by a mirror behind a call that changes a list: all is fit -/
def okL {α : Type} (f : α → Bool) (as : List α) : Bool := decide (as.length ≤ limL) && as.all f
def grdB (b : Bool) : Option Unit := if b = true then some () else none
theorem okL_S {as : List (List Nat)} {u : Unit} (h : grdB (okL okS as) = some u) : OkL OkS as := by
  unfold grdB at h
  by_cases hb : okL okS as = true
  · have h2 := Bool.and_eq_true_iff.mp hb
    exact ⟨of_decide_eq_true h2.1, fun a m => okS_iff.mp (List.all_eq_true.mp h2.2 a m)⟩
  · rw [if_neg hb] at h; cases h
theorem okL_I {as : List Int} {u : Unit} (h : grdB (okL (fun _ => true) as) = some u) : OkL (fun _ => True) as := by
  unfold grdB at h
  by_cases hb : okL (fun _ => true) as = true
  · have h2 := Bool.and_eq_true_iff.mp hb
    exact ⟨of_decide_eq_true h2.1, fun _ _ => trivial⟩
  · rw [if_neg hb] at h; cases h
end Lm
/-! Lm: the frozen part named (within comprehensions the context's own can't be told). -/
namespace Lm
open PySem PySem.Spec PyProof.Rows L2
theorem room65 {k : Nat} {A : Around} (r : Room k A) : A.units + 65 < cLine := by have := r.un; omega
section
variable {X : Cx} {K : PySem.W.Frag} (hK : X.K = K)
include hK
theorem call_cLen_k : CallR X (.builtin "len") (cLen K) := hK ▸ call_cLen
theorem call_cList_k : CallR X (.type "list") (cList K) := hK ▸ call_cList
theorem cr_max_k (h : X.calm = true) : CallR X (.builtin "max") (rMax K) := hK ▸ cr_max h
theorem cr_min_k (h : X.calm = true) : CallR X (.builtin "min") (rMin K) := hK ▸ cr_min h
theorem cr_sum_k (h : X.calm = true) : CallR X (.builtin "sum") (rSum K) := hK ▸ cr_sum h
theorem cr_all_k (h : X.calm = true) : CallR X (.builtin "all") (rAll K) := hK ▸ cr_all h
theorem cr_any_k (h : X.calm = true) : CallR X (.builtin "any") (rAny K) := hK ▸ cr_any h
theorem call_isi_k : CallR X (.builtin "isinstance") (rIsi K) := hK ▸ call_isi
theorem op_in_seq_k : OpR X (compareOp .In) (rIn K false) := hK ▸ op_in_seq
theorem op_notIn_seq_k : OpR X (compareOp .NotIn) (rIn K true) := hK ▸ op_notIn_seq
theorem op_eqD_k (u : X.A.units + 64 < cLine) : OpR X (compareOp .Eq) (rEqD K) := hK ▸ op_eqD u
theorem op_neD_k (u : X.A.units + 64 < cLine) : OpR X (compareOp .NotEq) (rNeD K) := hK ▸ op_neD u
theorem op_inD_k (u : X.A.units + 65 < cLine) : OpR X (compareOp .In) (rInD K) := hK ▸ op_inD u
theorem ix_list_k : IxR X (rIxL K) := hK ▸ ix_list
theorem ix_tup_k : IxR X (rIxT K) := hK ▸ ix_tup
theorem sl_list_k : SlR X (rSlL K) := hK ▸ sl_list
theorem mt_mJoin_k : MtR X "str.join" (mJoin K) := hK ▸ mt_mJoin
theorem mt_index_k : MtR X "list.index" (rIndex K) := hK ▸ mt_index
variable {e tg : Expr} {te : TE} {ta : TA} {T : String} {r : V → List V → Hp → VK → Prop} {n : Nat} {gs : TGs}
/-- a reading told with the context's own part is one with the named part -/
theorem kRevL (h : PE X e (tRevL X.K te)) : PE X e (tRevL K te) := hK ▸ h
theorem kBM0 (h : PE X e (tBM0 X.K T r te)) : PE X e (tBM0 K T r te) := hK ▸ h
theorem kBM (h : PE X e (tBM X.K T r te ta)) : PE X e (tBM K T r te ta) := hK ▸ h
theorem kList (h : PI X tg e (iList X.K te)) : PI X tg e (iList K te) := hK ▸ h
theorem kTup (h : PI X tg e (iTup X.K te)) : PI X tg e (iTup K te) := hK ▸ h
theorem kEnum (h : PI X tg e (iEnum X.K ta)) : PI X tg e (iEnum K ta) := hK ▸ h
theorem kZip (h : PI X tg e (iZip X.K ta)) : PI X tg e (iZip K ta) := hK ▸ h
theorem kgTup (h : PG X tg (gTup X.K n gs)) : PG X tg (gTup K n gs) := hK ▸ h
end
end Lm
/-! Lm: plain laws of what mirrors are made of. -/
namespace Lm
open PySem PySem.Spec L2
theorem lt_eq {α β : Type} (a : α) (f : α → Option β) : lt a f = f a := rfl
theorem cnd_true {α : Type} (a b : Option α) : cnd true a b = a := rfl
theorem cnd_false {α : Type} (a b : Option α) : cnd false a b = b := rfl
theorem bind_some {α β : Type} (a : α) (f : α → Option β) : (some a).bind f = f a := rfl
theorem fwd_nx {ρ S γ : Type} (s : S) (k : S → Option γ) (kr : ρ → Option γ) : fwd (some (Fw.nx s)) k kr = k s := rfl
theorem fwd_rt {ρ S γ : Type} (r : ρ) (k : S → Option γ) (kr : ρ → Option γ) : fwd (some (Fw.rt r)) k kr = kr r := rfl
theorem loop_nil {α ρ S : Type} (f : S → α → Option (Fw ρ S)) (s : S) : loop f [] s = some (.nx s) := rfl
theorem cnd_ite {α : Type} (c : Bool) (a b : Option α) : cnd c a b = if c = true then a else b := by cases c <;> rfl
theorem bind_e {α β : Type} {o : Option α} {a : α} {f : α → Option β} (h : o = some a) : o.bind f = f a := by rw [h]; rfl
/-- small products, quotients -/
theorem log2_lt64 {n : Nat} (h : n < 2 ^ 64) : n.log2 < 64 := by
  by_cases e : n = 0
  · subst e; decide
  · exact (Nat.log2_lt e).mpr h
theorem mulO_s {i j : Int} (hi : -(2 ^ 63) ≤ i ∧ i < 2 ^ 63) (hj : -(2 ^ 63) ≤ j ∧ j < 2 ^ 63) : mulO i j = some (i * j) := by
  unfold mulO
  rw [if_pos]
  have h1 := log2_lt64 (n := i.natAbs) (by omega)
  have h2 := log2_lt64 (n := j.natAbs) (by omega)
  omega
theorem modO_s {i j : Int} (h : 0 < j) : modO i j = some (i % j) := by unfold modO; rw [if_pos h]
theorem divO_s {i j : Int} (h : 0 < j ∧ j < 1073741824) : divO i j = some (i / j) := by unfold divO; rw [if_pos h]
theorem rngO_s {lo hi : Int} (h1 : -4000000 ≤ lo ∧ lo ≤ 4000000) (h2 : -4000000 ≤ hi ∧ hi ≤ lo + 4000000) : rngO lo hi = some (rng lo hi) := by
  unfold rngO
  have e : limL = 4000000 := rfl
  rw [if_pos]
  rw [e]
  omega
theorem ixN_nat {n i : Nat} (h : i < n) : ixN n (i : Int) = some i := by
  unfold ixN
  split
  · next h2 => simp [h]
  · next h2 => omega
theorem ixO_nat {α : Type} {as : List α} {i : Nat} {a : α} (h : as[i]? = some a) : ixO as (i : Int) = some a := by
  unfold ixO atI
  rw [ixN_nat (List.getElem?_eq_some_iff.mp h).1]
  exact h
theorem ixO_pos {α : Type} {as : List α} {i : Int} (h0 : 0 ≤ i) (h : i < as.length) : ixO as i = as[i.toNat]? := by
  obtain ⟨k, rfl⟩ := Int.eq_ofNat_of_zero_le h0
  have h2 : k < as.length := by omega
  rw [ixO_nat (List.getElem?_eq_getElem h2)]
  simp [h2]
theorem appO_s {α : Type} {as : List α} {a : α} (h : as.length < 4000000) : appO as a = some (as ++ [a]) := by
  unfold appO
  have e : limL = 4000000 := rfl
  rw [if_pos]
  rw [List.length_append, e]
  simp; omega
theorem catO_s {α : Type} {as bs : List α} (h : as.length + bs.length ≤ 4000000) : catO as bs = some (as ++ bs) := by
  unfold catO
  have e : limL = 4000000 := rfl
  rw [if_pos]
  rw [List.length_append, e]
  exact h
theorem repO_s {α : Type} {as : List α} {n : Int} (h : n.toNat * as.length ≤ 4000000) (h1 : -4000000 ≤ n ∧ n ≤ 4000000) : repO as n = some (List.replicate n.toNat as).flatten := by
  unfold repO
  have e : limL = 4000000 := rfl
  rw [if_pos]
  rw [List.length_flatten, List.map_replicate, sum_rep, e]
  omega
theorem setO_nat {α : Type} {as : List α} {i : Nat} {a : α} (h : i < as.length) : setO as (i : Int) a = some (as.set i a) := by
  unfold setO
  rw [ixN_nat h]
  rfl
theorem rep_lenA {α : Type} (n : Nat) (l : List α) : (List.replicate n l).flatten.length = n * l.length := by
  rw [List.length_flatten, List.map_replicate, sum_rep]
/-! ### == of data -/
structure GE {α : Type} (f : α → PyData) (ok : α → Prop) (n : Nat) : Prop where
  lay : ∀ a, ok a → (f a).canLay0 = true
  dep : ∀ a, (f a).depth ≤ n
  eq : ∀ a b, PyData.eqv (f a) (f b) = true ↔ a = b
abbrev yes {α : Type} (_ : α) : Prop := True
abbrev oks {α : Type} (ok : α → Prop) (as : List α) : Prop := ∀ a ∈ as, ok a
section
variable {α β γ : Type} {f : α → PyData} {g : β → PyData} {h : γ → PyData} {ok : α → Prop} {ok2 : β → Prop} {ok3 : γ → Prop} {n m l : Nat}
theorem ge_eqO (h : GE f ok n) (hn : n ≤ 64) {a b : α} (ha : ok a) (hb : ok b) [Decidable (a = b)] : eqO (f a) (f b) = some (decide (a = b)) := by
  have s : ∀ a, ok a → SeqAt.shaped (f a) = true := fun a q => by
    unfold SeqAt.shaped
    rw [h.lay a q, Bool.true_and]
    exact decide_eq_true (Nat.le_trans (h.dep a) hn)
  unfold eqO
  rw [if_pos ⟨s a ha, s b hb⟩]
  congr 1
  rw [Bool.eq_iff_iff, h.eq a b]
  simp
theorem gI : GE PyData.int yes 1 := ⟨fun _ _ => rfl, fun _ => by simp [PyData.depth], fun a b => by simp [PyData.eqv]⟩
theorem gB : GE PyData.bool yes 1 := ⟨fun _ _ => rfl, fun _ => by simp [PyData.depth], fun a b => by simp [PyData.eqv]⟩
theorem gS : GE encS OkS 1 := ⟨fun a h => by
  simp only [encS, PyData.canLay0, PyData.strOk]
  rw [Array.all_eq_true']
  intro x hx
  have := h.2 x (by simpa using hx)
  exact decide_eq_true (by omega), fun _ => by simp [encS, PyData.depth], fun a b => by
  simp only [encS, PyData.eqv, beq_iff_eq]
  exact ⟨mk_inj, fun e => by rw [e]⟩⟩
theorem gN : GE (fun (_ : Unit) => PyData.none) yes 1 := ⟨fun _ _ => rfl, fun _ => by simp [PyData.depth], fun a b => by simp [PyData.eqv]⟩
theorem ge_dep (h : GE f ok n) : ∀ as : List α, PyData.depthAll (as.map f) ≤ n
  | [] => Nat.zero_le _
  | a :: as => by
    rw [List.map_cons]
    simp only [PyData.depthAll]
    exact Nat.max_le.mpr ⟨h.dep a, ge_dep h as⟩
theorem ge_lay (h : GE f ok n) : ∀ as : List α, oks ok as → PyData.canLayAll0 (as.map f) = true
  | [], _ => rfl
  | a :: as, q => by
    rw [List.map_cons]
    simp only [PyData.canLayAll0, h.lay a (q a (List.mem_cons_self ..)), ge_lay h as (fun b m => q b (List.mem_cons_of_mem _ m)), Bool.and_self]
theorem ge_eqA (h : GE f ok n) : ∀ as bs : List α, PyData.eqvAll (as.map f) (bs.map f) = true ↔ as = bs := fun as => by
  induction as with
  | nil => intro bs; cases bs <;> simp [PyData.eqvAll]
  | cons a as ih =>
    intro bs
    cases bs with
    | nil => simp [PyData.eqvAll]
    | cons b bs => rw [List.map_cons, List.map_cons]; simp only [PyData.eqvAll, Bool.and_eq_true, h.eq, ih, List.cons.injEq]
theorem gL (h : GE f ok n) : GE (fun as : List α => PyData.list (as.map f)) (oks ok) (n + 1) := ⟨fun as q => by simp only [PyData.canLay0]; exact ge_lay h as q, fun as => by simp only [PyData.depth]; exact Nat.succ_le_succ (ge_dep h as), fun a b => by simp only [PyData.eqv]; exact ge_eqA h a b⟩
theorem gTL (h : GE f ok n) : GE (fun as : List α => PyData.tuple (as.map f)) (oks ok) (n + 1) := ⟨fun as q => by simp only [PyData.canLay0]; exact ge_lay h as q, fun as => by simp only [PyData.depth]; exact Nat.succ_le_succ (ge_dep h as), fun a b => by simp only [PyData.eqv]; exact ge_eqA h a b⟩
theorem gT2 (h1 : GE f ok n) (h2 : GE g ok2 m) : GE (fun t : α × β => PyData.tuple [f t.1, g t.2]) (fun t => ok t.1 ∧ ok2 t.2) (max n m + 1) := ⟨fun a q => by simp only [PyData.canLay0, PyData.canLayAll0, h1.lay _ q.1, h2.lay _ q.2, Bool.and_self], fun a => by
    simp only [PyData.depth, PyData.depthAll]
    have := h1.dep a.1
    have := h2.dep a.2
    omega, fun a b => by
    simp only [PyData.eqv, PyData.eqvAll, Bool.and_eq_true, h1.eq, h2.eq, Bool.and_true]
    exact ⟨fun z => Prod.ext z.1 z.2, fun z => by rw [z]; exact ⟨rfl, rfl⟩⟩⟩
theorem gT3 (h1 : GE f ok n) (h2 : GE g ok2 m) (h3 : GE h ok3 l) : GE (fun t : α × β × γ => PyData.tuple [f t.1, g t.2.1, h t.2.2]) (fun t => ok t.1 ∧ ok2 t.2.1 ∧ ok3 t.2.2) (max n (max m l) + 1) := ⟨fun a q => by simp only [PyData.canLay0, PyData.canLayAll0, h1.lay _ q.1, h2.lay _ q.2.1, h3.lay _ q.2.2, Bool.and_self], fun a => by
    simp only [PyData.depth, PyData.depthAll]
    have := h1.dep a.1
    have := h2.dep a.2.1
    have := h3.dep a.2.2
    omega, fun a b => by
    simp only [PyData.eqv, PyData.eqvAll, Bool.and_eq_true, h1.eq, h2.eq, h3.eq, Bool.and_true]
    exact ⟨fun z => Prod.ext z.1 (Prod.ext z.2.1 z.2.2), fun z => by rw [z]; exact ⟨rfl, rfl, rfl⟩⟩⟩
/-- lists of ints -/
theorem eqO_ints (as bs : List Int) : eqO (PyData.list (as.map PyData.int)) (PyData.list (bs.map PyData.int)) = some (decide (as = bs)) := ge_eqO (gL gI) (by decide) (fun _ _ => trivial) (fun _ _ => trivial)
theorem eqO_strs {as bs : List (List Nat)} (ha : oks OkS as) (hb : oks OkS bs) : eqO (PyData.list (as.map encS)) (PyData.list (bs.map encS)) = some (decide (as = bs)) := ge_eqO (gL gS) (by decide) ha hb
end
/-! ### comprehensions, loops -/
theorem mapF_map {α β : Type} {f : α → Option (Option β)} {g : α → β} : ∀ {as : List α}, (∀ a ∈ as, f a = some (some (g a))) → mapF f as = some (as.map g)
  | [], _ => rfl
  | a :: as, h => by
    have ih := mapF_map (as := as) fun b m => h b (List.mem_cons_of_mem _ m)
    simp only [mapF, h a (List.mem_cons_self ..), ih, List.map_cons]
theorem mapF_filter {α β : Type} {f : α → Option (Option β)} {p : α → Bool} {g : α → β} : ∀ {as : List α}, (∀ a ∈ as, f a = some (if p a = true then some (g a) else none)) → mapF f as = some ((as.filter p).map g)
  | [], _ => rfl
  | a :: as, h => by
    have ih := mapF_filter (as := as) fun b m => h b (List.mem_cons_of_mem _ m)
    have ha := h a (List.mem_cons_self ..)
    by_cases e : p a = true
    · rw [if_pos e] at ha
      simp only [mapF, ha, ih, List.filter_cons, e, if_true, List.map_cons]
    · rw [if_neg e] at ha
      simp only [mapF, ha, ih, List.filter_cons, e]
      rfl
/-- a comprehension over the tape: I i k: what holds of the tape behind i things -/
theorem mapFM_all {α β τ : Type} {f : τ → α → Option (Option β × τ)} {P : β → Prop} {I : Nat → τ → Prop} : ∀ {as : List α} {i : Nat} {k : τ}, I i k → (∀ j k a, a ∈ as → i ≤ j → j < i + as.length → I j k → ∃ b k', f k a = some (some b, k') ∧ P b ∧ I (j + 1) k') →
    ∃ bs k', mapFM f as k = some (bs, k') ∧ bs.length = as.length ∧ (∀ b ∈ bs, P b) ∧ I (i + as.length) k'
  | [], i, k, h, _ => ⟨[], k, rfl, rfl, fun _ m => (by cases m), h⟩
  | a :: as, i, k, h, q => by
    obtain ⟨b, k', e, hp, hi⟩ := q i k a (List.mem_cons_self ..) (Nat.le_refl _) (by simp) h
    obtain ⟨bs, k2, e2, hl, hb, hI⟩ := mapFM_all (as := as) (i := i + 1) hi fun j k c m h1 h2 => q j k c (List.mem_cons_of_mem _ m) (by omega) (by rw [List.length_cons]; omega)
    refine ⟨b :: bs, k2, by simp only [mapFM, e, e2], by rw [List.length_cons, List.length_cons, hl], fun c m => ?_, by
      rw [List.length_cons]
      have e9 : i + (as.length + 1) = i + 1 + as.length := by omega
      rw [e9]; exact hI⟩
    rcases List.mem_cons.mp m with z | m
    · subst z; exact hp
    · exact hb c m
/-- a for whose turns all go on: what holds behind i turns -/
theorem loop_all {α ρ S : Type} {f : S → α → Option (Fw ρ S)} {I : Nat → S → Prop} : ∀ {as : List α} {i : Nat} {s : S}, I i s → (∀ j s a, as[j]? = some a → I (i + j) s → ∃ s', f s a = some (.nx s') ∧ I (i + j + 1) s') → ∃ s', loop f as s = some (.nx s') ∧ I (i + as.length) s'
  | [], i, s, h, _ => ⟨s, rfl, h⟩
  | a :: as, i, s, h, q => by
    obtain ⟨s1, e, h1⟩ := q 0 s a rfl h
    obtain ⟨s2, e2, h2⟩ := loop_all (as := as) (i := i + 1) (s := s1) h1 fun j s b hb hI => by
      have e9 : i + 1 + j = i + (j + 1) := by omega
      rw [e9] at hI ⊢
      exact q (j + 1) s b hb hI
    refine ⟨s2, by simp only [loop, e, e2], ?_⟩
    rw [List.length_cons]
    have e9 : i + (as.length + 1) = i + 1 + as.length := by omega
    rw [e9]; exact h2
/-- a while: an invariant, a measure -/
theorem while_all {ρ S : Type} {c : S → Option Bool} {f : S → Option (Fw ρ S)} {I : S → Prop} {me : S → Nat} : ∀ {n : Nat} {s : S}, I s → me s < n → (∀ s, I s → ∃ b, c s = some b ∧ (b = true → ∃ s', f s = some (.nx s') ∧ I s' ∧ me s' < me s)) → ∃ s', whileN c f n s = some (.nx s') ∧ I s' ∧ c s' = some false
  | 0, s, h, hm, _ => absurd hm (Nat.not_lt_zero _)
  | n + 1, s, h, hm, q => by
    obtain ⟨b, hc, hb⟩ := q s h
    cases b with
    | false => exact ⟨s, by simp only [whileN, hc], h, hc⟩
    | true =>
      obtain ⟨s1, e1, h1, hm1⟩ := hb rfl
      obtain ⟨s2, e2, h2⟩ := while_all (n := n) (s := s1) h1 (by omega) q
      exact ⟨s2, by simp only [whileN, hc, e1, e2], h2⟩
/-! ### sums -/
theorem sum_set : ∀ {ns : List Int} {j : Nat} {a x : Int}, ns[j]? = some a → (ns.set j x).sum = ns.sum - a + x
  | [], _, _, _, h => by cases h
  | n :: ns, 0, a, x, h => by
    cases h
    simp; omega
  | n :: ns, j + 1, a, x, h => by
    have := sum_set (ns := ns) (j := j) (a := a) (x := x) h
    simp only [List.set_cons_succ, List.sum_cons, this]
    omega
theorem sum_le {c : Int} : ∀ {ns : List Int}, (∀ x ∈ ns, x ≤ c) → ns.sum ≤ c * ns.length
  | [], _ => by simp
  | n :: ns, h => by
    have ih := sum_le (ns := ns) fun x m => h x (List.mem_cons_of_mem _ m)
    have h1 := h n (List.mem_cons_self ..)
    rw [List.sum_cons, List.length_cons]
    have e : c * ((ns.length + 1 : Nat) : Int) = c * ns.length + c := by
      rw [Int.natCast_succ, Int.mul_add, Int.mul_one]
    omega
theorem sum_ge {c : Int} : ∀ {ns : List Int}, (∀ x ∈ ns, c ≤ x) → c * ns.length ≤ ns.sum
  | [], _ => by simp
  | n :: ns, h => by
    have ih := sum_ge (ns := ns) fun x m => h x (List.mem_cons_of_mem _ m)
    have h1 := h n (List.mem_cons_self ..)
    rw [List.sum_cons, List.length_cons]
    have e : c * ((ns.length + 1 : Nat) : Int) = c * ns.length + c := by
      rw [Int.natCast_succ, Int.mul_add, Int.mul_one]
    omega
theorem sum_rev (ns : List Int) : ns.reverse.sum = ns.sum := by
  induction ns with
  | nil => rfl
  | cons n ns ih => rw [List.reverse_cons, List.sum_append, ih]; simp; omega
end Lm
namespace Lm
open PySem PySem.Spec
theorem bindE {α β : Type} {o : Option α} {a : α} {f : α → Option β} {r : Option β} (h : o = some a) (h2 : f a = r) : o.bind f = r := by rw [h]; exact h2
theorem ltE {α β : Type} {a : α} {f : α → Option β} {r : Option β} (h : f a = r) : lt a f = r := h
theorem cndT {α : Type} {c : Bool} {a b r : Option α} (h : c = true) (h2 : a = r) : cnd c a b = r := by rw [h]; exact h2
theorem cndF {α : Type} {c : Bool} {a b r : Option α} (h : c = false) (h2 : b = r) : cnd c a b = r := by rw [h]; exact h2
theorem fwdE {ρ S γ : Type} {o : Option (Fw ρ S)} {s : S} {k : S → Option γ} {kr : ρ → Option γ} {r : Option γ} (h : o = some (.nx s)) (h2 : k s = r) : fwd o k kr = r := by rw [h]; exact h2
theorem loopE {α ρ S : Type} {f : S → α → Option (Fw ρ S)} {a : α} {as : List α} {s s' : S} {r : Option (Fw ρ S)} (h : f s a = some (.nx s')) (h2 : loop f as s' = r) : loop f (a :: as) s = r := by simp only [loop, h]; exact h2
theorem whileT {ρ S : Type} {c : S → Option Bool} {f : S → Option (Fw ρ S)} {n : Nat} {s s' : S} {r : Option (Fw ρ S)} (h : c s = some true) (h1 : f s = some (.nx s')) (h2 : whileN c f n s' = r) : whileN c f (n + 1) s = r := by simp only [whileN, h, h1]; exact h2
theorem whileF {ρ S : Type} {c : S → Option Bool} {f : S → Option (Fw ρ S)} {n : Nat} {s : S} (h : c s = some false) : whileN c f (n + 1) s = some (.nx s) := by simp only [whileN, h]
theorem decT {p : Prop} [Decidable p] (h : p) : decide p = true := decide_eq_true h
theorem decF {p : Prop} [Decidable p] (h : ¬p) : decide p = false := decide_eq_false h
theorem ndecT {p : Prop} [Decidable p] (h : ¬p) : (!decide p) = true := by rw [decide_eq_false h]; rfl
theorem ndecF {p : Prop} [Decidable p] (h : p) : (!decide p) = false := by rw [decide_eq_true h]; rfl
/-- with places from n on -/
def enumFrom {α : Type} : Nat → List α → List (Int × α)
  | _, [] => []
  | n, a :: as => ((n : Int), a) :: enumFrom (n + 1) as
theorem enum_aux {α : Type} : ∀ (as : List α) (n : Nat), (List.range' n as.length).zipWith (fun (i : Nat) a => ((i : Int), a)) as = enumFrom n as
  | [], n => by simp [enumFrom]
  | a :: as, n => by
    have h := enum_aux as (n + 1)
    rw [List.length_cons, List.range'_succ, List.zipWith_cons_cons, h]
    rfl
theorem enumL_from {α : Type} (as : List α) : enumL as = enumFrom 0 as := by
  unfold enumL
  rw [List.range_eq_range', enum_aux]
theorem catS_s {l m : List Nat} (h : l.length + m.length ≤ 1000000) : catS l m = some (l ++ m) := by
  unfold catS
  rw [if_pos]
  rw [List.length_append]
  exact h
theorem repS_s {c : Nat} {n : Int} (h : n ≤ 1000000) (h1 : -1000000 ≤ n) : repS [c] n = some (List.replicate n.toNat c) := by
  unfold repS
  have e : (List.replicate n.toNat [c]).flatten = List.replicate n.toNat c := by simp
  rw [e, if_pos]
  refine ⟨?_, by omega, by omega⟩
  rw [List.length_replicate]
  show n.toNat ≤ 1000000
  omega
theorem cut_take {α : Type} (as : List α) (n : Nat) : cutL as none (some (n : Int)) = as.take n := by
  have e : HT.sIx as.length as.length (some (n : Int)) = min n as.length := by
    unfold HT.sIx
    simp
    omega
  have e2 : HT.sIx as.length 0 none = 0 := rfl
  unfold cutL
  rw [e, e2, List.drop_zero, Nat.sub_zero]
  by_cases h : n ≤ as.length
  · rw [Nat.min_eq_left h]
  · rw [Nat.min_eq_right (by omega), List.take_of_length_le (Nat.le_refl _), List.take_of_length_le (by omega)]
theorem cut_drop {α : Type} (as : List α) (n : Nat) : cutL as (some (n : Int)) none = as.drop n := by
  have e : HT.sIx as.length 0 (some (n : Int)) = min n as.length := by
    unfold HT.sIx
    simp
    omega
  have e2 : HT.sIx as.length as.length none = as.length := rfl
  unfold cutL
  rw [e, e2]
  by_cases h : n ≤ as.length
  · rw [Nat.min_eq_left h, List.take_of_length_le]
    rw [List.length_drop]; omega
  · rw [Nat.min_eq_right (by omega), List.drop_of_length_le (Nat.le_refl _), List.drop_of_length_le (by omega)]
    simp
theorem cut_mid {α : Type} (as : List α) (n m : Nat) (h : n ≤ m) : cutL as (some (n : Int)) (some (m : Int)) = (as.drop n).take (m - n) := by
  have e : HT.sIx as.length 0 (some (n : Int)) = min n as.length := by
    unfold HT.sIx
    simp
    omega
  have e2 : HT.sIx as.length as.length (some (m : Int)) = min m as.length := by
    unfold HT.sIx
    simp
    omega
  unfold cutL
  rw [e, e2]
  by_cases h1 : n ≤ as.length
  · rw [Nat.min_eq_left h1]
    by_cases h2 : m ≤ as.length
    · rw [Nat.min_eq_left h2]
    · rw [Nat.min_eq_right (by omega), List.take_of_length_le (by rw [List.length_drop]; omega), List.take_of_length_le (by rw [List.length_drop]; omega)]
  · rw [Nat.min_eq_right (by omega), Nat.min_eq_right (by omega), List.drop_of_length_le (Nat.le_refl _), List.drop_of_length_le (by omega)]
    simp
end Lm
namespace Lm
open PySem PySem.Spec
theorem fwdEx {ρ S γ : Type} {o : Option (Fw ρ S)} {k : S → Option γ} {kr : ρ → Option γ} {r : Option γ} (h : ∃ s, o = some (.nx s) ∧ k s = r) : fwd o k kr = r := by
  obtain ⟨s, h1, h2⟩ := h
  rw [h1]; exact h2
theorem okL_of {as : List (List Nat)} (h : as.length ≤ 4000000) (h2 : ∀ a ∈ as, OkS a) : grdB (okL okS as) = some () := by
  unfold grdB
  rw [if_pos]
  unfold okL
  rw [Bool.and_eq_true, decide_eq_true_eq, List.all_eq_true]
  exact ⟨h, fun a m => okS_iff.mpr (h2 a m)⟩
theorem eqO_nil {x : List Nat} {xs : List (List Nat)} (h : ∀ y ∈ x :: xs, OkS y) : eqO (PyData.list ((x :: xs).map encS)) (PyData.list (([] : List (List Nat)).map encS)) = some false := by
  rw [eqO_strs h (fun _ m => by cases m)]
  rfl
end Lm
namespace Lm
open PySem PySem.Spec
/-- a comprehension whose things all are had -/
theorem mapF_all {α β : Type} {f : α → Option (Option β)} {P : β → Prop} : ∀ {as : List α}, (∀ a ∈ as, ∃ b, f a = some (some b) ∧ P b) → ∃ bs, mapF f as = some bs ∧ bs.length = as.length ∧ ∀ b ∈ bs, P b
  | [], _ => ⟨[], rfl, rfl, fun _ m => by cases m⟩
  | a :: as, h => by
    obtain ⟨b, e, hb⟩ := h a (List.mem_cons_self ..)
    obtain ⟨bs, e2, hl, hbs⟩ := mapF_all (as := as) fun c m => h c (List.mem_cons_of_mem _ m)
    refine ⟨b :: bs, by simp only [mapF, e, e2], by rw [List.length_cons, List.length_cons, hl], fun c m => ?_⟩
    rcases List.mem_cons.mp m with z | m
    · subst z; exact hb
    · exact hbs c m
theorem joinO_s {s : List Nat} {ps : List (List Nat)} (h : (joinS s ps).length ≤ 1000000) : joinO s ps = some (joinS s ps) := by
  unfold joinO
  rw [if_pos]
  exact h
theorem join_ones : ∀ ps : List (List Nat), (∀ p ∈ ps, p.length = 1) → (joinS [] ps).length = ps.length
  | [], _ => rfl
  | [p], h => by rw [joinS_one]; exact h p (List.mem_cons_self ..)
  | p :: q :: r, h => by
    rw [joinS_cons, List.length_append, List.length_append, join_ones (q :: r) fun x m => h x (List.mem_cons_of_mem _ m), h p (List.mem_cons_self ..)]
    simp only [List.length_nil, List.length_cons]
    omega
theorem mem_rng {lo hi x : Int} (h : x ∈ rng lo hi) : lo ≤ x ∧ x < hi := by
  obtain ⟨i, hi'⟩ := List.getElem?_of_mem h
  obtain ⟨h1, h2⟩ := rng_get hi'
  omega
theorem rng_nat (n : Nat) : rng 0 (n : Int) = (List.range n).map fun (i : Nat) => (i : Int) := by
  unfold rng
  have e : ((n : Int) - 0).toNat = n := by omega
  rw [e]
  congr 1
  funext i
  omega
/-! ### blanks at the ends -/
theorem dropW_rep (c : Nat) (l : List Nat) : ∃ k, l = List.replicate k c ++ l.dropWhile ([c].contains) := by
  induction l with
  | nil => exact ⟨0, rfl⟩
  | cons a l ih =>
    by_cases e : a = c
    · obtain ⟨k, hk⟩ := ih
      refine ⟨k + 1, ?_⟩
      have h1 : ([c].contains a) = true := by simp [e]
      rw [List.dropWhile_cons, if_pos h1, List.replicate_succ, List.cons_append, ← hk, e]
    · refine ⟨0, ?_⟩
      have h1 : ¬([c].contains a) = true := by simp [e]
      rw [List.dropWhile_cons, if_neg h1]
      rfl
theorem rstrip_rep (c : Nat) (l : List Nat) : ∃ k, l = rstripS l [c] ++ List.replicate k c := by
  obtain ⟨k, hk⟩ := dropW_rep c l.reverse
  refine ⟨k, ?_⟩
  unfold rstripS
  have := congrArg List.reverse hk
  rw [List.reverse_reverse, List.reverse_append, List.reverse_replicate] at this
  exact this
theorem dropW_id (c : Nat) (l : List Nat) (h : ∀ d, l.head? = some d → d ≠ c) : l.dropWhile ([c].contains) = l := by
  cases l with
  | nil => rfl
  | cons a l =>
    have h1 : ¬([c].contains a) = true := by simp [h a rfl]
    rw [List.dropWhile_cons, if_neg h1]
theorem dropW_app (c : Nat) (k : Nat) (l : List Nat) : (List.replicate k c ++ l).dropWhile ([c].contains) = l.dropWhile ([c].contains) := by
  induction k with
  | zero => rfl
  | succ k ih =>
    have h1 : ([c].contains c) = true := by simp
    rw [List.replicate_succ, List.cons_append, List.dropWhile_cons, if_pos h1, ih]
theorem dropW_head (c : Nat) (l : List Nat) : ∀ d, (l.dropWhile ([c].contains)).head? = some d → d ≠ c := by
  induction l with
  | nil => intro d h; cases h
  | cons a l ih =>
    intro d h
    rw [List.dropWhile_cons] at h
    by_cases e : ([c].contains a) = true
    · rw [if_pos e] at h; exact ih d h
    · rw [if_neg e] at h
      cases h
      simpa using e
theorem rstrip_idem (c : Nat) (l : List Nat) : rstripS (rstripS l [c]) [c] = rstripS l [c] := by
  unfold rstripS
  rw [List.reverse_reverse, dropW_id c _ (dropW_head c l.reverse)]
theorem strip_both (c : Nat) (k j : Nat) (t : List Nat) (h1 : ∀ d, t.head? = some d → d ≠ c) (h2 : ∀ d, t.getLast? = some d → d ≠ c) : stripS (List.replicate k c ++ (t ++ List.replicate j c)) [c] = t := by
  unfold stripS lstripS
  rw [dropW_app]
  cases t with
  | nil =>
    rw [List.nil_append]
    have : (List.replicate j c).dropWhile ([c].contains) = [] := by
      have := dropW_app c j []
      rw [List.append_nil] at this
      exact this
    rw [this]
    rfl
  | cons a t =>
    have e : ((a :: t) ++ List.replicate j c).dropWhile ([c].contains) = (a :: t) ++ List.replicate j c := dropW_id c _ fun d hd => h1 d hd
    rw [e]
    unfold rstripS
    rw [List.reverse_append, List.reverse_replicate, dropW_app, dropW_id c _ (fun d hd => h2 d (by rw [List.head?_reverse] at hd; exact hd)), List.reverse_reverse]
end Lm
namespace Lm
open PySem PySem.Spec L2
theorem ixO_last {α : Type} (l : List α) (a : α) : ixO (l ++ [a]) (-1) = some a := by
  unfold ixO atI
  have e : ixN (l ++ [a]).length (-1) = some l.length := by
    unfold ixN
    rw [List.length_append, List.length_singleton]
    simp
    omega
  rw [e]
  simp
theorem popO_last {α : Type} (l : List α) (a : α) : popO (l ++ [a]) = some (a, l) := by
  unfold popO
  rw [List.length_append, List.length_singleton]
  simp
theorem gO {α : Type} {f : α → PyData} {ok : α → Prop} {n : Nat} (h : GE f ok n) (hn : 1 ≤ n) (hf : ∀ a, f a ≠ .none) : GE (encO f) (fun o => ∀ a, o = some a → ok a) n := ⟨fun a q => by
  cases a with
  | none => rfl
  | some a => exact h.lay a (q a rfl), fun a => by
  cases a with
  | none => simpa [encO, PyData.depth] using hn
  | some a => exact h.dep a, fun a b => by
  cases a with
  | none =>
    cases b with
    | none => simp [encO, PyData.eqv]
    | some b =>
      simp only [encO]
      cases e : f b <;> simp_all [PyData.eqv]
  | some a =>
    cases b with
    | none =>
      simp only [encO]
      cases e : f a <;> simp_all [PyData.eqv]
    | some b => simp only [encO]; rw [h.eq]; simp⟩
end Lm
namespace Lm
open PySem PySem.Spec
section
variable {α β γ : Type} {f : α → PyData} {g : β → PyData} {h : γ → PyData} {ok : α → Prop} {ok2 : β → Prop} {ok3 : γ → Prop} {n m l : Nat}
theorem gH3 (h1 : GE f ok n) (h2 : GE g ok2 m) (h3 : GE h ok3 l) : GE (fun t : α × β × γ => PyData.list [f t.1, g t.2.1, h t.2.2]) (fun t => ok t.1 ∧ ok2 t.2.1 ∧ ok3 t.2.2) (max n (max m l) + 1) := ⟨fun a q => by simp only [PyData.canLay0, PyData.canLayAll0, h1.lay _ q.1, h2.lay _ q.2.1, h3.lay _ q.2.2, Bool.and_self], fun a => by
    simp only [PyData.depth, PyData.depthAll]
    have := h1.dep a.1
    have := h2.dep a.2.1
    have := h3.dep a.2.2
    omega, fun a b => by
    simp only [PyData.eqv, PyData.eqvAll, Bool.and_eq_true, h1.eq, h2.eq, h3.eq, Bool.and_true]
    exact ⟨fun z => Prod.ext z.1 (Prod.ext z.2.1 z.2.2), fun z => by rw [z]; exact ⟨rfl, rfl, rfl⟩⟩⟩
/-- the same thing on both sides -/
theorem ge_same (h : GE f ok n) (hn : n ≤ 64) {a : α} (ha : ok a) : eqO (f a) (f a) = some true := by
  have s : SeqAt.shaped (f a) = true := by
    unfold SeqAt.shaped
    rw [h.lay a ha, Bool.true_and]
    exact decide_eq_true (Nat.le_trans (h.dep a) hn)
  unfold eqO
  rw [if_pos ⟨s, s⟩]
  congr 1
  exact (h.eq a a).mpr rfl
end
end Lm
/-! Lm: the same judgements where at least n tokens are out. -/
namespace Lm
open PySem PySem.Spec PyProof.Rows L2
def PEn (n : Nat) (X : Cx) (e : Expr) (t : TE) : Prop := ∀ (pins : List (Addr × Obj)) (s : Shared) (σ : L2.St) (H : Hp) (Q : VK), n ≤ s.toks → Inv X pins σ H s → t σ H Q → wpAny (model X.prog X.w) X.A (eval e X.env) (EP X pins σ Q) X.xe s
def PTn (n : Nat) (X : Cx) (e : Expr) (t : TT) : Prop := ∀ (pins : List (Addr × Obj)) (s : Shared) (σ : L2.St) (H : Hp) (Q : Bool → Hp → Prop), n ≤ s.toks → Inv X pins σ H s → t σ H Q → wpAny (model X.prog X.w) X.A (isTrue e X.env (eval e X.env)) (TP X pins σ Q) X.xe s
def PAn (n : Nat) (X : Cx) (es : List Expr) (t : TA) : Prop := ∀ (pos : Pos) (pins : List (Addr × Obj)) (s : Shared) (σ : L2.St) (H : Hp) (Q : List V → Hp → Prop), n ≤ s.toks → Inv X pins σ H s → t σ H Q → wpAny (model X.prog X.w) X.A (spliced (backTo pos (starEach es X.env))) (AP X pins σ Q) X.xe s
def PSn (n : Nat) (X : Cx) (st : Stmt) (t : TS) : Prop := ∀ (pins : List (Addr × Obj)) (s : Shared) (σ : L2.St) (H : Hp) (D : Ends), n ≤ s.toks → Inv X pins σ H s → t D σ H → wpAny (model X.prog X.w) X.A (exec st X.env) (SP X pins D) X.xe s
def PSsn (n : Nat) (X : Cx) (st : List Stmt) (t : TS) : Prop := ∀ (pins : List (Addr × Obj)) (s : Shared) (σ : L2.St) (H : Hp) (D : Ends), n ≤ s.toks → Inv X pins σ H s → t D σ H → wpAny (model X.prog X.w) X.A (execs st X.env) (SP X pins D) X.xe s
/-- what comes behind knows the bound, too -/
theorem thnN {α : Type} {t : Sem α} {Q Q' : α → Shared → Prop} {M : Model} {A : Around} {E : Value → Shared → Prop} {s : Shared} {n : Nat} (hn : n ≤ s.toks) (h : wpAny M A t Q E s) (hQ : ∀ a z, n ≤ z.toks → Q a z → Q' a z) : wpAny M A t Q' E s :=
  wpAny_mono (wpAny_toks_of hn h) (fun a z x => hQ a z x.1 x.2) fun _ _ x => x.2
section
variable {n : Nat} {X : Cx} {e f : Expr} {es : List Expr} {te tf : TE} {ta : TA} {st : Stmt} {rest a b : List Stmt} {t u : TS} {pos : Pos}
theorem PE.tk (h : PE X e te) : PEn n X e te := fun pins s σ H Q _ I q => h.run pins s σ H Q I q
theorem PA.tk (h : PA X es ta) : PAn n X es ta := fun p pins s σ H Q _ I q => h.run p pins s σ H Q I q
theorem PS.tk (h : PS X st t) : PSn n X st t := fun pins s σ H D _ I q => h.run pins s σ H D I q
theorem PSs.tk (h : PSs X rest t) : PSsn n X rest t := fun pins s σ H D _ I q => h.run pins s σ H D I q
theorem psn_cons (h1 : PSn n X st t) (h2 : PSsn n X rest u) : PSsn n X (st :: rest) (tSeq t u) := fun pins s σ H D hn I h => by
  refine wpAny_execs_cons (thnN hn (h1 pins s σ H { D with nx := u D } hn I h) fun fl z hz q => ?_)
  cases fl with
  | next => obtain ⟨σ', H', J, q⟩ := q; exact h2 pins z σ' H' D hz J q
  | ret v => exact q
  | brk => exact q
  | cont => exact q
theorem psn_one (h1 : PSn n X st t) : PSsn n X [st] t := fun pins s σ H D hn I h => by
  refine wpAny_execs_cons (thn (h1 pins s σ H D hn I h) fun fl z q => ?_)
  cases fl with
  | next => exact wpAny_execs_nil q
  | ret v => exact q
  | brk => exact q
  | cont => exact q
theorem psn_ret (he : PEn n X e te) : PSn n X (.Return (some e) pos) (tRet te) := fun pins s σ H D hn I h =>
  wpAny_Return_some (thn (he pins s σ H _ hn I h) fun v z ⟨x, H1, J, r, q⟩ => ⟨x, σ, H1, J, r, q⟩)
theorem pan_cons (ha : PEn n X e te) (hr : PAn n X es ta) (hs : starEach (e :: es) X.env = (false, eval e X.env) :: starEach es X.env := by rfl) : PAn n X (e :: es) (tCons te ta) := fun p pins s σ H Q hn I h => by
  rw [hs]
  refine Calls.spliced_cons (thnN hn (ha pins s σ H _ hn I h) fun u z hz ⟨x, H1, J, r, q⟩ => ?_)
  exact thn (hr p pins z σ H1 _ hz J q) fun us y ⟨xs, H2, J2, r2, q2⟩ => ⟨x :: xs, H2, J2, .cons r r2, q2⟩

theorem psn_if {c : Expr} {tc : TT} (hc : PTn n X c tc) (ha : PSsn n X a t) (hb : PSsn n X b u) : PSn n X (.If c a b pos) (tIfS tc t u) := fun pins s σ H D hn I h => by
  refine wpAny_If (thnN hn (hc pins s σ H _ hn I h) fun d z hz ⟨H1, J, q⟩ => ?_)
  cases d with
  | true => exact ha pins z σ H1 D hz J q
  | false => exact hb pins z σ H1 D hz J q
theorem PT.tk {c : Expr} {tc : TT} (h : PT X c tc) : PTn n X c tc := fun pins s σ H Q _ I q => h.run pins s σ H Q I q
theorem ptn_val (h : PEn n X e te) (he : ∀ whole, isTrue e X.env whole = (do let v ← whole; standAt e.pos; holding [v] (truthy v)) := by intro _; rfl) : PTn n X e (tB te) := fun pins s σ H Q hn I h9 => by
  refine isTrue_plain (thn (h pins s σ H _ hn I h9) fun v z ⟨x, H1, J, r, q1⟩ => ?_) (he _)
  obtain ⟨d, rfl, q⟩ := q1
  cases r
  exact wpAny_truthy_bool ⟨H1, J, q⟩
theorem ptn_not {c : Expr} {tc : TT} (ha : PTn n X c tc) : PTn n X (.UnaryOp .Not c pos) (tNot tc) := fun pins s σ H Q hn I h => isTrue_not (ha pins s σ H (fun c H1 => Q (!c) H1) hn I h)
theorem pen_tup {k : Nat} (h : PAn n X es ta) : PEn n X (.Tuple es k pos) (tTup ta) := fun pins s σ H Q hn I hq => by
  refine wpAny_Tuple_spliced (thn (h pos pins s σ H _ hn I hq) fun us y ⟨xs, H1, J, r, z, q⟩ => ⟨by rw [← r.length]; exact z, ?_⟩)
  have hf : H1 y.heap.objs.size = none := J.hok.fresh (Nat.le_refl _)
  refine ⟨.ref y.heap.objs.size, upd H1 y.heap.objs.size (.tup xs), J.laid (t' := y.toks) (fun b u e => Heap.get?_push_of_some _ e) (Nat.le_refl _) ?_, rfl, q _ hf⟩
  exact ⟨z, us, r, ⟨_, Heap.get?_push_size _ rfl, rfl, _, rfl⟩⟩
theorem pen_lst (h : PAn n X es ta) : PEn n X (.List es pos) (tLst ta) := fun pins s σ H Q hn I hq => by
  refine wpAny_List_spliced (thn (h pos pins s σ H _ hn I hq) fun us y ⟨xs, H1, J, r, z, q⟩ => ⟨by rw [← r.length]; exact z, ?_⟩)
  have hf : H1 y.heap.objs.size = none := J.hok.fresh (Nat.le_refl _)
  refine ⟨.ref y.heap.objs.size, upd H1 y.heap.objs.size (.lst xs), J.laid (t' := y.toks) (fun b u e => Heap.get?_push_of_some _ e) (Nat.le_refl _) ?_, rfl, q _ hf⟩
  exact ⟨z, us, 0, r, Heap.get?_push_size _ rfl⟩
/-- what is walked -/
def PIn (n : Nat) (X : Cx) (tg iter : Expr) (wi : TI) : Prop := ∀ (pins : List (Addr × Obj)) (s : Shared) (σ : L2.St) (H : Hp) (R : It → Hp → Prop), n ≤ s.toks → Inv X pins σ H s → wi σ H R →
  wpAny (model X.prog X.w) X.A (eval iter X.env) (fun v s1 => wpAny (model X.prog X.w) X.A (pyIter v) (PIE X pins σ tg R) X.xe s1) X.xe s
theorem PI.tk {tg iter : Expr} {wi : TI} (h : PI X tg iter wi) : PIn n X tg iter wi := fun pins s σ H R _ I q => h.run pins s σ H R I q
/-- where a loop stands ahead of a turn: told as ps_for's word tells it (HandS.Base), and the bound -/
structure Turn (n : Nat) (X : Cx) (pins : List (Addr × Obj)) (fp : List Addr) (tn : Nat → Heap → Prop) (W : Nat → Nat → L2.St → Hp → Prop) (k : Nat) (z : Shared) : Prop where
  tk : n ≤ z.toks
  at_ : ∃ i ρ G, Inv X pins ρ G z ∧ tn i z.heap ∧ (∀ b ∈ fp, G b = none) ∧ W i k ρ G
/-- for: the walked thing, the body may want the bound -/
theorem psn_for {tg iter : Expr} {wi : TI} {g : TG} (own : PassesOwn (model X.prog X.w) X.A X.env X.xe) (calm : X.calm = true) (walk : PIn n X tg iter wi) (target : PG X tg g) (body : PSsn n X a t) (fold : ∀ x, foldedSetIterable iter X.env x = pure x := by intro _; rfl) : PSn n X (.For tg iter a [] pos) (tFor wi g t) := fun pins s σ H D hn I h => by
  have first := thnN hn (walk pins s σ H _ hn I h) fun v y hy told => thnN hy told fun itv y2 hy2 P => And.intro hy2 P
  refine wpAny_For (thn first fun v y inner => thn inner fun itv y2 P => ?_) fold
  obtain ⟨hy2, it, fp, tn, J, G, rfl, JG, T, start, apart, W, ⟨m, w0⟩, turn⟩ := P
  have stay : ∀ {G' : Hp}, (∀ b ∈ fp, G' b = none) → ∀ b ∈ fp, FpOk X pins G' b := fun hG b hb => ⟨hG b hb, (apart b hb).2⟩
  refine codeAny_forLoop_any (Turn n X pins fp tn W) (fun k z T0 => ?_) m ⟨hy2, 0, σ, G, JG, start, fun b hb => (apart b hb).1, w0⟩
  obtain ⟨tz, i, ρ, G1, J1, at1, free1, w1⟩ := T0
  refine (turn i k ρ G1 w1).elim (fun ⟨stop, last⟩ => ?_) fun ⟨go, N, less, step⟩ => ?_
  · refine wpAny_passesOwn own (thn (T.done X rfl rfl rfl calm i pins z ρ G1 X.xe J1 (stay free1) at1 stop) fun r z2 q => ?_)
    rw [q.1]
    exact wpAny_execs_nil ⟨ρ, G1, q.2, last⟩
  · refine wpAny_passesOwn own (thnN tz (T.item X rfl rfl rfl calm i pins z ρ G1 X.xe J1 (stay free1) at1 go) fun r z2 tz2 q => ?_)
    obtain ⟨item, rfl, q⟩ := q
    refine wpAny_passesOwn own (thnN tz2 q fun _ z3 tz3 q3 => ?_)
    obtain ⟨x, G3, J3, rel, yielded, at3, free3⟩ := q3
    have kept := J3.pinned (stay free3) (T.obj _ _ at3)
    refine wpAny_passesOwn own (thnN tz3 (target.run _ z3 ρ G3 x item _ kept rel (step x G3 yielded)) fun _ z4 tz4 q4 => ?_)
    obtain ⟨ρ4, G4, J4, bodyAt⟩ := q4
    refine wpAny_passesOwn own (thnN tz4 (body _ z4 ρ4 G4 _ tz4 J4 bodyAt) fun fl z5 tz5 q5 => ?_)
    have next : ∀ {ρ5 : L2.St} {G5 : Hp}, Inv X (pins ++ pinsAt fp z3.heap) ρ5 G5 z5 → N ρ5 G5 → ∃ k', k' < k ∧ Turn n X pins fp tn W k' z5 := fun {ρ5 G5} J5 nn => by
      obtain ⟨k', lt, w5⟩ := less ρ5 G5 nn
      have pinned : ∀ {b : Addr} {o : Obj}, b ∈ fp → z3.heap.get? b = some o → z5.heap.get? b = some o ∧ G5 b = none := fun {b o} hb e => by
        have := J5.pin (b, o) (List.mem_append_right _ (List.mem_append_right _ (mem_pinsAt hb e)))
        exact ⟨this.1, this.2.1⟩
      exact ⟨k', lt, tz5, i + 1, ρ5, G5, J5.unpinned, T.keep _ _ _ at3 fun b hb o e => (pinned hb e).1, fun b hb => (T.obj _ _ at3 b hb).elim fun o e => (pinned hb e.1).2, w5⟩
    match fl, q5 with
    | .next, ⟨_, _, J5, nn⟩ => exact next J5 nn
    | .cont, ⟨_, _, J5, nn⟩ => exact next J5 nn
    | .brk, ⟨ρ5, G5, J5, e⟩ => exact ⟨ρ5, G5, J5.unpinned, e⟩
    | .ret v, ⟨w, ρ5, G5, J5, rv, e⟩ => exact ⟨w, ρ5, G5, J5.unpinned, rv, e⟩
/-- an assignment -/
theorem psn_asg {tg : Expr} {g : TG} (he : PEn n X e te) (hg : PG X tg g) (hs : swapsWithSole [tg] e pos.line X.env = pure false := by rfl) (hw : swappedStores [tg] e X.env = pure none := by rfl) (h1 : (assignEach [tg] X.env).map (·.2) = [assign tg X.env] := by rfl) : PSn n X (.Assign [tg] e pos) (tAsg te g) := fun pins s σ H D hn I h => by
  refine wpAny_Assign_stores (thn (he pins s σ H _ hn I h) fun v z ⟨x, H1, J, r, q⟩ => ?_) hs hw
  rw [h1]
  exact thn (hg.run pins z σ H1 x v _ J r q) fun _ y q => q
theorem psn_set {i : Nat} {x : Str} {pos' : Pos} (hN : X.N.Nodup) (hi : X.N[i]? = some x) (hx : Loc X.env.scope x) (he : PEn n X e te) (hs : swapsWith e (some (.Name x pos')) pos.line X.env = pure false := by rfl) (hf : X.fn x = true ∨ X.env.scope.names.lookup x = some .local := by first | exact .inl rfl | exact .inr rfl | assumption) : PSn n X (.Assign [.Name x pos'] e pos) (tAsg te (gName i)) := fun pins s σ H D hn I h => by
  refine wpAny_Assign_Name (thn (he pins s σ H _ hn I h) fun v z ⟨y, H1, J, r, q⟩ => ?_) hs
  exact store_ok J hN hi hx r (fun y2 J2 => ⟨_, H1, J2, q⟩) hf
end
/-! ### defs that want the bound -/
structure FnOkn (n : Nat) (P : Program) (w : World) (K : PySem.W.Frag) (mg : Str → Option Value) (base : Heap) (k : Nat) (f : Addr) (fd : FuncData) (ps : List Str) (sp : Sp) : Prop where
  len : ∀ vs H Q E, sp vs H Q E → vs.length = ps.length
  run : ∀ (A : Around) (outer : List Env) (s : Shared) (H : Hp) (args : Args) (us : List Value) (vs : List V) (Q : VK) (E : XK), n ≤ s.toks → Room k A → Env0 P w K mg base A outer s H → BindsTo s fd args (ps.zip us) → Vals vs us → sp vs H Q E → codeAny (model P w) A (.call (.ref f) args) (CR CX0 outer P w H s Q E) s
theorem fnn_of {n : Nat} {P : Program} {w : World} {K : PySem.W.Frag} {mg : Str → Option Value} {base : Heap} {k : Nat} {f : Addr} {fd : FuncData} {x : Str} {st : Stmt} {N ps : List Str} {sp : Sp} (F : FunD K x x (defArgs st) (defBody st) (defScope st) [] [] f fd) (S : FnScope N ps (defScope st)) (len : ∀ vs H Q E, sp vs H Q E → vs.length = ps.length)
    (hbody : ∀ (cdv : Value) (A : Around) (outer : List Env) (s : Shared) (H : Hp) (vs : List V) (Q : VK) (E : XK), Room k (A.deeper (envOfC x (defScope st) s.heap.objs.size f cdv)) → sp vs H Q E → ∃ t, PSsn n (cxOf CX0 P w K mg base N x (defScope st) f cdv A outer s H E) (defBody st) t ∧ t { nx := fun _ G => Q .non G, rt := Q } (start N vs) H) :
    FnOkn n P w K mg base (k + 1) f fd ps sp := by
  obtain ⟨oc, od, dV, kV, doc, pm, an, cdv, ct, osl, rfl, lk, hcd, _, _⟩ := F.ex
  refine ⟨len, fun A outer s H args us vs Q E hn hr e0 hb r hsp => ?_⟩
  have hl := len _ _ _ _ hsp
  have KX : K.In s.heap := e0.mod.kin.keeps fun b o e => (e0.bs b o e).1
  have lim : s.heap.NoLimit := e0.mod.nolimit.keeps fun b o e => (e0.bs b o e).1
  have hk : ∀ y ∈ ps.zip us, (defScope st).names.lookup y.1 = some .local ∨ ((defScope st).names.lookup y.1 = some .cell ∧ ((cellsFrom (s.heap.objs.size + 1) (defScope st).names []).lookup y.1).isSome = true) := fun ⟨m, v⟩ hy => (S.par m (List.of_mem_zip hy).1).elim .inl fun q => .inr ⟨q, PySem.W.cellsFrom_some _ _ _ (.inl q)⟩
  refine codeAny_call_function hr.depth (KX _ _ lk) rfl S.co S.gen rfl (PySem.W.codeRec_of KX hcd) (hb _ _ _ _ ?_)
  refine thnN hn (wpAny_newFunctionEnv_cells (Q := fun env z => env = _ ∧ InCallC s env.locals (bindL env.kindOf (ps.zip us) fun _ => none) env.cells (bindC env.kindOf (ps.zip us) fun _ => none) z) S.kind hk fun env he z x => ⟨he, x⟩) fun env z hz ⟨he, x⟩ => ?_
  subst he
  refine ⟨lim.keeps x.toInCall.keep, codeAny_func ?_⟩
  obtain ⟨t, ht, hq⟩ := hbody cdv A outer s H vs Q E (hr.deeper _) hsp
  have J := inv_start (CX := CX0) (E := E) S hr.hd e0 hl r x
  refine wpAny_mono (ht [] z (start N vs) H _ hz J hq) (fun fl y hs => ?_) fun e y hs => hs
  cases fl with
  | ret u => obtain ⟨v, σ', G, J2, rv, q⟩ := hs; exact ⟨v, G, J2.os, J2.bare, J2.base, J2.hok, rv, q⟩
  | next => obtain ⟨σ', G, J2, q⟩ := hs; exact ⟨V.non, G, J2.os, J2.bare, J2.base, J2.hok, rfl, q⟩
  | brk => obtain ⟨_, _, _, q⟩ := hs; exact q.elim
  | cont => obtain ⟨_, _, _, q⟩ := hs; exact q.elim
/-- a def keeping a promise where n tokens are out -/
structure CalN (n : Nat) (P : Program) (w : World) (K : PySem.W.Frag) (mg : Str → Option Value) (base : Heap) (k : Nat) (x : Str) (ps : List Str) (sp : Sp) : Prop where
  ex : ∃ f fd, FnOkn n P w K mg base k f fd ps sp ∧ mg x = some (.ref f) ∧ PySem.W.keepIn K (.ref f) = true ∧ Binds K fd ps [] ∧ (∀ (s : Shared) (us : List Value), us.length = ps.length → BindsTo s fd ⟨us, []⟩ (ps.zip us)) ∧ ∃ oc od osl, K.lookup f = some ⟨oc, od, .func fd, osl⟩
theorem PSsn.nox {n : Nat} {X : Cx} {sts : List Stmt} {t : TS} (h : PSsn n X.nox sts t) : PSsn n X sts t := fun pins s σ H D hn I q => wpAny_mono (h pins s σ H D hn (I.wish _) q) (fun _ _ z => z.unwish) fun _ _ z => z.elim
theorem calN_of {n : Nat} {P : Program} {w : World} {K : PySem.W.Frag} {mg : Str → Option Value} {base : Heap} {k : Nat} {x : Str} {st : Stmt} {N ps : List Str} {sp : Sp} (D : Df K mg x st) (S : FnScope N ps (defScope st))
    (hb : ∀ (kV doc pm : Value) (an : Option Addr) (cdv ct : Value) (us : List Value), us.length = ps.length → bindArgs (PySem.W.fnOf x x (defArgs st) (defBody st) (defScope st) .none kV doc pm an cdv ct) ⟨us, []⟩ = pure (ps.zip us)) (len : ∀ vs H Q E, sp vs H Q E → vs.length = ps.length)
    (body : ∀ (f : Addr) (cdv : Value) (A : Around) (outer : List Env) (s : Shared) (H : Hp) (vs : List V) (Q : VK) (E : XK), Room k (A.deeper (envOfC x (defScope st) s.heap.objs.size f cdv)) → sp vs H Q E → ∃ t, PSsn n (cxOf CX0 P w K mg base N x (defScope st) f cdv A outer s H E).nox (defBody st) t ∧ t { nx := fun _ G => Q .non G, rt := Q } (start N vs) H) :
    CalN n P w K mg base (k + 1) x ps sp := by
  obtain ⟨f, fd, F, hm⟩ := D.ex
  refine ⟨f, fd, fnn_of F S len (fun cdv A outer s H vs Q E hr h => (body f cdv A outer s H vs Q E hr h).elim fun t z => ⟨t, z.1.nox, z.2⟩), hm, F.kp, F.bindsN hb, F.bindsA hb, ?_⟩
  · obtain ⟨oc, od, dV, kV, doc, pm, an, cdv, ct, osl, _, lk, _, _, _⟩ := F.ex
    exact ⟨oc, od, osl, lk⟩
section
variable {n : Nat} {X : Cx} {k : Nat} {ps : List Str} {sp : Sp} {x : Str} {p pos : Pos} {e : Expr} {es : List Expr} {t : TA}
theorem pen_cal (c : CalN n X.prog X.w X.K X.mg X.base k x ps sp) (hr : Room k X.A) (hg : Gl X x) (ha : PAn n X (e :: es) t) (hdb : (x == ("__debug__" : Str)) = false := by decide) (he : starEach (e :: es) X.env = (false, eval e X.env) :: starEach es X.env := by rfl) (hpl : (backTo pos (starEach es X.env)).any (·.1) = false := by rfl) : PEn n X (.Call (.Name x p) (e :: es) [] pos) (tCall sp [] E0 t) := fun pins s σ H Q hn I h => by
  obtain ⟨f, fd, F, hm, hk, hb, _⟩ := c.ex
  refine wpAny_Call_Name_kw (ld_glob I hg hm ?_ hdb)
  refine PySem.W.callWith_K (h₀ := X.base) I.ok.mod.kin hk (thnN hn (ha pos pins s σ H _ hn I h) fun us z hz ⟨vs, G, J, r, q⟩ => ⟨J.kIn, ?_⟩) he hpl
  have q : sp (vs ++ []) G Q E0 := q
  rw [List.append_nil] at q
  have hl : us.length = ps.length := by rw [← r.length]; exact F.len _ _ _ _ q
  refine wpAny_call (codeAny_mono (F.run X.A X.stack z G ⟨us, []⟩ us vs Q E0 hz hr J.env0 (by have := hb z us J.kIn (by rw [List.append_nil]; exact hl); rw [List.append_nil] at this; exact this) r q) fun o y hq => ?_)
  cases o with
  | error e => exact pass0 pins σ G z e y J hq
  | ok fl =>
    cases fl with
    | ret u => exact J.after hq
    | next => exact hq.elim
    | brk => exact hq.elim
    | cont => exact hq.elim
theorem pen_op {a b : Expr} {ta tb : TE} {op : Operator} {r : R2} (ho : OpR X (binaryOp op) r) (ha : PEn n X a ta) (hb : PEn n X b tb) : PEn n X (.BinOp a op b pos) (tOp r ta tb) := fun pins s σ H Q hn I h =>
  wpAny_BinOp (thnN hn (ha pins s σ H _ hn I h) fun v z hz ⟨x, G, J, rx, q⟩ => thn (hb pins z σ G _ hz J q) fun u y ⟨w, G2, J2, rw2, q2⟩ => ho pins y σ G2 x w v u Q J2 rx rw2 q2)
theorem pen_cmpR {a b : Expr} {ta tb : TE} {op : CmpOp} {r : R2} (ho : OpR X (compareOp op) r) (ha : PEn n X a ta) (hb : PEn n X b tb) (hm : behindInMarks op b = false) : PEn n X (.Compare a [op] [b] pos) (tOp r ta tb) := fun pins s σ H Q hn I h =>
  wpAny_Compare1 (thnN hn (ha pins s σ H _ hn I h) fun v z hz ⟨x, G, J, rx, q⟩ => thn (hb pins z σ G _ hz J q) fun u y ⟨w, G2, J2, rw2, q2⟩ => ho pins y σ G2 x w v u Q J2 rx rw2 q2) hm
theorem ptn_cmpR {a b : Expr} {ta tb : TE} {op : CmpOp} {r : R2} (ho : OpR X (compareOp op) r) (ha : PEn n X a ta) (hb : PEn n X b tb) (hm : behindInMarks op b = false) : PTn n X (.Compare a [op] [b] pos) (tTest (tOp r ta tb)) := fun pins s σ H Q hn I h => by
  refine wpAny_isTrue_Compare1 (thnN hn (ha pins s σ H _ hn I h) fun v z hz ⟨x, G, J, rx, q⟩ => thn (hb pins z σ G _ hz J q) fun u y ⟨w, G2, J2, rw2, q2⟩ => thn (ho pins y σ G2 x w v u _ J2 rx rw2 q2) fun c y3 ⟨d, G3, J3, r3, k, e, q3⟩ => ?_) hm
  subst e
  cases r3
  exact wpAny_truthy_bool ⟨G3, J3, q3⟩
/-! ### replace -/
/-- o.replace(a + b, c), all three global texts, c's token below the bound -/
theorem pen_rep1 {o : Expr} {to : TE} {ga gb gc y1 y2 z : Str} {t1 t2 t3 : Tok} {apos pa pb pab pc : Pos} (ho : PEn n X o to) (hga : Gl X ga) (hgb : Gl X gb) (hgc : Gl X gc) (h1 : X.mg ga = some (.str y1 t1)) (h2 : X.mg gb = some (.str y2 t2)) (h3 : X.mg gc = some (.str z t3)) (hl : (y1.length == 0) = false) (hl2 : (y2.length == 0) = false) (hz0 : t3 ≠ 0) (hz : t3 < n) (hlen : (y1 ++ y2).length ≤ sizeLine) (hyz : ((y1 ++ y2) == z) = false)
    (d1 : (ga == ("__debug__" : Str)) = false := by decide) (d2 : (gb == ("__debug__" : Str)) = false := by decide) (d3 : (gc == ("__debug__" : Str)) = false := by decide)
    (hst : starEach [.BinOp (.Name ga pa) .Add (.Name gb pb) pab, .Name gc pc] X.env = [(false, eval (.BinOp (.Name ga pa) .Add (.Name gb pb) pab) X.env), (false, eval (.Name gc pc) X.env)] := by rfl)
    (hbase : attributeBase o "replace" X.env (eval o X.env) = eval o X.env := by rfl) (hline : (apos.endLine == pos.line) = true := by rfl) :
    PEn n X (.Call (.Attribute o "replace" apos) [.BinOp (.Name ga pa) .Add (.Name gb pb) pab, .Name gc pc] [] pos) (CwR.tReplC to (y1 ++ y2) z) := fun pins s σ H Q hn I h => by
  refine PySem.Call_method2 hbase hst hline (thnN hn (ho pins s σ H _ hn I h) fun v y hy q => ?_)
  obtain ⟨v', G, J, r, x, e1, hb, q⟩ := q
  subst e1
  obtain ⟨tx, rfl⟩ := r
  refine ⟨"str", _, PySem.F.plainAttrs_str, PySem.F.slot_str_replace, PySem.F.type_str_replace, typeIs_str _ _ _, (fun _ e => nomatch e), Calls.callWith_builtin rfl (Calls.evalArgs_plain (Calls.spliced_cons ?_))⟩
  refine wpAny_BinOp (ld_glob J hga h1 (ld_glob J hgb h2 ?_ d2) d1)
  refine PySem.P.add_str ?_
  rw [if_neg (by rw [hl]; exact Bool.false_ne_true), if_neg (by rw [hl2]; exact Bool.false_ne_true)]
  refine ⟨hlen, Calls.spliced_cons (ld_glob (J.tok _) hgc h3 (Calls.spliced_nil ?_) d3)⟩
  have h9 : t3 < y.toks := Nat.lt_of_lt_of_le hz hy
  exact PySem.SC.replace (Nat.ne_of_gt (Nat.lt_of_le_of_lt (Nat.zero_le _) h9)) hz0 (Nat.ne_of_gt h9) hyz hb fun t' k => ⟨.str (Txt.replace x (y1 ++ y2) z), G, J.tok k, ⟨t', rfl⟩, q⟩
/-- o.replace(c, a + b) -/
theorem pen_rep2 {o : Expr} {to : TE} {ga gb gc y1 y2 z : Str} {t1 t2 t3 : Tok} {apos pa pb pab pc : Pos} (ho : PEn n X o to) (hga : Gl X ga) (hgb : Gl X gb) (hgc : Gl X gc) (h1 : X.mg ga = some (.str y1 t1)) (h2 : X.mg gb = some (.str y2 t2)) (h3 : X.mg gc = some (.str z t3)) (hl : (y1.length == 0) = false) (hl2 : (y2.length == 0) = false) (hz0 : t3 ≠ 0) (hz : t3 < n) (hlen : (y1 ++ y2).length ≤ sizeLine) (hyz : (z == (y1 ++ y2)) = false)
    (d1 : (ga == ("__debug__" : Str)) = false := by decide) (d2 : (gb == ("__debug__" : Str)) = false := by decide) (d3 : (gc == ("__debug__" : Str)) = false := by decide)
    (hst : starEach [.Name gc pc, .BinOp (.Name ga pa) .Add (.Name gb pb) pab] X.env = [(false, eval (.Name gc pc) X.env), (false, eval (.BinOp (.Name ga pa) .Add (.Name gb pb) pab) X.env)] := by rfl)
    (hbase : attributeBase o "replace" X.env (eval o X.env) = eval o X.env := by rfl) (hline : (apos.endLine == pos.line) = true := by rfl) :
    PEn n X (.Call (.Attribute o "replace" apos) [.Name gc pc, .BinOp (.Name ga pa) .Add (.Name gb pb) pab] [] pos) (CwR.tReplC to z (y1 ++ y2)) := fun pins s σ H Q hn I h => by
  refine PySem.Call_method2 hbase hst hline (thnN hn (ho pins s σ H _ hn I h) fun v y hy q => ?_)
  obtain ⟨v', G, J, r, x, e1, hb, q⟩ := q
  subst e1
  obtain ⟨tx, rfl⟩ := r
  refine ⟨"str", _, PySem.F.plainAttrs_str, PySem.F.slot_str_replace, PySem.F.type_str_replace, typeIs_str _ _ _, (fun _ e => nomatch e), Calls.callWith_builtin rfl (Calls.evalArgs_plain (Calls.spliced_cons ?_))⟩
  refine ld_glob J hgc h3 (Calls.spliced_cons (wpAny_BinOp (ld_glob J hga h1 (ld_glob J hgb h2 ?_ d2) d1))) d3
  refine PySem.P.add_str ?_
  rw [if_neg (by rw [hl]; exact Bool.false_ne_true), if_neg (by rw [hl2]; exact Bool.false_ne_true)]
  refine ⟨hlen, Calls.spliced_nil ?_⟩
  have h9 : t3 < y.toks := Nat.lt_of_lt_of_le hz hy
  exact PySem.SC.replace hz0 (Nat.ne_of_gt (Nat.lt_of_le_of_lt (Nat.zero_le _) h9)) (Nat.ne_of_lt h9) hyz hb fun t' k => ⟨.str (Txt.replace x z (y1 ++ y2)), G, J.tok k, ⟨t', rfl⟩, q⟩
/-- o.replace('..', '..') -/
theorem pen_repC {o : Expr} {to : TE} {y z : Str} {j k : Nat} {c0 c1 apos : Pos} (h0 : 1 ≤ n) (ho : PEn n X o to) (hyz : (y == z) = false := by decide)
    (hst : starEach [.Constant (.str y) j c0, .Constant (.str z) k c1] X.env = [(false, eval (.Constant (.str y) j c0) X.env), (false, eval (.Constant (.str z) k c1) X.env)] := by rfl) (hbase : attributeBase o "replace" X.env (eval o X.env) = eval o X.env := by rfl) (hline : (apos.endLine == pos.line) = true := by rfl) :
    PEn n X (.Call (.Attribute o "replace" apos) [.Constant (.str y) j c0, .Constant (.str z) k c1] [] pos) (CwR.tReplC to y z) := fun pins s σ H Q hn I h => by
  refine PySem.Call_method2 hbase hst hline (thnN hn (ho pins s σ H _ hn I h) fun v y1 hy q => ?_)
  obtain ⟨v', G, J, r, x, e1, hb, q⟩ := q
  subst e1
  obtain ⟨tx, rfl⟩ := r
  refine ⟨"str", _, PySem.F.plainAttrs_str, PySem.F.slot_str_replace, PySem.F.type_str_replace, typeIs_str _ _ _, (fun _ e => nomatch e), Calls.callWith_builtin rfl (Calls.evalArgs_plain (Calls.spliced_cons (Calls.Constant_str (Calls.spliced_cons (Calls.Constant_str (Calls.spliced_nil ?_))))))⟩
  exact PySem.SC.replace (by show y1.toks ≠ 0; omega) (by show y1.toks + 1 ≠ 0; omega) (by show y1.toks ≠ y1.toks + 1; omega) hyz hb fun t' k => ⟨.str (Txt.replace x y z), G, J.tok k, ⟨t', rfl⟩, q⟩
end
end Lm
/-! Lm: a comprehension whose things want the bound. -/
namespace Lm
open PySem PySem.Spec PyProof.Rows L2
section
variable {n : Nat} {X : Cx} {pos : Pos} {elt tg iter : Expr} {ifs : List Expr} {scope : Scope} {own : List (Str × Nat)} {wi : TI} {g : TG} {tt : TT} {te : TE}
/-- the block's word ahead of a turn -/
structure Blk (n : Nat) (B : Cx) (ρ : L2.St) (fp : List Addr) (tn : Nat → Heap → Prop) (W : Nat → Nat → Hp → Prop) (k : Nat) (z : Shared) : Prop where
  tk : n ≤ z.toks
  at_ : ∃ i G, Inv B [] ρ G z ∧ tn i z.heap ∧ (∀ b ∈ fp, G b = none) ∧ W i k G
theorem pen_lc (calm : X.calm = true) (nd : X.N.Nodup) (walk : PIn n X tg iter wi) (ok : BlkOk X.N X.env.scope scope own)
    (target : ∀ (y : Shared) (G : Hp) (C : Addr) (cl : List (Str × Addr)) (fp : List Addr), PG (X.blk y G scope (compEnvC scope cl C X.env) fp) tg g)
    (test : ∀ (y : Shared) (G : Hp) (C : Addr) (cl : List (Str × Addr)) (fp : List Addr), PTs (X.blk y G scope (compEnvC scope cl C X.env) fp) ifs tt)
    (item : ∀ (y : Shared) (G : Hp) (C : Addr) (cl : List (Str × Addr)) (fp : List Addr), PEn n (X.blk y G scope (compEnvC scope cl C X.env) fp) elt te) (fold : ∀ x, foldedSetIterable iter X.env x = pure x := by intro _; rfl) :
    PEn n X (.ListComp elt [⟨tg, iter, ifs, 0⟩] scope pos) (tLc wi g tt te (own.map (·.2))) := fun pins s σ H Q hn I h => by
  rw [eval_ListComp]
  have free : ∀ y ∈ scope.names, y.2 = .free → ∃ c, X.env.cells.lookup y.1 = some c := fun y hy e => (ok.free y hy e).elim (fun z => I.ok.has _ (.inl z)) fun z => I.ok.has _ (.inr z)
  have first := thnN hn (walk pins s σ H _ hn I h) fun v y hy told => thnN hy told fun itv y2 hy2 P => And.intro hy2 P
  refine wpAny_comprehension_free (use := none) rfl fold (closure_ok free) ok.kind (fun y hy e => (ok.uniq y hy).trans (congrArg some e)) (thn first fun v y inner => thn inner fun itv y2 P => ?_)
  obtain ⟨hy2, it, fp, tn, J, G, rfl, JG, T, at0, apart, enter⟩ := P
  obtain ⟨W, ⟨m, w0⟩, turn⟩ := enter y2.heap.objs.size (JG.hok.fresh (Nat.le_refl _))
  refine wpAny_newObj_type (newEnv_comp ?_) (show (0 : Nat) ≤ sizeLine by decide)
  have J3 : Inv X pins σ (upd G y2.heap.objs.size (.lst [])) { y2 with heap := y2.heap.push { cls := .type "list", data := .seq ([] : List Value).toArray } } := JG.laid (t' := y2.toks) (fun b o e => Heap.get?_push_of_some _ e) (Nat.le_refl _) ⟨Nat.zero_le _, [], 0, .nil, Heap.get?_push_size _ rfl⟩
  have lower : ∀ b ∈ fp, b < y2.heap.objs.size := fun b hb => (T.obj _ _ at0 b hb).elim fun o e => Heap.lt_size e.1
  have apart3 : ∀ b ∈ fp, FpOk X pins (upd G y2.heap.objs.size (.lst [])) b ∧ b < (y2.heap.push { cls := .type "list", data := .seq ([] : List Value).toArray } : Heap).objs.size := fun b hb => ⟨⟨(upd_ne (Nat.ne_of_lt (lower b hb))).trans (apart b hb).1, (apart b hb).2⟩, Nat.lt_of_lt_of_le (lower b hb) (by rw [Heap.size_push]; exact Nat.le_succ _)⟩
  have at3 : tn 0 (y2.heap.push { cls := .type "list", data := .seq ([] : List Value).toArray } : Heap) := T.keep _ _ _ at0 fun b _ o e => Heap.get?_push_of_some _ e
  generalize eL : y2.heap.objs.size = D at *
  generalize eG : upd G D (.lst []) = G3 at *
  generalize e3 : ({ y2 with heap := y2.heap.push { cls := .type "list", data := .seq ([] : List Value).toArray } } : Shared) = y3 at *
  have h3 : y2.heap.push { cls := .type "list", data := .seq ([] : List Value).toArray } = y3.heap := by rw [← e3]
  have t3 : n ≤ y3.toks := by rw [← e3]; exact hy2
  rw [h3] at apart3 at3
  have J4 := block_start J3 ok nd apart3
  have tgtB := target y3 G3 y3.heap.objs.size (cellsFrom (y3.heap.objs.size + 1) scope.names (cloFrom X.env.cells scope.names [])) fp
  have tstB := test y3 G3 y3.heap.objs.size (cellsFrom (y3.heap.objs.size + 1) scope.names (cloFrom X.env.cells scope.names [])) fp
  have itmB := item y3 G3 y3.heap.objs.size (cellsFrom (y3.heap.objs.size + 1) scope.names (cloFrom X.env.cells scope.names [])) fp
  show codeAny _ _ (.compStart _ 0 (.ref it) (.ref D) (compEnvC scope (cellsFrom (y3.heap.objs.size + 1) scope.names (cloFrom X.env.cells scope.names [])) y3.heap.objs.size X.env)) (compPost (model X.prog X.w) X.A X.xe none (EP X pins σ Q) (.ref D) y3.heap.objs.size) _
  have locs : (compEnvC scope (cellsFrom (y3.heap.objs.size + 1) scope.names (cloFrom X.env.cells scope.names [])) y3.heap.objs.size X.env).locals = y3.heap.objs.size := rfl
  generalize compEnvC scope (cellsFrom (y3.heap.objs.size + 1) scope.names (cloFrom X.env.cells scope.names [])) y3.heap.objs.size X.env = ce at *
  have at4 : tn 0 (pushCells (y3.heap.push { cls := .type "dict", data := .dict #[] }) scope.names) := T.keep _ _ _ at3 fun b _ o e => pushCells_keeps _ _ _ _ (Heap.get?_push_of_some _ e)
  generalize eY : ({ y3 with heap := pushCells (y3.heap.push { cls := .type "dict", data := .dict #[] }) scope.names } : Shared) = y4 at *
  have t4 : n ≤ y4.toks := by rw [← eY]; exact t3
  have at4' : tn 0 y4.heap := by rw [← eY]; exact at4
  have still : ∀ {ρ : L2.St} {G' : Hp} {z : Shared}, Inv (X.blk y3 G3 scope ce fp) [] ρ G' z → (∀ b ∈ fp, G' b = none) → ∀ b ∈ fp, FpOk (X.blk y3 G3 scope ce fp) [] G' b := fun {ρ G' z} I' hG b hb =>
    ⟨hG b hb, (I'.ok.exf b hb).1, I'.ok.exfs b hb, .inl hb, fun x c e => (I'.ok.exf b hb).2 x c e, fun p hp => absurd (show p ∈ ([] : List (Addr × Obj)) ++ [] from hp) (by simp)⟩
  have goes : codeAny (model X.prog X.w) X.A (.compLoop (.ListComp elt [⟨tg, iter, ifs, 0⟩] scope pos) 0 (.ref it) (.ref D) ce) (compPost (model X.prog X.w) X.A X.xe none (EP X pins σ Q) (.ref D) y3.heap.objs.size) y4 := by
    refine compLoop_any (Blk n (X.blk y3 G3 scope ce fp) (wipe σ (own.map (·.2))) fp tn W) (fun k z T0 => ?_) m ⟨t4, 0, G3, J4, at4', fun b hb => (apart3 b hb).1.1, w0⟩
    obtain ⟨tz, i, G5, J5, at5, free5, w5⟩ := T0
    refine (turn i k G5 w5).elim (fun ⟨stop, last⟩ => ?_) fun ⟨go, Nx, less, step⟩ => ?_
    · refine thnF (T.done (X.blk y3 G3 scope ce fp) rfl rfl rfl calm i [] z _ G5 (fun _ _ => False) J5 (still J5 free5) at5 stop) fun r z2 q => ?_
      obtain ⟨rfl, J6⟩ := q
      have back : Inv X pins σ G5 z2 := J3.call' (ch := fp) J6.os J6.base J6.hok J6.bare fun b hb => by
        obtain ⟨_, p1, p2, p3, p4, _⟩ := (apart3 b hb).1
        exact ⟨p3, p1, p4, (apart3 b hb).1.2.2.2.2.2⟩
      have freeC : G5 y3.heap.objs.size = none := locs ▸ J6.free
      obtain ⟨mm, names, _⟩ := J6.loc
      have names : z2.heap.Ns y3.heap.objs.size mm := locs ▸ names
      obtain ⟨f0, f1, f2, f3, f4, f5⟩ := J3.fpOk (Nat.le_refl _) freeC
      exact ⟨mm, names, fun hp same => ⟨.ref D, G5, back.turned (t' := z2.toks) (fun b o hb e => (same.2 b hb).trans e) f0 f1 f3 f4 f5, rfl, last⟩⟩
    · refine wpAny_mono (wpAny_toks_of tz (T.item (X.blk y3 G3 scope ce fp) rfl rfl rfl calm i [] z _ G5 (fun _ _ => False) J5 (still J5 free5) at5 go)) (fun r z2 q => ?_) fun _ _ q => q.2.elim
      obtain ⟨tz2, it2, rfl, q⟩ := q
      refine wpAny_mono (wpAny_toks_of tz2 q) (fun _ z3 q3 => ?_) fun _ _ q => q.2.elim
      obtain ⟨tz3, x, G7, J7, rel, yielded, at7, free7⟩ := q3
      have pinned7 := J7.pinned (still J7 free7) (T.obj _ _ at7)
      refine wpAny_mono (wpAny_toks_of tz3 (tgtB.run _ z3 _ G7 x it2 _ pinned7 rel (step x G7 yielded))) (fun _ z4 q4 => ?_) fun _ _ q => q.2.elim
      obtain ⟨tz4, ρ4, G8, J8, wiped, tested⟩ := q4
      refine wpAny_mono (wpAny_toks_of tz4 (tstB.run _ z4 ρ4 G8 _ J8 tested)) (fun b z5 q5 => ?_) fun _ _ q => q.2.elim
      obtain ⟨tz5, G9, J9, branch⟩ := q5
      have ends : ∀ {z' : Shared} {G' : Hp}, n ≤ z'.toks → Inv (X.blk y3 G3 scope ce fp) ([] ++ pinsAt fp z3.heap) ρ4 G' z' → Nx G' → ∃ k', k' < k ∧ Blk n (X.blk y3 G3 scope ce fp) (wipe σ (own.map (·.2))) fp tn W k' z' := fun {z' G'} tz' I' nx => by
        obtain ⟨k', lt, w'⟩ := less G' nx
        have pin : ∀ b ∈ fp, ∀ o, z3.heap.get? b = some o → z'.heap.get? b = some o ∧ G' b = none := fun b hb o e => by
          have := I'.pin (b, o) (List.mem_append_right _ (List.mem_append_right _ (mem_pinsAt hb e)))
          exact ⟨this.1, this.2.1⟩
        have same : (wipe σ (own.map (·.2))).length = ρ4.length := by rw [← wiped, wipe_length]
        have weaker := (I'.unpinned (pins := [])).weak same fun j v e => by
          rw [← wiped] at e
          exact (wipe_some e).1
        exact ⟨k', lt, tz', i + 1, G', weaker, T.keep _ _ _ at7 fun b hb o e => (pin b hb o e).1, fun b hb => (T.obj _ _ at7 b hb).elim fun o e => (pin b hb o e.1).2, w'⟩
      cases b with
      | false =>
        rw [if_neg Bool.false_ne_true] at branch ⊢
        exact ends tz5 J9 branch
      | true =>
        rw [if_pos rfl] at branch ⊢
        refine wpAny_mono (wpAny_toks_of tz5 (itmB _ z5 ρ4 G9 _ tz5 J9 branch)) (fun w z6 q6 => ?_) fun _ _ q => q.2.elim
        obtain ⟨tz6, yv, G10, J10, ry, acc, accAt, few, nx⟩ := q6
        refine wpAny_with_toks tz6 (app_ok (X := X.blk y3 G3 scope ce fp) J10 accAt few ry fun z7 J11 tz7 => ends tz7 J11 nx)
  exact codeAny_compStart_list goes (T.self X.A 0 _ _ _ at4' goes)
theorem pin_list {e : Expr} (hl : PEn n X e te) : PIn n X tg e (iList X.K te) := fun pins s σ H R hn I h => thn (hl pins s σ H _ hn I h) fun v z ⟨x, G, J, r, a, ex, ⟨xs, hq⟩, q⟩ => by
  subst ex
  obtain rfl : v = .ref a := r
  obtain ⟨its, rv, p, hz⟩ := J.list hq
  exact wpAny_pyIter_list p.isList ⟨_, [_], _, _, G, rfl, J.kept (t' := z.toks) fun b o e => Heap.get?_push_of_some _ e, turn_list a _, ⟨_, Heap.get?_push_size _ rfl, rfl, rfl⟩, fun b hb => List.mem_singleton.mp hb ▸ J.fpOk (Nat.le_refl _) (J.hok.fresh (Nat.le_refl _)), q⟩
theorem pin_tup {e : Expr} (hl : PEn n X e te) : PIn n X tg e (iTup X.K te) := fun pins s σ H R hn I h => thn (hl pins s σ H _ hn I h) fun v z ⟨x, G, J, r, a, ex, ⟨xs, hq⟩, q⟩ => by
  subst ex
  obtain rfl : v = .ref a := r
  obtain ⟨its, rv, p, hz⟩ := J.tuple hq
  exact wpAny_pyIter_tuple (show z.heap.IsTuple a its.toArray from p) ⟨_, [_], _, _, G, rfl, J.kept (t' := z.toks) fun b o e => Heap.get?_push_of_some _ e, turn_tuple a _, ⟨_, Heap.get?_push_size _ rfl, rfl, rfl⟩, fun b hb => List.mem_singleton.mp hb ▸ J.fpOk (Nat.le_refl _) (J.hok.fresh (Nat.le_refl _)), q⟩
end
end Lm
/-! Lm: the law's own call where n tokens are out (after L2.law_call, which asks a promise of all states). -/
namespace Lm
open PySem PySem.Spec PyProof.Rows L2 PySem.W
/-- the script alone is tracked, and stays as it is -/
def scrH (a : Addr) (vs : List Value) (ns : List Int) : Hp := fun b => if b = a then some (.frz { cls := .type "list", data := .seq vs.toArray } (.lst (ns.map V.int))) else none
theorem scrH_at {a : Addr} {vs : List Value} {ns : List Int} : scrH a vs ns a = some (.frz { cls := .type "list", data := .seq vs.toArray } (.lst (ns.map V.int))) := if_pos rfl
theorem scrH_off {a b : Addr} {vs : List Value} {ns : List Int} (h : b ≠ a) : scrH a vs ns b = none := if_neg h
theorem scrH_eq {a b : Addr} {u : HO} {vs : List Value} {ns : List Int} (h : scrH a vs ns b = some u) : b = a ∧ u = .frz { cls := .type "list", data := .seq vs.toArray } (.lst (ns.map V.int)) := by
  by_cases e : b = a
  · subst e
    exact ⟨rfl, Option.some.inj (h.symm.trans scrH_at)⟩
  · rw [scrH_off e] at h
    cases h
section
variable {n k : Nat} {P : Program} {w : World} {K : PySem.W.Frag} {mg mb : Str → Option Value} {fa a : Addr} {fd : FuncData} {x : Str} {sp : Sp} {s₁ : Shared} {vs : List Value} {ns : List Int}
theorem law_calln (KX : K.In s₁.heap) (alone : K.lookup a = none) (hns : s₁.heap.Ns mainGlobals mg) (hb : s₁.heap.Ns builtinsNs mb) (hbb : ∀ x : Str, x ≠ "__name__" → mb x = bootBuiltins x) (lim : s₁.heap.NoLimit) (hg : s₁.gens = #[])
    (ha : s₁.heap.get? a = some { cls := .type "list", data := .seq vs.toArray }) (areI : IntsAre vs ns) (few : ns.length ≤ sizeLine) (room : Room k callerA) (hn : n ≤ s₁.toks)
    (F : ∀ base : Heap, K.In base → base.Ns mainGlobals mg → FnOkn n P w K mg base k fa fd [x] sp) (bind : ∀ (s : Shared) (u : Value), BindsTo s fd ⟨[u], []⟩ [(x, u)])
    (told : ∀ H : Hp, SqL K H a (ns.map V.int) → sp [.ref a] H (fun v _ => v = .bl true) fun _ _ _ => False) :
    codeAny (model P w) callerA (.call (.ref fa) ⟨[.ref a], []⟩) (fun r s' => r = .ok (.ret (.bool true)) ∧ OldK s₁.heap s'.heap ∧ s'.os = s₁.os ∧ AllBare s'.gens) s₁ := by
  have rv := vals_ints areI
  have hok : HOk P w (scrH a vs ns) s₁.heap := fun b u e => by
    obtain ⟨rfl, rfl⟩ := scrH_eq e
    exact ⟨ha, by rw [List.length_map]; exact few, vs, _, rv, ha⟩
  have here : ∀ {b : Addr} {o : Obj}, s₁.heap.get? b = some o → b ≠ a → (hidT s₁.heap (scrH a vs ns)).get? b = some o := fun e ne => hidT_get e (scrH_off ne)
  have kIn : K.In (hidT s₁.heap (scrH a vs ns)) := fun b o e => here (KX b o e) fun z => by
    rw [z, alone] at e
    cases e
  -- the script is no dict, so each namespace stands in the base
  have spaces : ∀ {b : Addr} {m : Str → Option Value}, s₁.heap.Ns b m → (hidT s₁.heap (scrH a vs ns)).Ns b m := fun {b m} q => by
    obtain ⟨o, es, ep, e, d, r⟩ := q
    refine ⟨o, es, ep, here e fun z => ?_, d, r⟩
    subst z
    have eo := Option.some.inj (ha.symm.trans e)
    rw [← eo] at d
    cases d
  have modK : Mod K mg (hidT s₁.heap (scrH a vs ns)) := ⟨kIn, spaces hns, ⟨mb, spaces hb, hbb⟩, lim.elim fun mc q => ⟨mc, spaces q.1, q.2⟩⟩
  have env : Env0 P w K mg (hidT s₁.heap (scrH a vs ns)) callerA [] s₁ (scrH a vs ns) := ⟨rfl, modK, fun b o e => of_hidT e, Nat.le_of_eq (hidT_size _ _), trivial, (fun b (m : b ∈ ([] : List Addr)) => by cases m), hok, .of_eq hg⟩
  have run := (F _ kIn (spaces hns)).run callerA [] s₁ (scrH a vs ns) ⟨[.ref a], []⟩ [.ref a] [.ref a] _ _ hn room env (bind s₁ (.ref a)) (.cons rfl .nil) (told _ (.inl (.inr ⟨_, scrH_at⟩)))
  refine codeAny_mono run fun r s' q => ?_
  match r, q with
  | .error e, q => exact q.elim
  | .ok .next, q => exact q.elim
  | .ok .brk, q => exact q.elim
  | .ok .cont, q => exact q.elim
  | .ok (.ret u), ⟨v, G, os, bare, un, hok', rel, q⟩ =>
    have q' : v = .bl true := q
    subst q'
    obtain rfl : u = Value.bool true := rel
    refine ⟨rfl, OldK.of_keep fun b o e => ?_, os, bare⟩
    by_cases z : b = a
    · subst z
      have kept := (hok' b _ (un.frzs b _ _ scrH_at)).1
      have eo := Option.some.inj (ha.symm.trans e)
      rw [← eo]
      exact kept
    · exact un.keep b o e (scrH_off z) (fun (m : b ∈ ([] : List Addr)) => by cases m) (fun (m : b ∈ ([] : List Addr)) => by cases m)
theorem py_ints : ∀ ns : List Int, ofPys (ns.map PyData.int) = ns.map WData.int
  | [] => by simp [ofPys]
  | i :: is => by
    have ih := py_ints is
    simp [ofPys, ofPy, ih]
/-- the walk to the law's call, with what the head's state and the script's laying tell of tokens -/
theorem walk_toks {l : PySem.W.OpenLaw} {m : Nat} {q : Program} {loose : List Str} {XP : (Str → Option Value) → Heap → Prop} {α : Type} {Yf : Shared → α} {Ya : World → α} {d : DefRec} (most : l.most = some m) (plain : d.params.defaults = [])
    (call : ∀ (w : World) (s₀ z : Shared) (mg mb : Str → Option Value) (fa : Addr) (o : Obj) (pm cd doc : Value) (a : Addr) (vs : List Value) (ns : List Int), PySem.W.Ground q loose [] XP w s₀ mg mb z.heap → Yf s₀ = Ya w → s₀.toks ≤ z.toks → (∀ b o, s₀.heap.get? b = some o → z.heap.get? b = some o) → a = s₀.heap.objs.size → mg d.name = some (.ref fa) →
      z.heap.get? a = some { cls := .type "list", data := .seq vs.toArray } → IntsAre vs ns → ns.length ≤ m → z.gens = #[] →
      codeAny (model l.prog w) callerA (.call (.ref fa) ⟨[.ref a], []⟩) (fun r s' => r = .ok (.ret (.bool true)) ∧ OldK z.heap s'.heap ∧ s'.os = z.os ∧ AllBare s'.gens) z) :
    PySem.W.WalkX q loose XP Yf Ya l.row.toRowW d [] (fun f vs => PySem.call f vs) := fun w s₀ z mg mb G Y fa o pm cd doc dV kV ho hd hcd hD hmg hg args vals as hlay hpre hAll hrd hwl hlo => by
  obtain rfl : dV = .none := PySem.W.Dflts.none hD plain
  obtain rfl : kV = .none := PySem.W.Dflts.noKw hD
  obtain ⟨a, vs, ns, rfl, rfl, obj, areI, short⟩ := Att.script_of most hpre hwl
  have lay : Laid l.row.toRowW.records w s₀ z [ofPy (PyData.list (ns.map PyData.int))] [.ref a] as := by
    have e : ofPy (PyData.list (ns.map PyData.int)) = WData.list (ns.map WData.int) := by
      simp only [ofPy]
      rw [py_ints]
    rw [e]
    exact hlay
  have made := call w s₀ z mg mb fa o pm cd doc a vs ns G Y (PySem.W.X.script_toks lay rfl) lay.keeps (PySem.W.X.script_at lay).1 hmg obj areI short hg
  refine PySem.W.enter_call (codeAny_mono made fun r s' q => ?_)
  obtain ⟨rfl, old, os, bare⟩ := q
  exact ⟨.inl ⟨.bool true, .bool true, [], rfl, fun _ => rfl, .bool true, Att.post_true l _, fun _ => ⟨List.Pairwise.nil, fun _ m => nomatch m⟩⟩, old, os, bare⟩
end
end Lm
/-! Lm: the head whose observation reaches the walk as it is (for tokens). -/
namespace Lm
open PySem PySem.Spec PySem.W PyProof.Rows HandSHeadRun
theorem head_seen {r : OpenRow} {q : Program} {H : Hook} {ob : SharedT → H.α} {M : Nat} {loose : List PySem.Str} {d : DefRec} {kwd : List (PySem.Str × PySem.Expr)} (same : ∀ s : SharedT, ob s = H.obs s.abs)
    (opens : opening r.prog = plainProg r.prog.main.scope.names) (fences : ∀ s, fenceModules? r.prog s = some s) (runs : ∀ w, RunEq r q H ob M loose w)
    (h1 : defOf q r.name = some (d, kwd)) (h2 : r.prog.theDef r.name = some (d.params, d.body, d.scope)) (h3 : kwWritten? d.params.kwonlyargs d.params.kw_defaults = some kwd)
    (h4 : (!r.writes || r.records.isEmpty) = true) (h5 : r.wellSaid = true) (h6 : (chainsOk q && opensWell r.prog && (frees r.toRowW && r.within.isEmpty)) = true) (h7 : r.prog.bare) (h8 : r.toRowW.promised)
    (walk : WalkX q loose (XL q []) H.obs H.val r.toRowW d kwd fun f vs => PySem.call f vs) : r.Holds := by
  have eo : ob = fun s => H.obs s.abs := funext same
  have stays : LeftO r.prog q loose (fun s => xlAt q [] s && recOk r.toRowW.records s) H.obs H.val (M + 600) true := left_one (M := M) opens (Nat.ble_eq_true_of_le (by omega)) fences (Nat.ble_eq_true_of_le (by omega)) fun w os => by
    have now := runs w os
    rw [eo] at now
    simp only [endQ_eq, seenQ_eq]
    exact now
  exact holds_openX stays (fun s z => xl_of s (Bool.and_eq_true_iff.mp z).1) XL.keeps h1 h2 h3 (fun s z => recFacts_of (Bool.and_eq_true_iff.mp z).2) h4 h5 h6 h7 h8 walk
end Lm
/-! Lm: what is seen of the head, tokens too. -/
namespace Lm
open PySem PySem.Spec PySem.W PyProof.Rows
/-- each text constant stands there, its token is not 0 and below T -/
def tokOk (ts : List (Str × Str)) (T : Nat) (K : Frag) : Bool := ts.all fun p => match nsIn K mainGlobals p.1 with
  | some (some (.str y t)) => decide (y = p.2) && decide (t ≠ 0) && decide (t < T)
  | _ => false
def seenT (n : Nat) (fa : List He.Fa) (fn : List He.DefD) (ts : List (Str × Str)) (T : Nat) (g : Addr → Option Obj) : He.AlD × Bool := (He.obsDG n fa fn g, tokOk ts T (He.frG g (He.asD g n)))
/-- the observation: the defs and facts, the constants' tokens, the count of tokens -/
def hookT (n : Nat) (fa : List He.Fa) (fn : List He.DefD) (ts : List (Str × Str)) (T : Nat) : Hook where
  α := (He.AlD × Bool) × Nat
  obs := fun s => (seenT n fa fn ts T s.heap.get?, s.toks)
  val := fun _ => ((He.valD fn, true), T)
  says := fun _ _ => True
  of := fun _ _ _ => trivial
  keeps := fun _ _ _ _ _ => trivial
theorem seenT_eq {n : Nat} {fa : List He.Fa} {fn : List He.DefD} {ts : List (Str × Str)} {T : Nat} {g : Addr → Option Obj} {s : Shared} (h : ∀ a, g a = s.heap.get? a) : seenT n fa fn ts T g = seenT n fa fn ts T s.heap.get? := by
  have e : g = s.heap.get? := funext h
  rw [e]
/-- what was seen, told -/
theorem hookT_says {n : Nat} {fa : List He.Fa} {fn : List He.DefD} {ts : List (Str × Str)} {T : Nat} {w : World} {s : Shared} (h : (hookT n fa fn ts T).obs s = (hookT n fa fn ts T).val w) :
    ∃ K : Frag, K.In s.heap ∧ He.SaysD fa fn K ∧ tokOk ts T K = true ∧ s.toks = T := by
  have h1 : seenT n fa fn ts T s.heap.get? = (He.valD fn, true) := congrArg Prod.fst h
  exact ⟨He.frG s.heap.get? (He.asD s.heap.get? n), He.frG_in, congrArg Prod.fst h1, congrArg Prod.snd h1, congrArg Prod.snd h⟩
theorem tok_at {ts : List (Str × Str)} {T : Nat} {K : Frag} {h : Heap} {mg : Str → Option Value} (X : K.In h) (G : h.Ns mainGlobals mg) (ok : tokOk ts T K = true) (i : Nat) {x z : Str} (e : ts[i]? = some (x, z) := by rfl) : ∃ t, mg x = some (.str z t) ∧ t ≠ 0 ∧ t < T := by
  have one := List.all_eq_true.mp ok (x, z) (List.mem_of_getElem? e)
  dsimp only at one
  split at one
  · next y t q =>
    rw [Bool.and_eq_true, Bool.and_eq_true, decide_eq_true_eq, decide_eq_true_eq, decide_eq_true_eq] at one
    obtain ⟨⟨rfl, h0⟩, hT⟩ := one
    exact ⟨t, mg_of X G q, h0, hT⟩
  · cases one
end Lm
/-! Lm: more rules under the bound; replace as a function of lists. -/
namespace Lm
open PySem PySem.Spec PyProof.Rows L2
/-! ### replace -/
/-- l with z in the place of each y (y not empty); k signs are passed first -/
def replS (y z : List Nat) : Nat → List Nat → List Nat
  | _, [] => []
  | 0, c :: r => if TL.pre y (c :: r) = true then z ++ replS y z (y.length - 1) r else c :: replS y z 0 r
  | k + 1, _ :: r => replS y z k r
theorem replS_nil (y z : List Nat) (k : Nat) : replS y z k [] = [] := by cases k <;> rfl
theorem spl_ne (S : List Nat) : ∀ (l : List Nat) (k : Nat) (acc : List Nat), TL.spl S k acc l ≠ []
  | [], k, acc => by rw [TL.spl_nil]; exact List.cons_ne_nil _ _
  | c :: r, 0, acc => by
    cases h : TL.pre S (c :: r) with
    | true => rw [TL.spl_hit h]; exact List.cons_ne_nil _ _
    | false => rw [TL.spl_miss h]; exact spl_ne S r 0 _
  | c :: r, k + 1, acc => by
    rw [TL.spl_pass, List.drop_succ_cons, ← TL.spl_pass]
    exact spl_ne S r k acc
theorem joinS_two {s p : List Nat} : ∀ {ps : List (List Nat)}, ps ≠ [] → joinS s (p :: ps) = p ++ s ++ joinS s ps
  | [], h => absurd rfl h
  | q :: r, _ => joinS_cons s p q r
theorem join_spl (y z : List Nat) : ∀ (l : List Nat) (k : Nat) (acc : List Nat), joinS z (TL.spl y k acc l) = acc ++ replS y z k l
  | [], k, acc => by rw [TL.spl_nil, joinS_one, replS_nil, List.append_nil]
  | c :: r, 0, acc => by
    unfold replS
    cases h : TL.pre y (c :: r) with
    | true =>
      rw [TL.spl_hit h, joinS_two (spl_ne _ _ _ _), join_spl y z r, if_pos rfl, List.nil_append, List.append_assoc]
    | false =>
      rw [TL.spl_miss h, join_spl y z r, if_neg Bool.false_ne_true, List.append_assoc]
      rfl
  | c :: r, k + 1, acc => by
    have e : TL.spl y (k + 1) acc (c :: r) = TL.spl y k acc r := by rw [TL.spl_pass, List.drop_succ_cons, ← TL.spl_pass]
    rw [e, join_spl y z r]
    rfl
theorem repl_mk {x y z : List Nat} (hy : y ≠ []) : Txt.replace (mk x) (mk y) (mk z) = mk (replS y z 0 x) := by
  have hy' : TL.tl (mk y) ≠ [] := hy
  obtain ⟨f, g, hn⟩ := PySem.StrLaws.occ_tight (mk x) (mk y) (TL.len1 hy')
  have key := TL.parts_spl hy' _ 0 f (Nat.zero_le _) g hn
  rw [List.drop_zero] at key
  have key2 : joinS z ((PySem.StrLaws.partsFrom (mk x) (mk y).length 0 (Builtin.Str.occurrences (mk x) (mk y) 0 (mk x).length ((mk x).length + 1))).map TL.tl) = replS y z 0 x := by
    rw [key]
    have := join_spl y z x 0 []
    rw [List.nil_append] at this
    exact this
  have h0 : ((mk y).length == 0) = false := by
    rw [mk_len]
    cases y with
    | nil => exact absurd rfl hy
    | cons a r => rfl
  unfold Txt.replace
  rw [h0, Bool.false_and, Bool.or_false]
  cases ho : (Builtin.Str.occurrences (mk x) (mk y) 0 (mk x).length ((mk x).length + 1)).isEmpty with
  | true =>
    rw [if_pos rfl]
    rw [List.isEmpty_iff.mp ho] at key2
    apply mk_of
    rw [← key2]
    show (mk x).cps.toList = TL.tl (Builtin.Str.strSub (mk x) 0 (mk x).length)
    rw [TL.tl_strSub_end, List.drop_zero]
  | false =>
    rw [if_neg Bool.false_ne_true, PySem.StrLaws.glued_eq_join, PySem.StrLaws.partsBetween_eq]
    apply mk_of
    rw [← key2]
    show TL.tl (Str.join (mk z) _) = _
    rw [TL.tl_join]
/-- does not fail -/
def rplO (y z l : List Nat) : Option (List Nat) := if (replS y z 0 l).length ≤ lim ∧ l.length + (l.length + 1) * z.length ≤ 16777216 then some (replS y z 0 l) else none
theorem replS_mem (y z : List Nat) : ∀ (l : List Nat) (k : Nat), ∀ c ∈ replS y z k l, c ∈ z ∨ c ∈ l
  | [], k, c, m => by rw [replS_nil] at m; cases m
  | a :: r, 0, c, m => by
    unfold replS at m
    split at m
    · rcases List.mem_append.mp m with m | m
      · exact Or.inl m
      · exact (replS_mem y z r _ c m).imp id (List.mem_cons_of_mem _)
    · rcases List.mem_cons.mp m with e | m
      · exact Or.inr (by rw [e]; exact List.mem_cons_self ..)
      · exact (replS_mem y z r _ c m).imp id (List.mem_cons_of_mem _)
  | a :: r, k + 1, c, m => (replS_mem y z r k c m).imp id (List.mem_cons_of_mem _)
theorem ev_rep {F : Hp} {O : Own} {σ : L2.St} {to : TE} {x y z r : List Nat} {y' z' : Str} (hy' : y' = mk y) (hz' : z' = mk z) (hy : y ≠ []) (hz : okS z = true) (hr : rplO y z x = some r) (h : Ev to σ F O (val rS x)) : Ev (CwR.tReplC to y' z') σ F O (val rS r) := fun H k Q q =>
  h H k _ fun v F' H' g a => by
    obtain ⟨⟨h1, h2⟩, e⟩ := iteo hr
    subst e
    have a' : v = .str (mk x) ∧ OkS x := a
    refine ⟨mk x, a'.1, by rw [hz', mk_len, mk_len]; exact h2, ?_⟩
    rw [hy', hz', repl_mk hy]
    exact q _ F' H' g ⟨rfl, h1, fun c m => (replS_mem y z x 0 c m).elim ((okS_iff.mp hz).2 c) (a'.2.2 c)⟩

/-! ### rules -/
def PWn (n : Nat) (X : Cx) (e : Expr) (t : TT) : Prop := ∀ (sem : Sem Value) (pins : List (Addr × Obj)) (s : Shared) (σ : L2.St) (H : Hp) (Q : Bool → Hp → Prop), n ≤ s.toks → Inv X pins σ H s → t σ H Q → wpAny (model X.prog X.w) X.A (isTrue e X.env sem) (TP X pins σ Q) X.xe s
section
variable {n : Nat} {X : Cx} {a b e f c : Expr} {es rest : List Expr} {ta tb tc te : TE} {tA tB2 : TT} {pos : Pos}
theorem PW.tk (h : PW X e tA) : PWn n X e tA := fun w pins s σ H Q _ I q => h.run w pins s σ H Q I q
theorem PWn.pt (h : PWn n X e tA) : PTn n X e tA := fun pins s σ H Q hn I q => h _ pins s σ H Q hn I q
theorem pwn_and1 (h : PTn n X a tA) : PWn n X (.BoolOp .And [a] pos) tA := fun w pins s σ H Q hn I q => isTrue_and (thn (h pins s σ H Q hn I q) fun d z r => match d, r with
  | true, r => isTrue_and_nil r
  | false, r => r)
theorem pwn_or1 (h : PTn n X a tA) : PWn n X (.BoolOp .Or [a] pos) tA := fun w pins s σ H Q hn I q => isTrue_or (thn (h pins s σ H Q hn I q) fun d z r => match d, r with
  | false, r => isTrue_or_nil r
  | true, r => r)
theorem pwn_and (h : PTn n X a tA) (h2 : PWn n X (.BoolOp .And (b :: rest) pos) tB2) : PWn n X (.BoolOp .And (a :: b :: rest) pos) (tAnd tA tB2) := fun w pins s σ H Q hn I q => isTrue_and (thnN hn (h pins s σ H _ hn I q) fun d z hz ⟨G, J, r⟩ => match d, r with
  | true, r => h2 w pins z σ G Q hz J r
  | false, r => ⟨G, J, r⟩)
theorem pwn_or (h : PTn n X a tA) (h2 : PWn n X (.BoolOp .Or (b :: rest) pos) tB2) : PWn n X (.BoolOp .Or (a :: b :: rest) pos) (tOr tA tB2) := fun w pins s σ H Q hn I q => isTrue_or (thnN hn (h pins s σ H _ hn I q) fun d z hz ⟨G, J, r⟩ => match d, r with
  | false, r => h2 w pins z σ G Q hz J r
  | true, r => ⟨G, J, r⟩)
theorem pen_one {op : BoolOp} (h : PEn n X a ta) : PEn n X (.BoolOp op [a] pos) ta := fun pins s σ H Q hn I q => BoolOp_one (h pins s σ H Q hn I q)
theorem pen_and (h : PEn n X a ta) (h2 : PEn n X (.BoolOp .And (b :: rest) pos) tb) : PEn n X (.BoolOp .And (a :: b :: rest) pos) (tAndV ta tb) := fun pins s σ H Q hn I q => BoolOp_and (thnN hn (h pins s σ H _ hn I q) fun v z hz ⟨x, G, J, rx, d, ex, r⟩ => by
  subst ex
  cases rx
  refine wpAny_truthy_bool ?_
  cases d with
  | false => exact ⟨.bl false, G, J, rfl, r⟩
  | true => exact h2 pins z σ G Q hz J r)
theorem pen_or (h : PEn n X a ta) (h2 : PEn n X (.BoolOp .Or (b :: rest) pos) tb) : PEn n X (.BoolOp .Or (a :: b :: rest) pos) (tOrV ta tb) := fun pins s σ H Q hn I q => BoolOp_or (thnN hn (h pins s σ H _ hn I q) fun v z hz ⟨x, G, J, rx, d, ex, r⟩ => by
  subst ex
  cases rx
  refine wpAny_truthy_bool ?_
  cases d with
  | true => exact ⟨.bl true, G, J, rfl, r⟩
  | false => exact h2 pins z σ G Q hz J r)
theorem pen_not (h : PEn n X a ta) : PEn n X (.UnaryOp .Not a pos) (tNotV ta) := fun pins s σ H Q hn I q => UnaryOp_ (thn (h pins s σ H _ hn I q) fun v z ⟨x, G, J, rx, d, ex, r⟩ => by
  subst ex
  cases rx
  exact not_of (wpAny_truthy_bool ⟨.bl (!d), G, J, rfl, r⟩))
theorem pen_ifExp (h : PTn n X c tA) (h1 : PEn n X a ta) (h2 : PEn n X b tb) : PEn n X (.IfExp c a b pos) (tIf tA ta tb) := fun pins s σ H Q hn I q => wpAny_IfExp (thnN hn (h pins s σ H _ hn I q) fun d z hz ⟨G, J, r⟩ => match d, r with
  | true, r => h1 pins z σ G Q hz J r
  | false, r => h2 pins z σ G Q hz J r)
theorem pen_ix {r : R2} (hr : IxR X r) (h1 : PEn n X a ta) (h2 : PEn n X b tb) (hs : PlainIx b) : PEn n X (.Subscript a b pos) (tOp r ta tb) := fun pins s σ H Q hn I q =>
  Subscript_ (thnN hn (h1 pins s σ H _ hn I q) fun v z hz ⟨x, G, J, rx, q1⟩ => thn (h2 pins z σ G _ hz J q1) fun u z2 ⟨y, G2, J2, ry, q2⟩ => hr a b pins z2 σ G2 x y v u Q J2 rx ry q2 (hs _ _))
theorem pen_slice {r : V → Option Int → Option Int → Hp → VK → Prop} {lo hi : Option Expr} {tl th : TO} {p2 : Pos} (hr : SlR X r) (h1 : PEn n X e te) (hl : PO X lo tl) (hu : PO X hi th) : PEn n X (.Subscript e (.Slice lo hi none p2) pos) (tSl r te tl th) := fun pins s σ H Q hn I q => by
  refine Subscript_ (thn (h1 pins s σ H _ hn I q) fun v z ⟨x, G, J, rx, q1⟩ => wpAny_Slice (thn (hl.run pins z σ G _ J q1) fun vl z2 ⟨l, G2, J2, pl, q2⟩ => thn (hu.run pins z2 σ G2 _ J2 q2) fun vu z3 ⟨u, G3, J3, pu, q3⟩ => ?_))
  rw [evalPart_none]
  refine wpAny_pure ?_
  generalize ez : ({ z3 with heap := z3.heap.push { cls := .type "slice", data := .fields #[vl, vu, .none] } } : Shared) = z4
  have J4 : Inv X pins σ G3 z4 := by
    rw [← ez]
    exact J3.kept (t' := z3.toks) fun b o w => Heap.get?_push_of_some _ w
  have sl4 : z4.heap.IsSliceOf z3.heap.objs.size vl vu .none := by
    rw [← ez]
    exact Heap.IsSliceOf.new ..
  obtain ⟨T, id, hT, ht, hg⟩ := hr pins z4 σ G3 x v vl vu l u z3.heap.objs.size Q J4 rx sl4 pl pu q3
  exact tail_any (ops := [.ref z3.heap.objs.size, v]) ht hT hg (by with_unfolding_all rfl)
theorem pen_callB {t : TA} {r : List V → Hp → VK → Prop} {id : String} {x : Str} {p : Pos} (hc : CallR X (.builtin id) r) (hg : Gl X x) (hm : X.mg x = none) (hv : bootBuiltins x = some (.builtin id)) (ha : PAn n X (e :: es) t) (hn' : x ≠ "__name__" := by decide) (hdb : (x == ("__debug__" : Str)) = false := by decide) (he : starEach (e :: es) X.env = (false, eval e X.env) :: starEach es X.env := by rfl) (hpl : (backTo pos (starEach es X.env)).any (·.1) = false := by rfl) :
    PEn n X (.Call (.Name x p) (e :: es) [] pos) (tCB r t) := fun pins s σ H Q hn I q => wpAny_Call_Name_kw (ld_blt I hg hm hv (PyProof.Rows.callWith_builtin1 (thn (ha pos pins s σ H _ hn I q) fun us z ⟨vs, G, J, r1, q1⟩ => hc pins z σ G vs us Q J r1 q1) he hpl) hn' hdb)
theorem pen_callTy {t : TA} {r : List V → Hp → VK → Prop} {T : String} {x : Str} {p : Pos} (hc : CallR X (.type T) r) (hg : Gl X x) (hm : X.mg x = none) (hv : bootBuiltins x = some (.type T)) (ha : PAn n X (e :: es) t) (hn' : x ≠ "__name__" := by decide) (hdb : (x == ("__debug__" : Str)) = false := by decide) (he : starEach (e :: es) X.env = (false, eval e X.env) :: starEach es X.env := by rfl) (hpl : (backTo pos (starEach es X.env)).any (·.1) = false := by rfl) :
    PEn n X (.Call (.Name x p) (e :: es) [] pos) (tCB r t) := fun pins s σ H Q hn I q => wpAny_Call_Name_kw (ld_blt I hg hm hv (PyProof.Rows.callWith_type1 (thn (ha pos pins s σ H _ hn I q) fun us z ⟨vs, G, J, r1, q1⟩ => hc pins z σ G vs us Q J r1 q1) he hpl) hn' hdb)
theorem pen_bm {to : TE} {t : TA} {r : V → List V → Hp → VK → Prop} {o : Expr} {T name id : String} {apos cpos : Pos} (pa : PlainAttrs T) (slot : Slot T name id) (hty : typeOf (.builtin id) = pure (.type "method_descriptor")) (hm : MtR X id r) (ho : PEn n X o to) (ha : PAn n X (e :: es) t)
    (hbase : attributeBase o name X.env (eval o X.env) = eval o X.env := by rfl) (few : ((backTo cpos (starEach (e :: es) X.env)).all (fun y => !y.1) && (backToKw cpos (keywordEach [] X.env)).all (fun y => y.1.isSome) && decide ((e :: es).length + ([] : List Keyword).length + (if ([] : List Keyword).isEmpty then 0 else 1) < 30)) = true := by rfl)
    (line : (apos.endLine == cpos.line) = true := by rfl) (hs : starEach (e :: es) X.env = (false, eval e X.env) :: starEach es X.env := by rfl) (plain : (backTo cpos (starEach es X.env)).any (·.1) = false := by rfl) :
    PEn n X (.Call (.Attribute o name apos) (e :: es) [] cpos) (tBM X.K T r to t) := fun pins s σ H Q hn I q => by
  refine wpAny_Call_method_late hbase few line rfl (thnN hn (ho pins s σ H _ hn I q) fun v z hz ⟨x, G, J, rx, ty, q1⟩ => ?_)
  obtain ⟨y1, y2⟩ := tyV_is J rx ty
  have args := ha cpos pins z σ G _ hz J q1
  rw [hs] at args
  refine ⟨T, id, pa, slot, hty, y1, y2, ?_⟩
  rw [hs]
  refine Calls.callWith_builtin ?_ (Calls.evalArgs_plain (thn args fun us z2 ⟨vs, G2, J2, r2, q2⟩ => hm pins z2 σ G2 x vs v us Q J2 rx r2 q2))
  show (false || (backTo cpos (starEach es X.env)).any (·.1)) = false
  rw [plain]
  rfl
theorem pen_bm0 {to : TE} {r : V → List V → Hp → VK → Prop} {o : Expr} {T name id : String} {apos cpos : Pos} (pa : PlainAttrs T) (slot : Slot T name id) (hty : typeOf (.builtin id) = pure (.type "method_descriptor")) (hm : MtR X id r) (ho : PEn n X o to) (hbase : attributeBase o name X.env (eval o X.env) = eval o X.env := by rfl) (line : (apos.endLine == cpos.line) = true := by rfl) :
    PEn n X (.Call (.Attribute o name apos) [] [] cpos) (tBM0 X.K T r to) := fun pins s σ H Q hn I q =>
  wpAny_Call_method0_late hbase line (thn (ho pins s σ H _ hn I q) fun v z ⟨x, G, J, rx, ty, q1⟩ => ⟨T, id, pa, slot, hty, (tyV_is J rx ty).1, (tyV_is J rx ty).2, Calls.callWith_builtin rfl (PySem.evalArgs_none (hm pins z σ G x [] v [] Q J rx .nil q1))⟩)
theorem psn_expr (h : PEn n X e te) (hs : swapsWith e none pos.line X.env = pure false := by rfl) : PSn n X (.Expr e pos) (tDrop te) := fun pins s σ H D hn I q =>
  wpAny_Expr_any (thn (h pins s σ H _ hn I q) fun v z ⟨x, G, J, rx, q1⟩ => ⟨σ, G, J, q1⟩) I.quiet hs
theorem psn_while {body : List Stmt} {t : TS} (own : PassesOwn (model X.prog X.w) X.A X.env X.xe) (hc : PTn n X c tA) (hb : PSsn n X body t) : PSn n X (.While c body [] pos) (tWhile tA t) := fun pins s σ H D hn I q => by
  obtain ⟨W, ⟨m, w0⟩, turn⟩ := q
  refine wpAny_While (codeAny_whileLoop (fun k z => n ≤ z.toks ∧ ∃ ρ G, Inv X pins ρ G z ∧ W k ρ G) (fun k z T0 => ?_) m ⟨hn, σ, H, I, w0⟩)
  obtain ⟨tz, ρ, G, J, w1⟩ := T0
  refine wpAny_passesOwn own (thnN tz (hc pins z ρ G _ tz J (turn k ρ G w1)) fun d z2 tz2 ⟨G2, J2, q2⟩ => ?_)
  cases d with
  | false =>
    rw [if_neg Bool.false_ne_true]
    exact wpAny_execs_nil ⟨ρ, G2, J2, q2⟩
  | true =>
    rw [if_pos rfl]
    obtain ⟨N, less, q2⟩ := q2
    have next : ∀ {ρ3 : L2.St} {G3 : Hp} {z3 : Shared}, n ≤ z3.toks → Inv X pins ρ3 G3 z3 → N ρ3 G3 → ∃ k', k' < k ∧ n ≤ z3.toks ∧ ∃ ρ G, Inv X pins ρ G z3 ∧ W k' ρ G := fun t3 J3 nn => (less _ _ nn).elim fun k' w3 => ⟨k', w3.1, t3, _, _, J3, w3.2⟩
    refine wpAny_passesOwn own (thnN tz2 (hb pins z2 ρ G2 _ tz2 J2 q2) fun fl z3 tz3 q3 => ?_)
    match fl, q3 with
    | .next, ⟨_, _, J3, nn⟩ => exact next tz3 J3 nn
    | .cont, ⟨_, _, J3, nn⟩ => exact next tz3 J3 nn
    | .brk, q3 => exact q3
    | .ret v, q3 => exact q3
theorem pin_str {tg : Expr} (h : PEn n X e te) : PIn n X tg e (iStr te) := fun pins s σ H R hn I q => thn (h pins s σ H _ hn I q) fun v z ⟨y, G, J, ry, x, ex, q1⟩ => by
  subst ex
  obtain ⟨t, rfl⟩ := ry
  cases asc : x.cps.all (· < 128) with
  | false => exact wpAny_pyIter_wide asc (pi_one (tk := z.toks) J _ (turn_str _ x t "str_iterator" (.inr rfl)) ⟨_, Heap.get?_push_size _ rfl, rfl, rfl⟩ q1)
  | true => exact wpAny_pyIter_ascii asc (pi_one (tk := z.toks) J _ (turn_str _ x t "str_ascii_iterator" (.inl rfl)) ⟨_, Heap.get?_push_size _ rfl, rfl, rfl⟩ q1)
end
theorem tkE {n : Nat} {X : Cx} {e : Expr} {te : TE} (h : PE X e te) : PEn n X e te := PE.tk h
theorem tkA {n : Nat} {X : Cx} {es : List Expr} {ta : TA} (h : PA X es ta) : PAn n X es ta := PA.tk h
theorem tkS {n : Nat} {X : Cx} {st : Stmt} {t : TS} (h : PS X st t) : PSn n X st t := PS.tk h
theorem tkSs {n : Nat} {X : Cx} {st : List Stmt} {t : TS} (h : PSs X st t) : PSsn n X st t := PSs.tk h
theorem tkT {n : Nat} {X : Cx} {c : Expr} {tc : TT} (h : PT X c tc) : PTn n X c tc := PT.tk h
theorem tkI {n : Nat} {X : Cx} {tg iter : Expr} {wi : TI} (h : PI X tg iter wi) : PIn n X tg iter wi := PI.tk h
theorem tkW {n : Nat} {X : Cx} {c : Expr} {tc : TT} (h : PW X c tc) : PWn n X c tc := PW.tk h
/-- a promise kept always is kept where n are out -/
theorem Cal.tk {n : Nat} {P : Program} {w : World} {K : PySem.W.Frag} {mg : Str → Option Value} {base : Heap} {k : Nat} {x : Str} {ps : List Str} {sp : Sp} (c : Cal P w K mg base k x ps sp) : CalN n P w K mg base k x ps sp := by
  obtain ⟨f, fd, F, hm, hk, hb, hA, q⟩ := c.ex
  exact ⟨f, fd, ⟨F.len, fun A outer s H args us vs Q E _ hr e0 hbd r h => F.run A outer s H args us vs Q E hr e0 hbd r h⟩, hm, hk, hb, hA, q⟩
section
variable {n : Nat} {X : Cx} {K : PySem.W.Frag} (hK : X.K = K)
include hK
variable {e tg : Expr} {te : TE} {ta : TA} {T : String} {r : V → List V → Hp → VK → Prop}
theorem kBM0n (h : PEn n X e (tBM0 X.K T r te)) : PEn n X e (tBM0 K T r te) := hK ▸ h
theorem kBMn (h : PEn n X e (tBM X.K T r te ta)) : PEn n X e (tBM K T r te ta) := hK ▸ h
theorem kListn (h : PIn n X tg e (iList X.K te)) : PIn n X tg e (iList K te) := hK ▸ h
theorem kTupn (h : PIn n X tg e (iTup X.K te)) : PIn n X tg e (iTup K te) := hK ▸ h
end
end Lm
/-! Lm: text.index, data as a tuple. -/
namespace Lm
open PySem PySem.Spec PyProof.Rows L2
def idxSO (l m : List Nat) : Option Int := (findL m 0 l).map fun j => (j : Int)
def mSIndex : RM := fun x xs H Q => ∃ a b i rest, x = .str a ∧ xs = [.str b] ∧ Builtin.Str.occurrences a b 0 a.length 1 = i :: rest ∧ Q (.int (i : Nat)) H
theorem mt_mSIndex {X : Cx} : MtR X "str.index" mSIndex := mt_sindex
theorem m_sindex {l m : List Nat} {i : Int} (h : idxSO l m = some i) : Cm mSIndex l [val rS m] (val rInt i) := fun vs F H Q k e a q => by
  obtain ⟨v, rfl, b⟩ := alla1 a
  have f := find_mk (x := l) (y := m)
  unfold idxSO at h
  cases hf : findL m 0 l with
  | none => rw [hf] at h; cases h
  | some j =>
    rw [hf] at h f
    have e2 : ((j : Nat) : Int) = i := Option.some.inj h
    unfold Txt.find at f
    cases ho : Builtin.Str.occurrences (mk l) (mk m) 0 (mk l).length 1 with
    | nil =>
      rw [ho] at f
      have f' : (-1 : Int) = (j : Int) := f
      omega
    | cons c r =>
      rw [ho] at f
      have f' : ((c : Nat) : Int) = (j : Int) := f
      refine ⟨mk l, mk m, c, r, rfl, by rw [show v = .str (mk m) from b.1], ho, ?_⟩
      rw [f', e2]
      exact q _ F H (Gr.refl e) rfl
def asT : PyData → Option (List PyData)
  | .tuple ds => some ds
  | _ => none
def asL : PyData → Option (List PyData)
  | .list ds => some ds
  | _ => none
def slD (d : PyData) (lo hi : Option Int) : Option PyData := match d with
  | .tuple ds => some (.tuple (cutL ds lo hi))
  | _ => none
theorem cut_whole {α : Type} (xs : List α) (n : Nat) (hn : n = xs.length) (lo hi : Option Int) (h1 : HT.sIx n 0 lo = 0) (h2 : HT.sIx n n hi = n) : cutL xs lo hi = xs := by
  subst hn
  unfold cutL
  rw [h1, h2, List.drop_zero, Nat.sub_zero, List.take_length]
theorem sl_tupA_k {X : Cx} {K : PySem.W.Frag} (hK : X.K = K) : SlR X (rSlA K) := hK ▸ sl_tupA
theorem ev_slD {K : PySem.W.Frag} {σ : L2.St} {F : Hp} {O : Own} {te : TE} {to th : TO} {lo hi : Option Int} {d r : PyData} (hr : slD d lo hi = some r) (h : Ev te σ F O (val rD d)) (h1 : EvO to σ F O lo) (h2 : EvO th σ F O hi) : Ev (tSl (rSlA K) te to th) σ F O (val rD r) := fun H k Q q =>
  three h h1 h2 k fun v F1 H1 g e a => by
    cases d with
    | tuple ds =>
      have e2 : PyData.tuple (cutL ds lo hi) = r := Option.some.inj hr
      subst e2
      obtain ⟨p, xs, ev, hp, hx, hl⟩ := a
      have hx' := rpDs_all.mp hx
      have b : AllB rD ds xs F1 := ⟨hx', hl⟩
      refine ⟨p, xs, ev, st_of (e _ _ hp), fun w => ?_, fun w l hl' => ?_⟩
      · refine q _ F1 H1 g ?_
        have e3 : cutL ds lo hi = ds := cut_whole ds xs.length hx'.len.symm lo hi w.1 w.2
        rw [e3]
        exact ⟨p, xs, ev ▸ rfl, hp, hx, hl⟩
      · refine q _ (upd F1 l (.tup (cutV xs lo hi))) _ (g.trans (Gr.frz e hl')) ?_
        have c := (cut_all b lo hi).mono (same_new (o := HO.tup (cutV xs lo hi)) (free_of e hl'))
        exact ⟨l, _, rfl, upd_same, rpDs_all.mpr c.all, c.len⟩
    | _ => cases hr
section
variable {σ : L2.St} {F : Hp} {O : Own} {te : TE} {d : PyData} {ds : List PyData}
theorem ev_asT (h : asT d = some ds) (hv : Ev te σ F O (val rD d)) : Ev te σ F O (val (rTL rD) ds) := fun H k Q q => hv H k Q fun v F' H' g r => q v F' H' g (by
  cases d with
  | tuple xs =>
    have h2 : xs = ds := Option.some.inj h
    subst h2
    obtain ⟨p, ys, h1, h2, h3, h4⟩ := r
    exact ⟨p, ys, h1, h2, rpDs_all.mp h3, h4⟩
  | _ => cases h)
theorem ev_asL (h : asL d = some ds) (hv : Ev te σ F O (val rD d)) : Ev te σ F O (val (rL rD) ds) := fun H k Q q => hv H k Q fun v F' H' g r => q v F' H' g (by
  cases d with
  | list xs =>
    have h2 : xs = ds := Option.some.inj h
    subst h2
    obtain ⟨p, ys, h1, h2, h3, h4⟩ := r
    exact ⟨p, ys, h1, h2, rpDs_all.mp h3, h4⟩
  | _ => cases h)
end
end Lm
/-! Lm: the ending of a law whose defs want tokens. -/
namespace Lm
open PySem PySem.Spec PySem.W PyProof.Rows L2
theorem FnOkn.less {n m k : Nat} {P : Program} {w : World} {K : PySem.W.Frag} {mg : Str → Option Value} {base : Heap} {f : Addr} {fd : FuncData} {ps : List Str} {sp : Sp} (h : FnOkn n P w K mg base k f fd ps sp) (e : n ≤ m) : FnOkn m P w K mg base k f fd ps sp :=
  ⟨h.len, fun A outer s H args us vs Q E hm => h.run A outer s H args us vs Q E (Nat.le_trans e hm)⟩
theorem walk_tok {l : PySem.W.OpenLaw} {m k T nn : Nat} {q : Program} {loose : List Str} {XP : (Str → Option Value) → Heap → Prop} {d : DefRec} {fa : List He.Fa} {fn : List He.DefD} {ts : List (Str × Str)} {x : Str} (most : l.most = some m) (few : m ≤ sizeLine) (plain : d.params.defaults = []) (room : Room k callerA)
    (F : ∀ (w : World) (K : Frag) (mg : Str → Option Value) (fl : Addr) (h : Heap), K.In h → He.SaysD fa fn K → tokOk ts T K = true → h.Ns mainGlobals mg → mg d.name = some (.ref fl) →
      ∃ (fd : FuncData) (sp : Sp), (∀ (s : Shared) (u : Value), BindsTo s fd ⟨[u], []⟩ [(x, u)]) ∧ (∀ (H : Hp) (a : Addr) (ns : List Int), ns.length ≤ m → SqL K H a (ns.map V.int) → sp [.ref a] H (fun v _ => v = .bl true) fun _ _ _ => False) ∧ ∀ base : Heap, K.In base → base.Ns mainGlobals mg → FnOkn T l.prog w K mg base k fl fd [x] sp) :
    PySem.W.WalkX q loose XP (hookT nn fa fn ts T).obs (hookT nn fa fn ts T).val l.row.toRowW d [] (fun f vs => PySem.call f vs) :=
  walk_toks most plain fun w s₀ z mg mb fl o pm cd doc a vs ns G Y ht keep ha hmg obj areI short hg => by
    obtain ⟨K, KX0, says, tk, eT⟩ := hookT_says Y
    have KX : K.In z.heap := fun b o e => keep _ _ (KX0 b o e)
    have alone : K.lookup a = none := by
      cases e : K.lookup a with
      | none => rfl
      | some u =>
        have := Heap.lt_size (KX0 a u e)
        rw [ha] at this
        exact absurd this (Nat.lt_irrefl _)
    obtain ⟨fd, sp, bind, told, run⟩ := F w K mg fl z.heap KX says tk G.T.g hmg
    exact law_calln KX alone G.T.g G.T.b G.T.builtins G.T.nolimit hg obj areI (Nat.le_trans short few) room (by rw [← eT]; exact ht) run bind fun H hS => told H a ns short hS
/-- the law's own def -/
theorem fin_ofN {n : Nat} {P : Program} {w : World} {K : PySem.W.Frag} {mg : Str → Option Value} {k : Nat} {x a : Str} {sp : Sp} {fa : Addr} (hfa : mg x = some (.ref fa)) (base0 : Heap) (c : ∀ base : Heap, CalN n P w K mg base k x [a] sp) :
    ∃ fd : FuncData, (∀ (s : Shared) (v : Value), BindsTo s fd ⟨[v], []⟩ [(a, v)]) ∧ ∀ base : Heap, FnOkn n P w K mg base k fa fd [a] sp := by
  obtain ⟨f, fd, F, hm, hk, hb, hA, oc, od, osl, lk⟩ := (c base0).ex
  obtain rfl : fa = f := by
    rw [hfa] at hm
    cases hm
    rfl
  refine ⟨fd, fun s v => hA s [v] rfl, fun base => ?_⟩
  obtain ⟨f2, fd2, F2, hm2, _, _, _, oc2, od2, osl2, lk2⟩ := (c base).ex
  obtain rfl : fa = f2 := by
    rw [hfa] at hm2
    cases hm2
    rfl
  rw [lk] at lk2
  cases lk2
  exact F2
end Lm
/-! Lm: words, tidy texts, cells, names (plain). -/
namespace Lm
open PySem PySem.Spec L2
/-! ### words -/
def wordsS (l : List Nat) : List (List Nat) := (splitC 32 [] l).filter fun w => !decide (w = [])
def tidyS (l : List Nat) : List Nat := joinS [32] (wordsS l)
theorem splitC_cons (a : Nat) (r acc : List Nat) : splitC 32 acc (a :: r) = if a = 32 then acc :: splitC 32 [] r else splitC 32 (acc ++ [a]) r := rfl
theorem splitC_acc (l : List Nat) : ∀ acc : List Nat, ∃ h t, splitC 32 [] l = h :: t ∧ splitC 32 acc l = (acc ++ h) :: t := by
  induction l with
  | nil => intro acc; exact ⟨[], [], rfl, by simp [splitC]⟩
  | cons a r ih =>
    intro acc
    rw [splitC_cons, splitC_cons]
    by_cases e : a = 32
    · rw [if_pos e, if_pos e]
      exact ⟨[], splitC 32 [] r, rfl, by rw [List.append_nil]⟩
    · rw [if_neg e, if_neg e]
      obtain ⟨h, t, h1, h2⟩ := ih [a]
      obtain ⟨h', t', h3, h4⟩ := ih (acc ++ [a])
      rw [h1] at h3
      cases h3
      exact ⟨[a] ++ h, t, by rw [← h2]; rfl, by rw [h4, List.append_assoc]⟩
theorem splitC_free : ∀ (l acc : List Nat), 32 ∉ l → splitC 32 acc l = [acc ++ l]
  | [], acc, _ => by rw [List.append_nil]; rfl
  | a :: r, acc, h => by
    rw [splitC_cons, if_neg (fun e => h (by rw [e]; exact List.mem_cons_self ..)), splitC_free r _ fun m => h (List.mem_cons_of_mem _ m), List.append_assoc]
    rfl
theorem splitC_app : ∀ (u acc v : List Nat), 32 ∉ u → splitC 32 acc (u ++ 32 :: v) = (acc ++ u) :: splitC 32 [] v
  | [], acc, v, _ => by rw [List.nil_append, splitC_cons, if_pos rfl, List.append_nil]
  | a :: r, acc, v, h => by
    rw [List.cons_append, splitC_cons, if_neg (fun e => h (by rw [e]; exact List.mem_cons_self ..)), splitC_app r _ v fun m => h (List.mem_cons_of_mem _ m), List.append_assoc]
    rfl
/-- each part is without a blank -/
theorem splitC_nb : ∀ (l acc : List Nat), 32 ∉ acc → ∀ w ∈ splitC 32 acc l, 32 ∉ w
  | [], acc, h, w, m => by
    have e : w = acc := by simpa [splitC] using m
    rw [e]; exact h
  | a :: r, acc, h, w, m => by
    rw [splitC_cons] at m
    by_cases e : a = 32
    · rw [if_pos e] at m
      rcases List.mem_cons.mp m with z | m
      · rw [z]; exact h
      · exact splitC_nb r [] (fun z => by cases z) w m
    · rw [if_neg e] at m
      exact splitC_nb r (acc ++ [a]) (fun z => (List.mem_append.mp z).elim h fun z => e (List.mem_singleton.mp z).symm) w m
theorem words_nb {l w : List Nat} (h : w ∈ wordsS l) : 32 ∉ w ∧ w ≠ [] := by
  have h2 := List.mem_filter.mp h
  exact ⟨splitC_nb l [] (fun z => by cases z) w h2.1, by simpa using h2.2⟩
theorem words_mem {l w : List Nat} (h : w ∈ wordsS l) : ∀ c ∈ w, c ∈ l := fun c m => by
  have h2 := List.mem_filter.mp h
  rcases (splitC_mem 32 l [] w h2.1).2 c m with z | z
  · cases z
  · exact z
theorem words_len {l w : List Nat} (h : w ∈ wordsS l) : w.length ≤ l.length := by
  have h2 := List.mem_filter.mp h
  have := (splitC_mem 32 l [] w h2.1).1
  simpa using this
theorem words_nil : wordsS [] = [] := rfl
theorem words_blank (l : List Nat) : wordsS (32 :: l) = wordsS l := by
  unfold wordsS
  rw [splitC_cons, if_pos rfl]
  rfl
theorem words_blanks (k : Nat) (l : List Nat) : wordsS (List.replicate k 32 ++ l) = wordsS l := by
  induction k with
  | zero => rfl
  | succ k ih => rw [List.replicate_succ, List.cons_append, words_blank, ih]
theorem splitC_end : ∀ (l acc : List Nat), splitC 32 acc (l ++ [32]) = splitC 32 acc l ++ [[]]
  | [], acc => rfl
  | a :: r, acc => by
    rw [List.cons_append, splitC_cons, splitC_cons]
    by_cases e : a = 32
    · rw [if_pos e, if_pos e, splitC_end r, List.cons_append]
    · rw [if_neg e, if_neg e, splitC_end r]
theorem words_end (l : List Nat) : wordsS (l ++ [32]) = wordsS l := by
  unfold wordsS
  rw [splitC_end, List.filter_append]
  show _ ++ [] = _
  rw [List.append_nil]
theorem words_ends (k : Nat) (l : List Nat) : wordsS (l ++ List.replicate k 32) = wordsS l := by
  induction k with
  | zero => rw [List.replicate_zero, List.append_nil]
  | succ k ih => rw [List.replicate_succ', ← List.append_assoc, words_end, ih]
theorem words_free {l : List Nat} (h : 32 ∉ l) (h0 : l ≠ []) : wordsS l = [l] := by
  unfold wordsS
  rw [splitC_free l [] h, List.nil_append, List.filter_cons, if_pos (by simpa using h0)]
  rfl
theorem words_app {u v : List Nat} (h : 32 ∉ u) (h0 : u ≠ []) : wordsS (u ++ 32 :: v) = u :: wordsS v := by
  unfold wordsS
  rw [splitC_app u [] v h, List.nil_append, List.filter_cons, if_pos (by simpa using h0)]
/-- words put together with one blank are these words -/
theorem words_join : ∀ ws : List (List Nat), (∀ w ∈ ws, 32 ∉ w ∧ w ≠ []) → wordsS (joinS [32] ws) = ws
  | [], _ => rfl
  | [w], h => by
    rw [joinS_one]
    exact words_free (h w (List.mem_cons_self ..)).1 (h w (List.mem_cons_self ..)).2
  | w :: x :: r, h => by
    rw [joinS_cons, List.append_assoc]
    show wordsS (w ++ 32 :: joinS [32] (x :: r)) = _
    rw [words_app (h w (List.mem_cons_self ..)).1 (h w (List.mem_cons_self ..)).2, words_join (x :: r) fun y m => h y (List.mem_cons_of_mem _ m)]
theorem tidy_tidy (l : List Nat) : tidyS (tidyS l) = tidyS l := by
  unfold tidyS
  rw [words_join _ fun w m => words_nb m]
theorem join_len_le (s : List Nat) : ∀ ps : List (List Nat), (joinS s ps).length ≤ (ps.map List.length).sum + ps.length * s.length
  | [] => Nat.zero_le _
  | [p] => by rw [joinS_one]; simp
  | p :: q :: r => by
    have ih := join_len_le s (q :: r)
    rw [joinS_cons, List.length_append, List.length_append]
    simp only [List.map_cons, List.sum_cons, List.length_cons, Nat.succ_mul] at ih ⊢
    omega
theorem splitC_sum : ∀ (l acc : List Nat), ((splitC 32 acc l).map List.length).sum ≤ acc.length + l.length
  | [], acc => by simp [splitC]
  | a :: r, acc => by
    rw [splitC_cons]
    by_cases e : a = 32
    · rw [if_pos e, List.map_cons, List.sum_cons]
      have := splitC_sum r []
      rw [List.length_nil] at this
      rw [List.length_cons]
      omega
    · rw [if_neg e]
      have := splitC_sum r (acc ++ [a])
      rw [List.length_append, List.length_singleton] at this
      rw [List.length_cons]
      omega
theorem filter_sum (p : List Nat → Bool) : ∀ ws : List (List Nat), ((ws.filter p).map List.length).sum ≤ (ws.map List.length).sum
  | [] => Nat.le_refl _
  | w :: ws => by
    rw [List.filter_cons]
    have ih := filter_sum p ws
    split
    · rw [List.map_cons, List.map_cons, List.sum_cons, List.sum_cons]; omega
    · rw [List.map_cons, List.sum_cons]; omega
theorem words_few (l : List Nat) : (wordsS l).length ≤ l.length + 1 := Nat.le_trans (List.length_filter_le _ _) (by have := splitC_len 32 l []; simpa using this)
theorem words_sum (l : List Nat) : ((wordsS l).map List.length).sum ≤ l.length := Nat.le_trans (filter_sum _ _) (by have := splitC_sum l []; simpa using this)
theorem tidy_len (l : List Nat) : (tidyS l).length ≤ 2 * l.length + 1 := by
  have h1 := join_len_le [32] (wordsS l)
  have h2 := words_few l
  have h3 := words_sum l
  unfold tidyS
  simp only [List.length_singleton, Nat.mul_one] at h1
  omega
theorem tidy_mem {l : List Nat} {c : Nat} (h : c ∈ tidyS l) : c = 32 ∨ c ∈ l := by
  rcases joinS_mem _ _ c h with z | ⟨w, m, z⟩
  · exact Or.inl (List.mem_singleton.mp z)
  · exact Or.inr (words_mem m c z)
theorem tidy_ok {l : List Nat} (h : l.length ≤ 100000) (h2 : ∀ c ∈ l, c < 128) : OkS (tidyS l) := ⟨Nat.le_trans (tidy_len l) (by show _ ≤ 1000000; omega), fun c m => by
  rcases tidy_mem m with z | z
  · rw [z]; decide
  · exact h2 c z⟩
theorem tidy_blank (l : List Nat) : tidyS (32 :: l) = tidyS l := by unfold tidyS; rw [words_blank]
theorem tidy_both (k j : Nat) (l : List Nat) : tidyS (List.replicate k 32 ++ (l ++ List.replicate j 32)) = tidyS l := by
  unfold tidyS
  rw [words_blanks, words_ends]

/-! ### backslash and bar -/
def barS : List Nat → List Nat
  | 92 :: 124 :: r => 124 :: barS r
  | c :: r => c :: barS r
  | [] => []
theorem barS_hit (r : List Nat) : barS (92 :: 124 :: r) = 124 :: barS r := by rw [barS]
theorem barS_one (a : Nat) : barS [a] = [a] := by
  rw [barS]
  · rw [barS]
  · intro r h h2; cases h2
theorem barS_miss {a b : Nat} (r : List Nat) (h : ¬(a = 92 ∧ b = 124)) : barS (a :: b :: r) = a :: barS (b :: r) := by
  rw [barS]
  intro r2 h1 h2
  cases h2
  exact h ⟨h1, rfl⟩
theorem bar_repl : ∀ (l : List Nat), replS [92, 124] [124] 0 l = barS l ∧ ∀ a, replS [92, 124] [124] 0 (a :: l) = barS (a :: l)
  | [] => by
    refine ⟨rfl, fun a => ?_⟩
    rw [barS_one]
    unfold replS
    rw [if_neg]
    · rfl
    · unfold TL.pre
      simp
  | b :: r => by
    obtain ⟨h1, h2⟩ := bar_repl r
    refine ⟨h2 b, fun a => ?_⟩
    by_cases e : a = 92 ∧ b = 124
    · obtain ⟨rfl, rfl⟩ := e
      rw [barS_hit]
      unfold replS
      rw [if_pos (by rfl)]
      show [124] ++ replS [92, 124] [124] 0 r = _
      rw [h1]
      rfl
    · rw [barS_miss r e]
      unfold replS
      rw [if_neg, h2 b]
      unfold TL.pre
      simp only [List.length_cons, List.length_nil, List.take_succ_cons, List.take_zero, beq_iff_eq, List.cons.injEq, and_true]
      exact e
theorem barS_app : ∀ (u v : List Nat), ¬(u.getLast? = some 92 ∧ v.head? = some 124) → barS (u ++ v) = barS u ++ barS v
  | [], v, _ => by simp [barS]
  | [a], v, h => by
    rw [barS_one]
    cases v with
    | nil => rw [List.append_nil, barS_one]; simp [barS]
    | cons b r => exact barS_miss r fun e => h ⟨by rw [e.1]; rfl, by rw [e.2]; rfl⟩
  | a :: b :: r, v, h => by
    by_cases e : a = 92 ∧ b = 124
    · obtain ⟨rfl, rfl⟩ := e
      rw [barS_hit]
      show barS (92 :: 124 :: (r ++ v)) = _
      rw [barS_hit, barS_app r v, List.cons_append]
      rintro ⟨h1, h2⟩
      refine h ⟨?_, h2⟩
      cases r with
      | nil => cases h1
      | cons c r => rw [List.getLast?_cons_cons, List.getLast?_cons_cons]; exact h1
    · rw [barS_miss r e]
      show barS (a :: b :: (r ++ v)) = _
      rw [barS_miss _ e]
      have ih := barS_app (b :: r) v (by
        rintro ⟨h1, h2⟩
        refine h ⟨?_, h2⟩
        rw [List.getLast?_cons_cons]
        exact h1)
      rw [List.cons_append] at ih
      rw [ih, List.cons_append]
theorem barS_end (u : List Nat) {c : Nat} (h : c ≠ 124) : barS (u ++ [c]) = barS u ++ [c] := by
  rw [barS_app u [c] (fun e => h (by have := e.2; simpa using this)), barS_one]
theorem barS_esc (u : List Nat) : barS (u ++ [92] ++ [124]) = barS u ++ [124] := by
  rw [List.append_assoc, barS_app u ([92] ++ [124]) (fun e => by have := e.2; simp at this)]
  show _ ++ barS [92, 124] = _
  rw [barS_hit]
  simp [barS]
theorem barS_mem {l : List Nat} : ∀ {c : Nat}, c ∈ barS l → c ∈ l := fun {c} m => by
  rw [← (bar_repl l).1] at m
  rcases replS_mem [92, 124] [124] l 0 c m with z | z
  · -- a bar stands there only if one stood
    have e := List.mem_singleton.mp z
    subst e
    clear z
    rw [(bar_repl l).1] at m
    revert m
    fun_induction barS l with
    | case1 r ih => intro _; simp
    | case2 a r h ih =>
      intro m
      rcases List.mem_cons.mp m with z | z
      · rw [z]; exact List.mem_cons_self ..
      · exact List.mem_cons_of_mem _ (ih z)
    | case3 => intro m; cases m
  · exact z
theorem barS_len (l : List Nat) : (barS l).length ≤ l.length := by
  fun_induction barS l with
  | case1 r ih => simp only [List.length_cons]; omega
  | case2 a r h ih => simp only [List.length_cons]; omega
  | case3 => exact Nat.le_refl _
theorem barS_nil {l : List Nat} : barS l = [] ↔ l = [] := by
  constructor
  · intro h
    cases l with
    | nil => rfl
    | cons a r =>
      cases r with
      | nil => rw [barS_one] at h; cases h
      | cons b r =>
        by_cases e : a = 92 ∧ b = 124
        · obtain ⟨rfl, rfl⟩ := e
          rw [barS_hit] at h; cases h
        · rw [barS_miss r e] at h; cases h
  · intro h; rw [h]; simp [barS]
/-- a text's first blank -/
theorem blank_or (l : List Nat) : 32 ∉ l ∨ ∃ u v, l = u ++ 32 :: v ∧ 32 ∉ u := by
  induction l with
  | nil => exact Or.inl fun m => by cases m
  | cons a r ih =>
    by_cases e : a = 32
    · subst e
      exact Or.inr ⟨[], r, rfl, fun m => by cases m⟩
    · rcases ih with h | ⟨u, v, h1, h2⟩
      · exact Or.inl fun m => (List.mem_cons.mp m).elim (fun z => e z.symm) h
      · exact Or.inr ⟨a :: u, v, by rw [h1]; rfl, fun m => (List.mem_cons.mp m).elim (fun z => e z.symm) h2⟩
theorem barS_blank (v : List Nat) : barS (32 :: v) = 32 :: barS v := by
  cases v with
  | nil => rw [barS_one]; simp [barS]
  | cons b r => exact barS_miss r fun e => by cases e.1
theorem split_bar : ∀ (n : Nat) (l : List Nat), l.length ≤ n → splitC 32 [] (barS l) = (splitC 32 [] l).map barS := fun n => by
  induction n with
  | zero =>
    intro l h
    have e : l = [] := List.eq_nil_of_length_eq_zero (by omega)
    subst e
    rfl
  | succ n ih =>
    intro l h
    rcases blank_or l with z | ⟨u, v, e, z⟩
    · rw [splitC_free l [] z, splitC_free (barS l) [] fun m => z (barS_mem m)]
      rfl
    · subst e
      rw [List.length_append, List.length_cons] at h
      rw [barS_app u (32 :: v) (fun q => by have := q.2; simp at this), barS_blank, splitC_app _ [] _ (fun m => z (barS_mem m)), splitC_app _ [] _ z, ih v (by omega)]
      rfl
theorem words_bar (l : List Nat) : wordsS (barS l) = (wordsS l).map barS := by
  unfold wordsS
  rw [split_bar l.length l (Nat.le_refl _), List.filter_map]
  congr 2
  funext w
  show (!decide (barS w = [])) = _
  by_cases e : w = []
  · rw [decide_eq_true e, decide_eq_true (barS_nil.mpr e)]
  · rw [decide_eq_false e, decide_eq_false fun q => e (barS_nil.mp q)]
theorem join_bar : ∀ ws : List (List Nat), joinS [32] (ws.map barS) = barS (joinS [32] ws)
  | [] => rfl
  | [w] => rfl
  | w :: x :: r => by
    have ih := join_bar (x :: r)
    rw [List.map_cons] at ih
    rw [List.map_cons, List.map_cons, joinS_cons, ih, joinS_cons, List.append_assoc, List.append_assoc]
    show barS w ++ 32 :: barS (joinS [32] (x :: r)) = barS (w ++ 32 :: joinS [32] (x :: r))
    rw [barS_app w _ (fun q => by have := q.2; simp at this), barS_blank]
theorem tidy_bar (l : List Nat) : tidyS (barS l) = barS (tidyS l) := by
  unfold tidyS
  rw [words_bar, join_bar]

/-! ### names -/
abbrev letters : List Nat := [97, 98, 99, 100, 101, 102, 103, 104, 105, 106, 107, 108, 109, 110, 111, 112, 113, 114, 115, 116, 117, 118, 119, 120, 121, 122, 65, 66, 67, 68, 69, 70, 71, 72, 73, 74, 75, 76, 77, 78, 79, 80, 81, 82, 83, 84, 85, 86, 87, 88, 89, 90, 48, 49, 50, 51, 52, 53, 54, 55, 56, 57]
def nameB (l : List Nat) : Bool := (decide (1 ≤ l.length) && decide (l.length ≤ 12)) && l.all fun c => decide (c ∈ letters)
theorem lower_len (l : List Nat) : (lowerS l).length = l.length := by unfold lowerS; rw [List.length_map]

/-! ### blanks at both ends -/
theorem head_free {t : List Nat} (h : ∀ d, t.head? = some d → d ≠ 32) (h0 : t ≠ []) : ∃ a r, t = a :: r ∧ a ≠ 32 := by
  cases t with
  | nil => exact absurd rfl h0
  | cons a r => exact ⟨a, r, rfl, h a rfl⟩
/-- any text: blanks, what neither begins nor ends with one, blanks -/
theorem body_or (l : List Nat) : (∃ b, l = List.replicate b 32) ∨ ∃ b t e, l = List.replicate b 32 ++ (t ++ List.replicate e 32) ∧ t ≠ [] ∧ (∀ d, t.head? = some d → d ≠ 32) ∧ ∀ d, t.getLast? = some d → d ≠ 32 := by
  obtain ⟨b, hb⟩ := dropW_rep 32 l
  obtain ⟨e, he⟩ := rstrip_rep 32 (l.dropWhile ([32].contains))
  have hh := dropW_head 32 l
  by_cases z : rstripS (l.dropWhile ([32].contains)) [32] = []
  · left
    rw [z, List.nil_append] at he
    rw [he] at hb
    refine ⟨b + e, ?_⟩
    rw [hb, List.replicate_append_replicate]
  · right
    refine ⟨b, rstripS (l.dropWhile ([32].contains)) [32], e, by rw [← he]; exact hb, z, fun d hd => ?_, fun d hd => ?_⟩
    · refine hh d ?_
      rw [he]
      cases q : rstripS (l.dropWhile ([32].contains)) [32] with
      | nil => exact absurd q z
      | cons a r => rw [q] at hd; exact hd
    · unfold rstripS at hd
      rw [List.getLast?_reverse] at hd
      exact dropW_head 32 _ d hd
theorem rstrip_body (b e : Nat) (t : List Nat) (h0 : t ≠ []) (h2 : ∀ d, t.getLast? = some d → d ≠ 32) : rstripS (List.replicate b 32 ++ (t ++ List.replicate e 32)) [32] = List.replicate b 32 ++ t := by
  unfold rstripS
  rw [← List.append_assoc, List.reverse_append, List.reverse_replicate, dropW_app, dropW_id 32 _ ?_, List.reverse_reverse]
  intro d hd
  rw [List.reverse_append] at hd
  refine h2 d ?_
  rw [← List.head?_reverse]
  cases q : t.reverse with
  | nil => exact absurd (List.reverse_eq_nil_iff.mp q) h0
  | cons a r => rw [q] at hd; exact hd
theorem lstrip_body (b : Nat) (t : List Nat) (h1 : ∀ d, t.head? = some d → d ≠ 32) : lstripS (List.replicate b 32 ++ t) [32] = t := by
  unfold lstripS
  rw [dropW_app, dropW_id 32 t h1]
theorem rstrip_blanks (b : Nat) : rstripS (List.replicate b 32) [32] = [] := by
  unfold rstripS
  rw [List.reverse_replicate]
  have := dropW_app 32 b []
  rw [List.append_nil] at this
  rw [this]
  rfl
end Lm
/-! Lm: slices and places from the end (plain). -/
namespace Lm
open PySem PySem.Spec L2
theorem ixN_neg {n i : Nat} (h0 : 0 < i) (h : i ≤ n) : ixN n (-(i : Int)) = some (n - i) := by
  unfold ixN
  rw [if_neg (by omega), if_pos (by omega)]
  congr 1
  omega
theorem ixN_last (n : Nat) : ixN (n + 1) (-1) = some n := ixN_neg (i := 1) (by omega) (by omega)
theorem setO_last {α : Type} (l : List α) (a b : α) : setO (l ++ [a]) (-1) b = some (l ++ [b]) := by
  unfold setO
  rw [List.length_append, List.length_singleton, ixN_last]
  simp
theorem ixO_m2 {α : Type} (u : List α) (x y : α) : ixO (u ++ [x, y]) (-2) = some x := by
  unfold ixO atI
  have e : ixN (u ++ [x, y]).length (-2) = some u.length := by
    have := ixN_neg (n := (u ++ [x, y]).length) (i := 2) (by omega) (by simp)
    simp only [List.length_append, List.length_cons, List.length_nil] at this ⊢
    simpa using this
  rw [e]
  simp
theorem ixO_m1 {α : Type} (u : List α) (x y : α) : ixO (u ++ [x, y]) (-1) = some y := by
  have e : u ++ [x, y] = (u ++ [x]) ++ [y] := by simp
  rw [e]
  exact ixO_last _ _
theorem sIx_neg (n d i : Nat) (h : 0 < i) : HT.sIx n d (some (-(i : Int))) = n - i := by
  show (if (-(i : Int)) < 0 then (-(i : Int) + (n : Int)).toNat else min (-(i : Int)).toNat n) = n - i
  rw [if_pos (by omega)]
  omega
theorem cut_neg2 {α : Type} (u : List α) (x y : α) : cutL (u ++ [x, y]) (some (-2)) (some (-1)) = [x] := by
  unfold cutL
  have e1 := sIx_neg (u ++ [x, y]).length 0 2 (by decide)
  have e2 := sIx_neg (u ++ [x, y]).length (u ++ [x, y]).length 1 (by decide)
  have l : (u ++ [x, y]).length = u.length + 2 := by simp
  rw [show (-2 : Int) = -((2 : Nat) : Int) from rfl, show (-1 : Int) = -((1 : Nat) : Int) from rfl, e1, e2, l]
  have k1 : u.length + 2 - 2 = u.length := by omega
  have k2 : u.length + 2 - 1 - u.length = 1 := by omega
  rw [k1, k2]
  simp
theorem cut_init {α : Type} (u : List α) (x : α) : cutL (u ++ [x]) none (some (-1)) = u := by
  unfold cutL
  have e2 := sIx_neg (u ++ [x]).length (u ++ [x]).length 1 (by decide)
  have e1 : HT.sIx (u ++ [x]).length 0 none = 0 := rfl
  have l : (u ++ [x]).length = u.length + 1 := by simp
  rw [show (-1 : Int) = -((1 : Nat) : Int) from rfl, e1, e2, l]
  have k2 : u.length + 1 - 1 - 0 = u.length := by omega
  rw [k2]
  simp
theorem cut_sub {α : Type} {l : List α} {lo hi : Option Int} {c : α} (m : c ∈ cutL l lo hi) : c ∈ l := List.mem_of_mem_drop (List.mem_of_mem_take m)
theorem rng_nil {lo hi : Int} (h : hi ≤ lo) : rng lo hi = [] := by
  unfold rng
  have e : (hi - lo).toNat = 0 := by omega
  rw [e]
  rfl
theorem rng_cons {lo hi : Int} (h : lo < hi) : rng lo hi = lo :: rng (lo + 1) hi := by
  unfold rng
  have e : (hi - lo).toNat = (hi - (lo + 1)).toNat + 1 := by omega
  rw [e, List.range_succ_eq_map, List.map_cons, List.map_map]
  congr 1
  · simp
  · apply List.map_congr_left
    intro i _
    show lo + ((i + 1 : Nat) : Int) = lo + 1 + (i : Int)
    omega
theorem two_end {α : Type} {l : List α} (h : 2 ≤ l.length) : ∃ u x y, l = u ++ [x, y] := by
  obtain ⟨a, r, e⟩ : ∃ a r, l.reverse = a :: r := by
    cases q : l.reverse with
    | nil => rw [List.reverse_eq_nil_iff.mp q] at h; simp at h
    | cons a r => exact ⟨a, r, rfl⟩
  cases r with
  | nil =>
    have := congrArg List.length e
    simp at this
    omega
  | cons b r =>
    refine ⟨r.reverse, b, a, ?_⟩
    have := congrArg List.reverse e
    rw [List.reverse_reverse] at this
    rw [this]
    simp
theorem starts_cons (a : Nat) (r p : List Nat) (c : Nat) : startsS (a :: r) (c :: p) = (decide (a = c) && startsS r p) := by
  unfold startsS
  rw [List.isPrefixOf]
  congr 1
  rw [Bool.eq_iff_iff, beq_iff_eq, decide_eq_true_eq]
  exact eq_comm
theorem starts_nil (r : List Nat) : startsS r [] = true := by unfold startsS; cases r <;> rfl
theorem starts_empty (c : Nat) (p : List Nat) : startsS [] (c :: p) = false := rfl
theorem ends_two (u : List Nat) (x y c : Nat) : endsS (u ++ [x, y]) [c] = decide (y = c) := by
  unfold endsS
  rw [Bool.eq_iff_iff, List.isSuffixOf_iff_suffix, decide_eq_true_eq]
  constructor
  · rintro ⟨v, e⟩
    have h := congrArg List.getLast? e
    simp at h
    exact h.symm
  · intro e
    subst e
    exact ⟨u ++ [x], by simp⟩
/-- behind a text's first place of a text -/
theorem cut_at {α : Type} (p s : List α) : cutL (p ++ s) (some (p.length : Int)) none = s := by rw [cut_drop]; simp
theorem cut_3 (p s : List Nat) (k : Nat) : cutL (p ++ s) (some (p.length : Int)) (some ((p.length : Int) + (k : Int))) = s.take k := by
  have := cut_mid (p ++ s) p.length (p.length + k) (by omega)
  rw [Int.natCast_add] at this
  rw [this]
  simp
/-- where the first S stands -/
theorem par_some {S : List Nat} : ∀ {s acc a b : List Nat}, TL.par S acc s = some (a, b) → ∃ m, a = acc ++ m ∧ s = m ++ s.drop m.length ∧ b = (s.drop m.length).drop S.length ∧ m.length < s.length ∧ TL.pre S (s.drop m.length) = true
  | [], _, _, _, h => by cases h
  | c :: r, acc, a, b, h => by
    cases hp : TL.pre S (c :: r) with
    | true =>
      rw [TL.par_hit hp] at h
      cases h
      exact ⟨[], by simp, by simp, by simp, by simp, by simpa using hp⟩
    | false =>
      rw [TL.par_miss hp] at h
      obtain ⟨m, h1, h2, h3, h4, h5⟩ := par_some h
      refine ⟨c :: m, by rw [h1]; simp, ?_, ?_, ?_, ?_⟩
      · simp only [List.length_cons, List.drop_succ_cons, List.cons_append]
        rw [← h2]
      · simpa using h3
      · simp; exact h4
      · simpa using h5
/-! what is had, and how it is -/
section
variable {α β ρ S : Type} {o : Option α} {a : α} {f : α → Option β} {Q : β → Prop}
theorem bindX (h : o = some a) (k : ∃ r, f a = some r ∧ Q r) : ∃ r, o.bind f = some r ∧ Q r := by rw [h]; exact k
theorem ltX (k : ∃ r, f a = some r ∧ Q r) : ∃ r, lt a f = some r ∧ Q r := k
theorem cndX {c : Bool} {x y : Option β} (h1 : c = true → ∃ r, x = some r ∧ Q r) (h2 : c = false → ∃ r, y = some r ∧ Q r) : ∃ r, cnd c x y = some r ∧ Q r := by
  cases c with
  | true => exact h1 rfl
  | false => exact h2 rfl
theorem fwdX {o : Option (Fw ρ S)} {k : S → Option β} {kr : ρ → Option β} (h : ∃ s, o = some (.nx s) ∧ ∃ r, k s = some r ∧ Q r) : ∃ r, fwd o k kr = some r ∧ Q r := by
  obtain ⟨s, h1, h2⟩ := h
  rw [h1]
  exact h2
end
end Lm
/-! Lm: data whose lists are new (not of the heap B), and what is changed in them behind. -/
namespace Lm
open PySem PySem.Spec PyProof.Rows L2
mutual
def frD (B : Hp) : PyData → V → Hp → Prop
  | .list ds, v, F => ∃ p xs, v = .ref p ∧ F p = some (.lst xs) ∧ B p = none ∧ frDs B ds xs F
  | .tuple ds, v, F => ∃ p xs, v = .ref p ∧ F p = some (.tup xs) ∧ frDs B ds xs F
  | _, _, _ => True
def frDs (B : Hp) : List PyData → List V → Hp → Prop
  | [], vs, _ => vs = []
  | d :: ds, vs, F => ∃ v ws, vs = v :: ws ∧ frD B d v F ∧ frDs B ds ws F
end
mutual
theorem frD_mono {B F F' : Hp} (e : Same F F') : ∀ (d : PyData) (v : V), frD B d v F → frD B d v F'
  | .none, _, _ => by simp [frD]
  | .bool _, _, _ => by simp [frD]
  | .int _, _, _ => by simp [frD]
  | .str _, _, _ => by simp [frD]
  | .dict _, _, _ => by simp [frD]
  | .list ds, v, h => by
    simp only [frD] at h ⊢
    obtain ⟨p, xs, h1, h2, h3, h4⟩ := h
    exact ⟨p, xs, h1, e _ _ h2, h3, frDs_mono e ds xs h4⟩
  | .tuple ds, v, h => by
    simp only [frD] at h ⊢
    obtain ⟨p, xs, h1, h2, h4⟩ := h
    exact ⟨p, xs, h1, e _ _ h2, frDs_mono e ds xs h4⟩
theorem frDs_mono {B F F' : Hp} (e : Same F F') : ∀ (ds : List PyData) (vs : List V), frDs B ds vs F → frDs B ds vs F'
  | [], _, h => by simp only [frDs] at h ⊢; exact h
  | d :: ds, _, h => by
    simp only [frDs] at h ⊢
    obtain ⟨v, ws, h1, h2, h3⟩ := h
    exact ⟨v, ws, h1, frD_mono e d v h2, frDs_mono e ds ws h3⟩
end
mutual
theorem frD_less {B B' F : Hp} (e : Same B B') : ∀ (d : PyData) (v : V), frD B' d v F → frD B d v F
  | .none, _, _ => by simp [frD]
  | .bool _, _, _ => by simp [frD]
  | .int _, _, _ => by simp [frD]
  | .str _, _, _ => by simp [frD]
  | .dict _, _, _ => by simp [frD]
  | .list ds, v, h => by
    simp only [frD] at h ⊢
    obtain ⟨p, xs, h1, h2, h3, h4⟩ := h
    exact ⟨p, xs, h1, h2, e.free h3, frDs_less e ds xs h4⟩
  | .tuple ds, v, h => by
    simp only [frD] at h ⊢
    obtain ⟨p, xs, h1, h2, h4⟩ := h
    exact ⟨p, xs, h1, h2, frDs_less e ds xs h4⟩
theorem frDs_less {B B' F : Hp} (e : Same B B') : ∀ (ds : List PyData) (vs : List V), frDs B' ds vs F → frDs B ds vs F
  | [], _, h => by simp only [frDs] at h ⊢; exact h
  | d :: ds, _, h => by
    simp only [frDs] at h ⊢
    obtain ⟨v, ws, h1, h2, h3⟩ := h
    exact ⟨v, ws, h1, frD_less e d v h2, frDs_less e ds ws h3⟩
end
/-- no list within -/
def flatD : PyData → Bool
  | .list _ => false
  | .tuple ds => flatDs ds
  | _ => true
where flatDs : List PyData → Bool
  | [] => true
  | d :: ds => flatD d && flatDs ds
mutual
theorem frD_flat {B F : Hp} : ∀ (d : PyData) (v : V), flatD d = true → rpD d v F → frD B d v F
  | .none, _, _, _ => by simp [frD]
  | .bool _, _, _, _ => by simp [frD]
  | .int _, _, _, _ => by simp [frD]
  | .str _, _, _, _ => by simp [frD]
  | .dict _, _, _, _ => by simp [frD]
  | .list ds, v, h, _ => by simp [flatD] at h
  | .tuple ds, v, h, ⟨p, xs, h1, h2, h3, _⟩ => by
    simp only [flatD] at h
    simp only [frD]
    exact ⟨p, xs, h1, h2, frDs_flat ds xs h h3⟩
theorem frDs_flat {B F : Hp} : ∀ (ds : List PyData) (vs : List V), flatD.flatDs ds = true → rpDs ds vs F → frDs B ds vs F
  | [], _, _, h => by simp only [frDs]; exact h
  | d :: ds, _, h, ⟨v, ws, h1, h2, h3⟩ => by
    simp only [flatD.flatDs, Bool.and_eq_true] at h
    simp only [frDs]
    exact ⟨v, ws, h1, frD_flat d v h.1 h2, frDs_flat ds ws h.2 h3⟩
end
def rDf (B : Hp) : Rep PyData := ⟨fun d v F => rpD d v F ∧ frD B d v F, fun e h => ⟨rpD_mono e _ _ h.1, frD_mono e _ _ h.2⟩⟩
theorem frDs_all {B F : Hp} : ∀ {ds : List PyData} {vs : List V}, All2 (rDf B) ds vs F → rpDs ds vs F ∧ frDs B ds vs F
  | [], [], _ => by simp [rpDs, frDs]
  | d :: ds, v :: vs, h => by
    obtain ⟨h1, h2⟩ := frDs_all h.2
    simp only [frDs]
    exact ⟨⟨v, vs, rfl, h.1.1, h1⟩, v, vs, rfl, h.1.2, h2⟩
  | [], _ :: _, h => h.elim
  | _ :: _, [], h => h.elim
theorem frDs_strs {B F : Hp} : ∀ {as : List (List Nat)} {vs : List V}, All2 rS as vs F → frDs B (as.map encS) vs F
  | [], [], _ => by simp [frDs]
  | _ :: _, _ :: _, q => by
    simp only [List.map_cons, frDs]
    exact ⟨_, _, rfl, by simp [encS, frD], frDs_strs q.2⟩
  | [], _ :: _, q => q.elim
  | _ :: _, [], q => q.elim
section
variable {σ : L2.St} {F F1 B : Hp} {O : Own} {te : TE} {ta : TA} {K : PySem.W.Frag} {d : PyData}
theorem evF_D (h : Ev te σ F O (val (rDf B) d)) : Ev te σ F O (val rD d) := fun H k Q q => h H k Q fun v F' H' g r => q v F' H' g r.1
theorem evF_s (hf : flatD d = true) (h : Ev te σ F O (val rD d)) : Ev te σ F O (val (rDf B) d) := fun H k Q q => h H k Q fun v F' H' g r => q v F' H' g ⟨r, frD_flat d v hf r⟩
theorem evF_new {as : List (List Nat)} (e : Same B F) (h : EvN te σ F O rS as) : Ev te σ F O (val (rDf B) (.list (as.map encS))) := fun H k Q q =>
  h H k Q fun p xs F' H' g n f h2 h3 => by
    have G : Gr F H (upd F' p (.lst xs)) H' := ⟨g.f.trans (same_new f), g.h, fun a u e => by
      by_cases z : a = p
      · subst z; rw [upd_same] at e; cases e; exact h2
      · rw [upd_ne z] at e; exact g.fh a u e, fun a h1 h4 => by
      rw [upd_ne (fun z => h4 (by rw [z]; exact n))]
      exact g.nw a h1 h4⟩
    refine q _ _ H' G ⟨⟨p, xs, rfl, upd_same, rpDs_all.mpr (all_enc eS (h3.mono (same_new f)).all), by rw [List.length_map]; exact h3.len⟩, ?_⟩
    simp only [frD]
    exact ⟨p, xs, rfl, upd_same, (e.trans k.ex).free n, frDs_strs (h3.mono (same_new f)).all⟩
theorem evF_tup {ds : List PyData} (h : EvA ta σ F O (AllV (rDf B) ds)) (hl : ds.length ≤ limL) : Ev (tTup ta) σ F O (val (rDf B) (.tuple ds)) := fun H k Q q =>
  (ev_tupL h hl) H k Q fun v F' H' g ⟨p, xs, h1, h2, h3⟩ => q v F' H' g (by
    obtain ⟨r1, r2⟩ := frDs_all h3.all
    refine ⟨⟨p, xs, h1, h2, r1, h3.len⟩, ?_⟩
    simp only [frD]
    exact ⟨p, xs, h1, h2, r2⟩)
/-- a def that hands back data with new lists -/
def spF (P : List Ar → PyData → Prop) : Sp := fun vs H Q _ => ∃ F As d, P As d ∧ Same F H ∧ AllA As vs F H ∧ ∀ v F' H', Gr F H F' H' → (val (rDf F) d).p v F' H' → Q v H'
theorem ev_callFd {P : List Ar → PyData → Prop} {E : XK} {as : List Ar} (e : Same B F) (h : EvA ta σ F O as) (hp : P as d) : Ev (tCall (spF P) [] E ta) σ F O (val (rDf B) d) := fun H k Q q =>
  h H k _ fun vs F1 H1 g1 a => ⟨F1, as, d, hp, g1.fh, by rw [List.append_nil]; exact a, fun v F2 H2 g2 c => q v F2 H2 (g1.trans g2) ⟨c.1, frD_less (e.trans g1.f) d v c.2⟩⟩
/-- data known to be a list of texts -/
def asSs : List PyData → Option (List (List Nat))
  | [] => some []
  | d :: ds => match asS d, asSs ds with
    | some a, some as => some (a :: as)
    | _, _ => none
def asLS : PyData → Option (List (List Nat))
  | .list ds => asSs ds
  | _ => none
theorem asSs_all {F : Hp} : ∀ {ds : List PyData} {vs : List V} {as : List (List Nat)}, asSs ds = some as → rpDs ds vs F → All2 rS as vs F
  | [], vs, as, h, r => by
    cases h
    have r' : vs = [] := r
    subst r'
    exact trivial
  | d :: ds, vs, as, h, r => by
    obtain ⟨v, ws, e, r1, r2⟩ := r
    subst e
    unfold asSs at h
    cases h1 : asS d with
    | none => rw [h1] at h; cases h
    | some a =>
      cases h2 : asSs ds with
      | none => rw [h1, h2] at h; cases h
      | some bs =>
        rw [h1, h2] at h
        cases h
        refine ⟨?_, asSs_all h2 r2⟩
        cases d with
        | str x =>
          have e2 : x.cps.toList = a := Option.some.inj h1
          subst e2
          exact ⟨by rw [r1.1], r1.2⟩
        | _ => cases h1
theorem asSs_len : ∀ {ds : List PyData} {as : List (List Nat)}, asSs ds = some as → as.length = ds.length
  | [], as, h => by cases h; rfl
  | d :: ds, as, h => by
    unfold asSs at h
    cases h1 : asS d with
    | none => rw [h1] at h; cases h
    | some a =>
      cases h2 : asSs ds with
      | none => rw [h1, h2] at h; cases h
      | some bs =>
        rw [h1, h2] at h
        cases h
        rw [List.length_cons, List.length_cons, asSs_len h2]
theorem ev_asLS {ls : List (List Nat)} (h : asLS d = some ls) (hv : Ev te σ F O (val rD d)) : Ev te σ F O (val (rL rS) ls) := fun H k Q q => hv H k Q fun v F' H' g r => q v F' H' g (by
  cases d with
  | list xs =>
    have h2 : asSs xs = some ls := h
    obtain ⟨p, ys, h1, h3, h4, h5⟩ := r
    exact ⟨p, ys, h1, h3, asSs_all h2 h4, by rw [asSs_len h2]; exact h5⟩
  | _ => cases h)
theorem rS_any {F F' : Hp} : ∀ {as : List (List Nat)} {vs : List V}, All2 rS as vs F → All2 rS as vs F'
  | [], [], _ => trivial
  | _ :: _, _ :: _, h => ⟨h.1, rS_any h.2⟩
  | [], _ :: _, h => h.elim
  | _ :: _, [], h => h.elim
/-- the list of texts at a place of new data -/
theorem fd_at {v : V} {i : Int} {c : PyData} {es : List (List Nat)} (h : (rDf B).rp d v F) (hi : ixD d i = some c) (hs : asLS c = some es) :
    ∃ q vs p xs, v = .ref q ∧ F q = some (.tup vs) ∧ atI vs i = some (.ref p) ∧ F p = some (.lst xs) ∧ B p = none ∧ AllB rS es xs F := by
  cases d with
  | tuple ds =>
    obtain ⟨r, f⟩ := h
    obtain ⟨q, vs, rfl, h2, h3, h4⟩ := r
    simp only [frD] at f
    obtain ⟨q', vs', e1, e2, f2⟩ := f
    cases e1
    rw [h2] at e2
    cases e2
    have hi' : atI ds i = some c := hi
    unfold atI at hi'
    cases z : ixN ds.length i with
    | none => rw [z] at hi'; cases hi'
    | some j =>
      rw [z] at hi'
      have hj : ds[j]? = some c := hi'
      -- both readings at place j
      have key : ∀ (ds : List PyData) (vs : List V) (j : Nat), ds[j]? = some c → rpDs ds vs F → frDs B ds vs F → ∃ w, vs[j]? = some w ∧ rpD c w F ∧ frD B c w F := by
        intro ds
        induction ds with
        | nil => intro vs j h; cases h
        | cons a ds ih =>
          intro vs j h r f
          obtain ⟨w, ws, e, r1, r2⟩ := r
          subst e
          simp only [frDs] at f
          obtain ⟨w', ws', e', f1, f2⟩ := f
          cases e'
          cases j with
          | zero => cases h; exact ⟨w, rfl, r1, f1⟩
          | succ j => exact ih ws j h r2 f2
      obtain ⟨w, hw, rw', fw⟩ := key ds vs j hj h3 f2
      cases c with
      | list xs =>
        have h5 : asSs xs = some es := hs
        obtain ⟨p, ys, e3, e4, e5, e6⟩ := rw'
        subst e3
        simp only [frD] at fw
        obtain ⟨p', ys', e7, e8, e9, _⟩ := fw
        cases e7
        refine ⟨q, vs, p, ys, rfl, h2, ?_, e4, e9, asSs_all h5 e5, by rw [asSs_len h5]; exact e6⟩
        unfold atI
        rw [← (rpDs_all.mp h3).len, z]
        exact hw
      | _ => cases hs
  | _ => cases hi
/-- t[i] of a tuple is read -/
theorem rd_at {j : Nat} {q p : Addr} {vs : List V} {i : Int} (hj : σ[j]? = some (some (.ref q))) (hq : F q = some (.tup vs)) (hi : atI vs i = some (.ref p)) : ∀ F' H', Same F F' → Same F' H' → ∀ Q : VK, Q (.ref p) H' → (tOp (rIxT K) (tVar j) (tC (.int i))) σ H' Q := fun F' H' e e' Q k =>
  ⟨.ref q, hj, q, vs, i, .ref p, rfl, rfl, st_of (e' _ _ (e _ _ hq)), hi, k⟩
theorem rd_v {j : Nat} {p : Addr} (hj : σ[j]? = some (some (.ref p))) : ∀ F' H', Same F F' → Same F' H' → ∀ Q : VK, Q (.ref p) H' → (tVar j) σ H' Q := fun F' H' e e' Q k => ⟨.ref p, hj, k⟩
end
section
variable {Z : Bs} {D : Ends} {σ : L2.St} {F B : Hp} {O : Own} {tx ty tz : TE} {K : PySem.W.Frag}
/-- held.append((x, y)); x.append(z): the list at x is new since B -/
theorem sx_hold {n jh : Nat} {hs : List V} {hm : List (List (List Nat) × List (List Nat))} {ph p : Addr} {xs : List V} {es ys : List (List Nat)} {z : List Nat} (hj : σ[jh]? = some (some (.ref ph))) (hO : O[n]? = some (ph, .lst hs)) (ZB : Same Z.F0 B) (BF : Same B F) (hh : AllB (rT2 (rL rS) (rL rS)) hm hs B)
    (hx : ∀ F' H', Same F F' → Same F' H' → ∀ Q : VK, Q (.ref p) H' → tx σ H' Q) (hp : F p = some (.lst xs)) (hb : B p = none) (hes : AllB rS es xs F) (hy : EvN ty σ F O rS ys) (hz : ∀ O', Ev tz σ F O' (val rS z)) (l1 : (hm ++ [(es ++ [z], ys)]).length ≤ limL) (l2 : (es ++ [z]).length ≤ limL)
    (k : ∀ w F2, Same B F2 → AllB (rT2 (rL rS) (rL rS)) (hm ++ [(es ++ [z], ys)]) (hs ++ [w]) F2 → Nx Z D σ F2 (O.set n (ph, .lst (hs ++ [w])))) :
    Sx Z (tSeq (tDrop (tBM K "list" rAppend (tVar jh) (tCons (tTup (tCons tx (tCons ty tNil))) tNil))) (tDrop (tBM K "list" rAppend tx (tCons tz tNil)))) D σ F O := fun H at0 => by
  have hown := at0.ok.own (ph, .lst hs) (List.mem_of_getElem? hO)
  refine ⟨.ref ph, hj, Or.inl ⟨rfl, hs, Or.inl (Or.inl hown.2)⟩, ?_⟩
  refine hx F H (Same.refl _) at0.ok.ex _ ?_
  refine hy H at0.ok _ fun py yv F1 H1 g1 n1 f1 x1 r1 => ?_
  refine ⟨by show 2 ≤ sizeLine; decide, fun q hq => ?_⟩
  -- the new list, the tuple are kept
  have G1 : Gr F H (upd F1 py (.lst yv)) H1 := ⟨g1.f.trans (same_new f1), g1.h, fun a u e => by
    by_cases w : a = py
    · subst w; rw [upd_same] at e; cases e; exact x1
    · rw [upd_ne w] at e; exact g1.fh a u e, fun a h1 h4 => by
    rw [upd_ne (fun w => h4 (by rw [w]; exact n1))]
    exact g1.nw a h1 h4⟩
  have G2 := G1.trans (Gr.frz (o := HO.tup [.ref p, .ref py]) G1.fh hq)
  have at2 := at0.gr G2
  have at3 := at2.write (o' := .lst (hs ++ [.ref q])) hO
  have hp1 : H1 p = some (.lst xs) := g1.h _ _ (at0.ok.ex _ _ hp)
  have nqp : q ≠ p := fun w => by rw [w, hp1] at hq; cases hq
  have npy : py ≠ p := fun w => by rw [w, at0.ok.ex _ _ hp] at n1; cases n1
  have nqy : q ≠ py := fun w => by rw [w, x1] at hq; cases hq
  refine ⟨ph, hs, .ref q, rfl, rfl, G2.h _ _ hown.2, sz_lt hh.sz, ?_⟩
  refine hx _ _ G2.f at3.ok.ex _ ?_
  have hp3 := at3.ok.ex p _ (G2.f _ _ hp)
  refine ⟨Or.inl ⟨rfl, xs, Or.inl (Or.inl hp3)⟩, ?_⟩
  refine (Ev.mono (hz _) G2.f) _ at3.ok _ fun v F4 H4 g4 r4 => ?_
  have at4 := at3.gr g4
  refine ⟨p, xs, v, rfl, rfl, g4.h _ _ hp3, sz_lt hes.sz, ?_⟩
  have hpF4 : F4 p = some (.lst xs) := g4.f _ _ (G2.f _ _ hp)
  have zp : Z.F0 p = none := ZB.free hb
  have bp : Z.B p = none := by
    cases e : Z.B p with
    | none => rfl
    | some o =>
      have := at4.sep p zp (by rw [e]; exact fun w => by cases w)
      rw [this] at hpF4
      cases hpF4
  have B4 : Same B F4 := BF.trans (G2.f.trans g4.f)
  have B5 : Same B (upd F4 p (.lst (xs ++ [v]))) := same_mut B4 hb
  refine k (.ref q) (upd F4 p (.lst (xs ++ [v]))) B5 ⟨All2.app (hh.all.mono B5) (All2.one ?_), l1⟩ _ ⟨⟨fun a u e => ?_, fun r m => ?_⟩, same_mut at4.b bp, same_mut at4.f0 zp, fun a h1 h2 => ?_, at4.ob, at4.nd⟩
  · have q4 : F4 q = some (.tup [.ref p, .ref py]) := g4.f _ _ upd_same
    have y4 : F4 py = some (.lst yv) := g4.f _ _ (by rw [upd_ne (Ne.symm nqy)]; exact upd_same)
    refine ⟨q, .ref p, .ref py, rfl, by rw [upd_ne nqp]; exact q4, ⟨p, xs ++ [v], rfl, upd_same, All2.app (rS_any hes.all) (All2.one r4), l2⟩, ⟨py, yv, rfl, by rw [upd_ne npy]; exact y4, rS_any r1.all, r1.len⟩⟩
  · by_cases w : a = p
    · subst w; rw [upd_same] at e; cases e; exact upd_same
    · rw [upd_ne w] at e ⊢; exact at4.ok.ex a u e
  · have h1 := at4.ok.own r m
    have w : r.1 ≠ p := fun w => by rw [w, hpF4] at h1; cases h1.1
    rw [upd_ne w, upd_ne w]
    exact h1
  · rw [upd_ne (fun w => h2 (by rw [w]; exact bp))]
    exact at4.sep a h1 h2
end
end Lm
namespace Lm
open PySem PySem.Spec PyProof.Rows L2
/-! ### isinstance of a tuple of built-in classes -/
def rTy : Rep String := ⟨fun s v _ => v = .ty s, fun _ h => h⟩
def anyTy (d : PyData) : List String → Option Bool
  | [] => some false
  | u :: us => match kitB (tyD d) u with
    | some true => some true
    | some false => anyTy d us
    | none => none
theorem any_kit {K : PySem.W.Frag} {d : PyData} : ∀ {us : List String} {b : Bool}, anyTy d us = some b → PySem.W.kitAny K (.type (tyD d)) (us.map Value.type) = some b
  | [], b, h => by cases h; rfl
  | u :: us, b, h => by
    unfold anyTy at h
    cases k : kitB (tyD d) u with
    | none => rw [k] at h; cases h
    | some c =>
      rw [k] at h
      refine kitAny_cons (kit_ty k) (fun e => ?_) (fun e => ?_)
      · subst e
        exact any_kit h
      · subst e
        exact (Option.some.inj h).symm
theorem paired_ty : ∀ {us : List String} {vs : List V} {F : Hp}, All2 rTy us vs F → Paired ClsV vs (us.map Value.type)
  | [], [], _, _ => .nil
  | u :: us, v :: vs, F, h => by
    have e : v = .ty u := h.1
    subst e
    exact .cons (.ty u) (paired_ty h.2)
  | [], _ :: _, _, h => h.elim
  | _ :: _, [], _, h => h.elim
theorem b_isiT {K : PySem.W.Frag} {d : PyData} {us : List String} {b : Bool} (hb : anyTy d us = some b) : Cb (rIsiT K) [val rD d, val (rTL rTy) us] (val rB b) := cb_sc flB fun vs F H Q e a q => by
  obtain ⟨v, w, rfl, h1, p, xs, rfl, h2, h3⟩ := alla2 a
  exact ⟨v, p, xs, .type (tyD d), us.map Value.type, b, rfl, e _ _ h2, paired_ty h3.all, .base (tD e h1), any_kit hb, q⟩
theorem ev_tyR {σ : L2.St} {F : Hp} {O : Own} {T : String} : Ev (tC (.ty T)) σ F O (val rTy T) := ev_c fun _ => rfl
theorem call_isiT_k {X : Cx} {K : PySem.W.Frag} (hK : X.K = K) : CallR X (.builtin "isinstance") (rIsiT K) := hK ▸ call_isiT
end Lm
namespace Lm
open PySem PySem.Spec L2
theorem sx_two {Z : Bs} {t1 t2 u : TS} {D : Ends} {σ : L2.St} {F : Hp} {O : Own} (h : Sx Z (tSeq t1 t2) { D with nx := u D } σ F O) : Sx Z (tSeq t1 (tSeq t2 u)) D σ F O := h
end Lm
namespace Law
open PySem PySem.Spec PyProof.Rows L2 Lm
def top (i : Nat) : Stmt := PySem.Challenge.pw_lightmark_k02_sorts_of_built_rows.main.body.getD i (.Pass ⟨0, 0, 0, 0⟩)

structure Top (n : Nat) (K : PySem.W.Frag) (mg : Str → Option Value) : Prop where
  one : 1 ≤ n
  b_all : mg "all" = none
  b_bool : mg "bool" = none
  b_int : mg "int" = none
  b_isinstance : mg "isinstance" = none
  b_len : mg "len" = none
  b_list : mg "list" = none
  b_range : mg "range" = none
  b_str : mg "str" = none
  b_tuple : mg "tuple" = none
  c_BAR : ∃ t, mg "BAR" = some (.str "|" t) ∧ t ≠ 0 ∧ t < n
  c_FENCE : ∃ t, mg "FENCE" = some (.str "~~~" t) ∧ t ≠ 0 ∧ t < n
  c_LETTERS : ∃ t, mg "LETTERS" = some (.str "abcdefghijklmnopqrstuvwxyzABCDEFGHIJKLMNOPQRSTUVWXYZ0123456789" t) ∧ t ≠ 0 ∧ t < n
  c_MOST_LETTERS : ∃ t, mg "MOST_LETTERS" = some (.int 12 t)
  c_MOST_LEVEL : ∃ t, mg "MOST_LEVEL" = some (.int 3 t)
  c_SLASH : ∃ t, mg "SLASH" = some (.str "\\" t) ∧ t ≠ 0 ∧ t < n

section
variable {n : Nat} {P : Program} {w : World} {K : PySem.W.Frag} {mg : Str → Option Value} {base : Heap}
/-! is_name -/
abbrev s_is_name : Stmt := top 5
abbrev N_is_name : List Str := ["thing", "sign"]
theorem sc_is_name : FnScope N_is_name ["thing"] (defScope s_is_name) := ⟨rfl, rfl, rfl, by decide +kernel, rfl, by decide +kernel, by decide +kernel⟩
def m_is_name (x_thing : List Nat) : Option (Bool) := cnd ((!true) || (!((decide ((1 : Int) ≤ (x_thing.length : Int))) && (decide ((x_thing.length : Int) ≤ (12 : Int)))))) (some false) ((mapF (fun (a16 : Nat) => some (some (decide (a16 ∈ [97, 98, 99, 100, 101, 102, 103, 104, 105, 106, 107, 108, 109, 110, 111, 112, 113, 114, 115, 116, 117, 118, 119, 120, 121, 122, 65, 66, 67, 68, 69, 70, 71, 72, 73, 74, 75, 76, 77, 78, 79, 80, 81, 82, 83, 84, 85, 86, 87, 88, 89, 90, 48, 49, 50, 51, 52, 53, 54, 55, 56, 57])))) x_thing).bind fun y25 => some (y25.all id))
def P_is_name (As : List Ar) (C : Ar) : Prop := ∃ (x_thing : List Nat) (r : Bool), As = [val rS x_thing] ∧ m_is_name x_thing = some r ∧ C = val rB r
theorem ok_is_name (T : Top n K mg) (D : Df K mg "is_name" s_is_name)  : Cal P w K mg base 1 "is_name" ["thing"] (spG (P_is_name)) := by
  have SC := sc_is_name
  obtain ⟨t_LETTERS, g_LETTERS, z_LETTERS, l_LETTERS⟩ := T.c_LETTERS
  obtain ⟨t_MOST_LETTERS, g_MOST_LETTERS⟩ := T.c_MOST_LETTERS
  have h1n := T.one
  refine cal_of (N := N_is_name) D SC (fun _ _ _ _ _ _ us hl => match us, hl with | [_], _ => rfl) (fun vs H Q E h => ?_) (fun f cdv A outer s H vs Q E hr h => ?_)
  · obtain ⟨F0, As, C, ⟨x_thing, r, rfl, h, rfl⟩, e0, ha, k⟩ := h
    exact alla_len ha
  · obtain ⟨F0, As, C, ⟨x_thing, r, rfl, h, rfl⟩, e0, ha, k⟩ := h
    obtain ⟨v_thing, rfl, f_thing⟩ := alla1 ha
    refine ⟨_, (pss_cons (ps_if (PW.pt (pw_or (pt_not (pt_val (pe_callB call_isi (by rfl) T.b_isinstance (by decide +kernel) (pa_cons (pv 0) (pa_cons (pe_bltn (v := V.ty "str") (by rfl) T.b_str (by decide +kernel) rfl) pa_nil))))) (pw_or1 (pt_not (pt_chain op_xLe op_xLe pe_int (pe_callB call_cLen (by rfl) T.b_len PySem.boot_len (pa_cons (pv 0) pa_nil)) (pe_glob (v := V.int 12) rfl g_MOST_LETTERS ⟨_, rfl⟩)))))) (pss_one (ps_ret pe_bl)) pss_nil) (pss_one (ps_ret (pe_callB (cr_all rfl) (by rfl) T.b_all (by decide +kernel) (pa_cons (pe_lc (own := [("sign", 1)]) (g := gName 1) (tt := tYes) rfl SC.nd (pi_str (pv 0)) (blkOk_by (own := [("sign", 1)]) (N := N_is_name) (sc := defScope s_is_name) (by decide +kernel)) (fun _ _ _ _ _ => (pg_name (i := 1) SC.nd rfl (Or.inl rfl))) (fun _ _ _ _ _ => pts_nil) (fun _ _ _ _ _ => (pe_cmpR op_xIn1 (pv 1) (pe_glob (v := V.str "abcdefghijklmnopqrstuvwxyzABCDEFGHIJKLMNOPQRSTUVWXYZ0123456789") rfl g_LETTERS ⟨_, rfl⟩) rfl))) pa_nil))))), ?_⟩
    refine (show Sx ⟨F0, H⟩ _ _ [some v_thing, none] F0 [] from ?_) H (At.start e0)
    have f_thing : (rS).rp x_thing v_thing F0 := f_thing
    refine sx_seq (sx_if (et_orP (et_not (et_B (ev_cb (ea_cons (ev_v (R := rS) rfl f_thing) (ea_cons ev_ty ea_nil)) (b_isi (b := true) tS (by decide +kernel))))) (fun _ => (et_not (et_b (ev_chainP ev_i (ev_cb (ea_cons (ev_v (R := rS) rfl f_thing) ea_nil) b_lenS) o_le ev_i o_le))))) (fun z10 Fs11 s11 => ?_) (fun z10 Fs12 s12 => ?_))
    · have h := cnd_t h z10
      obtain rfl := Option.some.inj h
      refine sx_ret (R := rB) ev_b fun v13 Fs14 s14 f15 => ?_
      exact rt_val k (fun _ => f15)
    · have h := cnd_f h z10
      refine sx_next ?_
      refine nx_of ?_
      obtain ⟨y25, hy25, h⟩ := bsome h
      obtain rfl := Option.some.inj h
      refine sx_ret (R := rB) (ev_cb (ea_cons (ev_nspn (ev_lc (R' := rB) hy25 (ei_str (ev_v (R := rS) rfl (Rep.mono rS s12 f_thing))) tg_n (fun a16 σ9 F17 F18 ob ha9 e19 e20 ⟨v21, zs, f22⟩ hb23 => by
    subst zs
    obtain rfl := Option.some.inj hb23
    exact ⟨rfl, et_yes, fun b eb => by cases eb; exact (ev_op (ev_v (R := rC) rfl f22) (ev_s (l := [97, 98, 99, 100, 101, 102, 103, 104, 105, 106, 107, 108, 109, 110, 111, 112, 113, 114, 115, 116, 117, 118, 119, 120, 121, 122, 65, 66, 67, 68, 69, 70, 71, 72, 73, 74, 75, 76, 77, 78, 79, 80, 81, 82, 83, 84, 85, 86, 87, 88, 89, 90, 48, 49, 50, 51, 52, 53, 54, 55, 56, 57]) (by decide +kernel) (by decide +kernel)) o_in1)⟩))) ea_nil) b_all) fun v26 Fs27 s27 f28 => ?_
      exact rt_val k (fun _ => f28)

/-! words_of -/
abbrev s_words_of : Stmt := top 6
abbrev N_words_of : List Str := ["text", "word"]
theorem sc_words_of : FnScope N_words_of ["text"] (defScope s_words_of) := ⟨rfl, rfl, rfl, by decide +kernel, rfl, by decide +kernel, by decide +kernel⟩
def m_words_of (x_text : List Nat) : Option (List (List Nat)) := (mapF (fun (a10 : List Nat) => cnd (!decide (a10 = [])) (some (some a10)) (some none)) (splitC 32 [] x_text)).bind fun y19 => some y19
def P_words_of (As : List Ar) (r : List (List Nat)) : Prop := ∃ (x_text : List Nat), As = [val rS x_text] ∧ m_words_of x_text = some r
theorem ok_words_of (T : Top n K mg) (D : Df K mg "words_of" s_words_of)  : Cal P w K mg base 1 "words_of" ["text"] (spN rS (P_words_of)) := by
  have SC := sc_words_of
  have h1n := T.one
  refine cal_of (N := N_words_of) D SC (fun _ _ _ _ _ _ us hl => match us, hl with | [_], _ => rfl) (fun vs H Q E h => ?_) (fun f cdv A outer s H vs Q E hr h => ?_)
  · obtain ⟨F0, As, r, ⟨x_text, rfl, h⟩, e0, ha, k⟩ := h
    exact alla_len ha
  · obtain ⟨F0, As, r, ⟨x_text, rfl, h⟩, e0, ha, k⟩ := h
    obtain ⟨v_text, rfl, f_text⟩ := alla1 ha
    refine ⟨_, (pss_one (ps_ret (pe_lc (own := [("word", 1)]) (g := gName 1) (tt := _) rfl SC.nd (pi_list (pe_bm PySem.F.plainAttrs_str PySem.F.slot_str_split PySem.F.type_str_split mt_mSplit (pv 0) (pa_cons pe_str pa_nil))) (blkOk_by (own := [("word", 1)]) (N := N_words_of) (sc := defScope s_words_of) (by decide +kernel)) (fun _ _ _ _ _ => (pg_name (i := 1) SC.nd rfl (Or.inl rfl))) (fun _ _ _ _ _ => (pts_one (pt_cmpR op_ne (pv 1) pe_str (nomark _)))) (fun _ _ _ _ _ => (pv 1))))), ?_⟩
    refine (show Sx ⟨F0, H⟩ _ _ [some v_text, none] F0 [] from ?_) H (At.start e0)
    have f_text : (rS).rp x_text v_text F0 := f_text
    obtain ⟨y19, hy19, h⟩ := bsome h
    obtain rfl := Option.some.inj h
    refine sx_retN (ev_lc (R' := rS) hy19 (ei_list (ev_frz (ev_mN (ev_v (R := rS) rfl f_text) (ea_cons (ev_cs (ev_ch (c := 32) (by decide +kernel) (by decide))) ea_nil) (m_split (by decide))))) tg_n (fun a10 σ9 F11 F12 ob ha9 e13 e14 ⟨v15, zs, f16⟩ hb17 => by
    subst zs
    by_cases z18 : (!decide (a10 = [])) = true
    · have hb17 := cnd_t hb17 z18
      obtain rfl := Option.some.inj hb17
      exact ⟨rfl, et_is (et_b (ev_op (ev_v (R := rS) rfl f16) (ev_s (l := []) (by decide +kernel) (by decide +kernel)) o_neS)) z18, fun b eb => by cases eb; exact (ev_v (R := rS) rfl f16)⟩
    · have z18 := Bool.eq_false_iff.mpr z18
      have hb17 := cnd_f hb17 z18
      obtain rfl := Option.some.inj hb17
      exact ⟨rfl, et_is (et_b (ev_op (ev_v (R := rS) rfl f16) (ev_s (l := []) (by decide +kernel) (by decide +kernel)) o_neS)) z18, fun b eb => by cases eb⟩)) fun p20 xs21 Fs22 s22 f23 => ?_
    exact rt_own k (List.Mem.head _) f23

/-! tidy -/
abbrev s_tidy : Stmt := top 7
abbrev N_tidy : List Str := ["text"]
theorem sc_tidy : FnScope N_tidy ["text"] (defScope s_tidy) := ⟨rfl, rfl, rfl, by decide +kernel, rfl, by decide +kernel, by decide +kernel⟩
def m_tidy (x_text : List Nat) : Option (List Nat) := (m_words_of (x_text)).bind fun r10 => (joinO [32] r10).bind fun c11 => some c11
def P_tidy (As : List Ar) (C : Ar) : Prop := ∃ (x_text : List Nat) (r : List Nat), As = [val rS x_text] ∧ m_tidy x_text = some r ∧ C = val rS r
theorem ok_tidy (T : Top n K mg) (D : Df K mg "tidy" s_tidy) (G_words_of : Cal P w K mg base 1 "words_of" ["text"] (spN rS (P_words_of))) : Cal P w K mg base 2 "tidy" ["text"] (spG (P_tidy)) := by
  have SC := sc_tidy
  have h1n := T.one
  refine cal_of (N := N_tidy) D SC (fun _ _ _ _ _ _ us hl => match us, hl with | [_], _ => rfl) (fun vs H Q E h => ?_) (fun f cdv A outer s H vs Q E hr h => ?_)
  · obtain ⟨F0, As, C, ⟨x_text, r, rfl, h, rfl⟩, e0, ha, k⟩ := h
    exact alla_len ha
  · obtain ⟨F0, As, C, ⟨x_text, r, rfl, h, rfl⟩, e0, ha, k⟩ := h
    obtain ⟨v_text, rfl, f_text⟩ := alla1 ha
    refine ⟨_, (pss_one (ps_ret (pe_bm PySem.F.plainAttrs_str PySem.F.slot_str_join PySem.F.type_str_join mt_mJoin pe_str (pa_cons (pe_cal G_words_of (hr.mono (by decide)) rfl (pa_cons (pv 0) pa_nil)) pa_nil)))), ?_⟩
    refine (show Sx ⟨F0, H⟩ _ _ [some v_text] F0 [] from ?_) H (At.start e0)
    have f_text : (rS).rp x_text v_text F0 := f_text
    obtain ⟨r10, hr10, h⟩ := bsome h
    obtain ⟨c11, hc11, h⟩ := bsome h
    obtain rfl := Option.some.inj h
    refine sx_ret (R := rS) (ev_m (ev_cs (ev_ch (c := 32) (by decide +kernel) (by decide))) (ea_cons (ev_nspn (ev_callN (P := P_words_of) (ea_cons (ev_v (R := rS) rfl f_text) ea_nil) ⟨_, rfl, hr10⟩)) ea_nil) (m_join hc11)) fun v12 Fs13 s13 f14 => ?_
    exact rt_val k (fun _ => f14)

/-! split_cells -/
abbrev s_split_cells : Stmt := top 8
abbrev N_split_cells : List Str := ["text", "found", "ahead", "sign", "one"]
theorem sc_split_cells : FnScope N_split_cells ["text"] (defScope s_split_cells) := ⟨rfl, rfl, rfl, by decide +kernel, rfl, by decide +kernel, by decide +kernel⟩
def m_split_cells (x_text : List Nat) : Option (List (List Nat)) := lt ([[]] : List (List Nat)) fun x10 => lt [] fun x15 => fwd (loop (ρ := Unit) (fun (s52 : (List (List Nat)) × (List Nat)) (a53 : Nat) => (cnd ((decide (a53 = 124)) && (!decide (s52.2 = [92]))) ((appO s52.1 []).bind fun y82 => some y82) ((ixO s52.1 (-(1 : Int))).bind fun c88 => (catS c88 [a53]).bind fun c89 => (setO s52.1 (-(1 : Int)) c89).bind fun y90 => some y90)).bind fun (j67 : (List (List Nat))) => lt [a53] fun x75 => some (Fw.nx (j67, x75))) x_text (x10, x15)) (fun (s24 : (List (List Nat)) × (List Nat)) => (mapF (fun (a36 : List Nat) => (m_tidy (a36)).bind fun r44 => (rplO [92, 124] [124] r44).bind fun c45 => some (some c45)) s24.1).bind fun y47 => some y47) (fun (r : Unit) => none)
def P_split_cells (As : List Ar) (r : List (List Nat)) : Prop := ∃ (x_text : List Nat), As = [val rS x_text] ∧ m_split_cells x_text = some r
theorem ok_split_cells (T : Top n K mg) (D : Df K mg "split_cells" s_split_cells) (G_tidy : Cal P w K mg base 2 "tidy" ["text"] (spG (P_tidy))) : CalN n P w K mg base 3 "split_cells" ["text"] (spN rS (P_split_cells)) := by
  have SC := sc_split_cells
  obtain ⟨t_BAR, g_BAR, z_BAR, l_BAR⟩ := T.c_BAR
  obtain ⟨t_SLASH, g_SLASH, z_SLASH, l_SLASH⟩ := T.c_SLASH
  have h1n := T.one
  refine calN_of (N := N_split_cells) D SC (fun _ _ _ _ _ _ us hl => match us, hl with | [_], _ => rfl) (fun vs H Q E h => ?_) (fun f cdv A outer s H vs Q E hr h => ?_)
  · obtain ⟨F0, As, r, ⟨x_text, rfl, h⟩, e0, ha, k⟩ := h
    exact alla_len ha
  · obtain ⟨F0, As, r, ⟨x_text, rfl, h⟩, e0, ha, k⟩ := h
    obtain ⟨v_text, rfl, f_text⟩ := alla1 ha
    refine ⟨_, (psn_cons (tkS (ps_set (i := 1) SC.nd rfl (Or.inl rfl) (pe_lst (pa_cons pe_str pa_nil)))) (psn_cons (tkS (ps_set (i := 2) SC.nd rfl (Or.inl rfl) pe_str)) (psn_cons (tkS (ps_for PassesOwn.never rfl (pi_str (pv 0)) (pg_name (i := 3) SC.nd rfl (Or.inl rfl)) (pss_cons (ps_if (PW.pt (pw_and (pt_cmpR op_eq (pv 3) (pe_glob (v := V.str "|") rfl g_BAR ⟨_, rfl⟩) (nomark _)) (pw_and1 (pt_cmpR op_ne (pv 2) (pe_glob (v := V.str "\\") rfl g_SLASH ⟨_, rfl⟩) (nomark _))))) (pss_one (ps_expr (pe_bm PySem.F.plainAttrs_list PySem.F.slot_list_append PySem.F.type_list_append mt_append (pv 1) (pa_cons pe_str pa_nil)))) (pss_one (ps_asg (pe_op op_xCatS (pe_ix ix_list (pv 1) (pe_un un_uNeg pe_int) (fun _ _ => rfl)) (pv 3)) (pg_sub (pv 1) (pe_un un_uNeg pe_int) set_list)))) (pss_one (ps_set (i := 2) SC.nd rfl (Or.inl rfl) (pv 3)))))) (psn_one (psn_ret (pen_lc (own := [("one", 4)]) (g := gName 4) (tt := tYes) rfl SC.nd (tkI (pi_list (pv 1))) (blkOk_by (own := [("one", 4)]) (N := N_split_cells) (sc := defScope s_split_cells) (by decide +kernel)) (fun _ _ _ _ _ => (pg_name (i := 4) SC.nd rfl (Or.inl rfl))) (fun _ _ _ _ _ => pts_nil) (fun _ _ _ _ _ => (pen_rep1 (tkE (pe_cal G_tidy (hr.mono (by decide)) rfl (pa_cons (pv 4) pa_nil))) rfl rfl rfl g_SLASH g_BAR g_BAR rfl rfl z_BAR l_BAR (by decide +kernel) (by decide +kernel))))))))), ?_⟩
    refine (show Sx ⟨F0, H⟩ _ _ [some v_text, none, none, none, none] F0 [] from ?_) H (At.start e0)
    have f_text : (rS).rp x_text v_text F0 := f_text
    obtain ⟨x10, hx10, h⟩ := lt_e h
    refine sx_seq (sx_asgN (ev_isN (ev_lst (R := rS) (as := [[]]) (ea_cons (ev_s (l := []) (by decide +kernel) (by decide +kernel)) ea_nil) (show (1 : Nat) ≤ limL by decide)) hx10) fun p13 xs14 Fs11 s11 f12 => nx_of ?_)
    obtain ⟨x15, hx15, h⟩ := lt_e h
    refine sx_seq (sx_asg (R := rS) (ev_is (ev_s (l := []) (by decide +kernel) (by decide +kernel)) hx15) fun v18 Fs16 s16 f17 => nx_of ?_)
    obtain ⟨w19, hl20, hk21, hr22⟩ := fwd_o h
    refine sx_seq (sx_for (J := fun (s : (List (List Nat)) × (List Nat)) σ F O => ∃ (x_found : List V) (v_ahead : V) (w_sign : Option V) (w_one : Option V), σ = [some v_text, some (.ref p13), some v_ahead, w_sign, w_one] ∧ O = [(p13, .lst x_found)] ∧ AllB rS s.1 x_found F ∧ (rS).rp s.2 v_ahead F ∧ True) (Ro := (fun (r : Unit) (v : V) (F : Hp) (O : Own) => False)) hl20 (ei_str (ev_v (R := rS) rfl (Rep.mono rS (s11.trans s16) f_text))) tg_n (fun Fe23 e23 => ⟨xs14, v18, _, _, rfl, rfl, (AllB.mono (s16.trans e23) f12), (Rep.mono rS e23 f17), trivial⟩) ?_ ?_)
    · refine ⟨fun s24 es25 σ9 Fe26 O9 e26 ⟨xs27, v28, w29, w30, hs31, ho32, f33, f34, _⟩ => ?_, fun r9 er9 v9 F9 O9 e9 hr9 => ?_⟩
      · subst hs31 ho32
        have h := hk21 s24 es25
        refine nx_of ?_
        refine sx_frzI (n := 0) rfl fun n35 => ?_
        obtain ⟨y47, hy47, h⟩ := bsome h
        obtain rfl := Option.some.inj h
        refine sx_retN (ev_lc (R' := rS) hy47 (ei_list (ev_v (R := (rL rS)) rfl (rp_frz n35 f33))) tg_n (fun a36 σ9 F37 F38 ob ha9 e39 e40 ⟨v41, zs, f42⟩ hb43 => by
    subst zs
    obtain ⟨r44, hr44, hb43⟩ := bsome hb43
    obtain ⟨c45, hc45, hb43⟩ := bsome hb43
    obtain rfl := Option.some.inj hb43
    exact ⟨rfl, et_yes, fun b eb => by cases eb; exact (ev_rep (y := [92, 124]) (z := [124]) (y' := ("\\" ++ "|" : Str)) (z' := "|") (by decide +kernel) (by decide +kernel) (by decide) (by decide +kernel) hc45 (ev_call (P := P_tidy) (ea_cons (ev_v (R := rS) rfl f42) ea_nil) ⟨_, _, rfl, hr44, rfl⟩))⟩)) fun p48 xs49 Fs50 s50 f51 => ?_
        exact rt_own k (List.Mem.head _) f51
      · exact hr9.elim
    · rintro s52 a53 σ9 σ8 Fe54 Fe55 O9 o9 D9 ha9 e54 e55 ⟨xs57, v58, w59, w60, hs61, ho62, f63, f64, _⟩ ⟨v65, zs, f66⟩ h acc56
      subst hs61 ho62
      subst zs
      obtain ⟨j67, hj69, h⟩ := bsome h
      refine sx_join (fun (s : (List (List Nat))) σ F O => ∃ (x_found : List V), σ = [some v_text, some (.ref p13), some v58, some v65, w60] ∧ O = [(p13, .lst x_found)] ∧ AllB rS s x_found F ∧ True) j67 (fun σ9 Fs70 O9 s70 ⟨xs71, hs72, ho73, f74, _⟩ => ?_) (fun hJ68 => ?_)
      · subst hs72 ho73
        obtain ⟨x75, hx75, h⟩ := lt_e h
        refine sx_asg (R := rS) (ev_is (ev_cs (ev_v (R := rC) rfl (Rep.mono rC s70 f66))) hx75) fun v78 Fs76 s76 f77 => ?_
        obtain rfl := Option.some.inj h
        exact (acc56.nx _ rfl _ _ _ (s70.trans s76) ⟨xs71, v78, _, _, rfl, rfl, (AllB.mono s76 f74), f77, trivial⟩).1
      · refine sx_if (et_andP (et_b (ev_op (ev_v (R := rC) rfl f66) (ev_ch (c := 124) (by decide +kernel) (by decide)) o_eqC)) (fun _ => (et_b (ev_op (ev_v (R := rS) rfl (Rep.mono rS e55 f64)) (ev_cs (ev_ch (c := 92) (by decide +kernel) (by decide))) o_neS)))) (fun z79 Fs80 s80 => ?_) (fun z79 Fs81 s81 => ?_)
        · have hj69 := cnd_t hj69 z79
          obtain ⟨y82, hy82, hj69⟩ := bsome hj69
          obtain ⟨hz83, he84⟩ := iteo hy82
          refine sx_app (n := 0) rfl rfl (AllB.mono (e55.trans s80) f63) (ev_s (l := []) (by decide +kernel) (by decide +kernel)) hz83 fun v85 Fs86 s86 f87 => ?_
          obtain rfl := Option.some.inj hj69
          exact hJ68 _ _ _ (s80.trans s86) ⟨(xs57 ++ [v85]), rfl, rfl, (he84 ▸ f87), trivial⟩
        · have hj69 := cnd_f hj69 z79
          obtain ⟨c88, hc88, hj69⟩ := bsome hj69
          obtain ⟨c89, hc89, hj69⟩ := bsome hj69
          obtain ⟨y90, hy90, hj69⟩ := bsome hj69
          obtain ⟨m91, hm93, he92⟩ := setO_e hy90
          refine sx_setL (n := 0) rfl rfl (AllB.mono (e55.trans s81) f63) (ev_op (ev_op (ev_o (R := rS) rfl (List.Mem.head _) (AllB.mono (e55.trans s81) f63)) (ev_neg ev_i) (o_ixL hc88)) (ev_cs (ev_v (R := rC) rfl (Rep.mono rC s81 f66))) (o_catS hc89)) (ev_neg ev_i) hm93 fun v94 Fs95 s95 f96 => ?_
          obtain rfl := Option.some.inj hj69
          exact hJ68 _ _ _ (s81.trans s95) ⟨(List.set xs57 m91 v94), rfl, rfl, (he92 ▸ f96), trivial⟩

/-! heading_sort -/
abbrev s_heading_sort : Stmt := top 12
abbrev N_heading_sort : List Str := ["bare", "level"]
theorem sc_heading_sort : FnScope N_heading_sort ["bare"] (defScope s_heading_sort) := ⟨rfl, rfl, rfl, by decide +kernel, rfl, by decide +kernel, by decide +kernel⟩
def m_heading_sort (x_bare : List Nat) : Option (PyData) := lt ((x_bare.length : Int) - ((lstripS x_bare [61]).length : Int)) fun x10 => cnd (((decide ((1 : Int) ≤ x10)) && (decide (x10 ≤ (3 : Int)))) && (decide ((cutL x_bare (some x10) (some (x10 + (1 : Int)))) = [32]))) ((m_tidy ((cutL x_bare (some x10) none))).bind fun r17 => some (PyData.tuple [(encS [104, 101, 97, 100, 105, 110, 103]), (PyData.int x10), (encS r17)])) (some ((fun (_ : Unit) => PyData.none) ()))
def P_heading_sort (As : List Ar) (r : PyData) : Prop := ∃ (x_bare : List Nat), As = [val rS x_bare] ∧ m_heading_sort x_bare = some r
theorem ok_heading_sort (T : Top n K mg) (D : Df K mg "heading_sort" s_heading_sort) (G_tidy : Cal P w K mg base 2 "tidy" ["text"] (spG (P_tidy))) : Cal P w K mg base 3 "heading_sort" ["bare"] (spF (P_heading_sort)) := by
  have SC := sc_heading_sort
  obtain ⟨t_MOST_LEVEL, g_MOST_LEVEL⟩ := T.c_MOST_LEVEL
  have h1n := T.one
  refine cal_of (N := N_heading_sort) D SC (fun _ _ _ _ _ _ us hl => match us, hl with | [_], _ => rfl) (fun vs H Q E h => ?_) (fun f cdv A outer s H vs Q E hr h => ?_)
  · obtain ⟨F0, As, r, ⟨x_bare, rfl, h⟩, e0, ha, k⟩ := h
    exact alla_len ha
  · obtain ⟨F0, As, r, ⟨x_bare, rfl, h⟩, e0, ha, k⟩ := h
    obtain ⟨v_bare, rfl, f_bare⟩ := alla1 ha
    refine ⟨_, (pss_cons (ps_set (i := 1) SC.nd rfl (Or.inl rfl) (pe_op op_xSub (pe_callB call_cLen (by rfl) T.b_len PySem.boot_len (pa_cons (pv 0) pa_nil)) (pe_callB call_cLen (by rfl) T.b_len PySem.boot_len (pa_cons (pe_bm PySem.F.plainAttrs_str PySem.F.slot_str_lstrip PySem.F.type_str_lstrip mt_mLstrip (pv 0) (pa_cons pe_str pa_nil)) pa_nil)))) (pss_cons (ps_if (PW.pt (pw_and (pt_chain op_xLe op_xLe pe_int (pv 1) (pe_glob (v := V.int 3) rfl g_MOST_LEVEL ⟨_, rfl⟩)) (pw_and1 (pt_cmpR op_eq (pe_slice sl_str (pv 0) (po_some (pv 1)) (po_some (pe_op op_xAdd (pv 1) pe_int))) pe_str (nomark _))))) (pss_one (ps_ret (pe_tup (pa_cons pe_str (pa_cons (pv 1) (pa_cons (pe_cal G_tidy (hr.mono (by decide)) rfl (pa_cons (pe_slice sl_str (pv 0) (po_some (pv 1)) po_none) pa_nil)) pa_nil)))))) pss_nil) (pss_one (ps_ret pe_non)))), ?_⟩
    refine (show Sx ⟨F0, H⟩ _ _ [some v_bare, none] F0 [] from ?_) H (At.start e0)
    have f_bare : (rS).rp x_bare v_bare F0 := f_bare
    obtain ⟨x10, hx10, h⟩ := lt_e h
    refine sx_seq (sx_asg (R := rInt) (ev_is (ev_op (ev_cb (ea_cons (ev_v (R := rS) rfl f_bare) ea_nil) b_lenS) (ev_cb (ea_cons (ev_m (ev_v (R := rS) rfl f_bare) (ea_cons (ev_s (l := [61]) (by decide +kernel) (by decide +kernel)) ea_nil) m_lstrip) ea_nil) b_lenS) o_sub) hx10) fun v13 Fs11 s11 f12 => nx_of ?_)
    refine sx_seq (sx_if (et_andP (et_b (ev_chainP ev_i (ev_v (R := rInt) rfl f12) o_le ev_i o_le)) (fun _ => (et_b (ev_op (ev_slS (ev_v (R := rS) rfl (Rep.mono rS s11 f_bare)) (ep_some (ev_v (R := rInt) rfl f12)) (ep_some (ev_op (ev_v (R := rInt) rfl f12) ev_i o_add))) (ev_cs (ev_ch (c := 32) (by decide +kernel) (by decide))) o_eqS)))) (fun z14 Fs15 s15 => ?_) (fun z14 Fs16 s16 => ?_))
    · have h := cnd_t h z14
      obtain ⟨r17, hr17, h⟩ := bsome h
      obtain rfl := Option.some.inj h
      refine sx_ret (R := (rDf F0)) (evF_tup (B := F0) (ds := [(encS [104, 101, 97, 100, 105, 110, 103]), (PyData.int x10), (encS r17)]) (ea_cons (evF_s (B := F0) (d := (encS [104, 101, 97, 100, 105, 110, 103])) (by rfl) (ev_d (a := [104, 101, 97, 100, 105, 110, 103]) eS (ev_s (l := [104, 101, 97, 100, 105, 110, 103]) (by decide +kernel) (by decide +kernel)))) (ea_cons (evF_s (B := F0) (d := (PyData.int x10)) (by rfl) (ev_d (a := x10) eI (ev_v (R := rInt) rfl (Rep.mono rInt s15 f12)))) (ea_cons (evF_s (B := F0) (d := (encS r17)) (by rfl) (ev_d (a := r17) eS (ev_call (P := P_tidy) (ea_cons (ev_slS (ev_v (R := rS) rfl (Rep.mono rS (s11.trans s15) f_bare)) (ep_some (ev_v (R := rInt) rfl (Rep.mono rInt s15 f12))) ep_none) ea_nil) ⟨_, _, rfl, hr17, rfl⟩))) ea_nil))) (show (3 : Nat) ≤ limL by decide)) fun v18 Fs19 s19 f20 => ?_
      exact rt_val k (fun _ => f20)
    · have h := cnd_f h z14
      refine sx_next ?_
      refine nx_of ?_
      obtain rfl := Option.some.inj h
      refine sx_ret (R := (rDf F0)) (evF_s (B := F0) (d := ((fun (_ : Unit) => PyData.none) ())) (by rfl) (ev_d (a := ()) eN ev_n)) fun v21 Fs22 s22 f23 => ?_
      exact rt_val k (fun _ => f23)

/-! cells_sort -/
abbrev s_cells_sort : Stmt := top 13
abbrev N_cells_sort : List Str := ["bare"]
theorem sc_cells_sort : FnScope N_cells_sort ["bare"] (defScope s_cells_sort) := ⟨rfl, rfl, rfl, by decide +kernel, rfl, by decide +kernel, by decide +kernel⟩
def m_cells_sort (x_bare : List Nat) : Option (PyData) := (cnd (decide ((x_bare.length : Int) < (2 : Int))) (some true) ((cnd (!(startsS x_bare [124])) (some true) ((cnd (!(endsS x_bare [124])) (some true) ((ixO x_bare (-(2 : Int))).bind fun c10 => some (decide (c10 = 92)))).bind fun c11 => some c11)).bind fun c12 => some c12)).bind fun c13 => cnd c13 (some ((fun (_ : Unit) => PyData.none) ())) ((m_split_cells ((cutL x_bare (some (1 : Int)) (some (-(1 : Int)))))).bind fun r20 => some (PyData.tuple [(encS [99, 101, 108, 108, 115]), (PyData.list (List.map encS r20))]))
def P_cells_sort (As : List Ar) (r : PyData) : Prop := ∃ (x_bare : List Nat), As = [val rS x_bare] ∧ m_cells_sort x_bare = some r
theorem ok_cells_sort (T : Top n K mg) (D : Df K mg "cells_sort" s_cells_sort) (G_split_cells : CalN n P w K mg base 3 "split_cells" ["text"] (spN rS (P_split_cells))) : CalN n P w K mg base 4 "cells_sort" ["bare"] (spF (P_cells_sort)) := by
  have SC := sc_cells_sort
  obtain ⟨t_BAR, g_BAR, z_BAR, l_BAR⟩ := T.c_BAR
  obtain ⟨t_SLASH, g_SLASH, z_SLASH, l_SLASH⟩ := T.c_SLASH
  have h1n := T.one
  refine calN_of (N := N_cells_sort) D SC (fun _ _ _ _ _ _ us hl => match us, hl with | [_], _ => rfl) (fun vs H Q E h => ?_) (fun f cdv A outer s H vs Q E hr h => ?_)
  · obtain ⟨F0, As, r, ⟨x_bare, rfl, h⟩, e0, ha, k⟩ := h
    exact alla_len ha
  · obtain ⟨F0, As, r, ⟨x_bare, rfl, h⟩, e0, ha, k⟩ := h
    obtain ⟨v_bare, rfl, f_bare⟩ := alla1 ha
    refine ⟨_, (psn_cons (tkS (ps_if (PW.pt (pw_or (pt_cmpR op_xLt (pe_callB call_cLen (by rfl) T.b_len PySem.boot_len (pa_cons (pv 0) pa_nil)) pe_int (nomark _)) (pw_or (pt_not (pt_val (pe_bm PySem.F.plainAttrs_str PySem.F.slot_str_startswith PySem.F.type_str_startswith mt_mStarts (pv 0) (pa_cons (pe_glob (v := V.str "|") rfl g_BAR ⟨_, rfl⟩) pa_nil)))) (pw_or (pt_not (pt_val (pe_bm PySem.F.plainAttrs_str PySem.F.slot_str_endswith PySem.F.type_str_endswith mt_mEnds (pv 0) (pa_cons (pe_glob (v := V.str "|") rfl g_BAR ⟨_, rfl⟩) pa_nil)))) (pw_or1 (pt_cmpR op_eq (pe_ix ix_str (pv 0) (pe_un un_uNeg pe_int) (fun _ _ => rfl)) (pe_glob (v := V.str "\\") rfl g_SLASH ⟨_, rfl⟩) (nomark _))))))) (pss_one (ps_ret pe_non)) pss_nil)) (psn_one (psn_ret (pen_tup (pan_cons (tkE pe_str) (pan_cons (pen_cal G_split_cells (hr.mono (by decide)) rfl (tkA (pa_cons (pe_slice sl_str (pv 0) (po_some pe_int) (po_some (pe_un un_uNeg pe_int))) pa_nil))) (tkA pa_nil))))))), ?_⟩
    refine (show Sx ⟨F0, H⟩ _ _ [some v_bare] F0 [] from ?_) H (At.start e0)
    have f_bare : (rS).rp x_bare v_bare F0 := f_bare
    obtain ⟨c13, hc13, h⟩ := bsome h
    refine sx_seq (sx_if (et_or (b := c13) (et_b (ev_op (ev_cb (ea_cons (ev_v (R := rS) rfl f_bare) ea_nil) b_lenS) ev_i o_lt)) (fun z => by
    have h' := cnd_f hc13 z
    obtain ⟨c12, hc12, h'⟩ := bsome h'
    exact et_is (et_or (b := c12) (et_not (et_B (ev_m (ev_v (R := rS) rfl f_bare) (ea_cons (ev_s (l := [124]) (by decide +kernel) (by decide +kernel)) ea_nil) m_starts))) (fun z => by
      have h'' := cnd_f hc12 z
      obtain ⟨c11, hc11, h''⟩ := bsome h''
      exact et_is (et_or (b := c11) (et_not (et_B (ev_m (ev_v (R := rS) rfl f_bare) (ea_cons (ev_s (l := [124]) (by decide +kernel) (by decide +kernel)) ea_nil) m_ends))) (fun z => by
        have h''' := cnd_f hc11 z
        obtain ⟨c10, hc10, h'''⟩ := bsome h'''
        exact et_is (et_b (ev_op (ev_op (ev_v (R := rS) rfl f_bare) (ev_neg ev_i) (o_ixS hc10)) (ev_ch (c := 92) (by decide +kernel) (by decide)) o_eqC)) (Option.some.inj h''')) (fun z => (Option.some.inj (cnd_t hc11 z)).symm)) (Option.some.inj h'')) (fun z => (Option.some.inj (cnd_t hc12 z)).symm)) (Option.some.inj h')) (fun z => (Option.some.inj (cnd_t hc13 z)).symm)) (fun z14 Fs15 s15 => ?_) (fun z14 Fs16 s16 => ?_))
    · have h := cnd_t h z14
      obtain rfl := Option.some.inj h
      refine sx_ret (R := (rDf F0)) (evF_s (B := F0) (d := ((fun (_ : Unit) => PyData.none) ())) (by rfl) (ev_d (a := ()) eN ev_n)) fun v17 Fs18 s18 f19 => ?_
      exact rt_val k (fun _ => f19)
    · have h := cnd_f h z14
      refine sx_next ?_
      refine nx_of ?_
      obtain ⟨r20, hr20, h⟩ := bsome h
      obtain rfl := Option.some.inj h
      refine sx_ret (R := (rDf F0)) (evF_tup (B := F0) (ds := [(encS [99, 101, 108, 108, 115]), (PyData.list (List.map encS r20))]) (ea_cons (evF_s (B := F0) (d := (encS [99, 101, 108, 108, 115])) (by rfl) (ev_d (a := [99, 101, 108, 108, 115]) eS (ev_s (l := [99, 101, 108, 108, 115]) (by decide +kernel) (by decide +kernel)))) (ea_cons (evF_new (B := F0) s16 (ev_callN (P := P_split_cells) (ea_cons (ev_slS (ev_v (R := rS) rfl (Rep.mono rS s16 f_bare)) (ep_some ev_i) (ep_some (ev_neg ev_i))) ea_nil) ⟨_, rfl, hr20⟩)) ea_nil)) (show (2 : Nat) ≤ limL by decide)) fun v21 Fs22 s22 f23 => ?_
      exact rt_val k (fun _ => f23)

/-! named_sort -/
abbrev s_named_sort : Stmt := top 14
abbrev N_named_sort : List Str := ["bare", "ahead", "mark", "behind", "words"]
theorem sc_named_sort : FnScope N_named_sort ["bare"] (defScope s_named_sort) := ⟨rfl, rfl, rfl, by decide +kernel, rfl, by decide +kernel, by decide +kernel⟩
def m_named_sort (x_bare : List Nat) : Option (PyData) := lt (partS x_bare [93, 58, 32]) fun x10 => cnd ((decide (x10.2.1 = [])) || (!(startsS x10.1 [91]))) (some ((fun (_ : Unit) => PyData.none) ())) ((cnd (startsS x10.1 [91, 94]) ((m_is_name ((cutL x10.1 (some (2 : Int)) none))).bind fun r24 => some r24) (some false)).bind fun c25 => cnd c25 ((m_tidy (x10.2.2)).bind fun r29 => some (PyData.tuple [(encS [110, 111, 116, 101]), (encS (lowerS (cutL x10.1 (some (2 : Int)) none))), (encS r29)])) ((m_words_of (x10.2.2)).bind fun r33 => lt r33 fun x34 => (m_is_name ((cutL x10.1 (some (1 : Int)) none))).bind fun r38 => cnd (r38 && (decide ((x34.length : Int) = (1 : Int)))) ((ixO x34 (0 : Int)).bind fun c42 => some (PyData.tuple [(encS [110, 97, 109, 101]), (encS (lowerS (cutL x10.1 (some (1 : Int)) none))), (encS c42)])) (some ((fun (_ : Unit) => PyData.none) ()))))
def P_named_sort (As : List Ar) (r : PyData) : Prop := ∃ (x_bare : List Nat), As = [val rS x_bare] ∧ m_named_sort x_bare = some r
theorem ok_named_sort (T : Top n K mg) (D : Df K mg "named_sort" s_named_sort) (G_is_name : Cal P w K mg base 1 "is_name" ["thing"] (spG (P_is_name))) (G_tidy : Cal P w K mg base 2 "tidy" ["text"] (spG (P_tidy))) (G_words_of : Cal P w K mg base 1 "words_of" ["text"] (spN rS (P_words_of))) : Cal P w K mg base 3 "named_sort" ["bare"] (spF (P_named_sort)) := by
  have SC := sc_named_sort
  have h1n := T.one
  refine cal_of (N := N_named_sort) D SC (fun _ _ _ _ _ _ us hl => match us, hl with | [_], _ => rfl) (fun vs H Q E h => ?_) (fun f cdv A outer s H vs Q E hr h => ?_)
  · obtain ⟨F0, As, r, ⟨x_bare, rfl, h⟩, e0, ha, k⟩ := h
    exact alla_len ha
  · obtain ⟨F0, As, r, ⟨x_bare, rfl, h⟩, e0, ha, k⟩ := h
    obtain ⟨v_bare, rfl, f_bare⟩ := alla1 ha
    refine ⟨_, (pss_cons (ps_asg (pe_bm PySem.F.plainAttrs_str PySem.F.slot_str_partition PySem.F.type_str_partition mt_mPart (pv 0) (pa_cons pe_str pa_nil)) (pg_tup rfl (pgs_cons (pg_name (i := 1) SC.nd rfl (Or.inl rfl)) (pgs_cons (pg_name (i := 2) SC.nd rfl (Or.inl rfl)) (pgs_cons (pg_name (i := 3) SC.nd rfl (Or.inl rfl)) pgs_nil))))) (pss_cons (ps_if (PW.pt (pw_or (pt_cmpR op_eq (pv 2) pe_str (nomark _)) (pw_or1 (pt_not (pt_val (pe_bm PySem.F.plainAttrs_str PySem.F.slot_str_startswith PySem.F.type_str_startswith mt_mStarts (pv 1) (pa_cons pe_str pa_nil))))))) (pss_one (ps_ret pe_non)) pss_nil) (pss_cons (ps_if (PW.pt (pw_and (pt_val (pe_bm PySem.F.plainAttrs_str PySem.F.slot_str_startswith PySem.F.type_str_startswith mt_mStarts (pv 1) (pa_cons pe_str pa_nil))) (pw_and1 (pt_val (pe_cal G_is_name (hr.mono (by decide)) rfl (pa_cons (pe_slice sl_str (pv 1) (po_some pe_int) po_none) pa_nil)))))) (pss_one (ps_ret (pe_tup (pa_cons pe_str (pa_cons (pe_bm0 PySem.F.plainAttrs_str PySem.F.slot_str_lower PySem.F.type_str_lower mt_mLower (pe_slice sl_str (pv 1) (po_some pe_int) po_none)) (pa_cons (pe_cal G_tidy (hr.mono (by decide)) rfl (pa_cons (pv 3) pa_nil)) pa_nil)))))) pss_nil) (pss_cons (ps_set (i := 4) SC.nd rfl (Or.inl rfl) (pe_cal G_words_of (hr.mono (by decide)) rfl (pa_cons (pv 3) pa_nil))) (pss_cons (ps_if (PW.pt (pw_and (pt_val (pe_cal G_is_name (hr.mono (by decide)) rfl (pa_cons (pe_slice sl_str (pv 1) (po_some pe_int) po_none) pa_nil))) (pw_and1 (pt_cmpR op_eq (pe_callB call_cLen (by rfl) T.b_len PySem.boot_len (pa_cons (pv 4) pa_nil)) pe_int (nomark _))))) (pss_one (ps_ret (pe_tup (pa_cons pe_str (pa_cons (pe_bm0 PySem.F.plainAttrs_str PySem.F.slot_str_lower PySem.F.type_str_lower mt_mLower (pe_slice sl_str (pv 1) (po_some pe_int) po_none)) (pa_cons (pe_ix ix_list (pv 4) pe_int (fun _ _ => rfl)) pa_nil)))))) pss_nil) (pss_one (ps_ret pe_non))))))), ?_⟩
    refine (show Sx ⟨F0, H⟩ _ _ [some v_bare, none, none, none, none] F0 [] from ?_) H (At.start e0)
    have f_bare : (rS).rp x_bare v_bare F0 := f_bare
    obtain ⟨x10, hx10, h⟩ := lt_e h
    refine sx_seq (sx_asg3 (ev_is (ev_m (ev_v (R := rS) rfl f_bare) (ea_cons (ev_s (l := [93, 58, 32]) (by decide +kernel) (by decide +kernel)) ea_nil) (m_part (by decide))) hx10) fun v12 v14 v16 Fs11 s11 f13 f15 f17 => nx_of ?_)
    refine sx_seq (sx_if (et_orP (et_b (ev_op (ev_v (R := rS) rfl f15) (ev_s (l := []) (by decide +kernel) (by decide +kernel)) o_eqS)) (fun _ => (et_not (et_B (ev_m (ev_v (R := rS) rfl f13) (ea_cons (ev_s (l := [91]) (by decide +kernel) (by decide +kernel)) ea_nil) m_starts))))) (fun z18 Fs19 s19 => ?_) (fun z18 Fs20 s20 => ?_))
    · have h := cnd_t h z18
      obtain rfl := Option.some.inj h
      refine sx_ret (R := (rDf F0)) (evF_s (B := F0) (d := ((fun (_ : Unit) => PyData.none) ())) (by rfl) (ev_d (a := ()) eN ev_n)) fun v21 Fs22 s22 f23 => ?_
      exact rt_val k (fun _ => f23)
    · have h := cnd_f h z18
      refine sx_next ?_
      refine nx_of ?_
      obtain ⟨c25, hc25, h⟩ := bsome h
      refine sx_seq (sx_if (et_and (b := c25) (et_B (ev_m (ev_v (R := rS) rfl (Rep.mono rS s20 f13)) (ea_cons (ev_s (l := [91, 94]) (by decide +kernel) (by decide +kernel)) ea_nil) m_starts)) (fun z => by
    have h' := cnd_t hc25 z
    obtain ⟨r24, hr24, h'⟩ := bsome h'
    exact et_is (et_B (ev_call (P := P_is_name) (ea_cons (ev_slS (ev_v (R := rS) rfl (Rep.mono rS s20 f13)) (ep_some ev_i) ep_none) ea_nil) ⟨_, _, rfl, hr24, rfl⟩)) (Option.some.inj h')) (fun z => (Option.some.inj (cnd_f hc25 z)).symm)) (fun z26 Fs27 s27 => ?_) (fun z26 Fs28 s28 => ?_))
      · have h := cnd_t h z26
        obtain ⟨r29, hr29, h⟩ := bsome h
        obtain rfl := Option.some.inj h
        refine sx_ret (R := (rDf F0)) (evF_tup (B := F0) (ds := [(encS [110, 111, 116, 101]), (encS (lowerS (cutL x10.1 (some (2 : Int)) none))), (encS r29)]) (ea_cons (evF_s (B := F0) (d := (encS [110, 111, 116, 101])) (by rfl) (ev_d (a := [110, 111, 116, 101]) eS (ev_s (l := [110, 111, 116, 101]) (by decide +kernel) (by decide +kernel)))) (ea_cons (evF_s (B := F0) (d := (encS (lowerS (cutL x10.1 (some (2 : Int)) none)))) (by rfl) (ev_d (a := (lowerS (cutL x10.1 (some (2 : Int)) none))) eS (ev_m0 (ev_slS (ev_v (R := rS) rfl (Rep.mono rS (s20.trans s27) f13)) (ep_some ev_i) ep_none) m_lower))) (ea_cons (evF_s (B := F0) (d := (encS r29)) (by rfl) (ev_d (a := r29) eS (ev_call (P := P_tidy) (ea_cons (ev_v (R := rS) rfl (Rep.mono rS (s20.trans s27) f17)) ea_nil) ⟨_, _, rfl, hr29, rfl⟩))) ea_nil))) (show (3 : Nat) ≤ limL by decide)) fun v30 Fs31 s31 f32 => ?_
        exact rt_val k (fun _ => f32)
      · have h := cnd_f h z26
        refine sx_next ?_
        refine nx_of ?_
        obtain ⟨r33, hr33, h⟩ := bsome h
        obtain ⟨x34, hx34, h⟩ := lt_e h
        refine sx_seq (sx_asg (R := (rL rS)) (ev_is (ev_frz (ev_callN (P := P_words_of) (ea_cons (ev_v (R := rS) rfl (Rep.mono rS (s20.trans s28) f17)) ea_nil) ⟨_, rfl, hr33⟩)) hx34) fun v37 Fs35 s35 f36 => nx_of ?_)
        obtain ⟨r38, hr38, h⟩ := bsome h
        refine sx_seq (sx_if (et_andP (et_B (ev_call (P := P_is_name) (ea_cons (ev_slS (ev_v (R := rS) rfl (Rep.mono rS ((s20.trans s28).trans s35) f13)) (ep_some ev_i) ep_none) ea_nil) ⟨_, _, rfl, hr38, rfl⟩)) (fun _ => (et_b (ev_op (ev_cb (ea_cons (ev_spn (ev_v (R := (rL rS)) rfl f36)) ea_nil) b_lenL) ev_i o_eqI)))) (fun z39 Fs40 s40 => ?_) (fun z39 Fs41 s41 => ?_))
        · have h := cnd_t h z39
          obtain ⟨c42, hc42, h⟩ := bsome h
          obtain rfl := Option.some.inj h
          refine sx_ret (R := (rDf F0)) (evF_tup (B := F0) (ds := [(encS [110, 97, 109, 101]), (encS (lowerS (cutL x10.1 (some (1 : Int)) none))), (encS c42)]) (ea_cons (evF_s (B := F0) (d := (encS [110, 97, 109, 101])) (by rfl) (ev_d (a := [110, 97, 109, 101]) eS (ev_s (l := [110, 97, 109, 101]) (by decide +kernel) (by decide +kernel)))) (ea_cons (evF_s (B := F0) (d := (encS (lowerS (cutL x10.1 (some (1 : Int)) none)))) (by rfl) (ev_d (a := (lowerS (cutL x10.1 (some (1 : Int)) none))) eS (ev_m0 (ev_slS (ev_v (R := rS) rfl (Rep.mono rS (((s20.trans s28).trans s35).trans s40) f13)) (ep_some ev_i) ep_none) m_lower))) (ea_cons (evF_s (B := F0) (d := (encS c42)) (by rfl) (ev_d (a := c42) eS (ev_op (ev_spn (ev_v (R := (rL rS)) rfl (Rep.mono (rL rS) s40 f36))) ev_i (o_ixL hc42)))) ea_nil))) (show (3 : Nat) ≤ limL by decide)) fun v43 Fs44 s44 f45 => ?_
          exact rt_val k (fun _ => f45)
        · have h := cnd_f h z39
          refine sx_next ?_
          refine nx_of ?_
          obtain rfl := Option.some.inj h
          refine sx_ret (R := (rDf F0)) (evF_s (B := F0) (d := ((fun (_ : Unit) => PyData.none) ())) (by rfl) (ev_d (a := ()) eN ev_n)) fun v46 Fs47 s47 f48 => ?_
          exact rt_val k (fun _ => f48)

/-! flush_sort -/
abbrev s_flush_sort : Stmt := top 15
abbrev N_flush_sort : List Str := ["row", "bare", "rest", "found"]
theorem sc_flush_sort : FnScope N_flush_sort ["row", "bare"] (defScope s_flush_sort) := ⟨rfl, rfl, rfl, by decide +kernel, rfl, by decide +kernel, by decide +kernel⟩
def m_flush_sort (x_row : List Nat) (x_bare : List Nat) : Option (PyData) := cnd (startsS x_bare [62]) (lt (cutL x_row (some (1 : Int)) none) fun x13 => (cnd (startsS x13 [32]) (lt (cutL x13 (some (1 : Int)) none) fun x32 => some x32) (some x13)).bind fun (j17 : (List Nat)) => some (PyData.tuple [(encS [113, 117, 111, 116, 101]), (encS j17)])) (cnd (decide (x_bare = [126, 126, 126])) (some (PyData.tuple [(encS [102, 101, 110, 99, 101])])) ((m_heading_sort (x_bare)).bind fun r42 => (m_cells_sort (x_bare)).bind fun r43 => (m_named_sort (x_bare)).bind fun r44 => fwd (loop (ρ := PyData) (fun (s60 : Unit) (a61 : PyData) => cnd (!isND a61) (some (Fw.rt a61)) (some (Fw.nx ()))) ([r42, r43, r44] : List (PyData)) ()) (fun (s50 : Unit) => some ((fun (_ : Unit) => PyData.none) ())) (fun (r : PyData) => some r)))
def P_flush_sort (As : List Ar) (r : PyData) : Prop := ∃ (x_row : List Nat) (x_bare : List Nat), As = [val rS x_row, val rS x_bare] ∧ m_flush_sort x_row x_bare = some r
theorem ok_flush_sort (T : Top n K mg) (D : Df K mg "flush_sort" s_flush_sort) (G_heading_sort : Cal P w K mg base 3 "heading_sort" ["bare"] (spF (P_heading_sort))) (G_cells_sort : CalN n P w K mg base 4 "cells_sort" ["bare"] (spF (P_cells_sort))) (G_named_sort : Cal P w K mg base 3 "named_sort" ["bare"] (spF (P_named_sort))) : CalN n P w K mg base 5 "flush_sort" ["row", "bare"] (spF (P_flush_sort)) := by
  have SC := sc_flush_sort
  obtain ⟨t_FENCE, g_FENCE, z_FENCE, l_FENCE⟩ := T.c_FENCE
  have h1n := T.one
  refine calN_of (N := N_flush_sort) D SC (fun _ _ _ _ _ _ us hl => match us, hl with | [_, _], _ => rfl) (fun vs H Q E h => ?_) (fun f cdv A outer s H vs Q E hr h => ?_)
  · obtain ⟨F0, As, r, ⟨x_row, x_bare, rfl, h⟩, e0, ha, k⟩ := h
    exact alla_len ha
  · obtain ⟨F0, As, r, ⟨x_row, x_bare, rfl, h⟩, e0, ha, k⟩ := h
    obtain ⟨v_row, v_bare, rfl, f_row, f_bare⟩ := alla2 ha
    refine ⟨_, (psn_cons (tkS (ps_if (pt_val (pe_bm PySem.F.plainAttrs_str PySem.F.slot_str_startswith PySem.F.type_str_startswith mt_mStarts (pv 1) (pa_cons pe_str pa_nil))) (pss_cons (ps_set (i := 2) SC.nd rfl (Or.inl rfl) (pe_slice sl_str (pv 0) (po_some pe_int) po_none)) (pss_cons (ps_if (pt_val (pe_bm PySem.F.plainAttrs_str PySem.F.slot_str_startswith PySem.F.type_str_startswith mt_mStarts (pv 2) (pa_cons pe_str pa_nil))) (pss_one (ps_set (i := 2) SC.nd rfl (Or.inl rfl) (pe_slice sl_str (pv 2) (po_some pe_int) po_none))) pss_nil) (pss_one (ps_ret (pe_tup (pa_cons pe_str (pa_cons (pv 2) pa_nil))))))) pss_nil)) (psn_cons (tkS (ps_if (pt_cmpR op_eq (pv 1) (pe_glob (v := V.str "~~~") rfl g_FENCE ⟨_, rfl⟩) (nomark _)) (pss_one (ps_ret (pe_tup (pa_cons pe_str pa_nil)))) pss_nil)) (psn_cons (psn_for PassesOwn.never rfl (pin_tup (pen_tup (pan_cons (tkE (pe_cal G_heading_sort (hr.mono (by decide)) rfl (pa_cons (pv 1) pa_nil))) (pan_cons (pen_cal G_cells_sort (hr.mono (by decide)) rfl (tkA (pa_cons (pv 1) pa_nil))) (tkA (pa_cons (pe_cal G_named_sort (hr.mono (by decide)) rfl (pa_cons (pv 1) pa_nil)) pa_nil)))))) (pg_name (i := 3) SC.nd rfl (Or.inl rfl)) (tkSs (pss_one (ps_if (pt_cmpR op_xNotN (pv 3) pe_non (nomark _)) (pss_one (ps_ret (pv 3))) pss_nil)))) (tkSs (pss_one (ps_ret pe_non)))))), ?_⟩
    refine (show Sx ⟨F0, H⟩ _ _ [some v_row, some v_bare, none, none] F0 [] from ?_) H (At.start e0)
    have f_row : (rS).rp x_row v_row F0 := f_row
    have f_bare : (rS).rp x_bare v_bare F0 := f_bare
    refine sx_seq (sx_if (et_B (ev_m (ev_v (R := rS) rfl f_bare) (ea_cons (ev_s (l := [62]) (by decide +kernel) (by decide +kernel)) ea_nil) m_starts)) (fun z10 Fs11 s11 => ?_) (fun z10 Fs12 s12 => ?_))
    · have h := cnd_t h z10
      obtain ⟨x13, hx13, h⟩ := lt_e h
      refine sx_seq (sx_asg (R := rS) (ev_is (ev_slS (ev_v (R := rS) rfl (Rep.mono rS s11 f_row)) (ep_some ev_i) ep_none) hx13) fun v16 Fs14 s14 f15 => nx_of ?_)
      obtain ⟨j17, hj19, h⟩ := bsome h
      refine sx_join (fun (s : (List Nat)) σ F O => ∃ (v_rest : V) (w_found : Option V), σ = [some v_row, some v_bare, some v_rest, w_found] ∧ O = [] ∧ (rS).rp s v_rest F ∧ True) j17 (fun σ9 Fs20 O9 s20 ⟨v21, w22, hs23, ho24, f25, _⟩ => ?_) (fun hJ18 => ?_)
      · subst hs23 ho24
        obtain rfl := Option.some.inj h
        refine sx_ret (R := (rDf F0)) (evF_tup (B := F0) (ds := [(encS [113, 117, 111, 116, 101]), (encS j17)]) (ea_cons (evF_s (B := F0) (d := (encS [113, 117, 111, 116, 101])) (by rfl) (ev_d (a := [113, 117, 111, 116, 101]) eS (ev_s (l := [113, 117, 111, 116, 101]) (by decide +kernel) (by decide +kernel)))) (ea_cons (evF_s (B := F0) (d := (encS j17)) (by rfl) (ev_d (a := j17) eS (ev_v (R := rS) rfl f25))) ea_nil)) (show (2 : Nat) ≤ limL by decide)) fun v26 Fs27 s27 f28 => ?_
        exact rt_val k (fun _ => f28)
      · refine sx_if (et_B (ev_m (ev_v (R := rS) rfl f15) (ea_cons (ev_s (l := [32]) (by decide +kernel) (by decide +kernel)) ea_nil) m_starts)) (fun z29 Fs30 s30 => ?_) (fun z29 Fs31 s31 => ?_)
        · have hj19 := cnd_t hj19 z29
          obtain ⟨x32, hx32, hj19⟩ := lt_e hj19
          refine sx_asg (R := rS) (ev_is (ev_slS (ev_v (R := rS) rfl (Rep.mono rS s30 f15)) (ep_some ev_i) ep_none) hx32) fun v35 Fs33 s33 f34 => ?_
          obtain rfl := Option.some.inj hj19
          exact hJ18 _ _ _ (s30.trans s33) ⟨v35, _, rfl, rfl, f34, trivial⟩
        · have hj19 := cnd_f hj19 z29
          refine sx_next ?_
          obtain rfl := Option.some.inj hj19
          exact hJ18 _ _ _ s31 ⟨v16, _, rfl, rfl, (Rep.mono rS s31 f15), trivial⟩
    · have h := cnd_f h z10
      refine sx_next ?_
      refine nx_of ?_
      refine sx_seq (sx_if (et_b (ev_op (ev_v (R := rS) rfl (Rep.mono rS s12 f_bare)) (ev_s (l := [126, 126, 126]) (by decide +kernel) (by decide +kernel)) o_eqS)) (fun z36 Fs37 s37 => ?_) (fun z36 Fs38 s38 => ?_))
      · have h := cnd_t h z36
        obtain rfl := Option.some.inj h
        refine sx_ret (R := (rDf F0)) (evF_tup (B := F0) (ds := [(encS [102, 101, 110, 99, 101])]) (ea_cons (evF_s (B := F0) (d := (encS [102, 101, 110, 99, 101])) (by rfl) (ev_d (a := [102, 101, 110, 99, 101]) eS (ev_s (l := [102, 101, 110, 99, 101]) (by decide +kernel) (by decide +kernel)))) ea_nil) (show (1 : Nat) ≤ limL by decide)) fun v39 Fs40 s40 f41 => ?_
        exact rt_val k (fun _ => f41)
      · have h := cnd_f h z36
        refine sx_next ?_
        refine nx_of ?_
        obtain ⟨r42, hr42, h⟩ := bsome h
        obtain ⟨r43, hr43, h⟩ := bsome h
        obtain ⟨r44, hr44, h⟩ := bsome h
        obtain ⟨w45, hl46, hk47, hr48⟩ := fwd_o h
        refine sx_seq (sx_for (J := fun (s : Unit) σ F O => ∃ (w_rest : Option V) (w_found : Option V), σ = [some v_row, some v_bare, w_rest, w_found] ∧ O = [] ∧ True) (Ro := (fun (r : PyData) v F (O : Own) => ((rDf F0)).rp r v F)) hl46 (ei_tup (ev_tupL (R := (rDf F0)) (as := [r42, r43, r44]) (ea_cons (ev_callFd (P := P_heading_sort) (s12.trans s38) (ea_cons (ev_v (R := rS) rfl (Rep.mono rS (s12.trans s38) f_bare)) ea_nil) ⟨_, rfl, hr42⟩) (ea_cons (ev_callFd (P := P_cells_sort) (s12.trans s38) (ea_cons (ev_v (R := rS) rfl (Rep.mono rS (s12.trans s38) f_bare)) ea_nil) ⟨_, rfl, hr43⟩) (ea_cons (ev_callFd (P := P_named_sort) (s12.trans s38) (ea_cons (ev_v (R := rS) rfl (Rep.mono rS (s12.trans s38) f_bare)) ea_nil) ⟨_, rfl, hr44⟩) ea_nil))) (show (3 : Nat) ≤ limL by decide))) tg_n (fun Fe49 e49 => ⟨_, _, rfl, rfl, trivial⟩) ?_ ?_)
        · refine ⟨fun s50 es51 σ9 Fe52 O9 e52 ⟨w53, w54, hs55, ho56, _⟩ => ?_, fun r9 er9 v9 F9 O9 e9 hr9 => ?_⟩
          · subst hs55 ho56
            have h := hk47 s50 es51
            refine nx_of ?_
            obtain rfl := Option.some.inj h
            refine sx_ret (R := (rDf F0)) (evF_s (B := F0) (d := ((fun (_ : Unit) => PyData.none) ())) (by rfl) (ev_d (a := ()) eN ev_n)) fun v57 Fs58 s58 f59 => ?_
            exact rt_val k (fun _ => f59)
          · have h := hr48 r9 er9
            obtain rfl := Option.some.inj h
            exact rt_val k (fun _ => hr9)
        · rintro s60 a61 σ9 σ8 Fe62 Fe63 O9 o9 D9 ha9 e62 e63 ⟨w65, w66, hs67, ho68, _⟩ ⟨v69, zs, f70⟩ h acc64
          subst hs67 ho68
          subst zs
          refine sx_if (et_b (ev_op (evF_D (ev_v (R := (rDf F0)) rfl f70)) ev_n o_notD)) (fun z71 Fs72 s72 => ?_) (fun z71 Fs73 s73 => ?_)
          · have h := cnd_t h z71
            obtain rfl := Option.some.inj h
            refine sx_ret (R := (rDf F0)) (ev_v (R := (rDf F0)) rfl (Rep.mono (rDf F0) s72 f70)) fun v74 Fs75 s75 f76 => ?_
            exact acc64.rt _ rfl _ _ _ (s72.trans s75) f76
          · have h := cnd_f h z71
            refine sx_next ?_
            obtain rfl := Option.some.inj h
            exact (acc64.nx _ rfl _ _ _ s73 ⟨_, _, rfl, rfl, trivial⟩).1

/-! sort_of -/
abbrev s_sort_of : Stmt := top 16
abbrev N_sort_of : List Str := ["row", "bare", "body", "far", "found"]
theorem sc_sort_of : FnScope N_sort_of ["row"] (defScope s_sort_of) := ⟨rfl, rfl, rfl, by decide +kernel, rfl, by decide +kernel, by decide +kernel⟩
def m_sort_of (x_row : List Nat) : Option (PyData) := lt (rstripS x_row [32]) fun x10 => lt (lstripS x10 [32]) fun x14 => lt ((x10.length : Int) - (x14.length : Int)) fun x18 => cnd (decide (x14 = [])) (some (PyData.tuple [(encS [101, 109, 112, 116, 121])])) (cnd (decide (x18 = (0 : Int))) ((m_flush_sort (x_row) (x10)).bind fun r31 => lt r31 fun x32 => cnd (!isND x32) (some x32) (cnd ((startsS x14 [45, 32]) || (startsS x14 [43, 32])) ((ixO x14 (0 : Int)).bind fun c45 => (m_tidy ((cutL x14 (some (2 : Int)) none))).bind fun r46 => some (PyData.tuple [(encS [105, 116, 101, 109]), (PyData.int x18), (encC c45), (encS r46)])) ((m_tidy (x14)).bind fun r50 => some (PyData.tuple [(encS [112, 108, 97, 105, 110]), (PyData.int x18), (encS r50)])))) (cnd ((startsS x14 [45, 32]) || (startsS x14 [43, 32])) ((ixO x14 (0 : Int)).bind fun c57 => (m_tidy ((cutL x14 (some (2 : Int)) none))).bind fun r58 => some (PyData.tuple [(encS [105, 116, 101, 109]), (PyData.int x18), (encC c57), (encS r58)])) ((m_tidy (x14)).bind fun r62 => some (PyData.tuple [(encS [112, 108, 97, 105, 110]), (PyData.int x18), (encS r62)]))))
def P_sort_of (As : List Ar) (r : PyData) : Prop := ∃ (x_row : List Nat), As = [val rS x_row] ∧ m_sort_of x_row = some r
theorem ok_sort_of (T : Top n K mg) (D : Df K mg "sort_of" s_sort_of) (G_flush_sort : CalN n P w K mg base 5 "flush_sort" ["row", "bare"] (spF (P_flush_sort))) (G_tidy : Cal P w K mg base 2 "tidy" ["text"] (spG (P_tidy))) : CalN n P w K mg base 6 "sort_of" ["row"] (spF (P_sort_of)) := by
  have SC := sc_sort_of
  have h1n := T.one
  refine calN_of (N := N_sort_of) D SC (fun _ _ _ _ _ _ us hl => match us, hl with | [_], _ => rfl) (fun vs H Q E h => ?_) (fun f cdv A outer s H vs Q E hr h => ?_)
  · obtain ⟨F0, As, r, ⟨x_row, rfl, h⟩, e0, ha, k⟩ := h
    exact alla_len ha
  · obtain ⟨F0, As, r, ⟨x_row, rfl, h⟩, e0, ha, k⟩ := h
    obtain ⟨v_row, rfl, f_row⟩ := alla1 ha
    refine ⟨_, (psn_cons (tkS (ps_set (i := 1) SC.nd rfl (Or.inl rfl) (pe_bm PySem.F.plainAttrs_str PySem.F.slot_str_rstrip PySem.F.type_str_rstrip mt_mRstrip (pv 0) (pa_cons pe_str pa_nil)))) (psn_cons (tkS (ps_set (i := 2) SC.nd rfl (Or.inl rfl) (pe_bm PySem.F.plainAttrs_str PySem.F.slot_str_lstrip PySem.F.type_str_lstrip mt_mLstrip (pv 1) (pa_cons pe_str pa_nil)))) (psn_cons (tkS (ps_set (i := 3) SC.nd rfl (Or.inl rfl) (pe_op op_xSub (pe_callB call_cLen (by rfl) T.b_len PySem.boot_len (pa_cons (pv 1) pa_nil)) (pe_callB call_cLen (by rfl) T.b_len PySem.boot_len (pa_cons (pv 2) pa_nil))))) (psn_cons (tkS (ps_if (pt_cmpR op_eq (pv 2) pe_str (nomark _)) (pss_one (ps_ret (pe_tup (pa_cons pe_str pa_nil)))) pss_nil)) (psn_cons (psn_if (tkT (pt_cmpR op_eq (pv 3) pe_int (nomark _))) (psn_cons (psn_set (i := 4) SC.nd rfl (Or.inl rfl) (pen_cal G_flush_sort (hr.mono (by decide)) rfl (tkA (pa_cons (pv 0) (pa_cons (pv 1) pa_nil))))) (tkSs (pss_one (ps_if (pt_cmpR op_xNotN (pv 4) pe_non (nomark _)) (pss_one (ps_ret (pv 4))) pss_nil)))) (tkSs pss_nil)) (tkSs (pss_cons (ps_if (PW.pt (pw_or (pt_val (pe_bm PySem.F.plainAttrs_str PySem.F.slot_str_startswith PySem.F.type_str_startswith mt_mStarts (pv 2) (pa_cons pe_str pa_nil))) (pw_or1 (pt_val (pe_bm PySem.F.plainAttrs_str PySem.F.slot_str_startswith PySem.F.type_str_startswith mt_mStarts (pv 2) (pa_cons pe_str pa_nil)))))) (pss_one (ps_ret (pe_tup (pa_cons pe_str (pa_cons (pv 3) (pa_cons (pe_ix ix_str (pv 2) pe_int (fun _ _ => rfl)) (pa_cons (pe_cal G_tidy (hr.mono (by decide)) rfl (pa_cons (pe_slice sl_str (pv 2) (po_some pe_int) po_none) pa_nil)) pa_nil))))))) pss_nil) (pss_one (ps_ret (pe_tup (pa_cons pe_str (pa_cons (pv 3) (pa_cons (pe_cal G_tidy (hr.mono (by decide)) rfl (pa_cons (pv 2) pa_nil)) pa_nil))))))))))))), ?_⟩
    refine (show Sx ⟨F0, H⟩ _ _ [some v_row, none, none, none, none] F0 [] from ?_) H (At.start e0)
    have f_row : (rS).rp x_row v_row F0 := f_row
    obtain ⟨x10, hx10, h⟩ := lt_e h
    refine sx_seq (sx_asg (R := rS) (ev_is (ev_m (ev_v (R := rS) rfl f_row) (ea_cons (ev_s (l := [32]) (by decide +kernel) (by decide +kernel)) ea_nil) m_rstrip) hx10) fun v13 Fs11 s11 f12 => nx_of ?_)
    obtain ⟨x14, hx14, h⟩ := lt_e h
    refine sx_seq (sx_asg (R := rS) (ev_is (ev_m (ev_v (R := rS) rfl f12) (ea_cons (ev_s (l := [32]) (by decide +kernel) (by decide +kernel)) ea_nil) m_lstrip) hx14) fun v17 Fs15 s15 f16 => nx_of ?_)
    obtain ⟨x18, hx18, h⟩ := lt_e h
    refine sx_seq (sx_asg (R := rInt) (ev_is (ev_op (ev_cb (ea_cons (ev_v (R := rS) rfl (Rep.mono rS s15 f12)) ea_nil) b_lenS) (ev_cb (ea_cons (ev_v (R := rS) rfl f16) ea_nil) b_lenS) o_sub) hx18) fun v21 Fs19 s19 f20 => nx_of ?_)
    refine sx_seq (sx_if (et_b (ev_op (ev_v (R := rS) rfl (Rep.mono rS s19 f16)) (ev_s (l := []) (by decide +kernel) (by decide +kernel)) o_eqS)) (fun z22 Fs23 s23 => ?_) (fun z22 Fs24 s24 => ?_))
    · have h := cnd_t h z22
      obtain rfl := Option.some.inj h
      refine sx_ret (R := (rDf F0)) (evF_tup (B := F0) (ds := [(encS [101, 109, 112, 116, 121])]) (ea_cons (evF_s (B := F0) (d := (encS [101, 109, 112, 116, 121])) (by rfl) (ev_d (a := [101, 109, 112, 116, 121]) eS (ev_s (l := [101, 109, 112, 116, 121]) (by decide +kernel) (by decide +kernel)))) ea_nil) (show (1 : Nat) ≤ limL by decide)) fun v25 Fs26 s26 f27 => ?_
      exact rt_val k (fun _ => f27)
    · have h := cnd_f h z22
      refine sx_next ?_
      refine nx_of ?_
      refine sx_seq (sx_if (et_b (ev_op (ev_v (R := rInt) rfl (Rep.mono rInt s24 f20)) ev_i o_eqI)) (fun z28 Fs29 s29 => ?_) (fun z28 Fs30 s30 => ?_))
      · have h := cnd_t h z28
        obtain ⟨r31, hr31, h⟩ := bsome h
        obtain ⟨x32, hx32, h⟩ := lt_e h
        refine sx_seq (sx_asg (R := (rDf F0)) (ev_is (ev_callFd (P := P_flush_sort) ((((s11.trans s15).trans s19).trans s24).trans s29) (ea_cons (ev_v (R := rS) rfl (Rep.mono rS ((((s11.trans s15).trans s19).trans s24).trans s29) f_row)) (ea_cons (ev_v (R := rS) rfl (Rep.mono rS (((s15.trans s19).trans s24).trans s29) f12)) ea_nil)) ⟨_, _, rfl, hr31⟩) hx32) fun v35 Fs33 s33 f34 => nx_of ?_)
        refine sx_if (et_b (ev_op (evF_D (ev_v (R := (rDf F0)) rfl f34)) ev_n o_notD)) (fun z36 Fs37 s37 => ?_) (fun z36 Fs38 s38 => ?_)
        · have h := cnd_t h z36
          obtain rfl := Option.some.inj h
          refine sx_ret (R := (rDf F0)) (ev_v (R := (rDf F0)) rfl (Rep.mono (rDf F0) s37 f34)) fun v39 Fs40 s40 f41 => ?_
          exact rt_val k (fun _ => f41)
        · have h := cnd_f h z36
          refine sx_next ?_
          refine nx_of ?_
          refine sx_seq (sx_if (et_orP (et_B (ev_m (ev_v (R := rS) rfl (Rep.mono rS ((((s19.trans s24).trans s29).trans s33).trans s38) f16)) (ea_cons (ev_s (l := [45, 32]) (by decide +kernel) (by decide +kernel)) ea_nil) m_starts)) (fun _ => (et_B (ev_m (ev_v (R := rS) rfl (Rep.mono rS ((((s19.trans s24).trans s29).trans s33).trans s38) f16)) (ea_cons (ev_s (l := [43, 32]) (by decide +kernel) (by decide +kernel)) ea_nil) m_starts)))) (fun z42 Fs43 s43 => ?_) (fun z42 Fs44 s44 => ?_))
          · have h := cnd_t h z42
            obtain ⟨c45, hc45, h⟩ := bsome h
            obtain ⟨r46, hr46, h⟩ := bsome h
            obtain rfl := Option.some.inj h
            refine sx_ret (R := (rDf F0)) (evF_tup (B := F0) (ds := [(encS [105, 116, 101, 109]), (PyData.int x18), (encC c45), (encS r46)]) (ea_cons (evF_s (B := F0) (d := (encS [105, 116, 101, 109])) (by rfl) (ev_d (a := [105, 116, 101, 109]) eS (ev_s (l := [105, 116, 101, 109]) (by decide +kernel) (by decide +kernel)))) (ea_cons (evF_s (B := F0) (d := (PyData.int x18)) (by rfl) (ev_d (a := x18) eI (ev_v (R := rInt) rfl (Rep.mono rInt ((((s24.trans s29).trans s33).trans s38).trans s43) f20)))) (ea_cons (evF_s (B := F0) (d := (encC c45)) (by rfl) (ev_d (a := c45) eC (ev_op (ev_v (R := rS) rfl (Rep.mono rS (((((s19.trans s24).trans s29).trans s33).trans s38).trans s43) f16)) ev_i (o_ixS hc45)))) (ea_cons (evF_s (B := F0) (d := (encS r46)) (by rfl) (ev_d (a := r46) eS (ev_call (P := P_tidy) (ea_cons (ev_slS (ev_v (R := rS) rfl (Rep.mono rS (((((s19.trans s24).trans s29).trans s33).trans s38).trans s43) f16)) (ep_some ev_i) ep_none) ea_nil) ⟨_, _, rfl, hr46, rfl⟩))) ea_nil)))) (show (4 : Nat) ≤ limL by decide)) fun v47 Fs48 s48 f49 => ?_
            exact rt_val k (fun _ => f49)
          · have h := cnd_f h z42
            refine sx_next ?_
            refine nx_of ?_
            obtain ⟨r50, hr50, h⟩ := bsome h
            obtain rfl := Option.some.inj h
            refine sx_ret (R := (rDf F0)) (evF_tup (B := F0) (ds := [(encS [112, 108, 97, 105, 110]), (PyData.int x18), (encS r50)]) (ea_cons (evF_s (B := F0) (d := (encS [112, 108, 97, 105, 110])) (by rfl) (ev_d (a := [112, 108, 97, 105, 110]) eS (ev_s (l := [112, 108, 97, 105, 110]) (by decide +kernel) (by decide +kernel)))) (ea_cons (evF_s (B := F0) (d := (PyData.int x18)) (by rfl) (ev_d (a := x18) eI (ev_v (R := rInt) rfl (Rep.mono rInt ((((s24.trans s29).trans s33).trans s38).trans s44) f20)))) (ea_cons (evF_s (B := F0) (d := (encS r50)) (by rfl) (ev_d (a := r50) eS (ev_call (P := P_tidy) (ea_cons (ev_v (R := rS) rfl (Rep.mono rS (((((s19.trans s24).trans s29).trans s33).trans s38).trans s44) f16)) ea_nil) ⟨_, _, rfl, hr50, rfl⟩))) ea_nil))) (show (3 : Nat) ≤ limL by decide)) fun v51 Fs52 s52 f53 => ?_
            exact rt_val k (fun _ => f53)
      · have h := cnd_f h z28
        refine sx_next ?_
        refine nx_of ?_
        refine sx_seq (sx_if (et_orP (et_B (ev_m (ev_v (R := rS) rfl (Rep.mono rS ((s19.trans s24).trans s30) f16)) (ea_cons (ev_s (l := [45, 32]) (by decide +kernel) (by decide +kernel)) ea_nil) m_starts)) (fun _ => (et_B (ev_m (ev_v (R := rS) rfl (Rep.mono rS ((s19.trans s24).trans s30) f16)) (ea_cons (ev_s (l := [43, 32]) (by decide +kernel) (by decide +kernel)) ea_nil) m_starts)))) (fun z54 Fs55 s55 => ?_) (fun z54 Fs56 s56 => ?_))
        · have h := cnd_t h z54
          obtain ⟨c57, hc57, h⟩ := bsome h
          obtain ⟨r58, hr58, h⟩ := bsome h
          obtain rfl := Option.some.inj h
          refine sx_ret (R := (rDf F0)) (evF_tup (B := F0) (ds := [(encS [105, 116, 101, 109]), (PyData.int x18), (encC c57), (encS r58)]) (ea_cons (evF_s (B := F0) (d := (encS [105, 116, 101, 109])) (by rfl) (ev_d (a := [105, 116, 101, 109]) eS (ev_s (l := [105, 116, 101, 109]) (by decide +kernel) (by decide +kernel)))) (ea_cons (evF_s (B := F0) (d := (PyData.int x18)) (by rfl) (ev_d (a := x18) eI (ev_v (R := rInt) rfl (Rep.mono rInt ((s24.trans s30).trans s55) f20)))) (ea_cons (evF_s (B := F0) (d := (encC c57)) (by rfl) (ev_d (a := c57) eC (ev_op (ev_v (R := rS) rfl (Rep.mono rS (((s19.trans s24).trans s30).trans s55) f16)) ev_i (o_ixS hc57)))) (ea_cons (evF_s (B := F0) (d := (encS r58)) (by rfl) (ev_d (a := r58) eS (ev_call (P := P_tidy) (ea_cons (ev_slS (ev_v (R := rS) rfl (Rep.mono rS (((s19.trans s24).trans s30).trans s55) f16)) (ep_some ev_i) ep_none) ea_nil) ⟨_, _, rfl, hr58, rfl⟩))) ea_nil)))) (show (4 : Nat) ≤ limL by decide)) fun v59 Fs60 s60 f61 => ?_
          exact rt_val k (fun _ => f61)
        · have h := cnd_f h z54
          refine sx_next ?_
          refine nx_of ?_
          obtain ⟨r62, hr62, h⟩ := bsome h
          obtain rfl := Option.some.inj h
          refine sx_ret (R := (rDf F0)) (evF_tup (B := F0) (ds := [(encS [112, 108, 97, 105, 110]), (PyData.int x18), (encS r62)]) (ea_cons (evF_s (B := F0) (d := (encS [112, 108, 97, 105, 110])) (by rfl) (ev_d (a := [112, 108, 97, 105, 110]) eS (ev_s (l := [112, 108, 97, 105, 110]) (by decide +kernel) (by decide +kernel)))) (ea_cons (evF_s (B := F0) (d := (PyData.int x18)) (by rfl) (ev_d (a := x18) eI (ev_v (R := rInt) rfl (Rep.mono rInt ((s24.trans s30).trans s56) f20)))) (ea_cons (evF_s (B := F0) (d := (encS r62)) (by rfl) (ev_d (a := r62) eS (ev_call (P := P_tidy) (ea_cons (ev_v (R := rS) rfl (Rep.mono rS (((s19.trans s24).trans s30).trans s56) f16)) ea_nil) ⟨_, _, rfl, hr62, rfl⟩))) ea_nil))) (show (3 : Nat) ≤ limL by decide)) fun v63 Fs64 s64 f65 => ?_
          exact rt_val k (fun _ => f65)

/-! _law_cell_at -/
abbrev s__law_cell_at : Stmt := top 18
abbrev N__law_cell_at : List Str := ["_law_script", "_law_k"]
theorem sc__law_cell_at : FnScope N__law_cell_at ["_law_script", "_law_k"] (defScope s__law_cell_at) := ⟨rfl, rfl, rfl, by decide +kernel, rfl, by decide +kernel, by decide +kernel⟩
def m__law_cell_at (x__law_script : List Int) (x__law_k : Int) : Option (Int) := cnd (decide (x__law_k < (x__law_script.length : Int))) ((ixO x__law_script x__law_k).bind fun c13 => some c13) (some (0 : Int))
def P__law_cell_at (K : PySem.W.Frag) (As : List Ar) (C : Ar) : Prop := ∃ (x__law_script : List Int) (x__law_k : Int) (r : Int), As = [val (rScr K) x__law_script, val rInt x__law_k] ∧ m__law_cell_at x__law_script x__law_k = some r ∧ C = val rInt r
theorem ok__law_cell_at (T : Top n K mg) (D : Df K mg "_law_cell_at" s__law_cell_at)  : Cal P w K mg base 1 "_law_cell_at" ["_law_script", "_law_k"] (spG (P__law_cell_at K)) := by
  have SC := sc__law_cell_at
  have h1n := T.one
  refine cal_of (N := N__law_cell_at) D SC (fun _ _ _ _ _ _ us hl => match us, hl with | [_, _], _ => rfl) (fun vs H Q E h => ?_) (fun f cdv A outer s H vs Q E hr h => ?_)
  · obtain ⟨F0, As, C, ⟨x__law_script, x__law_k, r, rfl, h, rfl⟩, e0, ha, k⟩ := h
    exact alla_len ha
  · obtain ⟨F0, As, C, ⟨x__law_script, x__law_k, r, rfl, h, rfl⟩, e0, ha, k⟩ := h
    obtain ⟨v__law_script, v__law_k, rfl, f__law_script, f__law_k⟩ := alla2 ha
    refine ⟨_, (pss_cons (ps_if (pt_cmpR op_xLt (pv 1) (pe_callB call_cLen (by rfl) T.b_len PySem.boot_len (pa_cons (pv 0) pa_nil)) (nomark _)) (pss_one (ps_ret (pe_ix ix_list (pv 0) (pv 1) (fun _ _ => rfl)))) pss_nil) (pss_one (ps_ret pe_int))), ?_⟩
    refine (show Sx ⟨F0, H⟩ _ _ [some v__law_script, some v__law_k] F0 [] from ?_) H (At.start e0)
    have f__law_script : ((rScr K)).rp x__law_script v__law_script F0 := f__law_script
    have f__law_k : (rInt).rp x__law_k v__law_k F0 := f__law_k
    refine sx_seq (sx_if (et_b (ev_op (ev_v (R := rInt) rfl f__law_k) (ev_cb (ea_cons (ev_v (R := (rScr K)) rfl f__law_script) ea_nil) b_lenK) o_lt)) (fun z10 Fs11 s11 => ?_) (fun z10 Fs12 s12 => ?_))
    · have h := cnd_t h z10
      obtain ⟨c13, hc13, h⟩ := bsome h
      obtain rfl := Option.some.inj h
      refine sx_ret (R := rInt) (ev_op (ev_v (R := (rScr K)) rfl (Rep.mono (rScr K) s11 f__law_script)) (ev_v (R := rInt) rfl (Rep.mono rInt s11 f__law_k)) (o_ixK hc13)) fun v14 Fs15 s15 f16 => ?_
      exact rt_val k (fun _ => f16)
    · have h := cnd_f h z10
      refine sx_next ?_
      refine nx_of ?_
      obtain rfl := Option.some.inj h
      refine sx_ret (R := rInt) ev_i fun v17 Fs18 s18 f19 => ?_
      exact rt_val k (fun _ => f19)

/-! _law_mixed -/
abbrev s__law_mixed : Stmt := top 19
abbrev N__law_mixed : List Str := ["_law_cell", "_law_k", "_law_number"]
theorem sc__law_mixed : FnScope N__law_mixed ["_law_cell", "_law_k"] (defScope s__law_mixed) := ⟨rfl, rfl, rfl, by decide +kernel, rfl, by decide +kernel, by decide +kernel⟩
def m__law_mixed (x__law_cell : Int) (x__law_k : Int) : Option (Int) := (modO x__law_cell (1000000007 : Int)).bind fun c10 => (mulO (c10 + (1 : Int)) (48271 : Int)).bind fun c11 => (modO c11 (2147483647 : Int)).bind fun c12 => lt c12 fun x13 => (mulO (7919 : Int) x__law_k).bind fun c17 => (mulO c17 x__law_k).bind fun c18 => (mulO (31 : Int) x__law_k).bind fun c19 => (mulO x13 (((16807 : Int) + c18) + c19)).bind fun c20 => (modO c20 (2147483629 : Int)).bind fun c21 => (divO c21 (7 : Int)).bind fun c22 => some c22
def P__law_mixed (As : List Ar) (C : Ar) : Prop := ∃ (x__law_cell : Int) (x__law_k : Int) (r : Int), As = [val rInt x__law_cell, val rInt x__law_k] ∧ m__law_mixed x__law_cell x__law_k = some r ∧ C = val rInt r
theorem ok__law_mixed (T : Top n K mg) (D : Df K mg "_law_mixed" s__law_mixed)  : Cal P w K mg base 1 "_law_mixed" ["_law_cell", "_law_k"] (spG (P__law_mixed)) := by
  have SC := sc__law_mixed
  have h1n := T.one
  refine cal_of (N := N__law_mixed) D SC (fun _ _ _ _ _ _ us hl => match us, hl with | [_, _], _ => rfl) (fun vs H Q E h => ?_) (fun f cdv A outer s H vs Q E hr h => ?_)
  · obtain ⟨F0, As, C, ⟨x__law_cell, x__law_k, r, rfl, h, rfl⟩, e0, ha, k⟩ := h
    exact alla_len ha
  · obtain ⟨F0, As, C, ⟨x__law_cell, x__law_k, r, rfl, h, rfl⟩, e0, ha, k⟩ := h
    obtain ⟨v__law_cell, v__law_k, rfl, f__law_cell, f__law_k⟩ := alla2 ha
    refine ⟨_, (pss_cons (ps_set (i := 2) SC.nd rfl (Or.inl rfl) (pe_op op_xMod (pe_op op_xMul (pe_op op_xAdd (pe_op op_xMod (pv 0) pe_int) pe_int) pe_int) pe_int)) (pss_one (ps_ret (pe_op op_xDiv (pe_op op_xMod (pe_op op_xMul (pv 2) (pe_op op_xAdd (pe_op op_xAdd pe_int (pe_op op_xMul (pe_op op_xMul pe_int (pv 1)) (pv 1))) (pe_op op_xMul pe_int (pv 1)))) pe_int) pe_int)))), ?_⟩
    refine (show Sx ⟨F0, H⟩ _ _ [some v__law_cell, some v__law_k, none] F0 [] from ?_) H (At.start e0)
    have f__law_cell : (rInt).rp x__law_cell v__law_cell F0 := f__law_cell
    have f__law_k : (rInt).rp x__law_k v__law_k F0 := f__law_k
    obtain ⟨c10, hc10, h⟩ := bsome h
    obtain ⟨c11, hc11, h⟩ := bsome h
    obtain ⟨c12, hc12, h⟩ := bsome h
    obtain ⟨x13, hx13, h⟩ := lt_e h
    refine sx_seq (sx_asg (R := rInt) (ev_is (ev_op (ev_op (ev_op (ev_op (ev_v (R := rInt) rfl f__law_cell) ev_i (o_modO hc10)) ev_i o_add) ev_i (o_mulO hc11)) ev_i (o_modO hc12)) hx13) fun v16 Fs14 s14 f15 => nx_of ?_)
    obtain ⟨c17, hc17, h⟩ := bsome h
    obtain ⟨c18, hc18, h⟩ := bsome h
    obtain ⟨c19, hc19, h⟩ := bsome h
    obtain ⟨c20, hc20, h⟩ := bsome h
    obtain ⟨c21, hc21, h⟩ := bsome h
    obtain ⟨c22, hc22, h⟩ := bsome h
    obtain rfl := Option.some.inj h
    refine sx_ret (R := rInt) (ev_op (ev_op (ev_op (ev_v (R := rInt) rfl f15) (ev_op (ev_op ev_i (ev_op (ev_op ev_i (ev_v (R := rInt) rfl (Rep.mono rInt s14 f__law_k)) (o_mulO hc17)) (ev_v (R := rInt) rfl (Rep.mono rInt s14 f__law_k)) (o_mulO hc18)) o_add) (ev_op ev_i (ev_v (R := rInt) rfl (Rep.mono rInt s14 f__law_k)) (o_mulO hc19)) o_add) (o_mulO hc20)) ev_i (o_modO hc21)) ev_i (o_divO hc22)) fun v23 Fs24 s24 f25 => ?_
    exact rt_val k (fun _ => f25)

/-! _law_signs -/
abbrev s__law_signs : Stmt := top 20
abbrev N__law_signs : List Str := ["_law_found"]
theorem sc__law_signs : FnScope N__law_signs [] (defScope s__law_signs) := ⟨rfl, rfl, rfl, by decide +kernel, rfl, by decide +kernel, by decide +kernel⟩
def m__law_signs  : Option (List Nat) := lt ([32, 33, 34, 35, 36, 38, 39, 40, 41, 42, 43, 44, 45, 46, 47, 48, 49, 50, 51, 52, 53, 54, 55, 56, 57, 58, 59, 60, 61, 62, 63, 64, 65, 66, 67, 68, 69, 70, 71, 72, 73, 74, 75, 76, 77, 78, 79, 80, 81, 82, 83, 84, 85, 86, 87, 88, 89, 90, 91, 92, 93, 94, 95, 96]) fun x10 => (catS x10 [97, 98, 99, 100, 101, 102, 103, 104, 105, 106, 107, 108, 109, 110, 111, 112, 113, 114, 115, 116, 117, 118, 119, 120, 121, 122, 123, 124, 125, 126]).bind fun c14 => some c14
def P__law_signs (As : List Ar) (C : Ar) : Prop := ∃ (_ : Unit) (r : List Nat), As = [] ∧ m__law_signs  = some r ∧ C = val rS r
theorem ok__law_signs (T : Top n K mg) (D : Df K mg "_law_signs" s__law_signs)  : Cal P w K mg base 1 "_law_signs" [] (spG (P__law_signs)) := by
  have SC := sc__law_signs
  have h1n := T.one
  refine cal_of (N := N__law_signs) D SC (fun _ _ _ _ _ _ us hl => match us, hl with | [], _ => rfl) (fun vs H Q E h => ?_) (fun f cdv A outer s H vs Q E hr h => ?_)
  · obtain ⟨F0, As, C, ⟨_, r, rfl, h, rfl⟩, e0, ha, k⟩ := h
    exact alla_len ha
  · obtain ⟨F0, As, C, ⟨_, r, rfl, h, rfl⟩, e0, ha, k⟩ := h
    obtain rfl := alla0 ha
    refine ⟨_, (pss_cons (ps_set (i := 0) SC.nd rfl (Or.inl rfl) pe_str) (pss_one (ps_ret (pe_op op_xCatS (pv 0) pe_str)))), ?_⟩
    refine (show Sx ⟨F0, H⟩ _ _ [none] F0 [] from ?_) H (At.start e0)
    obtain ⟨x10, hx10, h⟩ := lt_e h
    refine sx_seq (sx_asg (R := rS) (ev_is (ev_s (l := [32, 33, 34, 35, 36, 38, 39, 40, 41, 42, 43, 44, 45, 46, 47, 48, 49, 50, 51, 52, 53, 54, 55, 56, 57, 58, 59, 60, 61, 62, 63, 64, 65, 66, 67, 68, 69, 70, 71, 72, 73, 74, 75, 76, 77, 78, 79, 80, 81, 82, 83, 84, 85, 86, 87, 88, 89, 90, 91, 92, 93, 94, 95, 96]) (by decide +kernel) (by decide +kernel)) hx10) fun v13 Fs11 s11 f12 => nx_of ?_)
    obtain ⟨c14, hc14, h⟩ := bsome h
    obtain rfl := Option.some.inj h
    refine sx_ret (R := rS) (ev_op (ev_v (R := rS) rfl f12) (ev_s (l := [97, 98, 99, 100, 101, 102, 103, 104, 105, 106, 107, 108, 109, 110, 111, 112, 113, 114, 115, 116, 117, 118, 119, 120, 121, 122, 123, 124, 125, 126]) (by decide +kernel) (by decide +kernel)) (o_catS hc14)) fun v15 Fs16 s16 f17 => ?_
    exact rt_val k (fun _ => f17)

/-! _law_word -/
abbrev s__law_word : Stmt := top 21
abbrev N__law_word : List Str := ["_law_cell", "_law_k", "_law_signs_here", "_law_number", "_law_j"]
theorem sc__law_word : FnScope N__law_word ["_law_cell", "_law_k"] (defScope s__law_word) := ⟨rfl, rfl, rfl, by decide +kernel, rfl, by decide +kernel, by decide +kernel⟩
def m__law_word (x__law_cell : Int) (x__law_k : Int) : Option (List Nat) := (m__law_signs ).bind fun r10 => (rplO [32] [] r10).bind fun c11 => (rplO [124] [] c11).bind fun c12 => (rplO [92] [] c12).bind fun c13 => lt c13 fun x14 => (mulO (3 : Int) x__law_k).bind fun c18 => (m__law_mixed (x__law_cell) ((c18 + (1 : Int)))).bind fun r19 => lt r19 fun x20 => (modO x20 (5 : Int)).bind fun c24 => (rngO 0 ((1 : Int) + c24)).bind fun c25 => (mapF (fun (a26 : Int) => (m__law_mixed (x20) (a26)).bind fun r34 => (modO r34 (x14.length : Int)).bind fun c35 => (ixO x14 c35).bind fun c36 => some (some [c36])) c25).bind fun y38 => (joinO [] y38).bind fun c39 => some c39
def P__law_word (As : List Ar) (C : Ar) : Prop := ∃ (x__law_cell : Int) (x__law_k : Int) (r : List Nat), As = [val rInt x__law_cell, val rInt x__law_k] ∧ m__law_word x__law_cell x__law_k = some r ∧ C = val rS r
theorem ok__law_word (T : Top n K mg) (D : Df K mg "_law_word" s__law_word) (G__law_signs : Cal P w K mg base 1 "_law_signs" [] (spG (P__law_signs))) (G__law_mixed : Cal P w K mg base 1 "_law_mixed" ["_law_cell", "_law_k"] (spG (P__law_mixed))) : CalN n P w K mg base 2 "_law_word" ["_law_cell", "_law_k"] (spG (P__law_word)) := by
  have SC := sc__law_word
  have h1n := T.one
  refine calN_of (N := N__law_word) D SC (fun _ _ _ _ _ _ us hl => match us, hl with | [_, _], _ => rfl) (fun vs H Q E h => ?_) (fun f cdv A outer s H vs Q E hr h => ?_)
  · obtain ⟨F0, As, C, ⟨x__law_cell, x__law_k, r, rfl, h, rfl⟩, e0, ha, k⟩ := h
    exact alla_len ha
  · obtain ⟨F0, As, C, ⟨x__law_cell, x__law_k, r, rfl, h, rfl⟩, e0, ha, k⟩ := h
    obtain ⟨v__law_cell, v__law_k, rfl, f__law_cell, f__law_k⟩ := alla2 ha
    refine ⟨_, (psn_cons (psn_set (i := 2) SC.nd rfl (Or.inr rfl) (pen_repC h1n (pen_repC h1n (pen_repC h1n (tkE (pe_cal0 G__law_signs (hr.mono (by decide)) rfl)))))) (tkSs (pss_cons (ps_set (i := 3) SC.nd rfl (Or.inr rfl) (pe_cal G__law_mixed (hr.mono (by decide)) rfl (pa_cons (pv 0) (pa_cons (pe_op op_xAdd (pe_op op_xMul pe_int (pv 1)) pe_int) pa_nil)))) (pss_one (ps_ret (pe_bm PySem.F.plainAttrs_str PySem.F.slot_str_join PySem.F.type_str_join mt_mJoin pe_str (pa_cons (pe_lc (own := [("_law_j", 4)]) (g := gName 4) (tt := tYes) rfl SC.nd (pi_range1 (by rfl) T.b_range (pa_cons (pe_op op_xAdd pe_int (pe_op op_xMod (pv 3) pe_int)) pa_nil)) (blkOk_by (own := [("_law_j", 4)]) (N := N__law_word) (sc := defScope s__law_word) (by decide +kernel)) (fun _ _ _ _ _ => (pg_name (i := 4) SC.nd rfl (Or.inl rfl))) (fun _ _ _ _ _ => pts_nil) (fun _ _ _ _ _ => (pe_ix ix_str (pv 2) (pe_op op_xMod (pe_cal G__law_mixed (hr.mono (by decide)) rfl (pa_cons (pv 3) (pa_cons (pv 4) pa_nil))) (pe_callB (call_cLen_k (K := K) rfl) (by rfl) T.b_len PySem.boot_len (pa_cons (pv 2) pa_nil))) (fun _ _ => rfl)))) pa_nil))))))), ?_⟩
    refine (show Sx ⟨F0, H⟩ _ _ [some v__law_cell, some v__law_k, none, none, none] F0 [] from ?_) H (At.start e0)
    have f__law_cell : (rInt).rp x__law_cell v__law_cell F0 := f__law_cell
    have f__law_k : (rInt).rp x__law_k v__law_k F0 := f__law_k
    obtain ⟨r10, hr10, h⟩ := bsome h
    obtain ⟨c11, hc11, h⟩ := bsome h
    obtain ⟨c12, hc12, h⟩ := bsome h
    obtain ⟨c13, hc13, h⟩ := bsome h
    obtain ⟨x14, hx14, h⟩ := lt_e h
    refine sx_seq (sx_asg (R := rS) (ev_is (ev_rep (y := [92]) (z := []) (y' := "\\") (z' := "") (by decide +kernel) (by decide +kernel) (by decide) (by decide +kernel) hc13 (ev_rep (y := [124]) (z := []) (y' := "|") (z' := "") (by decide +kernel) (by decide +kernel) (by decide) (by decide +kernel) hc12 (ev_rep (y := [32]) (z := []) (y' := " ") (z' := "") (by decide +kernel) (by decide +kernel) (by decide) (by decide +kernel) hc11 (ev_call (P := P__law_signs) ea_nil ⟨(), _, rfl, hr10, rfl⟩)))) hx14) fun v17 Fs15 s15 f16 => nx_of ?_)
    obtain ⟨c18, hc18, h⟩ := bsome h
    obtain ⟨r19, hr19, h⟩ := bsome h
    obtain ⟨x20, hx20, h⟩ := lt_e h
    refine sx_seq (sx_asg (R := rInt) (ev_is (ev_call (P := P__law_mixed) (ea_cons (ev_v (R := rInt) rfl (Rep.mono rInt s15 f__law_cell)) (ea_cons (ev_op (ev_op ev_i (ev_v (R := rInt) rfl (Rep.mono rInt s15 f__law_k)) (o_mulO hc18)) ev_i o_add) ea_nil)) ⟨_, _, _, rfl, hr19, rfl⟩) hx20) fun v23 Fs21 s21 f22 => nx_of ?_)
    obtain ⟨c24, hc24, h⟩ := bsome h
    obtain ⟨c25, hc25, h⟩ := bsome h
    obtain ⟨y38, hy38, h⟩ := bsome h
    obtain ⟨c39, hc39, h⟩ := bsome h
    obtain rfl := Option.some.inj h
    refine sx_ret (R := rS) (ev_m (ev_s (l := []) (by decide +kernel) (by decide +kernel)) (ea_cons (ev_nspn (ev_lc (R' := rS) hy38 (ei_rng1O (ea_cons (ev_op ev_i (ev_op (ev_v (R := rInt) rfl f22) ev_i (o_modO hc24)) o_add) ea_nil) hc25) tg_n (fun a26 σ9 F27 F28 ob ha9 e29 e30 ⟨v31, zs, f32⟩ hb33 => by
    subst zs
    obtain ⟨r34, hr34, hb33⟩ := bsome hb33
    obtain ⟨c35, hc35, hb33⟩ := bsome hb33
    obtain ⟨c36, hc36, hb33⟩ := bsome hb33
    obtain rfl := Option.some.inj hb33
    exact ⟨rfl, et_yes, fun b eb => by cases eb; exact (ev_cs (ev_op (ev_v (R := rS) rfl (Rep.mono rS ((s21.trans e29).trans e30) f16)) (ev_op (ev_call (P := P__law_mixed) (ea_cons (ev_v (R := rInt) rfl (Rep.mono rInt (e29.trans e30) f22)) (ea_cons (ev_v (R := rInt) rfl f32) ea_nil)) ⟨_, _, _, rfl, hr34, rfl⟩) (ev_cb (ea_cons (ev_v (R := rS) rfl (Rep.mono rS ((s21.trans e29).trans e30) f16)) ea_nil) b_lenS) (o_modO hc35)) (o_ixS hc36)))⟩))) ea_nil) (m_join hc39)) fun v40 Fs41 s41 f42 => ?_
    exact rt_val k (fun _ => f42)

/-! _law_words -/
abbrev s__law_words : Stmt := top 22
abbrev N__law_words : List Str := ["_law_cell", "_law_many", "_law_words_here", "_law_loose", "_law_k"]
theorem sc__law_words : FnScope N__law_words ["_law_cell"] (defScope s__law_words) := ⟨rfl, rfl, rfl, by decide +kernel, rfl, by decide +kernel, by decide +kernel⟩
def m__law_words (x__law_cell : Int) : Option ((List Nat × List Nat)) := (modO x__law_cell (5 : Int)).bind fun c10 => lt ((1 : Int) + c10) fun x11 => (m__law_word (x__law_cell) ((0 : Int))).bind fun r15 => (catS [120] r15).bind fun c16 => (rngO (1 : Int) x11).bind fun c17 => (mapF (fun (a18 : Int) => (m__law_word (x__law_cell) (a18)).bind fun r26 => some (some r26)) c17).bind fun y28 => (catO ([c16] : List (List Nat)) y28).bind fun c29 => lt c29 fun x30 => (ixO x30 (0 : Int)).bind fun c34 => lt c34 fun x35 => (rngO (1 : Int) x11).bind fun c39 => fwd (loop (ρ := Unit) (fun (s57 : (List Nat)) (a58 : Int) => (m__law_mixed (x__law_cell) (((40 : Int) + a58))).bind fun r69 => (modO r69 (3 : Int)).bind fun c70 => (repS [32] ((1 : Int) + c70)).bind fun c71 => (catS s57 c71).bind fun c72 => (ixO x30 a58).bind fun c73 => (catS c72 c73).bind fun c74 => lt c74 fun x75 => some (Fw.nx x75)) c39 x35) (fun (s45 : (List Nat)) => (joinO [32] x30).bind fun c53 => some (c53, s45)) (fun (r : Unit) => none)
def P__law_words (As : List Ar) (C : Ar) : Prop := ∃ (x__law_cell : Int) (r : (List Nat × List Nat)), As = [val rInt x__law_cell] ∧ m__law_words x__law_cell = some r ∧ C = val (rT2 rS rS) r
theorem ok__law_words (T : Top n K mg) (D : Df K mg "_law_words" s__law_words) (G__law_word : CalN n P w K mg base 2 "_law_word" ["_law_cell", "_law_k"] (spG (P__law_word))) (G__law_mixed : Cal P w K mg base 1 "_law_mixed" ["_law_cell", "_law_k"] (spG (P__law_mixed))) : CalN n P w K mg base 3 "_law_words" ["_law_cell"] (spG (P__law_words)) := by
  have SC := sc__law_words
  have h1n := T.one
  refine calN_of (N := N__law_words) D SC (fun _ _ _ _ _ _ us hl => match us, hl with | [_], _ => rfl) (fun vs H Q E h => ?_) (fun f cdv A outer s H vs Q E hr h => ?_)
  · obtain ⟨F0, As, C, ⟨x__law_cell, r, rfl, h, rfl⟩, e0, ha, k⟩ := h
    exact alla_len ha
  · obtain ⟨F0, As, C, ⟨x__law_cell, r, rfl, h, rfl⟩, e0, ha, k⟩ := h
    obtain ⟨v__law_cell, rfl, f__law_cell⟩ := alla1 ha
    refine ⟨_, (psn_cons (tkS (ps_set (i := 1) SC.nd rfl (Or.inl rfl) (pe_op op_xAdd pe_int (pe_op op_xMod (pv 0) pe_int)))) (psn_cons (psn_set (i := 2) SC.nd rfl (Or.inl rfl) (pen_op op_cat (pen_lst (pan_cons (pen_op op_xCatS (tkE pe_str) (pen_cal G__law_word (hr.mono (by decide)) rfl (tkA (pa_cons (pv 0) (pa_cons pe_int pa_nil))))) (tkA pa_nil))) (pen_lc (own := [("_law_k", 4)]) (g := gName 4) (tt := tYes) rfl SC.nd (tkI (pi_range2 (by rfl) T.b_range (pa_cons pe_int (pa_cons (pv 1) pa_nil)))) (blkOk_by (own := [("_law_k", 4)]) (N := N__law_words) (sc := defScope s__law_words) (by decide +kernel)) (fun _ _ _ _ _ => (pg_name (i := 4) SC.nd rfl (Or.inl rfl))) (fun _ _ _ _ _ => pts_nil) (fun _ _ _ _ _ => (pen_cal G__law_word (hr.mono (by decide)) rfl (tkA (pa_cons (pv 0) (pa_cons (pv 4) pa_nil)))))))) (tkSs (pss_cons (ps_set (i := 3) SC.nd rfl (Or.inl rfl) (pe_ix ix_list (pv 2) pe_int (fun _ _ => rfl))) (pss_cons (ps_for PassesOwn.never rfl (pi_range2 (by rfl) T.b_range (pa_cons pe_int (pa_cons (pv 1) pa_nil))) (pg_name (i := 4) SC.nd rfl (Or.inl rfl)) (pss_one (ps_set (i := 3) SC.nd rfl (Or.inl rfl) (pe_op op_xCatS (pe_op op_xCatS (pv 3) (pe_op op_xRepS pe_str (pe_op op_xAdd pe_int (pe_op op_xMod (pe_cal G__law_mixed (hr.mono (by decide)) rfl (pa_cons (pv 0) (pa_cons (pe_op op_xAdd pe_int (pv 4)) pa_nil))) pe_int)))) (pe_ix ix_list (pv 2) (pv 4) (fun _ _ => rfl)))))) (pss_one (ps_ret (pe_tup (pa_cons (pe_bm PySem.F.plainAttrs_str PySem.F.slot_str_join PySem.F.type_str_join mt_mJoin pe_str (pa_cons (pv 2) pa_nil)) (pa_cons (pv 3) pa_nil)))))))))), ?_⟩
    refine (show Sx ⟨F0, H⟩ _ _ [some v__law_cell, none, none, none, none] F0 [] from ?_) H (At.start e0)
    have f__law_cell : (rInt).rp x__law_cell v__law_cell F0 := f__law_cell
    obtain ⟨c10, hc10, h⟩ := bsome h
    obtain ⟨x11, hx11, h⟩ := lt_e h
    refine sx_seq (sx_asg (R := rInt) (ev_is (ev_op ev_i (ev_op (ev_v (R := rInt) rfl f__law_cell) ev_i (o_modO hc10)) o_add) hx11) fun v14 Fs12 s12 f13 => nx_of ?_)
    obtain ⟨r15, hr15, h⟩ := bsome h
    obtain ⟨c16, hc16, h⟩ := bsome h
    obtain ⟨c17, hc17, h⟩ := bsome h
    obtain ⟨y28, hy28, h⟩ := bsome h
    obtain ⟨c29, hc29, h⟩ := bsome h
    obtain ⟨x30, hx30, h⟩ := lt_e h
    refine sx_seq (sx_asg (R := (rL rS)) (ev_is (ev_frz (ev_opN (ev_nspn (ev_lst (R := rS) (as := [c16]) (ea_cons (ev_op (ev_cs (ev_ch (c := 120) (by decide +kernel) (by decide))) (ev_call (P := P__law_word) (ea_cons (ev_v (R := rInt) rfl (Rep.mono rInt s12 f__law_cell)) (ea_cons ev_i ea_nil)) ⟨_, _, _, rfl, hr15, rfl⟩) (o_catS hc16)) ea_nil) (show (1 : Nat) ≤ limL by decide))) (ev_nspn (ev_lc (R' := rS) hy28 (ei_rng2O (ea_cons ev_i (ea_cons (ev_v (R := rInt) rfl f13) ea_nil)) hc17) tg_n (fun a18 σ9 F19 F20 ob ha9 e21 e22 ⟨v23, zs, f24⟩ hb25 => by
    subst zs
    obtain ⟨r26, hr26, hb25⟩ := bsome hb25
    obtain rfl := Option.some.inj hb25
    exact ⟨rfl, et_yes, fun b eb => by cases eb; exact (ev_call (P := P__law_word) (ea_cons (ev_v (R := rInt) rfl (Rep.mono rInt ((s12.trans e21).trans e22) f__law_cell)) (ea_cons (ev_v (R := rInt) rfl f24) ea_nil)) ⟨_, _, _, rfl, hr26, rfl⟩)⟩))) (o_catLO hc29))) hx30) fun v33 Fs31 s31 f32 => nx_of ?_)
    obtain ⟨c34, hc34, h⟩ := bsome h
    obtain ⟨x35, hx35, h⟩ := lt_e h
    refine sx_seq (sx_asg (R := rS) (ev_is (ev_op (ev_spn (ev_v (R := (rL rS)) rfl f32)) ev_i (o_ixL hc34)) hx35) fun v38 Fs36 s36 f37 => nx_of ?_)
    obtain ⟨c39, hc39, h⟩ := bsome h
    obtain ⟨w40, hl41, hk42, hr43⟩ := fwd_o h
    refine sx_seq (sx_for (J := fun (s : (List Nat)) σ F O => ∃ (v__law_loose : V) (w__law_k : Option V), σ = [some v__law_cell, some v14, some v33, some v__law_loose, w__law_k] ∧ O = [] ∧ (rS).rp s v__law_loose F ∧ True) (Ro := (fun (r : Unit) (v : V) (F : Hp) (O : Own) => False)) hl41 (ei_rng2O (ea_cons ev_i (ea_cons (ev_v (R := rInt) rfl (Rep.mono rInt (s31.trans s36) f13)) ea_nil)) hc39) tg_n (fun Fe44 e44 => ⟨v38, _, rfl, rfl, (Rep.mono rS e44 f37), trivial⟩) ?_ ?_)
    · refine ⟨fun s45 es46 σ9 Fe47 O9 e47 ⟨v48, w49, hs50, ho51, f52, _⟩ => ?_, fun r9 er9 v9 F9 O9 e9 hr9 => ?_⟩
      · subst hs50 ho51
        have h := hk42 s45 es46
        refine nx_of ?_
        obtain ⟨c53, hc53, h⟩ := bsome h
        obtain rfl := Option.some.inj h
        refine sx_ret (R := (rT2 rS rS)) (ev_tup2 (ea_cons (ev_m (ev_cs (ev_ch (c := 32) (by decide +kernel) (by decide))) (ea_cons (ev_spn (ev_v (R := (rL rS)) rfl (Rep.mono (rL rS) (s36.trans e47) f32))) ea_nil) (m_join hc53)) (ea_cons (ev_v (R := rS) rfl f52) ea_nil))) fun v54 Fs55 s55 f56 => ?_
        exact rt_val k (fun _ => f56)
      · exact hr9.elim
    · rintro s57 a58 σ9 σ8 Fe59 Fe60 O9 o9 D9 ha9 e59 e60 ⟨v62, w63, hs64, ho65, f66, _⟩ ⟨v67, zs, f68⟩ h acc61
      subst hs64 ho65
      subst zs
      obtain ⟨r69, hr69, h⟩ := bsome h
      obtain ⟨c70, hc70, h⟩ := bsome h
      obtain ⟨c71, hc71, h⟩ := bsome h
      obtain ⟨c72, hc72, h⟩ := bsome h
      obtain ⟨c73, hc73, h⟩ := bsome h
      obtain ⟨c74, hc74, h⟩ := bsome h
      obtain ⟨x75, hx75, h⟩ := lt_e h
      refine sx_asg (R := rS) (ev_is (ev_op (ev_op (ev_v (R := rS) rfl (Rep.mono rS e60 f66)) (ev_op (ev_cs (ev_ch (c := 32) (by decide +kernel) (by decide))) (ev_op ev_i (ev_op (ev_call (P := P__law_mixed) (ea_cons (ev_v (R := rInt) rfl (Rep.mono rInt ((((s12.trans s31).trans s36).trans e59).trans e60) f__law_cell)) (ea_cons (ev_op ev_i (ev_v (R := rInt) rfl f68) o_add) ea_nil)) ⟨_, _, _, rfl, hr69, rfl⟩) ev_i (o_modO hc70)) o_add) (o_repS hc71)) (o_catS hc72)) (ev_op (ev_spn (ev_v (R := (rL rS)) rfl (Rep.mono (rL rS) ((s36.trans e59).trans e60) f32))) (ev_v (R := rInt) rfl f68) (o_ixL hc73)) (o_catS hc74)) hx75) fun v78 Fs76 s76 f77 => ?_
      obtain rfl := Option.some.inj h
      exact (acc61.nx _ rfl _ _ _ s76 ⟨v78, _, rfl, rfl, f77, trivial⟩).1

/-! _law_name -/
abbrev s__law_name : Stmt := top 23
abbrev N__law_name : List Str := ["_law_cell", "_law_letters", "_law_k"]
theorem sc__law_name : FnScope N__law_name ["_law_cell"] (defScope s__law_name) := ⟨rfl, rfl, rfl, by decide +kernel, rfl, by decide +kernel, by decide +kernel⟩
def m__law_name (x__law_cell : Int) : Option (List Nat) := lt ([97, 98, 99, 100, 101, 102, 103, 104, 105, 106, 107, 108, 109, 110, 111, 112, 113, 114, 115, 116, 117, 118, 119, 120, 121, 122, 65, 66, 67, 68, 69, 70, 71, 72, 73, 74, 75, 76, 77, 78, 79, 80, 81, 82, 83, 84, 85, 86, 87, 88, 89, 90, 48, 49, 50, 51, 52, 53, 54, 55, 56, 57]) fun x10 => (modO x__law_cell (12 : Int)).bind fun c14 => (rngO 0 ((1 : Int) + c14)).bind fun c15 => (mapF (fun (a16 : Int) => (m__law_mixed (x__law_cell) (a16)).bind fun r24 => (modO r24 (62 : Int)).bind fun c25 => (ixO x10 c25).bind fun c26 => some (some [c26])) c15).bind fun y28 => (joinO [] y28).bind fun c29 => some c29
def P__law_name (As : List Ar) (C : Ar) : Prop := ∃ (x__law_cell : Int) (r : List Nat), As = [val rInt x__law_cell] ∧ m__law_name x__law_cell = some r ∧ C = val rS r
theorem ok__law_name (T : Top n K mg) (D : Df K mg "_law_name" s__law_name) (G__law_mixed : Cal P w K mg base 1 "_law_mixed" ["_law_cell", "_law_k"] (spG (P__law_mixed))) : Cal P w K mg base 2 "_law_name" ["_law_cell"] (spG (P__law_name)) := by
  have SC := sc__law_name
  have h1n := T.one
  refine cal_of (N := N__law_name) D SC (fun _ _ _ _ _ _ us hl => match us, hl with | [_], _ => rfl) (fun vs H Q E h => ?_) (fun f cdv A outer s H vs Q E hr h => ?_)
  · obtain ⟨F0, As, C, ⟨x__law_cell, r, rfl, h, rfl⟩, e0, ha, k⟩ := h
    exact alla_len ha
  · obtain ⟨F0, As, C, ⟨x__law_cell, r, rfl, h, rfl⟩, e0, ha, k⟩ := h
    obtain ⟨v__law_cell, rfl, f__law_cell⟩ := alla1 ha
    refine ⟨_, (pss_cons (ps_set (i := 1) SC.nd rfl (Or.inr rfl) pe_str) (pss_one (ps_ret (pe_bm PySem.F.plainAttrs_str PySem.F.slot_str_join PySem.F.type_str_join mt_mJoin pe_str (pa_cons (pe_lc (own := [("_law_k", 2)]) (g := gName 2) (tt := tYes) rfl SC.nd (pi_range1 (by rfl) T.b_range (pa_cons (pe_op op_xAdd pe_int (pe_op op_xMod (pv 0) pe_int)) pa_nil)) (blkOk_by (own := [("_law_k", 2)]) (N := N__law_name) (sc := defScope s__law_name) (by decide +kernel)) (fun _ _ _ _ _ => (pg_name (i := 2) SC.nd rfl (Or.inl rfl))) (fun _ _ _ _ _ => pts_nil) (fun _ _ _ _ _ => (pe_ix ix_str (pv 1) (pe_op op_xMod (pe_cal G__law_mixed (hr.mono (by decide)) rfl (pa_cons (pv 0) (pa_cons (pv 2) pa_nil))) pe_int) (fun _ _ => rfl)))) pa_nil))))), ?_⟩
    refine (show Sx ⟨F0, H⟩ _ _ [some v__law_cell, none, none] F0 [] from ?_) H (At.start e0)
    have f__law_cell : (rInt).rp x__law_cell v__law_cell F0 := f__law_cell
    obtain ⟨x10, hx10, h⟩ := lt_e h
    refine sx_seq (sx_asg (R := rS) (ev_is (ev_s (l := [97, 98, 99, 100, 101, 102, 103, 104, 105, 106, 107, 108, 109, 110, 111, 112, 113, 114, 115, 116, 117, 118, 119, 120, 121, 122, 65, 66, 67, 68, 69, 70, 71, 72, 73, 74, 75, 76, 77, 78, 79, 80, 81, 82, 83, 84, 85, 86, 87, 88, 89, 90, 48, 49, 50, 51, 52, 53, 54, 55, 56, 57]) (by decide +kernel) (by decide +kernel)) hx10) fun v13 Fs11 s11 f12 => nx_of ?_)
    obtain ⟨c14, hc14, h⟩ := bsome h
    obtain ⟨c15, hc15, h⟩ := bsome h
    obtain ⟨y28, hy28, h⟩ := bsome h
    obtain ⟨c29, hc29, h⟩ := bsome h
    obtain rfl := Option.some.inj h
    refine sx_ret (R := rS) (ev_m (ev_s (l := []) (by decide +kernel) (by decide +kernel)) (ea_cons (ev_nspn (ev_lc (R' := rS) hy28 (ei_rng1O (ea_cons (ev_op ev_i (ev_op (ev_v (R := rInt) rfl (Rep.mono rInt s11 f__law_cell)) ev_i (o_modO hc14)) o_add) ea_nil) hc15) tg_n (fun a16 σ9 F17 F18 ob ha9 e19 e20 ⟨v21, zs, f22⟩ hb23 => by
    subst zs
    obtain ⟨r24, hr24, hb23⟩ := bsome hb23
    obtain ⟨c25, hc25, hb23⟩ := bsome hb23
    obtain ⟨c26, hc26, hb23⟩ := bsome hb23
    obtain rfl := Option.some.inj hb23
    exact ⟨rfl, et_yes, fun b eb => by cases eb; exact (ev_cs (ev_op (ev_v (R := rS) rfl (Rep.mono rS (e19.trans e20) f12)) (ev_op (ev_call (P := P__law_mixed) (ea_cons (ev_v (R := rInt) rfl (Rep.mono rInt ((s11.trans e19).trans e20) f__law_cell)) (ea_cons (ev_v (R := rInt) rfl f22) ea_nil)) ⟨_, _, _, rfl, hr24, rfl⟩) ev_i (o_modO hc25)) (o_ixS hc26)))⟩))) ea_nil) (m_join hc29)) fun v30 Fs31 s31 f32 => ?_
    exact rt_val k (fun _ => f32)

/-! _law_cells -/
abbrev s__law_cells : Stmt := top 24
abbrev N__law_cells : List Str := ["_law_cell", "_law_texts", "_law_row", "_law_k", "_law_number", "_law_text"]
theorem sc__law_cells : FnScope N__law_cells ["_law_cell"] (defScope s__law_cells) := ⟨rfl, rfl, rfl, by decide +kernel, rfl, by decide +kernel, by decide +kernel⟩
def m__law_cells (x__law_cell : Int) : Option ((List Nat × List (List Nat))) := lt ([] : List (List Nat)) fun x10 => lt [124] fun x15 => (modO x__law_cell (4 : Int)).bind fun c19 => (rngO 0 ((1 : Int) + c19)).bind fun c20 => fwd (loop (ρ := Unit) (fun (s42 : (List (List Nat)) × (List Nat)) (a43 : Int) => (m__law_mixed (x__law_cell) ((a43 + (7 : Int)))).bind fun r58 => lt r58 fun x59 => (modO x59 (8 : Int)).bind fun c63 => (ixO ([[], [97], [97, 124, 98], [124], [45, 45, 58], [120, 32, 92, 121], [99, 32, 124, 32, 100], [122]] : List (List Nat)) c63).bind fun c64 => lt c64 fun x65 => (appO s42.1 x65).bind fun y69 => (divO x59 (8 : Int)).bind fun c75 => (modO c75 (3 : Int)).bind fun c76 => (repS [32] c76).bind fun c77 => (catS s42.2 c77).bind fun c78 => (rplO [124] [92, 124] x65).bind fun c79 => (catS c78 c79).bind fun c80 => (divO x59 (24 : Int)).bind fun c81 => (modO c81 (3 : Int)).bind fun c82 => (repS [32] c82).bind fun c83 => (catS c80 c83).bind fun c84 => (catS c84 [124]).bind fun c85 => lt c85 fun x86 => some (Fw.nx (y69, x86))) c20 (x10, x15)) (fun (s26 : (List (List Nat)) × (List Nat)) => some (s26.2, s26.1)) (fun (r : Unit) => none)
def P__law_cells (As : List Ar) (C : Ar) : Prop := ∃ (x__law_cell : Int) (r : (List Nat × List (List Nat))), As = [val rInt x__law_cell] ∧ m__law_cells x__law_cell = some r ∧ C = val (rT2 rS (rL rS)) r
theorem ok__law_cells (T : Top n K mg) (D : Df K mg "_law_cells" s__law_cells) (G__law_mixed : Cal P w K mg base 1 "_law_mixed" ["_law_cell", "_law_k"] (spG (P__law_mixed))) : CalN n P w K mg base 2 "_law_cells" ["_law_cell"] (spG (P__law_cells)) := by
  have SC := sc__law_cells
  have h1n := T.one
  refine calN_of (N := N__law_cells) D SC (fun _ _ _ _ _ _ us hl => match us, hl with | [_], _ => rfl) (fun vs H Q E h => ?_) (fun f cdv A outer s H vs Q E hr h => ?_)
  · obtain ⟨F0, As, C, ⟨x__law_cell, r, rfl, h, rfl⟩, e0, ha, k⟩ := h
    exact alla_len ha
  · obtain ⟨F0, As, C, ⟨x__law_cell, r, rfl, h, rfl⟩, e0, ha, k⟩ := h
    obtain ⟨v__law_cell, rfl, f__law_cell⟩ := alla1 ha
    refine ⟨_, (psn_cons (tkS (ps_set (i := 1) SC.nd rfl (Or.inl rfl) (pe_lst pa_nil))) (psn_cons (tkS (ps_set (i := 2) SC.nd rfl (Or.inl rfl) pe_str)) (psn_cons (psn_for PassesOwn.never rfl (tkI (pi_range1 (by rfl) T.b_range (pa_cons (pe_op op_xAdd pe_int (pe_op op_xMod (pv 0) pe_int)) pa_nil))) (pg_name (i := 3) SC.nd rfl (Or.inl rfl)) (psn_cons (tkS (ps_set (i := 4) SC.nd rfl (Or.inl rfl) (pe_cal G__law_mixed (hr.mono (by decide)) rfl (pa_cons (pv 0) (pa_cons (pe_op op_xAdd (pv 3) pe_int) pa_nil))))) (psn_cons (tkS (ps_set (i := 5) SC.nd rfl (Or.inl rfl) (pe_ix ix_list (pe_lst (pa_cons pe_str (pa_cons pe_str (pa_cons pe_str (pa_cons pe_str (pa_cons pe_str (pa_cons pe_str (pa_cons pe_str (pa_cons pe_str pa_nil))))))))) (pe_op op_xMod (pv 4) pe_int) (fun _ _ => rfl)))) (psn_cons (tkS (ps_expr (pe_bm PySem.F.plainAttrs_list PySem.F.slot_list_append PySem.F.type_list_append mt_append (pv 1) (pa_cons (pv 5) pa_nil)))) (psn_one (psn_set (i := 2) SC.nd rfl (Or.inl rfl) (pen_op op_xCatS (pen_op op_xCatS (pen_op op_xCatS (tkE (pe_op op_xCatS (pv 2) (pe_op op_xRepS pe_str (pe_op op_xMod (pe_op op_xDiv (pv 4) pe_int) pe_int)))) (pen_repC h1n (tkE (pv 5)))) (tkE (pe_op op_xRepS pe_str (pe_op op_xMod (pe_op op_xDiv (pv 4) pe_int) pe_int)))) (tkE pe_str)))))))) (tkSs (pss_one (ps_ret (pe_tup (pa_cons (pv 2) (pa_cons (pv 1) pa_nil))))))))), ?_⟩
    refine (show Sx ⟨F0, H⟩ _ _ [some v__law_cell, none, none, none, none, none] F0 [] from ?_) H (At.start e0)
    have f__law_cell : (rInt).rp x__law_cell v__law_cell F0 := f__law_cell
    obtain ⟨x10, hx10, h⟩ := lt_e h
    refine sx_seq (sx_asgN (ev_isN (ev_lst (R := rS) (as := []) ea_nil (show (0 : Nat) ≤ limL by decide)) hx10) fun p13 xs14 Fs11 s11 f12 => nx_of ?_)
    obtain ⟨x15, hx15, h⟩ := lt_e h
    refine sx_seq (sx_asg (R := rS) (ev_is (ev_s (l := [124]) (by decide +kernel) (by decide +kernel)) hx15) fun v18 Fs16 s16 f17 => nx_of ?_)
    obtain ⟨c19, hc19, h⟩ := bsome h
    obtain ⟨c20, hc20, h⟩ := bsome h
    obtain ⟨w21, hl22, hk23, hr24⟩ := fwd_o h
    refine sx_seq (sx_for (J := fun (s : (List (List Nat)) × (List Nat)) σ F O => ∃ (x__law_texts : List V) (v__law_row : V) (w__law_k : Option V) (w__law_number : Option V) (w__law_text : Option V), σ = [some v__law_cell, some (.ref p13), some v__law_row, w__law_k, w__law_number, w__law_text] ∧ O = [(p13, .lst x__law_texts)] ∧ AllB rS s.1 x__law_texts F ∧ (rS).rp s.2 v__law_row F ∧ True) (Ro := (fun (r : Unit) (v : V) (F : Hp) (O : Own) => False)) hl22 (ei_rng1O (ea_cons (ev_op ev_i (ev_op (ev_v (R := rInt) rfl (Rep.mono rInt (s11.trans s16) f__law_cell)) ev_i (o_modO hc19)) o_add) ea_nil) hc20) tg_n (fun Fe25 e25 => ⟨xs14, v18, _, _, _, rfl, rfl, (AllB.mono (s16.trans e25) f12), (Rep.mono rS e25 f17), trivial⟩) ?_ ?_)
    · refine ⟨fun s26 es27 σ9 Fe28 O9 e28 ⟨xs29, v30, w31, w32, w33, hs34, ho35, f36, f37, _⟩ => ?_, fun r9 er9 v9 F9 O9 e9 hr9 => ?_⟩
      · subst hs34 ho35
        have h := hk23 s26 es27
        refine nx_of ?_
        refine sx_frzI (n := 0) rfl fun n38 => ?_
        obtain rfl := Option.some.inj h
        refine sx_ret (R := (rT2 rS (rL rS))) (ev_tup2 (ea_cons (ev_v (R := rS) rfl (Rep.mono rS (same_new n38) f37)) (ea_cons (ev_v (R := (rL rS)) rfl (rp_frz n38 f36)) ea_nil))) fun v39 Fs40 s40 f41 => ?_
        exact rt_val k (fun _ => f41)
      · exact hr9.elim
    · rintro s42 a43 σ9 σ8 Fe44 Fe45 O9 o9 D9 ha9 e44 e45 ⟨xs47, v48, w49, w50, w51, hs52, ho53, f54, f55, _⟩ ⟨v56, zs, f57⟩ h acc46
      subst hs52 ho53
      subst zs
      obtain ⟨r58, hr58, h⟩ := bsome h
      obtain ⟨x59, hx59, h⟩ := lt_e h
      refine sx_seq (sx_asg (R := rInt) (ev_is (ev_call (P := P__law_mixed) (ea_cons (ev_v (R := rInt) rfl (Rep.mono rInt (((s11.trans s16).trans e44).trans e45) f__law_cell)) (ea_cons (ev_op (ev_v (R := rInt) rfl f57) ev_i o_add) ea_nil)) ⟨_, _, _, rfl, hr58, rfl⟩) hx59) fun v62 Fs60 s60 f61 => nx_of ?_)
      obtain ⟨c63, hc63, h⟩ := bsome h
      obtain ⟨c64, hc64, h⟩ := bsome h
      obtain ⟨x65, hx65, h⟩ := lt_e h
      refine sx_seq (sx_asg (R := rS) (ev_is (ev_op (ev_nspn (ev_lst (R := rS) (as := [[], [97], [97, 124, 98], [124], [45, 45, 58], [120, 32, 92, 121], [99, 32, 124, 32, 100], [122]]) (ea_cons (ev_s (l := []) (by decide +kernel) (by decide +kernel)) (ea_cons (ev_cs (ev_ch (c := 97) (by decide +kernel) (by decide))) (ea_cons (ev_s (l := [97, 124, 98]) (by decide +kernel) (by decide +kernel)) (ea_cons (ev_cs (ev_ch (c := 124) (by decide +kernel) (by decide))) (ea_cons (ev_s (l := [45, 45, 58]) (by decide +kernel) (by decide +kernel)) (ea_cons (ev_s (l := [120, 32, 92, 121]) (by decide +kernel) (by decide +kernel)) (ea_cons (ev_s (l := [99, 32, 124, 32, 100]) (by decide +kernel) (by decide +kernel)) (ea_cons (ev_cs (ev_ch (c := 122) (by decide +kernel) (by decide))) ea_nil)))))))) (show (8 : Nat) ≤ limL by decide))) (ev_op (ev_v (R := rInt) rfl f61) ev_i (o_modO hc63)) (o_ixL hc64)) hx65) fun v68 Fs66 s66 f67 => nx_of ?_)
      obtain ⟨y69, hy69, h⟩ := bsome h
      obtain ⟨hz70, he71⟩ := iteo hy69
      refine sx_seq (sx_app (n := 0) rfl rfl (AllB.mono ((e45.trans s60).trans s66) f54) (ev_v (R := rS) rfl f67) hz70 fun v72 Fs73 s73 f74 => nx_of ?_)
      obtain ⟨c75, hc75, h⟩ := bsome h
      obtain ⟨c76, hc76, h⟩ := bsome h
      obtain ⟨c77, hc77, h⟩ := bsome h
      obtain ⟨c78, hc78, h⟩ := bsome h
      obtain ⟨c79, hc79, h⟩ := bsome h
      obtain ⟨c80, hc80, h⟩ := bsome h
      obtain ⟨c81, hc81, h⟩ := bsome h
      obtain ⟨c82, hc82, h⟩ := bsome h
      obtain ⟨c83, hc83, h⟩ := bsome h
      obtain ⟨c84, hc84, h⟩ := bsome h
      obtain ⟨c85, hc85, h⟩ := bsome h
      obtain ⟨x86, hx86, h⟩ := lt_e h
      refine sx_asg (R := rS) (ev_is (ev_op (ev_op (ev_op (ev_op (ev_v (R := rS) rfl (Rep.mono rS (((e45.trans s60).trans s66).trans s73) f55)) (ev_op (ev_cs (ev_ch (c := 32) (by decide +kernel) (by decide))) (ev_op (ev_op (ev_v (R := rInt) rfl (Rep.mono rInt (s66.trans s73) f61)) ev_i (o_divO hc75)) ev_i (o_modO hc76)) (o_repS hc77)) (o_catS hc78)) (ev_rep (y := [124]) (z := [92, 124]) (y' := "|") (z' := "\\|") (by decide +kernel) (by decide +kernel) (by decide) (by decide +kernel) hc79 (ev_v (R := rS) rfl (Rep.mono rS s73 f67))) (o_catS hc80)) (ev_op (ev_cs (ev_ch (c := 32) (by decide +kernel) (by decide))) (ev_op (ev_op (ev_v (R := rInt) rfl (Rep.mono rInt (s66.trans s73) f61)) ev_i (o_divO hc81)) ev_i (o_modO hc82)) (o_repS hc83)) (o_catS hc84)) (ev_cs (ev_ch (c := 124) (by decide +kernel) (by decide))) (o_catS hc85)) hx86) fun v89 Fs87 s87 f88 => ?_
      obtain rfl := Option.some.inj h
      exact (acc46.nx _ rfl _ _ _ (((s60.trans s66).trans s73).trans s87) ⟨(xs47 ++ [v72]), v89, _, _, _, rfl, rfl, (AllB.mono s87 (he71 ▸ f74)), f88, trivial⟩).1

/-! _law_built -/
abbrev s__law_built : Stmt := top 25
abbrev N__law_built : List Str := ["_law_cell", "_law_more", "_law_neat", "_law_loose", "_law_blanks", "_law_far", "_law_name_here", "_law_rest", "_law_gap", "_law_level", "_law_row", "_law_texts", "_law_target", "_law_sign"]
theorem sc__law_built : FnScope N__law_built ["_law_cell", "_law_more"] (defScope s__law_built) := ⟨rfl, rfl, rfl, by decide +kernel, rfl, by decide +kernel, by decide +kernel⟩
def m__law_built (x__law_cell : Int) (x__law_more : Int) : Option ((List Nat × PyData)) := (m__law_words (x__law_more)).bind fun r10 => lt r10 fun x11 => (divO x__law_cell (9 : Int)).bind fun c17 => (modO c17 (4 : Int)).bind fun c18 => (repS [32] c18).bind fun c19 => lt c19 fun x20 => (divO x__law_cell (36 : Int)).bind fun c24 => (modO c24 (9 : Int)).bind fun c25 => lt c25 fun x26 => (m__law_name (x__law_more)).bind fun r30 => lt r30 fun x31 => (modO x__law_cell (9 : Int)).bind fun c35 => cnd (decide (c35 = (0 : Int))) ((repS [32] x26).bind fun c39 => some (c39, (PyData.tuple [(encS [101, 109, 112, 116, 121])]))) ((modO x__law_cell (9 : Int)).bind fun c43 => cnd (decide (c43 = (1 : Int))) ((catS [32] x11.2).bind fun c47 => (catS [62, 32] x11.2).bind fun c48 => (catS [45, 32] x11.1).bind fun c49 => (divO x__law_cell (324 : Int)).bind fun c50 => (modO c50 (5 : Int)).bind fun c51 => (ixO ([[], x11.1, c47, c48, c49] : List (List Nat)) c51).bind fun c52 => lt c52 fun x53 => (divO x__law_cell (1620 : Int)).bind fun c57 => (modO c57 (2 : Int)).bind fun c58 => lt ((1 : Int) - (if ((decide (c58 = (1 : Int))) && (!decide ((cutL x53 none (some (1 : Int))) ∈ ([[], [32]] : List (List Nat))))) = true then (1 : Int) else 0)) fun x59 => (repS [32] x59).bind fun c63 => (catS [62] c63).bind fun c64 => (catS c64 x53).bind fun c65 => (catS c65 x20).bind fun c66 => (catS x53 x20).bind fun c67 => some (c66, (PyData.tuple [(encS [113, 117, 111, 116, 101]), (encS c67)]))) ((modO x__law_cell (9 : Int)).bind fun c71 => cnd (decide (c71 = (2 : Int))) ((catS [126, 126, 126] x20).bind fun c75 => some (c75, (PyData.tuple [(encS [102, 101, 110, 99, 101])]))) ((modO x__law_cell (9 : Int)).bind fun c79 => cnd (decide (c79 = (3 : Int))) ((divO x__law_cell (324 : Int)).bind fun c83 => (modO c83 (3 : Int)).bind fun c84 => lt ((1 : Int) + c84) fun x85 => (repS [61] x85).bind fun c89 => (divO x__law_cell (36 : Int)).bind fun c90 => (modO c90 (3 : Int)).bind fun c91 => (repS [32] ((1 : Int) + c91)).bind fun c92 => (catS c89 c92).bind fun c93 => (catS c93 x11.2).bind fun c94 => (catS c94 x20).bind fun c95 => some (c95, (PyData.tuple [(encS [104, 101, 97, 100, 105, 110, 103]), (PyData.int x85), (encS x11.1)]))) ((modO x__law_cell (9 : Int)).bind fun c99 => cnd (decide (c99 = (4 : Int))) ((m__law_cells (x__law_more)).bind fun r103 => lt r103 fun x104 => (catS x104.1 x20).bind fun c110 => some (c110, (PyData.tuple [(encS [99, 101, 108, 108, 115]), ((fun as => PyData.list (List.map encS as)) x104.2)]))) ((modO x__law_cell (9 : Int)).bind fun c114 => cnd (decide (c114 = (5 : Int))) ((catS [91, 94] x31).bind fun c118 => (catS c118 [93, 58, 32]).bind fun c119 => (catS c119 x20).bind fun c120 => (catS c120 x11.2).bind fun c121 => (catS c121 x20).bind fun c122 => some (c122, (PyData.tuple [(encS [110, 111, 116, 101]), (encS (lowerS x31)), (encS x11.1)]))) ((modO x__law_cell (9 : Int)).bind fun c126 => cnd (decide (c126 = (6 : Int))) ((m__law_word (x__law_more) ((2 : Int))).bind fun r130 => lt r130 fun x131 => (catS [91] x31).bind fun c135 => (catS c135 [93, 58, 32]).bind fun c136 => (catS c136 x20).bind fun c137 => (catS c137 x131).bind fun c138 => (catS c138 x20).bind fun c139 => some (c139, (PyData.tuple [(encS [110, 97, 109, 101]), (encS (lowerS x31)), (encS x131)]))) ((modO x__law_cell (9 : Int)).bind fun c143 => cnd (decide (c143 = (7 : Int))) ((divO x__law_cell (324 : Int)).bind fun c147 => (modO c147 (2 : Int)).bind fun c148 => (ixO [45, 43] c148).bind fun c149 => lt c149 fun x150 => (repS [32] x26).bind fun c154 => (catS c154 [x150]).bind fun c155 => (divO x__law_cell (648 : Int)).bind fun c156 => (modO c156 (3 : Int)).bind fun c157 => (repS [32] ((1 : Int) + c157)).bind fun c158 => (catS c155 c158).bind fun c159 => (catS c159 x11.2).bind fun c160 => (catS c160 x20).bind fun c161 => some (c161, (PyData.tuple [(encS [105, 116, 101, 109]), (PyData.int x26), (encC x150), (encS x11.1)]))) ((repS [32] x26).bind fun c165 => (catS c165 x11.2).bind fun c166 => (catS c166 x20).bind fun c167 => some (c167, (PyData.tuple [(encS [112, 108, 97, 105, 110]), (PyData.int x26), (encS x11.1)]))))))))))
def P__law_built (As : List Ar) (C : Ar) : Prop := ∃ (x__law_cell : Int) (x__law_more : Int) (r : (List Nat × PyData)), As = [val rInt x__law_cell, val rInt x__law_more] ∧ m__law_built x__law_cell x__law_more = some r ∧ C = val (rT2 rS rD) r
theorem ok__law_built (T : Top n K mg) (D : Df K mg "_law_built" s__law_built) (G__law_words : CalN n P w K mg base 3 "_law_words" ["_law_cell"] (spG (P__law_words))) (G__law_name : Cal P w K mg base 2 "_law_name" ["_law_cell"] (spG (P__law_name))) (G__law_cells : CalN n P w K mg base 2 "_law_cells" ["_law_cell"] (spG (P__law_cells))) (G__law_word : CalN n P w K mg base 2 "_law_word" ["_law_cell", "_law_k"] (spG (P__law_word))) : CalN n P w K mg base 4 "_law_built" ["_law_cell", "_law_more"] (spG (P__law_built)) := by
  have SC := sc__law_built
  have h1n := T.one
  refine calN_of (N := N__law_built) D SC (fun _ _ _ _ _ _ us hl => match us, hl with | [_, _], _ => rfl) (fun vs H Q E h => ?_) (fun f cdv A outer s H vs Q E hr h => ?_)
  · obtain ⟨F0, As, C, ⟨x__law_cell, x__law_more, r, rfl, h, rfl⟩, e0, ha, k⟩ := h
    exact alla_len ha
  · obtain ⟨F0, As, C, ⟨x__law_cell, x__law_more, r, rfl, h, rfl⟩, e0, ha, k⟩ := h
    obtain ⟨v__law_cell, v__law_more, rfl, f__law_cell, f__law_more⟩ := alla2 ha
    refine ⟨_, (psn_cons (psn_asg (pen_cal G__law_words (hr.mono (by decide)) rfl (tkA (pa_cons (pv 1) pa_nil))) (pg_tup rfl (pgs_cons (pg_name (i := 2) SC.nd rfl (Or.inl rfl)) (pgs_cons (pg_name (i := 3) SC.nd rfl (Or.inl rfl)) pgs_nil)))) (psn_cons (tkS (ps_set (i := 4) SC.nd rfl (Or.inl rfl) (pe_op op_xRepS pe_str (pe_op op_xMod (pe_op op_xDiv (pv 0) pe_int) pe_int)))) (psn_cons (tkS (ps_set (i := 5) SC.nd rfl (Or.inl rfl) (pe_op op_xMod (pe_op op_xDiv (pv 0) pe_int) pe_int))) (psn_cons (tkS (ps_set (i := 6) SC.nd rfl (Or.inl rfl) (pe_cal G__law_name (hr.mono (by decide)) rfl (pa_cons (pv 1) pa_nil)))) (psn_cons (tkS (ps_if (pt_cmpR op_eq (pe_op op_xMod (pv 0) pe_int) pe_int (nomark _)) (pss_one (ps_ret (pe_tup (pa_cons (pe_op op_xRepS pe_str (pv 5)) (pa_cons (pe_tup (pa_cons pe_str pa_nil)) pa_nil))))) pss_nil)) (psn_cons (tkS (ps_if (pt_cmpR op_eq (pe_op op_xMod (pv 0) pe_int) pe_int (nomark _)) (pss_cons (ps_set (i := 7) SC.nd rfl (Or.inl rfl) (pe_ix ix_list (pe_lst (pa_cons pe_str (pa_cons (pv 2) (pa_cons (pe_op op_xCatS pe_str (pv 3)) (pa_cons (pe_op op_xCatS pe_str (pv 3)) (pa_cons (pe_op op_xCatS pe_str (pv 2)) pa_nil)))))) (pe_op op_xMod (pe_op op_xDiv (pv 0) pe_int) pe_int) (fun _ _ => rfl))) (pss_cons (ps_set (i := 8) SC.nd rfl (Or.inl rfl) (pe_op op_xSub pe_int (pe_callTy call_cInt (by rfl) T.b_int (by decide +kernel) (pa_cons (pe_and (pe_cmpR op_eq (pe_op op_xMod (pe_op op_xDiv (pv 0) pe_int) pe_int) pe_int (nomark _)) (pe_one (pe_cmpR op_notIn_seq (pe_slice sl_str (pv 7) po_none (po_some pe_int)) (pe_tup (pa_cons pe_str (pa_cons pe_str pa_nil))) rfl))) pa_nil)))) (pss_one (ps_ret (pe_tup (pa_cons (pe_op op_xCatS (pe_op op_xCatS (pe_op op_xCatS pe_str (pe_op op_xRepS pe_str (pv 8))) (pv 7)) (pv 4)) (pa_cons (pe_tup (pa_cons pe_str (pa_cons (pe_op op_xCatS (pv 7) (pv 4)) pa_nil))) pa_nil))))))) pss_nil)) (psn_cons (tkS (ps_if (pt_cmpR op_eq (pe_op op_xMod (pv 0) pe_int) pe_int (nomark _)) (pss_one (ps_ret (pe_tup (pa_cons (pe_op op_xCatS pe_str (pv 4)) (pa_cons (pe_tup (pa_cons pe_str pa_nil)) pa_nil))))) pss_nil)) (psn_cons (tkS (ps_if (pt_cmpR op_eq (pe_op op_xMod (pv 0) pe_int) pe_int (nomark _)) (pss_cons (ps_set (i := 9) SC.nd rfl (Or.inl rfl) (pe_op op_xAdd pe_int (pe_op op_xMod (pe_op op_xDiv (pv 0) pe_int) pe_int))) (pss_one (ps_ret (pe_tup (pa_cons (pe_op op_xCatS (pe_op op_xCatS (pe_op op_xCatS (pe_op op_xRepS pe_str (pv 9)) (pe_op op_xRepS pe_str (pe_op op_xAdd pe_int (pe_op op_xMod (pe_op op_xDiv (pv 0) pe_int) pe_int)))) (pv 3)) (pv 4)) (pa_cons (pe_tup (pa_cons pe_str (pa_cons (pv 9) (pa_cons (pv 2) pa_nil)))) pa_nil)))))) pss_nil)) (psn_cons (psn_if (tkT (pt_cmpR op_eq (pe_op op_xMod (pv 0) pe_int) pe_int (nomark _))) (psn_cons (psn_asg (pen_cal G__law_cells (hr.mono (by decide)) rfl (tkA (pa_cons (pv 1) pa_nil))) (pg_tup rfl (pgs_cons (pg_name (i := 10) SC.nd rfl (Or.inl rfl)) (pgs_cons (pg_name (i := 11) SC.nd rfl (Or.inl rfl)) pgs_nil)))) (tkSs (pss_one (ps_ret (pe_tup (pa_cons (pe_op op_xCatS (pv 10) (pv 4)) (pa_cons (pe_tup (pa_cons pe_str (pa_cons (pv 11) pa_nil))) pa_nil))))))) (tkSs pss_nil)) (psn_cons (tkS (ps_if (pt_cmpR op_eq (pe_op op_xMod (pv 0) pe_int) pe_int (nomark _)) (pss_one (ps_ret (pe_tup (pa_cons (pe_op op_xCatS (pe_op op_xCatS (pe_op op_xCatS (pe_op op_xCatS (pe_op op_xCatS pe_str (pv 6)) pe_str) (pv 4)) (pv 3)) (pv 4)) (pa_cons (pe_tup (pa_cons pe_str (pa_cons (pe_bm0 PySem.F.plainAttrs_str PySem.F.slot_str_lower PySem.F.type_str_lower mt_mLower (pv 6)) (pa_cons (pv 2) pa_nil)))) pa_nil))))) pss_nil)) (psn_cons (psn_if (tkT (pt_cmpR op_eq (pe_op op_xMod (pv 0) pe_int) pe_int (nomark _))) (psn_cons (psn_set (i := 12) SC.nd rfl (Or.inl rfl) (pen_cal G__law_word (hr.mono (by decide)) rfl (tkA (pa_cons (pv 1) (pa_cons pe_int pa_nil))))) (tkSs (pss_one (ps_ret (pe_tup (pa_cons (pe_op op_xCatS (pe_op op_xCatS (pe_op op_xCatS (pe_op op_xCatS (pe_op op_xCatS pe_str (pv 6)) pe_str) (pv 4)) (pv 12)) (pv 4)) (pa_cons (pe_tup (pa_cons pe_str (pa_cons (pe_bm0 PySem.F.plainAttrs_str PySem.F.slot_str_lower PySem.F.type_str_lower mt_mLower (pv 6)) (pa_cons (pv 12) pa_nil)))) pa_nil))))))) (tkSs pss_nil)) (tkSs (pss_cons (ps_if (pt_cmpR op_eq (pe_op op_xMod (pv 0) pe_int) pe_int (nomark _)) (pss_cons (ps_set (i := 13) SC.nd rfl (Or.inl rfl) (pe_ix ix_str pe_str (pe_op op_xMod (pe_op op_xDiv (pv 0) pe_int) pe_int) (fun _ _ => rfl))) (pss_one (ps_ret (pe_tup (pa_cons (pe_op op_xCatS (pe_op op_xCatS (pe_op op_xCatS (pe_op op_xCatS (pe_op op_xRepS pe_str (pv 5)) (pv 13)) (pe_op op_xRepS pe_str (pe_op op_xAdd pe_int (pe_op op_xMod (pe_op op_xDiv (pv 0) pe_int) pe_int)))) (pv 3)) (pv 4)) (pa_cons (pe_tup (pa_cons pe_str (pa_cons (pv 5) (pa_cons (pv 13) (pa_cons (pv 2) pa_nil))))) pa_nil)))))) pss_nil) (pss_one (ps_ret (pe_tup (pa_cons (pe_op op_xCatS (pe_op op_xCatS (pe_op op_xRepS pe_str (pv 5)) (pv 3)) (pv 4)) (pa_cons (pe_tup (pa_cons pe_str (pa_cons (pv 5) (pa_cons (pv 2) pa_nil)))) pa_nil)))))))))))))))))), ?_⟩
    refine (show Sx ⟨F0, H⟩ _ _ [some v__law_cell, some v__law_more, none, none, none, none, none, none, none, none, none, none, none, none] F0 [] from ?_) H (At.start e0)
    have f__law_cell : (rInt).rp x__law_cell v__law_cell F0 := f__law_cell
    have f__law_more : (rInt).rp x__law_more v__law_more F0 := f__law_more
    obtain ⟨r10, hr10, h⟩ := bsome h
    obtain ⟨x11, hx11, h⟩ := lt_e h
    refine sx_seq (sx_asg2 (ev_is (ev_call (P := P__law_words) (ea_cons (ev_v (R := rInt) rfl f__law_more) ea_nil) ⟨_, _, rfl, hr10, rfl⟩) hx11) fun v13 v15 Fs12 s12 f14 f16 => nx_of ?_)
    obtain ⟨c17, hc17, h⟩ := bsome h
    obtain ⟨c18, hc18, h⟩ := bsome h
    obtain ⟨c19, hc19, h⟩ := bsome h
    obtain ⟨x20, hx20, h⟩ := lt_e h
    refine sx_seq (sx_asg (R := rS) (ev_is (ev_op (ev_cs (ev_ch (c := 32) (by decide +kernel) (by decide))) (ev_op (ev_op (ev_v (R := rInt) rfl (Rep.mono rInt s12 f__law_cell)) ev_i (o_divO hc17)) ev_i (o_modO hc18)) (o_repS hc19)) hx20) fun v23 Fs21 s21 f22 => nx_of ?_)
    obtain ⟨c24, hc24, h⟩ := bsome h
    obtain ⟨c25, hc25, h⟩ := bsome h
    obtain ⟨x26, hx26, h⟩ := lt_e h
    refine sx_seq (sx_asg (R := rInt) (ev_is (ev_op (ev_op (ev_v (R := rInt) rfl (Rep.mono rInt (s12.trans s21) f__law_cell)) ev_i (o_divO hc24)) ev_i (o_modO hc25)) hx26) fun v29 Fs27 s27 f28 => nx_of ?_)
    obtain ⟨r30, hr30, h⟩ := bsome h
    obtain ⟨x31, hx31, h⟩ := lt_e h
    refine sx_seq (sx_asg (R := rS) (ev_is (ev_call (P := P__law_name) (ea_cons (ev_v (R := rInt) rfl (Rep.mono rInt ((s12.trans s21).trans s27) f__law_more)) ea_nil) ⟨_, _, rfl, hr30, rfl⟩) hx31) fun v34 Fs32 s32 f33 => nx_of ?_)
    obtain ⟨c35, hc35, h⟩ := bsome h
    refine sx_seq (sx_if (et_b (ev_op (ev_op (ev_v (R := rInt) rfl (Rep.mono rInt (((s12.trans s21).trans s27).trans s32) f__law_cell)) ev_i (o_modO hc35)) ev_i o_eqI)) (fun z36 Fs37 s37 => ?_) (fun z36 Fs38 s38 => ?_))
    · have h := cnd_t h z36
      obtain ⟨c39, hc39, h⟩ := bsome h
      obtain rfl := Option.some.inj h
      refine sx_ret (R := (rT2 rS rD)) (ev_tup2 (ea_cons (ev_op (ev_cs (ev_ch (c := 32) (by decide +kernel) (by decide))) (ev_v (R := rInt) rfl (Rep.mono rInt (s32.trans s37) f28)) (o_repS hc39)) (ea_cons (ev_tupD (ds := [(encS [101, 109, 112, 116, 121])]) (ea_cons (ev_d (a := [101, 109, 112, 116, 121]) eS (ev_s (l := [101, 109, 112, 116, 121]) (by decide +kernel) (by decide +kernel))) ea_nil) (show (1 : Nat) ≤ limL by decide)) ea_nil))) fun v40 Fs41 s41 f42 => ?_
      exact rt_val k (fun _ => f42)
    · have h := cnd_f h z36
      refine sx_next ?_
      refine nx_of ?_
      obtain ⟨c43, hc43, h⟩ := bsome h
      refine sx_seq (sx_if (et_b (ev_op (ev_op (ev_v (R := rInt) rfl (Rep.mono rInt ((((s12.trans s21).trans s27).trans s32).trans s38) f__law_cell)) ev_i (o_modO hc43)) ev_i o_eqI)) (fun z44 Fs45 s45 => ?_) (fun z44 Fs46 s46 => ?_))
      · have h := cnd_t h z44
        obtain ⟨c47, hc47, h⟩ := bsome h
        obtain ⟨c48, hc48, h⟩ := bsome h
        obtain ⟨c49, hc49, h⟩ := bsome h
        obtain ⟨c50, hc50, h⟩ := bsome h
        obtain ⟨c51, hc51, h⟩ := bsome h
        obtain ⟨c52, hc52, h⟩ := bsome h
        obtain ⟨x53, hx53, h⟩ := lt_e h
        refine sx_seq (sx_asg (R := rS) (ev_is (ev_op (ev_nspn (ev_lst (R := rS) (as := [[], x11.1, c47, c48, c49]) (ea_cons (ev_s (l := []) (by decide +kernel) (by decide +kernel)) (ea_cons (ev_v (R := rS) rfl (Rep.mono rS ((((s21.trans s27).trans s32).trans s38).trans s45) f14)) (ea_cons (ev_op (ev_cs (ev_ch (c := 32) (by decide +kernel) (by decide))) (ev_v (R := rS) rfl (Rep.mono rS ((((s21.trans s27).trans s32).trans s38).trans s45) f16)) (o_catS hc47)) (ea_cons (ev_op (ev_s (l := [62, 32]) (by decide +kernel) (by decide +kernel)) (ev_v (R := rS) rfl (Rep.mono rS ((((s21.trans s27).trans s32).trans s38).trans s45) f16)) (o_catS hc48)) (ea_cons (ev_op (ev_s (l := [45, 32]) (by decide +kernel) (by decide +kernel)) (ev_v (R := rS) rfl (Rep.mono rS ((((s21.trans s27).trans s32).trans s38).trans s45) f14)) (o_catS hc49)) ea_nil))))) (show (5 : Nat) ≤ limL by decide))) (ev_op (ev_op (ev_v (R := rInt) rfl (Rep.mono rInt (((((s12.trans s21).trans s27).trans s32).trans s38).trans s45) f__law_cell)) ev_i (o_divO hc50)) ev_i (o_modO hc51)) (o_ixL hc52)) hx53) fun v56 Fs54 s54 f55 => nx_of ?_)
        obtain ⟨c57, hc57, h⟩ := bsome h
        obtain ⟨c58, hc58, h⟩ := bsome h
        obtain ⟨x59, hx59, h⟩ := lt_e h
        refine sx_seq (sx_asg (R := rInt) (ev_is (ev_op ev_i (ev_cb (ea_cons (ev_andP (ev_op (ev_op (ev_op (ev_v (R := rInt) rfl (Rep.mono rInt ((((((s12.trans s21).trans s27).trans s32).trans s38).trans s45).trans s54) f__law_cell)) ev_i (o_divO hc57)) ev_i (o_modO hc58)) ev_i o_eqI) (fun _ => (ev_op (ev_slS (ev_v (R := rS) rfl f55) ep_none (ep_some ev_i)) (ev_tupL (R := rS) (as := [[], [32]]) (ea_cons (ev_s (l := []) (by decide +kernel) (by decide +kernel)) (ea_cons (ev_s (l := [32]) (by decide +kernel) (by decide +kernel)) ea_nil)) (show (2 : Nat) ≤ limL by decide)) o_ninTS))) ea_nil) b_intB) o_sub) hx59) fun v62 Fs60 s60 f61 => nx_of ?_)
        obtain ⟨c63, hc63, h⟩ := bsome h
        obtain ⟨c64, hc64, h⟩ := bsome h
        obtain ⟨c65, hc65, h⟩ := bsome h
        obtain ⟨c66, hc66, h⟩ := bsome h
        obtain ⟨c67, hc67, h⟩ := bsome h
        obtain rfl := Option.some.inj h
        refine sx_ret (R := (rT2 rS rD)) (ev_tup2 (ea_cons (ev_op (ev_op (ev_op (ev_cs (ev_ch (c := 62) (by decide +kernel) (by decide))) (ev_op (ev_cs (ev_ch (c := 32) (by decide +kernel) (by decide))) (ev_v (R := rInt) rfl f61) (o_repS hc63)) (o_catS hc64)) (ev_v (R := rS) rfl (Rep.mono rS s60 f55)) (o_catS hc65)) (ev_v (R := rS) rfl (Rep.mono rS (((((s27.trans s32).trans s38).trans s45).trans s54).trans s60) f22)) (o_catS hc66)) (ea_cons (ev_tupD (ds := [(encS [113, 117, 111, 116, 101]), (encS c67)]) (ea_cons (ev_d (a := [113, 117, 111, 116, 101]) eS (ev_s (l := [113, 117, 111, 116, 101]) (by decide +kernel) (by decide +kernel))) (ea_cons (ev_d (a := c67) eS (ev_op (ev_v (R := rS) rfl (Rep.mono rS s60 f55)) (ev_v (R := rS) rfl (Rep.mono rS (((((s27.trans s32).trans s38).trans s45).trans s54).trans s60) f22)) (o_catS hc67))) ea_nil)) (show (2 : Nat) ≤ limL by decide)) ea_nil))) fun v68 Fs69 s69 f70 => ?_
        exact rt_val k (fun _ => f70)
      · have h := cnd_f h z44
        refine sx_next ?_
        refine nx_of ?_
        obtain ⟨c71, hc71, h⟩ := bsome h
        refine sx_seq (sx_if (et_b (ev_op (ev_op (ev_v (R := rInt) rfl (Rep.mono rInt (((((s12.trans s21).trans s27).trans s32).trans s38).trans s46) f__law_cell)) ev_i (o_modO hc71)) ev_i o_eqI)) (fun z72 Fs73 s73 => ?_) (fun z72 Fs74 s74 => ?_))
        · have h := cnd_t h z72
          obtain ⟨c75, hc75, h⟩ := bsome h
          obtain rfl := Option.some.inj h
          refine sx_ret (R := (rT2 rS rD)) (ev_tup2 (ea_cons (ev_op (ev_s (l := [126, 126, 126]) (by decide +kernel) (by decide +kernel)) (ev_v (R := rS) rfl (Rep.mono rS ((((s27.trans s32).trans s38).trans s46).trans s73) f22)) (o_catS hc75)) (ea_cons (ev_tupD (ds := [(encS [102, 101, 110, 99, 101])]) (ea_cons (ev_d (a := [102, 101, 110, 99, 101]) eS (ev_s (l := [102, 101, 110, 99, 101]) (by decide +kernel) (by decide +kernel))) ea_nil) (show (1 : Nat) ≤ limL by decide)) ea_nil))) fun v76 Fs77 s77 f78 => ?_
          exact rt_val k (fun _ => f78)
        · have h := cnd_f h z72
          refine sx_next ?_
          refine nx_of ?_
          obtain ⟨c79, hc79, h⟩ := bsome h
          refine sx_seq (sx_if (et_b (ev_op (ev_op (ev_v (R := rInt) rfl (Rep.mono rInt ((((((s12.trans s21).trans s27).trans s32).trans s38).trans s46).trans s74) f__law_cell)) ev_i (o_modO hc79)) ev_i o_eqI)) (fun z80 Fs81 s81 => ?_) (fun z80 Fs82 s82 => ?_))
          · have h := cnd_t h z80
            obtain ⟨c83, hc83, h⟩ := bsome h
            obtain ⟨c84, hc84, h⟩ := bsome h
            obtain ⟨x85, hx85, h⟩ := lt_e h
            refine sx_seq (sx_asg (R := rInt) (ev_is (ev_op ev_i (ev_op (ev_op (ev_v (R := rInt) rfl (Rep.mono rInt (((((((s12.trans s21).trans s27).trans s32).trans s38).trans s46).trans s74).trans s81) f__law_cell)) ev_i (o_divO hc83)) ev_i (o_modO hc84)) o_add) hx85) fun v88 Fs86 s86 f87 => nx_of ?_)
            obtain ⟨c89, hc89, h⟩ := bsome h
            obtain ⟨c90, hc90, h⟩ := bsome h
            obtain ⟨c91, hc91, h⟩ := bsome h
            obtain ⟨c92, hc92, h⟩ := bsome h
            obtain ⟨c93, hc93, h⟩ := bsome h
            obtain ⟨c94, hc94, h⟩ := bsome h
            obtain ⟨c95, hc95, h⟩ := bsome h
            obtain rfl := Option.some.inj h
            refine sx_ret (R := (rT2 rS rD)) (ev_tup2 (ea_cons (ev_op (ev_op (ev_op (ev_op (ev_cs (ev_ch (c := 61) (by decide +kernel) (by decide))) (ev_v (R := rInt) rfl f87) (o_repS hc89)) (ev_op (ev_cs (ev_ch (c := 32) (by decide +kernel) (by decide))) (ev_op ev_i (ev_op (ev_op (ev_v (R := rInt) rfl (Rep.mono rInt ((((((((s12.trans s21).trans s27).trans s32).trans s38).trans s46).trans s74).trans s81).trans s86) f__law_cell)) ev_i (o_divO hc90)) ev_i (o_modO hc91)) o_add) (o_repS hc92)) (o_catS hc93)) (ev_v (R := rS) rfl (Rep.mono rS (((((((s21.trans s27).trans s32).trans s38).trans s46).trans s74).trans s81).trans s86) f16)) (o_catS hc94)) (ev_v (R := rS) rfl (Rep.mono rS ((((((s27.trans s32).trans s38).trans s46).trans s74).trans s81).trans s86) f22)) (o_catS hc95)) (ea_cons (ev_tupD (ds := [(encS [104, 101, 97, 100, 105, 110, 103]), (PyData.int x85), (encS x11.1)]) (ea_cons (ev_d (a := [104, 101, 97, 100, 105, 110, 103]) eS (ev_s (l := [104, 101, 97, 100, 105, 110, 103]) (by decide +kernel) (by decide +kernel))) (ea_cons (ev_d (a := x85) eI (ev_v (R := rInt) rfl f87)) (ea_cons (ev_d (a := x11.1) eS (ev_v (R := rS) rfl (Rep.mono rS (((((((s21.trans s27).trans s32).trans s38).trans s46).trans s74).trans s81).trans s86) f14))) ea_nil))) (show (3 : Nat) ≤ limL by decide)) ea_nil))) fun v96 Fs97 s97 f98 => ?_
            exact rt_val k (fun _ => f98)
          · have h := cnd_f h z80
            refine sx_next ?_
            refine nx_of ?_
            obtain ⟨c99, hc99, h⟩ := bsome h
            refine sx_seq (sx_if (et_b (ev_op (ev_op (ev_v (R := rInt) rfl (Rep.mono rInt (((((((s12.trans s21).trans s27).trans s32).trans s38).trans s46).trans s74).trans s82) f__law_cell)) ev_i (o_modO hc99)) ev_i o_eqI)) (fun z100 Fs101 s101 => ?_) (fun z100 Fs102 s102 => ?_))
            · have h := cnd_t h z100
              obtain ⟨r103, hr103, h⟩ := bsome h
              obtain ⟨x104, hx104, h⟩ := lt_e h
              refine sx_seq (sx_asg2 (ev_is (ev_call (P := P__law_cells) (ea_cons (ev_v (R := rInt) rfl (Rep.mono rInt ((((((((s12.trans s21).trans s27).trans s32).trans s38).trans s46).trans s74).trans s82).trans s101) f__law_more)) ea_nil) ⟨_, _, rfl, hr103, rfl⟩) hx104) fun v106 v108 Fs105 s105 f107 f109 => nx_of ?_)
              obtain ⟨c110, hc110, h⟩ := bsome h
              obtain rfl := Option.some.inj h
              refine sx_ret (R := (rT2 rS rD)) (ev_tup2 (ea_cons (ev_op (ev_v (R := rS) rfl f107) (ev_v (R := rS) rfl (Rep.mono rS (((((((s27.trans s32).trans s38).trans s46).trans s74).trans s82).trans s101).trans s105) f22)) (o_catS hc110)) (ea_cons (ev_tupD (ds := [(encS [99, 101, 108, 108, 115]), ((fun as => PyData.list (List.map encS as)) x104.2)]) (ea_cons (ev_d (a := [99, 101, 108, 108, 115]) eS (ev_s (l := [99, 101, 108, 108, 115]) (by decide +kernel) (by decide +kernel))) (ea_cons (ev_d (a := x104.2) (eL eS) (ev_v (R := (rL rS)) rfl f109)) ea_nil)) (show (2 : Nat) ≤ limL by decide)) ea_nil))) fun v111 Fs112 s112 f113 => ?_
              exact rt_val k (fun _ => f113)
            · have h := cnd_f h z100
              refine sx_next ?_
              refine nx_of ?_
              obtain ⟨c114, hc114, h⟩ := bsome h
              refine sx_seq (sx_if (et_b (ev_op (ev_op (ev_v (R := rInt) rfl (Rep.mono rInt ((((((((s12.trans s21).trans s27).trans s32).trans s38).trans s46).trans s74).trans s82).trans s102) f__law_cell)) ev_i (o_modO hc114)) ev_i o_eqI)) (fun z115 Fs116 s116 => ?_) (fun z115 Fs117 s117 => ?_))
              · have h := cnd_t h z115
                obtain ⟨c118, hc118, h⟩ := bsome h
                obtain ⟨c119, hc119, h⟩ := bsome h
                obtain ⟨c120, hc120, h⟩ := bsome h
                obtain ⟨c121, hc121, h⟩ := bsome h
                obtain ⟨c122, hc122, h⟩ := bsome h
                obtain rfl := Option.some.inj h
                refine sx_ret (R := (rT2 rS rD)) (ev_tup2 (ea_cons (ev_op (ev_op (ev_op (ev_op (ev_op (ev_s (l := [91, 94]) (by decide +kernel) (by decide +kernel)) (ev_v (R := rS) rfl (Rep.mono rS (((((s38.trans s46).trans s74).trans s82).trans s102).trans s116) f33)) (o_catS hc118)) (ev_s (l := [93, 58, 32]) (by decide +kernel) (by decide +kernel)) (o_catS hc119)) (ev_v (R := rS) rfl (Rep.mono rS (((((((s27.trans s32).trans s38).trans s46).trans s74).trans s82).trans s102).trans s116) f22)) (o_catS hc120)) (ev_v (R := rS) rfl (Rep.mono rS ((((((((s21.trans s27).trans s32).trans s38).trans s46).trans s74).trans s82).trans s102).trans s116) f16)) (o_catS hc121)) (ev_v (R := rS) rfl (Rep.mono rS (((((((s27.trans s32).trans s38).trans s46).trans s74).trans s82).trans s102).trans s116) f22)) (o_catS hc122)) (ea_cons (ev_tupD (ds := [(encS [110, 111, 116, 101]), (encS (lowerS x31)), (encS x11.1)]) (ea_cons (ev_d (a := [110, 111, 116, 101]) eS (ev_s (l := [110, 111, 116, 101]) (by decide +kernel) (by decide +kernel))) (ea_cons (ev_d (a := (lowerS x31)) eS (ev_m0 (ev_v (R := rS) rfl (Rep.mono rS (((((s38.trans s46).trans s74).trans s82).trans s102).trans s116) f33)) m_lower)) (ea_cons (ev_d (a := x11.1) eS (ev_v (R := rS) rfl (Rep.mono rS ((((((((s21.trans s27).trans s32).trans s38).trans s46).trans s74).trans s82).trans s102).trans s116) f14))) ea_nil))) (show (3 : Nat) ≤ limL by decide)) ea_nil))) fun v123 Fs124 s124 f125 => ?_
                exact rt_val k (fun _ => f125)
              · have h := cnd_f h z115
                refine sx_next ?_
                refine nx_of ?_
                obtain ⟨c126, hc126, h⟩ := bsome h
                refine sx_seq (sx_if (et_b (ev_op (ev_op (ev_v (R := rInt) rfl (Rep.mono rInt (((((((((s12.trans s21).trans s27).trans s32).trans s38).trans s46).trans s74).trans s82).trans s102).trans s117) f__law_cell)) ev_i (o_modO hc126)) ev_i o_eqI)) (fun z127 Fs128 s128 => ?_) (fun z127 Fs129 s129 => ?_))
                · have h := cnd_t h z127
                  obtain ⟨r130, hr130, h⟩ := bsome h
                  obtain ⟨x131, hx131, h⟩ := lt_e h
                  refine sx_seq (sx_asg (R := rS) (ev_is (ev_call (P := P__law_word) (ea_cons (ev_v (R := rInt) rfl (Rep.mono rInt ((((((((((s12.trans s21).trans s27).trans s32).trans s38).trans s46).trans s74).trans s82).trans s102).trans s117).trans s128) f__law_more)) (ea_cons ev_i ea_nil)) ⟨_, _, _, rfl, hr130, rfl⟩) hx131) fun v134 Fs132 s132 f133 => nx_of ?_)
                  obtain ⟨c135, hc135, h⟩ := bsome h
                  obtain ⟨c136, hc136, h⟩ := bsome h
                  obtain ⟨c137, hc137, h⟩ := bsome h
                  obtain ⟨c138, hc138, h⟩ := bsome h
                  obtain ⟨c139, hc139, h⟩ := bsome h
                  obtain rfl := Option.some.inj h
                  refine sx_ret (R := (rT2 rS rD)) (ev_tup2 (ea_cons (ev_op (ev_op (ev_op (ev_op (ev_op (ev_cs (ev_ch (c := 91) (by decide +kernel) (by decide))) (ev_v (R := rS) rfl (Rep.mono rS (((((((s38.trans s46).trans s74).trans s82).trans s102).trans s117).trans s128).trans s132) f33)) (o_catS hc135)) (ev_s (l := [93, 58, 32]) (by decide +kernel) (by decide +kernel)) (o_catS hc136)) (ev_v (R := rS) rfl (Rep.mono rS (((((((((s27.trans s32).trans s38).trans s46).trans s74).trans s82).trans s102).trans s117).trans s128).trans s132) f22)) (o_catS hc137)) (ev_v (R := rS) rfl f133) (o_catS hc138)) (ev_v (R := rS) rfl (Rep.mono rS (((((((((s27.trans s32).trans s38).trans s46).trans s74).trans s82).trans s102).trans s117).trans s128).trans s132) f22)) (o_catS hc139)) (ea_cons (ev_tupD (ds := [(encS [110, 97, 109, 101]), (encS (lowerS x31)), (encS x131)]) (ea_cons (ev_d (a := [110, 97, 109, 101]) eS (ev_s (l := [110, 97, 109, 101]) (by decide +kernel) (by decide +kernel))) (ea_cons (ev_d (a := (lowerS x31)) eS (ev_m0 (ev_v (R := rS) rfl (Rep.mono rS (((((((s38.trans s46).trans s74).trans s82).trans s102).trans s117).trans s128).trans s132) f33)) m_lower)) (ea_cons (ev_d (a := x131) eS (ev_v (R := rS) rfl f133)) ea_nil))) (show (3 : Nat) ≤ limL by decide)) ea_nil))) fun v140 Fs141 s141 f142 => ?_
                  exact rt_val k (fun _ => f142)
                · have h := cnd_f h z127
                  refine sx_next ?_
                  refine nx_of ?_
                  obtain ⟨c143, hc143, h⟩ := bsome h
                  refine sx_seq (sx_if (et_b (ev_op (ev_op (ev_v (R := rInt) rfl (Rep.mono rInt ((((((((((s12.trans s21).trans s27).trans s32).trans s38).trans s46).trans s74).trans s82).trans s102).trans s117).trans s129) f__law_cell)) ev_i (o_modO hc143)) ev_i o_eqI)) (fun z144 Fs145 s145 => ?_) (fun z144 Fs146 s146 => ?_))
                  · have h := cnd_t h z144
                    obtain ⟨c147, hc147, h⟩ := bsome h
                    obtain ⟨c148, hc148, h⟩ := bsome h
                    obtain ⟨c149, hc149, h⟩ := bsome h
                    obtain ⟨x150, hx150, h⟩ := lt_e h
                    refine sx_seq (sx_asg (R := rC) (ev_is (ev_op (ev_s (l := [45, 43]) (by decide +kernel) (by decide +kernel)) (ev_op (ev_op (ev_v (R := rInt) rfl (Rep.mono rInt (((((((((((s12.trans s21).trans s27).trans s32).trans s38).trans s46).trans s74).trans s82).trans s102).trans s117).trans s129).trans s145) f__law_cell)) ev_i (o_divO hc147)) ev_i (o_modO hc148)) (o_ixS hc149)) hx150) fun v153 Fs151 s151 f152 => nx_of ?_)
                    obtain ⟨c154, hc154, h⟩ := bsome h
                    obtain ⟨c155, hc155, h⟩ := bsome h
                    obtain ⟨c156, hc156, h⟩ := bsome h
                    obtain ⟨c157, hc157, h⟩ := bsome h
                    obtain ⟨c158, hc158, h⟩ := bsome h
                    obtain ⟨c159, hc159, h⟩ := bsome h
                    obtain ⟨c160, hc160, h⟩ := bsome h
                    obtain ⟨c161, hc161, h⟩ := bsome h
                    obtain rfl := Option.some.inj h
                    refine sx_ret (R := (rT2 rS rD)) (ev_tup2 (ea_cons (ev_op (ev_op (ev_op (ev_op (ev_op (ev_cs (ev_ch (c := 32) (by decide +kernel) (by decide))) (ev_v (R := rInt) rfl (Rep.mono rInt (((((((((s32.trans s38).trans s46).trans s74).trans s82).trans s102).trans s117).trans s129).trans s145).trans s151) f28)) (o_repS hc154)) (ev_cs (ev_v (R := rC) rfl f152)) (o_catS hc155)) (ev_op (ev_cs (ev_ch (c := 32) (by decide +kernel) (by decide))) (ev_op ev_i (ev_op (ev_op (ev_v (R := rInt) rfl (Rep.mono rInt ((((((((((((s12.trans s21).trans s27).trans s32).trans s38).trans s46).trans s74).trans s82).trans s102).trans s117).trans s129).trans s145).trans s151) f__law_cell)) ev_i (o_divO hc156)) ev_i (o_modO hc157)) o_add) (o_repS hc158)) (o_catS hc159)) (ev_v (R := rS) rfl (Rep.mono rS (((((((((((s21.trans s27).trans s32).trans s38).trans s46).trans s74).trans s82).trans s102).trans s117).trans s129).trans s145).trans s151) f16)) (o_catS hc160)) (ev_v (R := rS) rfl (Rep.mono rS ((((((((((s27.trans s32).trans s38).trans s46).trans s74).trans s82).trans s102).trans s117).trans s129).trans s145).trans s151) f22)) (o_catS hc161)) (ea_cons (ev_tupD (ds := [(encS [105, 116, 101, 109]), (PyData.int x26), (encC x150), (encS x11.1)]) (ea_cons (ev_d (a := [105, 116, 101, 109]) eS (ev_s (l := [105, 116, 101, 109]) (by decide +kernel) (by decide +kernel))) (ea_cons (ev_d (a := x26) eI (ev_v (R := rInt) rfl (Rep.mono rInt (((((((((s32.trans s38).trans s46).trans s74).trans s82).trans s102).trans s117).trans s129).trans s145).trans s151) f28))) (ea_cons (ev_d (a := x150) eC (ev_v (R := rC) rfl f152)) (ea_cons (ev_d (a := x11.1) eS (ev_v (R := rS) rfl (Rep.mono rS (((((((((((s21.trans s27).trans s32).trans s38).trans s46).trans s74).trans s82).trans s102).trans s117).trans s129).trans s145).trans s151) f14))) ea_nil)))) (show (4 : Nat) ≤ limL by decide)) ea_nil))) fun v162 Fs163 s163 f164 => ?_
                    exact rt_val k (fun _ => f164)
                  · have h := cnd_f h z144
                    refine sx_next ?_
                    refine nx_of ?_
                    obtain ⟨c165, hc165, h⟩ := bsome h
                    obtain ⟨c166, hc166, h⟩ := bsome h
                    obtain ⟨c167, hc167, h⟩ := bsome h
                    obtain rfl := Option.some.inj h
                    refine sx_ret (R := (rT2 rS rD)) (ev_tup2 (ea_cons (ev_op (ev_op (ev_op (ev_cs (ev_ch (c := 32) (by decide +kernel) (by decide))) (ev_v (R := rInt) rfl (Rep.mono rInt ((((((((s32.trans s38).trans s46).trans s74).trans s82).trans s102).trans s117).trans s129).trans s146) f28)) (o_repS hc165)) (ev_v (R := rS) rfl (Rep.mono rS ((((((((((s21.trans s27).trans s32).trans s38).trans s46).trans s74).trans s82).trans s102).trans s117).trans s129).trans s146) f16)) (o_catS hc166)) (ev_v (R := rS) rfl (Rep.mono rS (((((((((s27.trans s32).trans s38).trans s46).trans s74).trans s82).trans s102).trans s117).trans s129).trans s146) f22)) (o_catS hc167)) (ea_cons (ev_tupD (ds := [(encS [112, 108, 97, 105, 110]), (PyData.int x26), (encS x11.1)]) (ea_cons (ev_d (a := [112, 108, 97, 105, 110]) eS (ev_s (l := [112, 108, 97, 105, 110]) (by decide +kernel) (by decide +kernel))) (ea_cons (ev_d (a := x26) eI (ev_v (R := rInt) rfl (Rep.mono rInt ((((((((s32.trans s38).trans s46).trans s74).trans s82).trans s102).trans s117).trans s129).trans s146) f28))) (ea_cons (ev_d (a := x11.1) eS (ev_v (R := rS) rfl (Rep.mono rS ((((((((((s21.trans s27).trans s32).trans s38).trans s46).trans s74).trans s82).trans s102).trans s117).trans s129).trans s146) f14))) ea_nil))) (show (3 : Nat) ≤ limL by decide)) ea_nil))) fun v168 Fs169 s169 f170 => ?_
                    exact rt_val k (fun _ => f170)

/-! _law_near -/
abbrev s__law_near : Stmt := top 26
abbrev N__law_near : List Str := ["_law_cell", "_law_some", "_law_row"]
theorem sc__law_near : FnScope N__law_near ["_law_cell"] (defScope s__law_near) := ⟨rfl, rfl, rfl, by decide +kernel, rfl, by decide +kernel, by decide +kernel⟩
def m__law_near (x__law_cell : Int) : Option ((List Nat × PyData)) := lt ([[32, 62, 32, 97], [32, 126, 126, 126], [126, 126, 126, 126], [126, 126], [126, 126, 126, 32, 97], [32, 61, 32, 97], [61, 97], [61, 61, 61, 61, 32, 97], [61], [61, 61, 61], [124], [32, 124, 32, 97, 32, 124], [124, 32, 97], [97, 32, 124]] : List (List Nat)) fun x10 => (catO x10 ([[124, 92, 124], [124, 32, 97, 32, 92, 124], [91, 97, 32, 98, 93, 58, 32, 99], [91, 97, 93, 58, 32, 98, 32, 99], [91, 97, 93, 58, 98], [91, 94, 93, 58, 32, 97], [91, 93, 58, 32, 97], [91, 94, 97, 32, 98, 93, 58, 32, 99]] : List (List Nat))).bind fun c15 => lt c15 fun x16 => (appO x16 [91, 97, 98, 99, 100, 101, 102, 103, 104, 105, 106, 107, 108, 109, 93, 58, 32, 120]).bind fun y22 => (catO y22 ([[45], [43], [45, 97], [45, 45, 45, 32, 97], [42, 32, 97], [91, 94, 97, 98, 99, 100, 101, 102, 103, 104, 105, 106, 107, 108, 109, 93, 58, 32, 120], [32, 91, 97, 93, 58, 32, 98]] : List (List Nat))).bind fun c28 => lt c28 fun x29 => (modO x__law_cell (30 : Int)).bind fun c35 => (ixO x29 c35).bind fun c36 => lt c36 fun x37 => (ixO x37 (0 : Int)).bind fun c41 => some (x37, (PyData.tuple [(encS [112, 108, 97, 105, 110]), (PyData.int (if (decide (c41 = 32)) = true then (1 : Int) else 0)), (encS (lstripS x37 [32]))]))
def P__law_near (As : List Ar) (C : Ar) : Prop := ∃ (x__law_cell : Int) (r : (List Nat × PyData)), As = [val rInt x__law_cell] ∧ m__law_near x__law_cell = some r ∧ C = val (rT2 rS rD) r
theorem ok__law_near (T : Top n K mg) (D : Df K mg "_law_near" s__law_near)  : Cal P w K mg base 1 "_law_near" ["_law_cell"] (spG (P__law_near)) := by
  have SC := sc__law_near
  have h1n := T.one
  refine cal_of (N := N__law_near) D SC (fun _ _ _ _ _ _ us hl => match us, hl with | [_], _ => rfl) (fun vs H Q E h => ?_) (fun f cdv A outer s H vs Q E hr h => ?_)
  · obtain ⟨F0, As, C, ⟨x__law_cell, r, rfl, h, rfl⟩, e0, ha, k⟩ := h
    exact alla_len ha
  · obtain ⟨F0, As, C, ⟨x__law_cell, r, rfl, h, rfl⟩, e0, ha, k⟩ := h
    obtain ⟨v__law_cell, rfl, f__law_cell⟩ := alla1 ha
    refine ⟨_, (pss_cons (ps_set (i := 1) SC.nd rfl (Or.inl rfl) (pe_lst (pa_cons pe_str (pa_cons pe_str (pa_cons pe_str (pa_cons pe_str (pa_cons pe_str (pa_cons pe_str (pa_cons pe_str (pa_cons pe_str (pa_cons pe_str (pa_cons pe_str (pa_cons pe_str (pa_cons pe_str (pa_cons pe_str (pa_cons pe_str pa_nil)))))))))))))))) (pss_cons (ps_set (i := 1) SC.nd rfl (Or.inl rfl) (pe_op op_cat (pv 1) (pe_lst (pa_cons pe_str (pa_cons pe_str (pa_cons pe_str (pa_cons pe_str (pa_cons pe_str (pa_cons pe_str (pa_cons pe_str (pa_cons pe_str pa_nil))))))))))) (pss_cons (ps_expr (pe_bm PySem.F.plainAttrs_list PySem.F.slot_list_append PySem.F.type_list_append mt_append (pv 1) (pa_cons pe_str pa_nil))) (pss_cons (ps_set (i := 1) SC.nd rfl (Or.inl rfl) (pe_op op_cat (pv 1) (pe_lst (pa_cons pe_str (pa_cons pe_str (pa_cons pe_str (pa_cons pe_str (pa_cons pe_str (pa_cons pe_str (pa_cons pe_str pa_nil)))))))))) (pss_cons (ps_set (i := 2) SC.nd rfl (Or.inl rfl) (pe_ix ix_list (pv 1) (pe_op op_xMod (pv 0) pe_int) (fun _ _ => rfl))) (pss_one (ps_ret (pe_tup (pa_cons (pv 2) (pa_cons (pe_tup (pa_cons pe_str (pa_cons (pe_callTy call_cInt (by rfl) T.b_int (by decide +kernel) (pa_cons (pe_cmpR op_eq (pe_ix ix_str (pv 2) pe_int (fun _ _ => rfl)) pe_str (nomark _)) pa_nil)) (pa_cons (pe_bm PySem.F.plainAttrs_str PySem.F.slot_str_lstrip PySem.F.type_str_lstrip mt_mLstrip (pv 2) (pa_cons pe_str pa_nil)) pa_nil)))) pa_nil)))))))))), ?_⟩
    refine (show Sx ⟨F0, H⟩ _ _ [some v__law_cell, none, none] F0 [] from ?_) H (At.start e0)
    have f__law_cell : (rInt).rp x__law_cell v__law_cell F0 := f__law_cell
    obtain ⟨x10, hx10, h⟩ := lt_e h
    refine sx_seq (sx_asgN (ev_isN (ev_lst (R := rS) (as := [[32, 62, 32, 97], [32, 126, 126, 126], [126, 126, 126, 126], [126, 126], [126, 126, 126, 32, 97], [32, 61, 32, 97], [61, 97], [61, 61, 61, 61, 32, 97], [61], [61, 61, 61], [124], [32, 124, 32, 97, 32, 124], [124, 32, 97], [97, 32, 124]]) (ea_cons (ev_s (l := [32, 62, 32, 97]) (by decide +kernel) (by decide +kernel)) (ea_cons (ev_s (l := [32, 126, 126, 126]) (by decide +kernel) (by decide +kernel)) (ea_cons (ev_s (l := [126, 126, 126, 126]) (by decide +kernel) (by decide +kernel)) (ea_cons (ev_s (l := [126, 126]) (by decide +kernel) (by decide +kernel)) (ea_cons (ev_s (l := [126, 126, 126, 32, 97]) (by decide +kernel) (by decide +kernel)) (ea_cons (ev_s (l := [32, 61, 32, 97]) (by decide +kernel) (by decide +kernel)) (ea_cons (ev_s (l := [61, 97]) (by decide +kernel) (by decide +kernel)) (ea_cons (ev_s (l := [61, 61, 61, 61, 32, 97]) (by decide +kernel) (by decide +kernel)) (ea_cons (ev_s (l := [61]) (by decide +kernel) (by decide +kernel)) (ea_cons (ev_s (l := [61, 61, 61]) (by decide +kernel) (by decide +kernel)) (ea_cons (ev_s (l := [124]) (by decide +kernel) (by decide +kernel)) (ea_cons (ev_s (l := [32, 124, 32, 97, 32, 124]) (by decide +kernel) (by decide +kernel)) (ea_cons (ev_s (l := [124, 32, 97]) (by decide +kernel) (by decide +kernel)) (ea_cons (ev_s (l := [97, 32, 124]) (by decide +kernel) (by decide +kernel)) ea_nil)))))))))))))) (show (14 : Nat) ≤ limL by decide)) hx10) fun p13 xs14 Fs11 s11 f12 => nx_of ?_)
    obtain ⟨c15, hc15, h⟩ := bsome h
    obtain ⟨x16, hx16, h⟩ := lt_e h
    refine sx_seq (sx_asgN (ev_isN (ev_opN (ev_o (R := rS) rfl (List.Mem.head _) f12) (ev_nspn (ev_lst (R := rS) (as := [[124, 92, 124], [124, 32, 97, 32, 92, 124], [91, 97, 32, 98, 93, 58, 32, 99], [91, 97, 93, 58, 32, 98, 32, 99], [91, 97, 93, 58, 98], [91, 94, 93, 58, 32, 97], [91, 93, 58, 32, 97], [91, 94, 97, 32, 98, 93, 58, 32, 99]]) (ea_cons (ev_s (l := [124, 92, 124]) (by decide +kernel) (by decide +kernel)) (ea_cons (ev_s (l := [124, 32, 97, 32, 92, 124]) (by decide +kernel) (by decide +kernel)) (ea_cons (ev_s (l := [91, 97, 32, 98, 93, 58, 32, 99]) (by decide +kernel) (by decide +kernel)) (ea_cons (ev_s (l := [91, 97, 93, 58, 32, 98, 32, 99]) (by decide +kernel) (by decide +kernel)) (ea_cons (ev_s (l := [91, 97, 93, 58, 98]) (by decide +kernel) (by decide +kernel)) (ea_cons (ev_s (l := [91, 94, 93, 58, 32, 97]) (by decide +kernel) (by decide +kernel)) (ea_cons (ev_s (l := [91, 93, 58, 32, 97]) (by decide +kernel) (by decide +kernel)) (ea_cons (ev_s (l := [91, 94, 97, 32, 98, 93, 58, 32, 99]) (by decide +kernel) (by decide +kernel)) ea_nil)))))))) (show (8 : Nat) ≤ limL by decide))) (o_catLO hc15)) hx16) fun p19 xs20 Fs17 s17 f18 => nx_of ?_)
    obtain ⟨y22, hy22, h⟩ := bsome h
    obtain ⟨hz23, he24⟩ := iteo hy22
    refine sx_seq (sx_app (n := 0) rfl rfl f18 (ev_s (l := [91, 97, 98, 99, 100, 101, 102, 103, 104, 105, 106, 107, 108, 109, 93, 58, 32, 120]) (by decide +kernel) (by decide +kernel)) hz23 fun v25 Fs26 s26 f27 => nx_of ?_)
    obtain ⟨c28, hc28, h⟩ := bsome h
    obtain ⟨x29, hx29, h⟩ := lt_e h
    refine sx_seq (sx_asgN (ev_isN (ev_opN (ev_o (R := rS) rfl (List.Mem.head _) (he24 ▸ f27)) (ev_nspn (ev_lst (R := rS) (as := [[45], [43], [45, 97], [45, 45, 45, 32, 97], [42, 32, 97], [91, 94, 97, 98, 99, 100, 101, 102, 103, 104, 105, 106, 107, 108, 109, 93, 58, 32, 120], [32, 91, 97, 93, 58, 32, 98]]) (ea_cons (ev_cs (ev_ch (c := 45) (by decide +kernel) (by decide))) (ea_cons (ev_cs (ev_ch (c := 43) (by decide +kernel) (by decide))) (ea_cons (ev_s (l := [45, 97]) (by decide +kernel) (by decide +kernel)) (ea_cons (ev_s (l := [45, 45, 45, 32, 97]) (by decide +kernel) (by decide +kernel)) (ea_cons (ev_s (l := [42, 32, 97]) (by decide +kernel) (by decide +kernel)) (ea_cons (ev_s (l := [91, 94, 97, 98, 99, 100, 101, 102, 103, 104, 105, 106, 107, 108, 109, 93, 58, 32, 120]) (by decide +kernel) (by decide +kernel)) (ea_cons (ev_s (l := [32, 91, 97, 93, 58, 32, 98]) (by decide +kernel) (by decide +kernel)) ea_nil))))))) (show (7 : Nat) ≤ limL by decide))) (o_catLO hc28)) hx29) fun p32 xs33 Fs30 s30 f31 => nx_of ?_)
    obtain ⟨c35, hc35, h⟩ := bsome h
    obtain ⟨c36, hc36, h⟩ := bsome h
    obtain ⟨x37, hx37, h⟩ := lt_e h
    refine sx_seq (sx_asg (R := rS) (ev_is (ev_op (ev_o (R := rS) rfl (List.Mem.head _) f31) (ev_op (ev_v (R := rInt) rfl (Rep.mono rInt (((s11.trans s17).trans s26).trans s30) f__law_cell)) ev_i (o_modO hc35)) (o_ixL hc36)) hx37) fun v40 Fs38 s38 f39 => nx_of ?_)
    obtain ⟨c41, hc41, h⟩ := bsome h
    obtain rfl := Option.some.inj h
    refine sx_ret (R := (rT2 rS rD)) (ev_tup2 (ea_cons (ev_v (R := rS) rfl f39) (ea_cons (ev_tupD (ds := [(encS [112, 108, 97, 105, 110]), (PyData.int (if (decide (c41 = 32)) = true then (1 : Int) else 0)), (encS (lstripS x37 [32]))]) (ea_cons (ev_d (a := [112, 108, 97, 105, 110]) eS (ev_s (l := [112, 108, 97, 105, 110]) (by decide +kernel) (by decide +kernel))) (ea_cons (ev_d (a := (if (decide (c41 = 32)) = true then (1 : Int) else 0)) eI (ev_cb (ea_cons (ev_op (ev_op (ev_v (R := rS) rfl f39) ev_i (o_ixS hc41)) (ev_ch (c := 32) (by decide +kernel) (by decide)) o_eqC) ea_nil) b_intB)) (ea_cons (ev_d (a := (lstripS x37 [32])) eS (ev_m (ev_v (R := rS) rfl f39) (ea_cons (ev_s (l := [32]) (by decide +kernel) (by decide +kernel)) ea_nil) m_lstrip)) ea_nil))) (show (3 : Nat) ≤ limL by decide)) ea_nil))) fun v42 Fs43 s43 f44 => ?_
    exact rt_val k (fun _ => f44)

/-! _law_plain -/
abbrev s__law_plain : Stmt := top 27
abbrev N__law_plain : List Str := ["_law_found", "_law_due", "_law_part"]
theorem sc__law_plain : FnScope N__law_plain ["_law_found", "_law_due"] (defScope s__law_plain) := ⟨rfl, rfl, rfl, by decide +kernel, rfl, by decide +kernel, by decide +kernel⟩
def m__law_plain (x__law_found : PyData) (x__law_due : PyData) : Option (Bool) := (cnd (!(isTupD x__law_found)) (some true) ((eqO (id x__law_found) (id x__law_due)).bind fun c10 => some (!c10))).bind fun c11 => cnd c11 (some false) ((slD x__law_found (some (1 : Int)) none).bind fun c18 => (asT c18).bind fun c19 => fwd (loop (ρ := Bool) (fun (s34 : Unit) (a35 : PyData) => (cnd (isBoolD a35) (some true) ((anyTy a35 ["int", "str", "list"]).bind fun c44 => some (!c44))).bind fun c45 => cnd c45 (some (Fw.rt false)) (some (Fw.nx ()))) c19 ()) (fun (s25 : Unit) => some true) (fun (r : Bool) => some r))
def P__law_plain (As : List Ar) (C : Ar) : Prop := ∃ (x__law_found : PyData) (x__law_due : PyData) (r : Bool), As = [val rD x__law_found, val rD x__law_due] ∧ m__law_plain x__law_found x__law_due = some r ∧ C = val rB r
theorem ok__law_plain (T : Top n K mg) (D : Df K mg "_law_plain" s__law_plain)  : Cal P w K mg base 1 "_law_plain" ["_law_found", "_law_due"] (spG (P__law_plain)) := by
  have SC := sc__law_plain
  have h1n := T.one
  refine cal_of (N := N__law_plain) D SC (fun _ _ _ _ _ _ us hl => match us, hl with | [_, _], _ => rfl) (fun vs H Q E h => ?_) (fun f cdv A outer s H vs Q E hr h => ?_)
  · obtain ⟨F0, As, C, ⟨x__law_found, x__law_due, r, rfl, h, rfl⟩, e0, ha, k⟩ := h
    exact alla_len ha
  · obtain ⟨F0, As, C, ⟨x__law_found, x__law_due, r, rfl, h, rfl⟩, e0, ha, k⟩ := h
    obtain ⟨v__law_found, v__law_due, rfl, f__law_found, f__law_due⟩ := alla2 ha
    refine ⟨_, (pss_cons (ps_if (PW.pt (pw_or (pt_not (pt_val (pe_callB call_isi (by rfl) T.b_isinstance (by decide +kernel) (pa_cons (pv 0) (pa_cons (pe_bltn (v := V.ty "tuple") (by rfl) T.b_tuple (by decide +kernel) rfl) pa_nil))))) (pw_or1 (pt_cmpR (op_neD hr.units) (pv 0) (pv 1) (nomark _))))) (pss_one (ps_ret pe_bl)) pss_nil) (pss_cons (ps_for PassesOwn.never rfl (pi_tup (pe_slice sl_tupA (pv 0) (po_some pe_int) po_none)) (pg_name (i := 2) SC.nd rfl (Or.inl rfl)) (pss_one (ps_if (PW.pt (pw_or (pt_val (pe_callB call_isi (by rfl) T.b_isinstance (by decide +kernel) (pa_cons (pv 2) (pa_cons (pe_bltn (v := V.ty "bool") (by rfl) T.b_bool (by decide +kernel) rfl) pa_nil)))) (pw_or1 (pt_not (pt_val (pe_callB call_isiT (by rfl) T.b_isinstance (by decide +kernel) (pa_cons (pv 2) (pa_cons (pe_tup (pa_cons (pe_bltn (v := V.ty "int") (by rfl) T.b_int (by decide +kernel) rfl) (pa_cons (pe_bltn (v := V.ty "str") (by rfl) T.b_str (by decide +kernel) rfl) (pa_cons (pe_bltn (v := V.ty "list") (by rfl) T.b_list (by decide +kernel) rfl) pa_nil)))) pa_nil)))))))) (pss_one (ps_ret pe_bl)) pss_nil))) (pss_one (ps_ret pe_bl)))), ?_⟩
    refine (show Sx ⟨F0, H⟩ _ _ [some v__law_found, some v__law_due, none] F0 [] from ?_) H (At.start e0)
    have f__law_found : (rD).rp x__law_found v__law_found F0 := f__law_found
    have f__law_due : (rD).rp x__law_due v__law_due F0 := f__law_due
    obtain ⟨c11, hc11, h⟩ := bsome h
    refine sx_seq (sx_if (et_or (b := c11) (et_not (et_B (ev_cb (ea_cons (ev_v (R := rD) rfl f__law_found) (ea_cons ev_ty ea_nil)) (b_isi tD k_tup)))) (fun z => by
    have h' := cnd_f hc11 z
    obtain ⟨c10, hc10, h'⟩ := bsome h'
    exact et_is (et_b (ev_op (ev_v (R := rD) rfl f__law_found) (ev_v (R := rD) rfl f__law_due) (by have z := eqO_e hc10; have z1 := dt_v eD (K := K) (R := rD) z.1; have z2 := dt_v eD (K := K) (R := rD) z.2.1; have z3 := o_neD z1 z2; rw [z.2.2] at z3; exact z3))) (Option.some.inj h')) (fun z => (Option.some.inj (cnd_t hc11 z)).symm)) (fun z12 Fs13 s13 => ?_) (fun z12 Fs14 s14 => ?_))
    · have h := cnd_t h z12
      obtain rfl := Option.some.inj h
      refine sx_ret (R := rB) ev_b fun v15 Fs16 s16 f17 => ?_
      exact rt_val k (fun _ => f17)
    · have h := cnd_f h z12
      refine sx_next ?_
      refine nx_of ?_
      obtain ⟨c18, hc18, h⟩ := bsome h
      obtain ⟨c19, hc19, h⟩ := bsome h
      obtain ⟨w20, hl21, hk22, hr23⟩ := fwd_o h
      refine sx_seq (sx_for (J := fun (s : Unit) σ F O => ∃ (w__law_part : Option V), σ = [some v__law_found, some v__law_due, w__law_part] ∧ O = [] ∧ True) (Ro := (fun (r : Bool) v F (O : Own) => (rB).rp r v F)) hl21 (ei_tup (ev_asT hc19 (ev_slD hc18 (ev_v (R := rD) rfl (Rep.mono rD s14 f__law_found)) (ep_some ev_i) ep_none))) tg_n (fun Fe24 e24 => ⟨_, rfl, rfl, trivial⟩) ?_ ?_)
      · refine ⟨fun s25 es26 σ9 Fe27 O9 e27 ⟨w28, hs29, ho30, _⟩ => ?_, fun r9 er9 v9 F9 O9 e9 hr9 => ?_⟩
        · subst hs29 ho30
          have h := hk22 s25 es26
          refine nx_of ?_
          obtain rfl := Option.some.inj h
          refine sx_ret (R := rB) ev_b fun v31 Fs32 s32 f33 => ?_
          exact rt_val k (fun _ => f33)
        · have h := hr23 r9 er9
          obtain rfl := Option.some.inj h
          exact rt_val k (fun _ => hr9)
      · rintro s34 a35 σ9 σ8 Fe36 Fe37 O9 o9 D9 ha9 e36 e37 ⟨w39, hs40, ho41, _⟩ ⟨v42, zs, f43⟩ h acc38
        subst hs40 ho41
        subst zs
        obtain ⟨c45, hc45, h⟩ := bsome h
        refine sx_if (et_or (b := c45) (et_B (ev_cb (ea_cons (ev_v (R := rD) rfl f43) (ea_cons ev_ty ea_nil)) (b_isi tD k_bool))) (fun z => by
    have h' := cnd_f hc45 z
    obtain ⟨c44, hc44, h'⟩ := bsome h'
    exact et_is (et_not (et_B (ev_cb (ea_cons (ev_v (R := rD) rfl f43) (ea_cons (ev_tupL (R := rTy) (as := ["int", "str", "list"]) (ea_cons ev_tyR (ea_cons ev_tyR (ea_cons ev_tyR ea_nil))) (show (3 : Nat) ≤ limL by decide)) ea_nil)) (b_isiT hc44)))) (Option.some.inj h')) (fun z => (Option.some.inj (cnd_t hc45 z)).symm)) (fun z46 Fs47 s47 => ?_) (fun z46 Fs48 s48 => ?_)
        · have h := cnd_t h z46
          obtain rfl := Option.some.inj h
          refine sx_ret (R := rB) ev_b fun v49 Fs50 s50 f51 => ?_
          exact acc38.rt _ rfl _ _ _ (s47.trans s50) f51
        · have h := cnd_f h z46
          refine sx_next ?_
          obtain rfl := Option.some.inj h
          exact (acc38.nx _ rfl _ _ _ s48 ⟨_, rfl, rfl, trivial⟩).1

/-! law -/
abbrev s_law : Stmt := top 28
abbrev N_law : List Str := ["_law_script", "_law_pairs", "_law_held", "_law_k", "_law_row", "_law_due", "_law_found", "_law_pair"]
theorem sc_law : FnScope N_law ["_law_script"] (defScope s_law) := ⟨rfl, rfl, rfl, by decide +kernel, rfl, by decide +kernel, by decide +kernel⟩
def m_law (x__law_script : List Int) : Option (Bool) := (m__law_cell_at (x__law_script) ((0 : Int))).bind fun r10 => (m__law_mixed (r10) ((1 : Int))).bind fun r11 => (m__law_cell_at (x__law_script) ((1 : Int))).bind fun r12 => (m__law_mixed (r12) ((2 : Int))).bind fun r13 => (m__law_built (r11) (r13)).bind fun r14 => lt ([r14] : List ((List Nat × PyData))) fun x15 => (m__law_cell_at (x__law_script) ((2 : Int))).bind fun r20 => (m__law_mixed (r20) ((3 : Int))).bind fun r21 => (m__law_cell_at (x__law_script) ((3 : Int))).bind fun r22 => (m__law_mixed (r22) ((4 : Int))).bind fun r23 => (m__law_built (r21) (r23)).bind fun r24 => (appO x15 r24).bind fun y25 => (m__law_cell_at (x__law_script) ((4 : Int))).bind fun r31 => (m__law_mixed (r31) ((5 : Int))).bind fun r32 => (m__law_near (r32)).bind fun r33 => (appO y25 r33).bind fun y34 => lt ([] : List ((List (List Nat) × List (List Nat)))) fun x40 => fwd (loop (ρ := Bool) (fun (s78 : (List ((List (List Nat) × List (List Nat))))) (a79 : Int) => (ixO y34 a79).bind fun c94 => lt c94 fun x95 => (m_sort_of (x95.1)).bind fun r101 => lt r101 fun x102 => (m__law_plain (x102) (x95.2)).bind fun r106 => cnd (!r106) (some (Fw.rt false)) ((ixD x95.2 (0 : Int)).bind fun c113 => (eqO (id c113) (encS [99, 101, 108, 108, 115])).bind fun c114 => cnd c114 ((ixD x95.2 (1 : Int)).bind fun c118 => (asLS c118).bind fun c119 => (catO c119 ([[109, 111, 114, 101]] : List (List Nat))).bind fun c120 => (ixD x102 1).bind fun c131 => (asLS c131).bind fun c132 => (appO c132 [109, 111, 114, 101]).bind fun y133 => (appO s78 (y133, c120)).bind fun y134 => some (Fw.nx y134)) (some (Fw.nx s78)))) ([(0 : Int), (1 : Int), (2 : Int), (0 : Int), (2 : Int), (1 : Int)] : List (Int)) x40) (fun (s50 : (List ((List (List Nat) × List (List Nat))))) => (mapF (fun (a63 : (List (List Nat) × List (List Nat))) => (eqO ((fun as => PyData.list (List.map encS as)) a63.1) ((fun as => PyData.list (List.map encS as)) a63.2)).bind fun c71 => cnd (!c71) (some (some a63)) (some none)) s50).bind fun y73 => (eqO (PyData.list (List.map (fun t => PyData.tuple [(fun as => PyData.list (List.map encS as)) t.1, (fun as => PyData.list (List.map encS as)) t.2]) y73)) (PyData.list (List.map (fun t => PyData.tuple [(fun as => PyData.list (List.map encS as)) t.1, (fun as => PyData.list (List.map encS as)) t.2]) ([] : List ((List (List Nat) × List (List Nat))))))).bind fun c74 => some c74) (fun (r : Bool) => some r)
def P_law (K : PySem.W.Frag) (As : List Ar) (C : Ar) : Prop := ∃ (x__law_script : List Int) (r : Bool), As = [val (rScr K) x__law_script] ∧ m_law x__law_script = some r ∧ C = val rB r
theorem ok_law (T : Top n K mg) (D : Df K mg "law" s_law) (G__law_built : CalN n P w K mg base 4 "_law_built" ["_law_cell", "_law_more"] (spG (P__law_built))) (G__law_mixed : Cal P w K mg base 1 "_law_mixed" ["_law_cell", "_law_k"] (spG (P__law_mixed))) (G__law_cell_at : Cal P w K mg base 1 "_law_cell_at" ["_law_script", "_law_k"] (spG (P__law_cell_at K))) (G__law_near : Cal P w K mg base 1 "_law_near" ["_law_cell"] (spG (P__law_near))) (G_sort_of : CalN n P w K mg base 6 "sort_of" ["row"] (spF (P_sort_of))) (G__law_plain : Cal P w K mg base 1 "_law_plain" ["_law_found", "_law_due"] (spG (P__law_plain))) : CalN n P w K mg base 7 "law" ["_law_script"] (spG (P_law K)) := by
  have SC := sc_law
  have h1n := T.one
  refine calN_of (N := N_law) D SC (fun _ _ _ _ _ _ us hl => match us, hl with | [_], _ => rfl) (fun vs H Q E h => ?_) (fun f cdv A outer s H vs Q E hr h => ?_)
  · obtain ⟨F0, As, C, ⟨x__law_script, r, rfl, h, rfl⟩, e0, ha, k⟩ := h
    exact alla_len ha
  · obtain ⟨F0, As, C, ⟨x__law_script, r, rfl, h, rfl⟩, e0, ha, k⟩ := h
    obtain ⟨v__law_script, rfl, f__law_script⟩ := alla1 ha
    refine ⟨_, (psn_cons (psn_set (i := 1) SC.nd rfl (Or.inl rfl) (pen_lst (pan_cons (pen_cal G__law_built (hr.mono (by decide)) rfl (tkA (pa_cons (pe_cal G__law_mixed (hr.mono (by decide)) rfl (pa_cons (pe_cal G__law_cell_at (hr.mono (by decide)) rfl (pa_cons (pv 0) (pa_cons pe_int pa_nil))) (pa_cons pe_int pa_nil))) (pa_cons (pe_cal G__law_mixed (hr.mono (by decide)) rfl (pa_cons (pe_cal G__law_cell_at (hr.mono (by decide)) rfl (pa_cons (pv 0) (pa_cons pe_int pa_nil))) (pa_cons pe_int pa_nil))) pa_nil)))) (tkA pa_nil)))) (psn_cons (psn_expr (pen_bm PySem.F.plainAttrs_list PySem.F.slot_list_append PySem.F.type_list_append mt_append (tkE (pv 1)) (pan_cons (pen_cal G__law_built (hr.mono (by decide)) rfl (tkA (pa_cons (pe_cal G__law_mixed (hr.mono (by decide)) rfl (pa_cons (pe_cal G__law_cell_at (hr.mono (by decide)) rfl (pa_cons (pv 0) (pa_cons pe_int pa_nil))) (pa_cons pe_int pa_nil))) (pa_cons (pe_cal G__law_mixed (hr.mono (by decide)) rfl (pa_cons (pe_cal G__law_cell_at (hr.mono (by decide)) rfl (pa_cons (pv 0) (pa_cons pe_int pa_nil))) (pa_cons pe_int pa_nil))) pa_nil)))) (tkA pa_nil)))) (psn_cons (tkS (ps_expr (pe_bm PySem.F.plainAttrs_list PySem.F.slot_list_append PySem.F.type_list_append mt_append (pv 1) (pa_cons (pe_cal G__law_near (hr.mono (by decide)) rfl (pa_cons (pe_cal G__law_mixed (hr.mono (by decide)) rfl (pa_cons (pe_cal G__law_cell_at (hr.mono (by decide)) rfl (pa_cons (pv 0) (pa_cons pe_int pa_nil))) (pa_cons pe_int pa_nil))) pa_nil)) pa_nil)))) (psn_cons (tkS (ps_set (i := 2) SC.nd rfl (Or.inl rfl) (pe_lst pa_nil))) (psn_cons (psn_for PassesOwn.never rfl (tkI (pi_list (pe_lst (pa_cons pe_int (pa_cons pe_int (pa_cons pe_int (pa_cons pe_int (pa_cons pe_int (pa_cons pe_int pa_nil))))))))) (pg_name (i := 3) SC.nd rfl (Or.inl rfl)) (psn_cons (tkS (ps_asg (pe_ix ix_list (pv 1) (pv 3) (fun _ _ => rfl)) (pg_tup rfl (pgs_cons (pg_name (i := 4) SC.nd rfl (Or.inl rfl)) (pgs_cons (pg_name (i := 5) SC.nd rfl (Or.inl rfl)) pgs_nil))))) (psn_cons (psn_set (i := 6) SC.nd rfl (Or.inl rfl) (pen_cal G_sort_of (hr.mono (by decide)) rfl (tkA (pa_cons (pv 4) pa_nil)))) (tkSs (pss_cons (ps_if (pt_not (pt_val (pe_cal G__law_plain (hr.mono (by decide)) rfl (pa_cons (pv 6) (pa_cons (pv 5) pa_nil))))) (pss_one (ps_ret pe_bl)) pss_nil) (pss_one (ps_if (pt_cmpR (op_eqD hr.units) (pe_ix ix_tup (pv 5) pe_int (fun _ _ => rfl)) pe_str (nomark _)) (pss_cons (ps_expr (pe_bm PySem.F.plainAttrs_list PySem.F.slot_list_append PySem.F.type_list_append mt_append (pv 2) (pa_cons (pe_tup (pa_cons (pe_ix ix_tup (pv 6) pe_int (fun _ _ => rfl)) (pa_cons (pe_op op_cat (pe_ix ix_tup (pv 5) pe_int (fun _ _ => rfl)) (pe_lst (pa_cons pe_str pa_nil))) pa_nil))) pa_nil))) (pss_one (ps_expr (pe_bm PySem.F.plainAttrs_list PySem.F.slot_list_append PySem.F.type_list_append mt_append (pe_ix ix_tup (pv 6) pe_int (fun _ _ => rfl)) (pa_cons pe_str pa_nil))))) pss_nil))))))) (tkSs (pss_one (ps_ret (pe_cmpR (op_eqD hr.units) (pe_lc (own := [("_law_pair", 7)]) (g := gName 7) (tt := _) rfl SC.nd (pi_list (pv 2)) (blkOk_by (own := [("_law_pair", 7)]) (N := N_law) (sc := defScope s_law) (by decide +kernel)) (fun _ _ _ _ _ => (pg_name (i := 7) SC.nd rfl (Or.inl rfl))) (fun _ _ _ _ _ => (pts_one (pt_cmpR (op_neD_k (K := K) rfl hr.units) (pe_ix (ix_tup_k (K := K) rfl) (pv 7) pe_int (fun _ _ => rfl)) (pe_ix (ix_tup_k (K := K) rfl) (pv 7) pe_int (fun _ _ => rfl)) (nomark _)))) (fun _ _ _ _ _ => (pv 7))) (pe_lst pa_nil) (nomark _)))))))))), ?_⟩
    refine (show Sx ⟨F0, H⟩ _ _ [some v__law_script, none, none, none, none, none, none, none] F0 [] from ?_) H (At.start e0)
    have f__law_script : ((rScr K)).rp x__law_script v__law_script F0 := f__law_script
    obtain ⟨r10, hr10, h⟩ := bsome h
    obtain ⟨r11, hr11, h⟩ := bsome h
    obtain ⟨r12, hr12, h⟩ := bsome h
    obtain ⟨r13, hr13, h⟩ := bsome h
    obtain ⟨r14, hr14, h⟩ := bsome h
    obtain ⟨x15, hx15, h⟩ := lt_e h
    refine sx_seq (sx_asgN (ev_isN (ev_lst (R := (rT2 rS rD)) (as := [r14]) (ea_cons (ev_call (P := P__law_built) (ea_cons (ev_call (P := P__law_mixed) (ea_cons (ev_call (P := P__law_cell_at K) (ea_cons (ev_v (R := (rScr K)) rfl f__law_script) (ea_cons ev_i ea_nil)) ⟨_, _, _, rfl, hr10, rfl⟩) (ea_cons ev_i ea_nil)) ⟨_, _, _, rfl, hr11, rfl⟩) (ea_cons (ev_call (P := P__law_mixed) (ea_cons (ev_call (P := P__law_cell_at K) (ea_cons (ev_v (R := (rScr K)) rfl f__law_script) (ea_cons ev_i ea_nil)) ⟨_, _, _, rfl, hr12, rfl⟩) (ea_cons ev_i ea_nil)) ⟨_, _, _, rfl, hr13, rfl⟩) ea_nil)) ⟨_, _, _, rfl, hr14, rfl⟩) ea_nil) (show (1 : Nat) ≤ limL by decide)) hx15) fun p18 xs19 Fs16 s16 f17 => nx_of ?_)
    obtain ⟨r20, hr20, h⟩ := bsome h
    obtain ⟨r21, hr21, h⟩ := bsome h
    obtain ⟨r22, hr22, h⟩ := bsome h
    obtain ⟨r23, hr23, h⟩ := bsome h
    obtain ⟨r24, hr24, h⟩ := bsome h
    obtain ⟨y25, hy25, h⟩ := bsome h
    obtain ⟨hz26, he27⟩ := iteo hy25
    refine sx_seq (sx_app (n := 0) rfl rfl f17 (ev_call (P := P__law_built) (ea_cons (ev_call (P := P__law_mixed) (ea_cons (ev_call (P := P__law_cell_at K) (ea_cons (ev_v (R := (rScr K)) rfl (Rep.mono (rScr K) s16 f__law_script)) (ea_cons ev_i ea_nil)) ⟨_, _, _, rfl, hr20, rfl⟩) (ea_cons ev_i ea_nil)) ⟨_, _, _, rfl, hr21, rfl⟩) (ea_cons (ev_call (P := P__law_mixed) (ea_cons (ev_call (P := P__law_cell_at K) (ea_cons (ev_v (R := (rScr K)) rfl (Rep.mono (rScr K) s16 f__law_script)) (ea_cons ev_i ea_nil)) ⟨_, _, _, rfl, hr22, rfl⟩) (ea_cons ev_i ea_nil)) ⟨_, _, _, rfl, hr23, rfl⟩) ea_nil)) ⟨_, _, _, rfl, hr24, rfl⟩) hz26 fun v28 Fs29 s29 f30 => nx_of ?_)
    obtain ⟨r31, hr31, h⟩ := bsome h
    obtain ⟨r32, hr32, h⟩ := bsome h
    obtain ⟨r33, hr33, h⟩ := bsome h
    obtain ⟨y34, hy34, h⟩ := bsome h
    obtain ⟨hz35, he36⟩ := iteo hy34
    refine sx_seq (sx_app (n := 0) rfl rfl (he27 ▸ f30) (ev_call (P := P__law_near) (ea_cons (ev_call (P := P__law_mixed) (ea_cons (ev_call (P := P__law_cell_at K) (ea_cons (ev_v (R := (rScr K)) rfl (Rep.mono (rScr K) (s16.trans s29) f__law_script)) (ea_cons ev_i ea_nil)) ⟨_, _, _, rfl, hr31, rfl⟩) (ea_cons ev_i ea_nil)) ⟨_, _, _, rfl, hr32, rfl⟩) ea_nil) ⟨_, _, rfl, hr33, rfl⟩) hz35 fun v37 Fs38 s38 f39 => nx_of ?_)
    obtain ⟨x40, hx40, h⟩ := lt_e h
    refine sx_seq (sx_asgN (ev_isN (ev_lst (R := (rT2 (rL rS) (rL rS))) (as := []) ea_nil (show (0 : Nat) ≤ limL by decide)) hx40) fun p43 xs44 Fs41 s41 f42 => nx_of ?_)
    obtain ⟨w45, hl46, hk47, hr48⟩ := fwd_o h
    refine sx_seq (sx_for (J := fun (s : (List ((List (List Nat) × List (List Nat))))) σ F O => ∃ (x__law_held : List V) (w__law_k : Option V) (w__law_row : Option V) (w__law_due : Option V) (w__law_found : Option V) (w__law_pair : Option V), σ = [some v__law_script, some (.ref p18), some (.ref p43), w__law_k, w__law_row, w__law_due, w__law_found, w__law_pair] ∧ O = [(p43, .lst x__law_held), (p18, .lst ((xs19 ++ [v28]) ++ [v37]))] ∧ AllB (rT2 (rL rS) (rL rS)) s x__law_held F ∧ True) (Ro := (fun (r : Bool) v F (O : Own) => (rB).rp r v F)) hl46 (ei_list (ev_frz (ev_lst (R := rInt) (as := [(0 : Int), (1 : Int), (2 : Int), (0 : Int), (2 : Int), (1 : Int)]) (ea_cons ev_i (ea_cons ev_i (ea_cons ev_i (ea_cons ev_i (ea_cons ev_i (ea_cons ev_i ea_nil)))))) (show (6 : Nat) ≤ limL by decide)))) tg_n (fun Fe49 e49 => ⟨xs44, _, _, _, _, _, rfl, rfl, (AllB.mono e49 f42), trivial⟩) ?_ ?_)
    · refine ⟨fun s50 es51 σ9 Fe52 O9 e52 ⟨xs53, w54, w55, w56, w57, w58, hs59, ho60, f61, _⟩ => ?_, fun r9 er9 v9 F9 O9 e9 hr9 => ?_⟩
      · subst hs59 ho60
        have h := hk47 s50 es51
        refine nx_of ?_
        refine sx_frzI (n := 0) rfl fun n62 => ?_
        obtain ⟨y73, hy73, h⟩ := bsome h
        obtain ⟨c74, hc74, h⟩ := bsome h
        obtain rfl := Option.some.inj h
        refine sx_ret (R := rB) (ev_op (ev_nspn (ev_lc (R' := (rT2 (rL rS) (rL rS))) hy73 (ei_list (ev_v (R := (rL (rT2 (rL rS) (rL rS)))) rfl (rp_frz n62 f61))) tg_n (fun a63 σ9 F64 F65 ob ha9 e66 e67 ⟨v68, zs, f69⟩ hb70 => by
    subst zs
    obtain ⟨c71, hc71, hb70⟩ := bsome hb70
    by_cases z72 : (!c71) = true
    · have hb70 := cnd_t hb70 z72
      obtain rfl := Option.some.inj hb70
      exact ⟨rfl, et_is (et_b (ev_op (ev_op (ev_v (R := (rT2 (rL rS) (rL rS))) rfl f69) ev_i o_ixT20) (ev_op (ev_v (R := (rT2 (rL rS) (rL rS))) rfl f69) ev_i o_ixT21) (by have z := eqO_e hc71; have z1 := dt_v (eL eS) (K := K) (R := (rL rS)) z.1; have z2 := dt_v (eL eS) (K := K) (R := (rL rS)) z.2.1; have z3 := o_neD z1 z2; rw [z.2.2] at z3; exact z3))) z72, fun b eb => by cases eb; exact (ev_v (R := (rT2 (rL rS) (rL rS))) rfl f69)⟩
    · have z72 := Bool.eq_false_iff.mpr z72
      have hb70 := cnd_f hb70 z72
      obtain rfl := Option.some.inj hb70
      exact ⟨rfl, et_is (et_b (ev_op (ev_op (ev_v (R := (rT2 (rL rS) (rL rS))) rfl f69) ev_i o_ixT20) (ev_op (ev_v (R := (rT2 (rL rS) (rL rS))) rfl f69) ev_i o_ixT21) (by have z := eqO_e hc71; have z1 := dt_v (eL eS) (K := K) (R := (rL rS)) z.1; have z2 := dt_v (eL eS) (K := K) (R := (rL rS)) z.2.1; have z3 := o_neD z1 z2; rw [z.2.2] at z3; exact z3))) z72, fun b eb => by cases eb⟩))) (ev_nspn (ev_lst (R := (rT2 (rL rS) (rL rS))) (as := []) ea_nil (show (0 : Nat) ≤ limL by decide))) (by have z := eqO_e hc74; have z1 := dt_l (eT2 (eL eS) (eL eS)) (K := K) (R := (rT2 (rL rS) (rL rS))) z.1; have z2 := dt_l (eT2 (eL eS) (eL eS)) (K := K) (R := (rT2 (rL rS) (rL rS))) z.2.1; have z3 := o_eqD z1 z2; rw [z.2.2] at z3; exact z3)) fun v75 Fs76 s76 f77 => ?_
        exact rt_val k (fun _ => f77)
      · have h := hr48 r9 er9
        obtain rfl := Option.some.inj h
        exact rt_val k (fun _ => hr9)
    · rintro s78 a79 σ9 σ8 Fe80 Fe81 O9 o9 D9 ha9 e80 e81 ⟨xs83, w84, w85, w86, w87, w88, hs89, ho90, f91, _⟩ ⟨v92, zs, f93⟩ h acc82
      subst hs89 ho90
      subst zs
      obtain ⟨c94, hc94, h⟩ := bsome h
      obtain ⟨x95, hx95, h⟩ := lt_e h
      refine sx_seq (sx_asg2 (ev_is (ev_op (ev_o (R := (rT2 rS rD)) rfl (List.Mem.tail _ (List.Mem.head _)) (AllB.mono ((s41.trans e80).trans e81) (he36 ▸ f39))) (ev_v (R := rInt) rfl f93) (o_ixL hc94)) hx95) fun v97 v99 Fs96 s96 f98 f100 => nx_of ?_)
      obtain ⟨r101, hr101, h⟩ := bsome h
      obtain ⟨x102, hx102, h⟩ := lt_e h
      refine sx_seq (sx_asg (R := (rDf _)) (ev_is (ev_callFd (P := P_sort_of) (Same.refl _) (ea_cons (ev_v (R := rS) rfl f98) ea_nil) ⟨_, rfl, hr101⟩) hx102) fun v105 Fs103 s103 f104 => nx_of ?_)
      obtain ⟨r106, hr106, h⟩ := bsome h
      refine sx_seq (sx_if (et_not (et_B (ev_call (P := P__law_plain) (ea_cons (evF_D (ev_v (R := (rDf _)) rfl f104)) (ea_cons (ev_v (R := rD) rfl (Rep.mono rD s103 f100)) ea_nil)) ⟨_, _, _, rfl, hr106, rfl⟩))) (fun z107 Fs108 s108 => ?_) (fun z107 Fs109 s109 => ?_))
      · have h := cnd_t h z107
        obtain rfl := Option.some.inj h
        refine sx_ret (R := rB) ev_b fun v110 Fs111 s111 f112 => ?_
        exact acc82.rt _ rfl _ _ _ (((s96.trans s103).trans s108).trans s111) f112
      · have h := cnd_f h z107
        refine sx_next ?_
        refine nx_of ?_
        obtain ⟨c113, hc113, h⟩ := bsome h
        obtain ⟨c114, hc114, h⟩ := bsome h
        refine sx_if (et_b (ev_op (ev_op (ev_v (R := rD) rfl (Rep.mono rD (s103.trans s109) f100)) ev_i (o_ixD hc113)) (ev_s (l := [99, 101, 108, 108, 115]) (by decide +kernel) (by decide +kernel)) (by have z := eqO_e hc114; have z1 := dt_v eD (K := K) (R := rD) z.1; have z2 := dt_v eS (K := K) (R := rS) z.2.1; have z3 := o_eqD z1 z2; rw [z.2.2] at z3; exact z3))) (fun z115 Fs116 s116 => ?_) (fun z115 Fs117 s117 => ?_)
        · have h := cnd_t h z115
          obtain ⟨c118, hc118, h⟩ := bsome h
          obtain ⟨c119, hc119, h⟩ := bsome h
          obtain ⟨c120, hc120, h⟩ := bsome h
          obtain ⟨c131, hc131, h⟩ := bsome h
          obtain ⟨c132, hc132, h⟩ := bsome h
          obtain ⟨y133, hy133, h⟩ := bsome h
          obtain ⟨y134, hy134, h⟩ := bsome h
          obtain ⟨q121, vs122, p123, xs124, rfl, hq126, hi127, hp128, hb129, hes130⟩ := fd_at (Rep.mono (rDf _) (s109.trans s116) f104) hc131 hc132
          obtain ⟨hz135, he136⟩ := iteo hy133
          obtain ⟨hz137, he138⟩ := iteo hy134
          rw [← he136] at hz137 he138
          refine sx_hold (n := 0) rfl rfl ((((((s16.trans s29).trans s38).trans s41).trans e80).trans e81).trans s96) ((s103.trans s109).trans s116) (AllB.mono (e81.trans s96) f91) (rd_at rfl hq126 hi127) hp128 hb129 hes130 (ev_opN (ev_spn (ev_asLS hc119 (ev_op (ev_v (R := rD) rfl (Rep.mono rD ((s103.trans s109).trans s116) f100)) ev_i (o_ixD hc118)))) (ev_nspn (ev_lst (R := rS) (as := [[109, 111, 114, 101]]) (ea_cons (ev_s (l := [109, 111, 114, 101]) (by decide +kernel) (by decide +kernel)) ea_nil) (show (1 : Nat) ≤ limL by decide))) (o_catLO hc120)) (fun _ => (ev_s (l := [109, 111, 114, 101]) (by decide +kernel) (by decide +kernel))) hz137 hz135 fun w139 Fs140 s140 f141 => ?_
          obtain rfl := Option.some.inj h
          exact (acc82.nx _ rfl _ _ _ (s96.trans s140) ⟨(xs83 ++ [w139]), _, _, _, _, _, rfl, rfl, (he138 ▸ f141), trivial⟩).1
        · have h := cnd_f h z115
          refine sx_next ?_
          obtain rfl := Option.some.inj h
          exact (acc82.nx _ rfl _ _ _ (((s96.trans s103).trans s109).trans s117) ⟨xs83, _, _, _, _, _, rfl, rfl, (AllB.mono ((((e81.trans s96).trans s103).trans s109).trans s117) f91), trivial⟩).1

end
end Law
namespace Law
open PySem PySem.Spec Lm
/-! the law's number of a cell (k01, k02, k03 and later) -/
theorem mixed_ok (c k : Int) (hk : 0 ≤ k ∧ k ≤ 1000) : ∃ v, m__law_mixed c k = some v ∧ 0 ≤ v ∧ v < 306783376 := by
  unfold m__law_mixed
  have n0 := Int.emod_nonneg c (b := 1000000007) (by decide)
  have n1 := Int.emod_lt_of_pos c (b := 1000000007) (by decide)
  have m0 := Int.emod_nonneg ((c % 1000000007 + 1) * 48271) (b := 2147483647) (by decide)
  have m1 := Int.emod_lt_of_pos ((c % 1000000007 + 1) * 48271) (b := 2147483647) (by decide)
  have k2 : 0 ≤ 7919 * k * k ∧ 7919 * k * k ≤ 7919 * 1000 * 1000 := ⟨Int.mul_nonneg (by omega) hk.1, Int.mul_le_mul (by omega) hk.2 hk.1 (by omega)⟩
  refine ⟨_, bindE (modO_s (by decide)) (bindE (mulO_s (by omega) (by decide)) (bindE (modO_s (by decide)) (ltE (bindE (mulO_s (by decide) (by omega)) (bindE (mulO_s (by omega) (by omega)) (bindE (mulO_s (by decide) (by omega)) (bindE (mulO_s (by omega) (by omega)) (bindE (modO_s (by decide)) (bindE (divO_s (by decide)) rfl))))))))), ?_, ?_⟩
  · exact Int.ediv_nonneg (Int.emod_nonneg _ (by decide)) (by decide)
  · have := Int.emod_lt_of_pos ((c % 1000000007 + 1) * 48271 % 2147483647 * (16807 + 7919 * k * k + 31 * k)) (b := 2147483629) (by decide)
    omega
theorem ixO_all {α : Type} {P : α → Prop} {as : List α} {i : Int} (h : ∀ a ∈ as, P a) (h0 : 0 ≤ i) (h1 : i < as.length) : ∃ a, ixO as i = some a ∧ P a := by
  rw [ixO_pos h0 h1]
  have h2 : i.toNat < as.length := by omega
  exact ⟨_, List.getElem?_eq_getElem h2, h _ (List.getElem_mem _)⟩
theorem mod_rng (a : Int) {n : Int} (h : 0 < n) : 0 ≤ a % n ∧ a % n < n := ⟨Int.emod_nonneg _ (by omega), Int.emod_lt_of_pos _ h⟩
/-! the program's own: names, words, cells -/
theorem name_ok (l : List Nat) : m_is_name l = some (nameB l) := by
  unfold m_is_name nameB
  have hm : ∀ p : Nat → Bool, mapF (fun (a : Nat) => some (some (p a))) l = some (l.map p) := fun p => mapF_map fun a _ => rfl
  by_cases h1 : 1 ≤ l.length
  · by_cases h2 : l.length ≤ 12
    · refine cndF ?_ ?_
      · rw [decT (show (1 : Int) ≤ (l.length : Int) by omega), decT (show (l.length : Int) ≤ 12 by omega)]
        rfl
      · refine bindE (hm _) ?_
        rw [decT h1, decT h2]
        simp only [Bool.true_and, List.all_map]
        rfl
    · refine cndT ?_ ?_
      · rw [decF (show ¬(l.length : Int) ≤ 12 by omega), Bool.and_false]
        rfl
      · rw [decF h2, Bool.and_false, Bool.false_and]
  · refine cndT ?_ ?_
    · rw [decF (show ¬(1 : Int) ≤ (l.length : Int) by omega), Bool.false_and]
      rfl
    · rw [decF h1, Bool.false_and, Bool.false_and]
theorem words_ok (l : List Nat) : m_words_of l = some (wordsS l) := by
  unfold m_words_of
  refine bindE (mapF_filter (p := fun w => !decide (w = [])) (g := id) fun a _ => ?_) ?_
  · cases h : (!decide (a = [])) <;> rfl
  · rw [List.map_id]
    rfl
theorem tidyM_ok {l : List Nat} (h : l.length ≤ 100000) : m_tidy l = some (tidyS l) := by
  unfold m_tidy
  exact bindE (words_ok l) (bindE (joinO_s (by have := tidy_len l; unfold tidyS at this; omega)) rfl)
/-- the texts between bars: what is under way, whether a backslash stands ahead -/
def clS : List Nat → Bool → List Nat → List (List Nat)
  | cur, _, [] => [cur]
  | cur, sl, c :: r => if c = 124 ∧ sl = false then cur :: clS [] false r else clS (cur ++ [c]) (decide (c = 92)) r
theorem clS_mem : ∀ (l cur : List Nat) (sl : Bool), ∀ w ∈ clS cur sl l, w.length ≤ cur.length + l.length ∧ ∀ c ∈ w, c ∈ cur ∨ c ∈ l
  | [], cur, sl, w, m => by
    have e : w = cur := by simpa [clS] using m
    subst e
    exact ⟨by simp, fun c m => Or.inl m⟩
  | a :: r, cur, sl, w, m => by
    unfold clS at m
    by_cases e : a = 124 ∧ sl = false
    · rw [if_pos e] at m
      rcases List.mem_cons.mp m with z | m
      · subst z; exact ⟨by omega, fun c m => Or.inl m⟩
      · have := clS_mem r [] false w m
        refine ⟨by have := this.1; simp at this ⊢; omega, fun c mc => (this.2 c mc).elim (fun z => by cases z) fun z => Or.inr (List.mem_cons_of_mem _ z)⟩
    · rw [if_neg e] at m
      have := clS_mem r _ _ w m
      refine ⟨by have := this.1; simp at this ⊢; omega, fun c mc => (this.2 c mc).elim (fun z => ?_) fun z => Or.inr (List.mem_cons_of_mem _ z)⟩
      rcases List.mem_append.mp z with z | z
      · exact Or.inl z
      · rw [List.mem_singleton.mp z]; exact Or.inr (List.mem_cons_self ..)
theorem clS_len : ∀ (l cur : List Nat) (sl : Bool), (clS cur sl l).length ≤ l.length + 1
  | [], cur, sl => by simp [clS]
  | a :: r, cur, sl => by
    unfold clS
    split
    · have := clS_len r [] false; simp; omega
    · have := clS_len r (cur ++ [a]) (decide (a = 92)); simp; omega
def cells (l : List Nat) : List (List Nat) := (clS [] false l).map fun w => barS (tidyS w)
theorem split_loop {f : List (List Nat) × List Nat → Nat → Option (Fw Unit (List (List Nat) × List Nat))}
    (hb : ∀ ws cur ah, ws.length < 1000000 → ah ≠ [92] → f (ws ++ [cur], ah) 124 = some (.nx (ws ++ [cur] ++ [[]], [124])))
    (ho : ∀ ws cur ah a, cur.length < 1000000 → ¬(a = 124 ∧ ah ≠ [92]) → f (ws ++ [cur], ah) a = some (.nx (ws ++ [cur ++ [a]], [a]))) :
    ∀ (l : List Nat) (ws : List (List Nat)) (cur ah : List Nat), ws.length + l.length < 1000000 → cur.length + l.length < 1000000 → ∃ ah', loop f l (ws ++ [cur], ah) = some (.nx (ws ++ clS cur (decide (ah = [92])) l, ah'))
  | [], ws, cur, ah, _, _ => ⟨ah, rfl⟩
  | a :: r, ws, cur, ah, h1, h2 => by
    rw [List.length_cons] at h1 h2
    unfold clS
    by_cases e : a = 124 ∧ ah ≠ [92]
    · obtain ⟨rfl, e2⟩ := e
      rw [if_pos ⟨rfl, decF e2⟩]
      obtain ⟨ah', ih⟩ := split_loop hb ho r (ws ++ [cur]) [] [124] (by simp; omega) (by simp; omega)
      refine ⟨ah', loopE (hb ws cur ah (by omega) e2) ?_⟩
      rw [ih, List.append_assoc]
      rfl
    · rw [if_neg (by rintro ⟨z1, z2⟩; exact e ⟨z1, by simpa using z2⟩)]
      obtain ⟨ah', ih⟩ := split_loop hb ho r ws (cur ++ [a]) [a] (by omega) (by simp; omega)
      refine ⟨ah', loopE (ho ws cur ah a (by omega) e) ?_⟩
      rw [ih]
      have e3 : decide (([a] : List Nat) = [92]) = decide (a = 92) := one_dec a 92
      rw [e3]
theorem rpl_ok {l : List Nat} (h : l.length ≤ 300000) : rplO [92, 124] [124] l = some (barS l) := by
  unfold rplO
  rw [(bar_repl l).1, if_pos]
  refine ⟨Nat.le_trans (barS_len l) (by show _ ≤ 1000000; omega), ?_⟩
  simp only [List.length_singleton]
  omega
theorem split_ok {l : List Nat} (h : l.length ≤ 10000) : m_split_cells l = some (cells l) := by
  unfold m_split_cells
  refine ltE (ltE (fwdEx ?_))
  refine (split_loop ?_ ?_ l [] [] [] (by simp; omega) (by simp; omega)).elim fun ah' e => ⟨_, e, ?_⟩
  · intro ws cur ah hl ha
    dsimp only
    exact bindE (cndT (by rw [decT rfl, ndecT ha]; rfl) (bindE (appO_s (by simp; omega)) rfl)) rfl
  · intro ws cur ah a hl hno
    dsimp only
    refine bindE (cndF ?_ (bindE (ixO_last _ _) (bindE (catS_s (by simp; omega)) (bindE (setO_last _ _ _) rfl)))) rfl
    by_cases z : a = 124
    · have z2 : ah = [92] := Classical.byContradiction fun q => hno ⟨z, q⟩
      rw [z2]
      simp
    · rw [decF z]
      rfl
  · dsimp only
    rw [List.nil_append]
    refine bindE (mapF_map (g := fun w => barS (tidyS w)) fun w m => ?_) rfl
    have hw := (clS_mem l [] _ w m).1
    simp at hw
    exact bindE (tidyM_ok (by omega)) (bindE (rpl_ok (by have := tidy_len w; omega)) rfl)
/-! headings -/
def headD (l : List Nat) : PyData := if (1 ≤ l.length - (lstripS l [61]).length ∧ l.length - (lstripS l [61]).length ≤ 3) ∧ (lstripS l [61]).take 1 = [32] then PyData.tuple [encS [104, 101, 97, 100, 105, 110, 103], PyData.int ((l.length - (lstripS l [61]).length : Nat) : Int), encS (tidyS (lstripS l [61]))] else PyData.none
theorem lead_or (l : List Nat) : ∃ k, l = List.replicate k 61 ++ lstripS l [61] ∧ l.length - (lstripS l [61]).length = k ∧ (lstripS l [61]).length ≤ l.length ∧ ∀ d, (lstripS l [61]).head? = some d → d ≠ 61 := by
  obtain ⟨k, hk⟩ := dropW_rep 61 l
  have hk' : l = List.replicate k 61 ++ lstripS l [61] := hk
  have e := congrArg List.length hk'
  rw [List.length_append, List.length_replicate] at e
  exact ⟨k, hk', by omega, by omega, dropW_head 61 l⟩
theorem head_ok {l : List Nat} (h : l.length ≤ 10000) : m_heading_sort l = some (headD l) := by
  obtain ⟨k, hk, hd, hle, hh⟩ := lead_or l
  unfold m_heading_sort headD
  rw [hd]
  refine ltE ?_
  have e1 : (l.length : Int) - ((lstripS l [61]).length : Int) = (k : Int) := by omega
  rw [e1]
  have e2 : cutL l (some (k : Int)) (some ((k : Int) + 1)) = (lstripS l [61]).take 1 := by
    have := cut_3 (List.replicate k 61) (lstripS l [61]) 1
    rw [List.length_replicate, ← hk] at this
    exact this
  have e3 : cutL l (some (k : Int)) none = lstripS l [61] := by
    have := cut_at (List.replicate k 61) (lstripS l [61])
    rw [List.length_replicate, ← hk] at this
    exact this
  rw [e2, e3]
  by_cases c : (1 ≤ k ∧ k ≤ 3) ∧ (lstripS l [61]).take 1 = [32]
  · rw [if_pos c]
    refine cndT ?_ (bindE (tidyM_ok (by omega)) rfl)
    rw [decT (show (1 : Int) ≤ (k : Int) by omega), decT (show (k : Int) ≤ 3 by omega), decT c.2]
    rfl
  · rw [if_neg c]
    refine cndF ?_ rfl
    by_cases c1 : 1 ≤ k
    · by_cases c2 : k ≤ 3
      · rw [decF fun q => c ⟨⟨c1, c2⟩, q⟩, Bool.and_false]
      · rw [decF (show ¬(k : Int) ≤ 3 by omega), Bool.and_false, Bool.false_and]
    · rw [decF (show ¬(1 : Int) ≤ (k : Int) by omega), Bool.false_and, Bool.false_and]
/-! rows of cells -/
def cellsB (l : List Nat) : Bool := decide (2 ≤ l.length) && (startsS l [124] && (endsS l [124] && !decide (ixO l (-2) = some 92)))
def cellsD (l : List Nat) : PyData := if cellsB l = true then PyData.tuple [encS [99, 101, 108, 108, 115], PyData.list ((cells (cutL l (some 1) (some (-1)))).map encS)] else PyData.none
theorem cells_ok {l : List Nat} (h : l.length ≤ 10000) : m_cells_sort l = some (cellsD l) := by
  unfold m_cells_sort
  have hc : ((cnd (decide ((l.length : Int) < (2 : Int))) (some true) ((cnd (!(startsS l [124])) (some true) ((cnd (!(endsS l [124])) (some true) ((ixO l (-(2 : Int))).bind fun c10 => some (decide (c10 = 92)))).bind fun c11 => some c11)).bind fun c12 => some c12))) = some (!cellsB l) := by
    unfold cellsB
    by_cases h2 : 2 ≤ l.length
    · obtain ⟨u, x, y, rfl⟩ := two_end h2
      refine cndF (decF (by omega)) ?_
      rw [decT h2, Bool.true_and]
      cases startsS (u ++ [x, y]) [124] with
      | false => rfl
      | true =>
        refine bindE (cndF rfl ?_) rfl
        cases endsS (u ++ [x, y]) [124] with
        | false => rfl
        | true =>
          refine bindE (cndF rfl ?_) rfl
          rw [show (-(2 : Int)) = -2 from rfl, ixO_m2]
          simp
    · rw [decF h2, Bool.false_and]
      exact cndT (decT (by omega)) rfl
  refine bindE hc ?_
  unfold cellsD
  cases cellsB l with
  | true => exact cndF rfl (bindE (split_ok (Nat.le_trans (cutL_len _ _ _) h)) rfl)
  | false => exact cndT rfl rfl
/-! rows that name -/
abbrev MK : List Nat := [93, 58, 32]
def namedD (l : List Nat) : PyData := match TL.par MK [] l with
  | none => PyData.none
  | some (a, b) => if startsS a [91] = true then
      (if startsS a [91, 94] = true ∧ nameB (a.drop 2) = true then PyData.tuple [encS [110, 111, 116, 101], encS (lowerS (a.drop 2)), encS (tidyS b)]
       else if nameB (a.drop 1) = true ∧ (wordsS b).length = 1 then PyData.tuple [encS [110, 97, 109, 101], encS (lowerS (a.drop 1)), encS (tidyS b)] else PyData.none)
      else PyData.none
theorem one_word {b : List Nat} (h : (wordsS b).length = 1) : wordsS b = [tidyS b] := by
  unfold tidyS
  match q : wordsS b, h with
  | [w], _ => rfl
theorem par_len {l a b : List Nat} (h : TL.par MK [] l = some (a, b)) : a.length ≤ l.length ∧ b.length ≤ l.length := by
  have := par_mem MK l [] a b h
  refine ⟨by have := this.2.2.1; simpa using this, this.2.2.2⟩
theorem named_ok {l : List Nat} (h : l.length ≤ 10000) : m_named_sort l = some (namedD l) := by
  unfold m_named_sort namedD partS
  refine ltE ?_
  cases q : TL.par MK [] l with
  | none => exact cndT rfl rfl
  | some ab =>
    obtain ⟨a, b⟩ := ab
    have hl := par_len q
    dsimp only
    have d2 : cutL a (some (2 : Int)) none = a.drop 2 := cut_drop a 2
    have d1 : cutL a (some (1 : Int)) none = a.drop 1 := cut_drop a 1
    rw [d2, d1]
    cases s : startsS a [91] with
    | false => exact cndT rfl (by rw [if_neg Bool.false_ne_true])
    | true =>
      rw [if_pos rfl]
      refine cndF rfl ?_
      have hc : (cnd (startsS a [91, 94]) ((m_is_name (a.drop 2)).bind fun r24 => some r24) (some false)) = some (startsS a [91, 94] && nameB (a.drop 2)) := by
        cases startsS a [91, 94] with
        | false => rfl
        | true => exact bindE (name_ok _) rfl
      refine bindE hc ?_
      by_cases c : startsS a [91, 94] = true ∧ nameB (a.drop 2) = true
      · rw [if_pos c, c.1, c.2]
        exact cndT rfl (bindE (tidyM_ok (by omega)) rfl)
      · rw [if_neg c]
        have c' : (startsS a [91, 94] && nameB (a.drop 2)) = false := by
          rw [Bool.eq_false_iff]
          intro z
          exact c (by rwa [Bool.and_eq_true] at z)
        rw [c']
        refine cndF rfl (bindE (words_ok b) (ltE (bindE (name_ok _) ?_)))
        by_cases c2 : nameB (a.drop 1) = true ∧ (wordsS b).length = 1
        · rw [if_pos c2, c2.1]
          refine cndT ?_ ?_
          · rw [decT (show ((wordsS b).length : Int) = 1 by omega)]; rfl
          · rw [one_word c2.2]
            exact bindE (ixO_nat (i := 0) rfl) rfl
        · rw [if_neg c2]
          refine cndF ?_ rfl
          by_cases z : nameB (a.drop 1) = true
          · rw [z, decF (show ¬((wordsS b).length : Int) = 1 from fun y => c2 ⟨z, by omega⟩)]
            rfl
          · rw [Bool.eq_false_iff.mpr z]
            rfl
/-! rows without blanks ahead -/
theorem isND_iff {d : PyData} : isND d = true ↔ d = PyData.none := by cases d <;> simp [isND]
def pick3 (a b c : PyData) : PyData := if isND a = true then (if isND b = true then c else b) else a
def flushD (row bare : List Nat) : PyData :=
  if startsS bare [62] = true then PyData.tuple [encS [113, 117, 111, 116, 101], encS (if (row.drop 1).take 1 = [32] then row.drop 2 else row.drop 1)]
  else if bare = [126, 126, 126] then PyData.tuple [encS [102, 101, 110, 99, 101]] else pick3 (headD bare) (cellsD bare) (namedD bare)
theorem starts_take (r : List Nat) (c : Nat) : startsS r [c] = decide (r.take 1 = [c]) := by
  cases r with
  | nil => rfl
  | cons a r =>
    rw [starts_cons, starts_nil, Bool.and_true]
    simp
theorem flush_ok {row bare : List Nat} (h : bare.length ≤ 10000) : m_flush_sort row bare = some (flushD row bare) := by
  unfold m_flush_sort flushD
  cases s : startsS bare [62] with
  | true =>
    rw [if_pos rfl]
    refine cndT rfl (ltE ?_)
    have d1 : cutL row (some (1 : Int)) none = row.drop 1 := cut_drop row 1
    have d2 : cutL (row.drop 1) (some (1 : Int)) none = row.drop 2 := by rw [show (some (1 : Int)) = some ((1 : Nat) : Int) from rfl, cut_drop, List.drop_drop]
    rw [d1, d2, starts_take]
    by_cases z : (row.drop 1).take 1 = [32]
    · rw [if_pos z]; exact bindE (cndT (decT z) rfl) rfl
    · rw [if_neg z]; exact bindE (cndF (decF z) rfl) rfl
  | false =>
    rw [if_neg Bool.false_ne_true]
    refine cndF rfl ?_
    by_cases z : bare = [126, 126, 126]
    · rw [if_pos z]; exact cndT (decT z) rfl
    · rw [if_neg z]
      refine cndF (decF z) (bindE (head_ok h) (bindE (cells_ok h) (bindE (named_ok h) ?_)))
      unfold pick3
      cases h1 : isND (headD bare) with
      | false => simp only [loop, cnd, h1, Bool.not_false, fwd]; rfl
      | true =>
        cases h2 : isND (cellsD bare) with
        | false => simp only [loop, cnd, h1, h2, Bool.not_false, Bool.not_true, fwd]; rfl
        | true =>
          cases h3 : isND (namedD bare) with
          | false => simp only [loop, cnd, h1, h2, h3, Bool.not_false, Bool.not_true, fwd]; rfl
          | true =>
            simp only [loop, cnd, h1, h2, h3, Bool.not_true, fwd]
            rw [isND_iff.mp h3]
            rfl
def Sg (l : List Nat) : Prop := l.length ≤ 1000 ∧ ∀ c ∈ l, c < 128
theorem Sg.ok {l : List Nat} (h : Sg l) : OkS l := ⟨by show _ ≤ 1000000; have := h.1; omega, h.2⟩
theorem Sg.sub {l m : List Nat} (h : Sg l) (h1 : m.length ≤ l.length) (h2 : ∀ c ∈ m, c ∈ l) : Sg m := ⟨Nat.le_trans h1 h.1, fun c q => h.2 c (h2 c q)⟩
theorem Sg.drop {l : List Nat} (h : Sg l) (n : Nat) : Sg (l.drop n) := h.sub (by rw [List.length_drop]; omega) fun _ m => List.mem_of_mem_drop m
theorem Sg.tidy {l : List Nat} (h : Sg l) : OkS (tidyS l) := tidy_ok (by have := h.1; omega) h.2
theorem Sg.low {l : List Nat} (h : Sg l) : OkS (lowerS l) := okS_lower h.ok
theorem Sg.lst {l : List Nat} (h : Sg l) : Sg (lstripS l [61]) := h.sub (List.dropWhile_sublist _).length_le fun _ m => mem_dropWhile m
/-! the sort of a row, told by its parts -/
def bodyD (b : Nat) (t : List Nat) : PyData := if (startsS t [45, 32] || startsS t [43, 32]) = true then PyData.tuple [encS [105, 116, 101, 109], PyData.int (b : Int), encC (t.headD 0), encS (tidyS (t.drop 2))] else PyData.tuple [encS [112, 108, 97, 105, 110], PyData.int (b : Int), encS (tidyS t)]
theorem sort_empty (b : Nat) : m_sort_of (List.replicate b 32) = some (PyData.tuple [encS [101, 109, 112, 116, 121]]) := by
  unfold m_sort_of
  refine ltE ?_
  rw [rstrip_blanks]
  exact ltE (ltE (cndT rfl rfl))
theorem sort_t {b e : Nat} {t : List Nat} (hl : t.length ≤ 10000) (h0 : t ≠ []) (h1 : ∀ d, t.head? = some d → d ≠ 32) (h2 : ∀ d, t.getLast? = some d → d ≠ 32) :
    m_sort_of (List.replicate b 32 ++ (t ++ List.replicate e 32)) = some (if b = 0 ∧ isND (flushD (t ++ List.replicate e 32) t) = false then flushD (t ++ List.replicate e 32) t else bodyD b t) := by
  obtain ⟨a, r, ht, ha⟩ := head_free h1 h0
  have i0 : ixO t (0 : Int) = some a := by rw [ht]; exact ixO_nat (i := 0) rfl
  have hd : t.headD 0 = a := by rw [ht]; rfl
  have d2 : cutL t (some (2 : Int)) none = t.drop 2 := cut_drop t 2
  have far : (((List.replicate b 32 ++ t).length : Int) - (t.length : Int)) = (b : Int) := by rw [List.length_append, List.length_replicate]; omega
  have body : cnd (startsS t [45, 32] || startsS t [43, 32]) ((ixO t (0 : Int)).bind fun c45 => (m_tidy (cutL t (some (2 : Int)) none)).bind fun r46 => some (PyData.tuple [encS [105, 116, 101, 109], PyData.int (b : Int), encC c45, encS r46])) ((m_tidy t).bind fun r50 => some (PyData.tuple [encS [112, 108, 97, 105, 110], PyData.int (b : Int), encS r50])) = some (bodyD b t) := by
    unfold bodyD
    rw [d2, hd]
    cases c : (startsS t [45, 32] || startsS t [43, 32]) with
    | true => exact cndT rfl (bindE i0 (bindE (tidyM_ok (by rw [List.length_drop]; omega)) rfl))
    | false => exact cndF rfl (bindE (tidyM_ok (by omega)) rfl)
  unfold m_sort_of
  rw [lt_eq, rstrip_body b e t h0 h2, lt_eq, lstrip_body b t h1, lt_eq, far]
  refine cndF (decF h0) ?_
  by_cases hz : b = 0
  · subst hz
    have e0 : List.replicate 0 32 ++ t = t := rfl
    have e1 : List.replicate 0 32 ++ (t ++ List.replicate e 32) = t ++ List.replicate e 32 := rfl
    rw [e0, e1]
    refine cndT (decT rfl) (bindE (flush_ok hl) (ltE ?_))
    cases hn : isND (flushD (t ++ List.replicate e 32) t) with
    | false => rw [if_pos ⟨rfl, rfl⟩]; exact cndT rfl rfl
    | true => rw [if_neg (fun z => by cases z.2)]; exact cndF rfl body
  · rw [if_neg (fun z => hz z.1)]
    exact cndF (decF (by omega)) body
mutual
theorem eqv_lay : ∀ d : PyData, d.canLay0 = true → PyData.eqv d d = true
  | .none, _ => by simp [PyData.eqv]
  | .bool b, _ => by simp [PyData.eqv]
  | .int i, _ => by simp [PyData.eqv]
  | .str x, _ => by simp [PyData.eqv]
  | .list ds, h => by
    simp only [PyData.canLay0] at h
    simp only [PyData.eqv]
    exact eqvA_lay ds h
  | .tuple ds, h => by
    simp only [PyData.canLay0] at h
    simp only [PyData.eqv]
    exact eqvA_lay ds h
  | .dict _, h => by cases h
theorem eqvA_lay : ∀ ds : List PyData, PyData.canLayAll0 ds = true → PyData.eqvAll ds ds = true
  | [], _ => by simp [PyData.eqvAll]
  | d :: ds, h => by
    simp only [PyData.canLayAll0, Bool.and_eq_true] at h
    simp only [PyData.eqvAll, Bool.and_eq_true]
    exact ⟨eqv_lay d h.1, eqvA_lay ds h.2⟩
end
-- sort_t
/-! the law's words -/
abbrev gl : List Nat := [33, 34, 35, 36, 38, 39, 40, 41, 42, 43, 44, 45, 46, 47, 48, 49, 50, 51, 52, 53, 54, 55, 56, 57, 58, 59, 60, 61, 62, 63, 64, 65, 66, 67, 68, 69, 70, 71, 72, 73, 74, 75, 76, 77, 78, 79, 80, 81, 82, 83, 84, 85, 86, 87, 88, 89, 90, 91, 93, 94, 95, 96, 97, 98, 99, 100, 101, 102, 103, 104, 105, 106, 107, 108, 109, 110, 111, 112, 113, 114, 115, 116, 117, 118, 119, 120, 121, 122, 123, 125, 126]
theorem word_ok (c k : Int) (hk : 0 ≤ k ∧ k ≤ 20) : ∃ x, m__law_word c k = some x ∧ x ≠ [] ∧ x.length ≤ 5 ∧ ∀ d ∈ x, d ∈ gl := by
  unfold m__law_word
  refine bindX (show m__law_signs = some ([32, 33, 34, 35, 36, 38, 39, 40, 41, 42, 43, 44, 45, 46, 47, 48, 49, 50, 51, 52, 53, 54, 55, 56, 57, 58, 59, 60, 61, 62, 63, 64, 65, 66, 67, 68, 69, 70, 71, 72, 73, 74, 75, 76, 77, 78, 79, 80, 81, 82, 83, 84, 85, 86, 87, 88, 89, 90, 91, 92, 93, 94, 95, 96] ++ [97, 98, 99, 100, 101, 102, 103, 104, 105, 106, 107, 108, 109, 110, 111, 112, 113, 114, 115, 116, 117, 118, 119, 120, 121, 122, 123, 124, 125, 126]) from rfl) (bindX (show rplO [32] [] _ = some [33, 34, 35, 36, 38, 39, 40, 41, 42, 43, 44, 45, 46, 47, 48, 49, 50, 51, 52, 53, 54, 55, 56, 57, 58, 59, 60, 61, 62, 63, 64, 65, 66, 67, 68, 69, 70, 71, 72, 73, 74, 75, 76, 77, 78, 79, 80, 81, 82, 83, 84, 85, 86, 87, 88, 89, 90, 91, 92, 93, 94, 95, 96, 97, 98, 99, 100, 101, 102, 103, 104, 105, 106, 107, 108, 109, 110, 111, 112, 113, 114, 115, 116, 117, 118, 119, 120, 121, 122, 123, 124, 125, 126] from by decide +kernel) (bindX (show rplO [124] [] _ = some [33, 34, 35, 36, 38, 39, 40, 41, 42, 43, 44, 45, 46, 47, 48, 49, 50, 51, 52, 53, 54, 55, 56, 57, 58, 59, 60, 61, 62, 63, 64, 65, 66, 67, 68, 69, 70, 71, 72, 73, 74, 75, 76, 77, 78, 79, 80, 81, 82, 83, 84, 85, 86, 87, 88, 89, 90, 91, 92, 93, 94, 95, 96, 97, 98, 99, 100, 101, 102, 103, 104, 105, 106, 107, 108, 109, 110, 111, 112, 113, 114, 115, 116, 117, 118, 119, 120, 121, 122, 123, 125, 126] from by decide +kernel) (bindX (show rplO [92] [] _ = some gl from by decide +kernel) (ltX (bindX (mulO_s (by omega) (by omega)) ?_)))))
  obtain ⟨v, ev, hv⟩ := mixed_ok c (3 * k + 1) (by omega)
  have r5 := mod_rng v (n := 5) (by decide)
  refine bindX ev (ltX (bindX (modO_s (by decide)) (bindX (rngO_s (by omega) (by omega)) ?_)))
  obtain ⟨bs, e3, hl, hb⟩ := mapF_all (P := fun x : List Nat => ∃ d, x = [d] ∧ d ∈ gl) (as := rng 0 (1 + v % 5)) (f := fun (a26 : Int) => (m__law_mixed v a26).bind fun r34 => (modO r34 (gl.length : Int)).bind fun c35 => (ixO gl c35).bind fun c36 => some (some [c36])) fun a ha => by
    have ha2 := mem_rng ha
    obtain ⟨u, eu, hu⟩ := mixed_ok v a (by omega)
    have hm := mod_rng u (n := (gl.length : Int)) (by decide)
    obtain ⟨d, ed, hd⟩ := ixO_all (P := fun d => d ∈ gl) (as := gl) (i := u % (gl.length : Int)) (fun _ m => m) hm.1 hm.2
    exact ⟨[d], bindE eu (bindE (modO_s (by decide)) (bindE ed rfl)), d, rfl, hd⟩
  rw [rng_len] at hl
  have h1 : ∀ p ∈ bs, p.length = 1 := fun p m => by
    obtain ⟨d, e, _⟩ := hb p m
    rw [e]; rfl
  have hj := join_ones bs h1
  refine bindX e3 (bindX (joinO_s (by rw [hj, hl]; omega)) ⟨_, rfl, fun z => ?_, by rw [hj, hl]; omega, fun d m => ?_⟩)
  · have := congrArg List.length z
    rw [hj, hl] at this
    simp at this
    omega
  · rcases joinS_mem [] bs d m with z | ⟨p, hp, hc⟩
    · cases z
    · obtain ⟨d', e, hd⟩ := hb p hp
      rw [e] at hc
      rw [List.mem_singleton.mp hc]
      exact hd
theorem gl_ok {d : Nat} (h : d ∈ gl) : d < 128 ∧ d ≠ 32 := (by decide : ∀ d ∈ gl, d < 128 ∧ d ≠ 32) d h
/-! words one behind the other -/
theorem splitC_cat : ∀ (u acc v : List Nat), splitC 32 acc (u ++ 32 :: v) = splitC 32 acc u ++ splitC 32 [] v
  | [], acc, v => by rw [List.nil_append, splitC_cons, if_pos rfl]; rfl
  | a :: r, acc, v => by
    rw [List.cons_append, splitC_cons, splitC_cons]
    by_cases e : a = 32
    · rw [if_pos e, if_pos e, splitC_cat r, List.cons_append]
    · rw [if_neg e, if_neg e, splitC_cat r]
theorem words_cat (u v : List Nat) : wordsS (u ++ 32 :: v) = wordsS u ++ wordsS v := by
  unfold wordsS
  rw [splitC_cat, List.filter_append]
/-- a loose text of words -/
structure Lo (ws : List (List Nat)) (l : List Nat) (n : Nat) : Prop where
  wd : wordsS l = ws
  hd : ∃ r, l = 120 :: r
  lt : ∀ d, l.getLast? = some d → d ≠ 32
  ln : l.length ≤ n
  ok : ∀ c ∈ l, c < 128
theorem Lo.ne {ws : List (List Nat)} {l : List Nat} {n : Nat} (h : Lo ws l n) : l ≠ [] := by
  obtain ⟨r, e⟩ := h.hd
  rw [e]; exact List.cons_ne_nil _ _
theorem last_app {u v : List Nat} (h : v ≠ []) : (u ++ v).getLast? = v.getLast? := by
  rw [List.getLast?_append]
  cases e : v.getLast? with
  | none => exact absurd (List.getLast?_eq_none_iff.mp e) h
  | some c => rfl
theorem lwords_ok (c : Int) : ∃ r, m__law_words c = some r ∧ ∃ ws, r.1 = joinS [32] ws ∧ Lo ws r.2 100 := by
  unfold m__law_words
  have r5 := mod_rng c (n := 5) (by decide)
  refine bindX (modO_s (by decide)) (ltX ?_)
  obtain ⟨w0, e0, n0, l0, g0⟩ := word_ok c 0 (by decide)
  refine bindX e0 (bindX (catS_s (by simp; omega)) (bindX (rngO_s (by decide) (by omega)) ?_))
  obtain ⟨bs, e1, hl, hb⟩ := mapF_all (P := fun x : List Nat => x ≠ [] ∧ x.length ≤ 5 ∧ ∀ d ∈ x, d ∈ gl) (as := rng 1 (1 + c % 5)) (f := fun (a18 : Int) => (m__law_word c a18).bind fun r26 => some (some r26)) fun a ha => by
    have ha2 := mem_rng ha
    obtain ⟨x, ex, hx⟩ := word_ok c a (by omega)
    exact ⟨x, bindE ex rfl, hx⟩
  rw [rng_len] at hl
  have hbl : bs.length ≤ 5 := by rw [hl]; omega
  refine bindX e1 (bindX (catO_s (by simp; omega)) (ltX (bindX (ixO_nat (i := 0) rfl) (ltX (bindX (rngO_s (by decide) (by omega)) (fwdX ?_))))))
  have start : Lo ([[120] ++ w0]) ([120] ++ w0) (10 + 10 * 0) := by
    have nb : 32 ∉ [120] ++ w0 := fun m => (List.mem_append.mp m).elim (fun z => by simp at z) fun z => (gl_ok (g0 32 z)).2 rfl
    refine ⟨words_free nb (by simp), ⟨w0, rfl⟩, fun d hd z => ?_, by simp; omega, fun d m => ?_⟩
    · exact nb (z ▸ List.mem_of_getLast? hd)
    · rcases List.mem_append.mp m with z | z
      · rw [List.mem_singleton.mp z]; decide
      · exact (gl_ok (g0 d z)).1
  refine (loop_all (ρ := Unit) (as := rng 1 (1 + c % 5)) (i := 0) (s := [120] ++ w0) (I := fun i s => Lo (([120] ++ w0) :: bs.take i) s (10 + 10 * i)) start ?g).elim fun s es => ⟨s, es.1, ?_⟩
  case g =>
    intro j s a ha hI
    have hj : j < bs.length := by
      have := (List.getElem?_eq_some_iff.mp ha).1
      rw [rng_len] at this
      omega
    obtain ⟨_, ea⟩ := rng_get ha
    obtain ⟨v, ev, hv⟩ := mixed_ok c (40 + a) (by omega)
    have r3 := mod_rng v (n := 3) (by decide)
    have hx : bs[j]? = some bs[j] := List.getElem?_eq_getElem hj
    obtain ⟨x0, xl, xg⟩ := hb _ (List.getElem_mem hj)
    have hix : ixO ([[120] ++ w0] ++ bs) a = some bs[j] := by
      have ea2 : a = ((j + 1 : Nat) : Int) := by omega
      rw [ea2]
      exact ixO_nat (by show (([120] ++ w0) :: bs)[j + 1]? = _; rw [List.getElem?_cons_succ]; exact hx)
    have hln := hI.ln
    have hrep : (List.replicate (1 + v % 3).toNat 32).length ≤ 3 := by rw [List.length_replicate]; omega
    refine ⟨_, bindE ev (bindE (modO_s (by decide)) (bindE (repS_s (by omega) (by omega)) (bindE (catS_s (by omega)) (bindE hix (bindE (catS_s (by rw [List.length_append]; omega)) rfl))))), ?_⟩
    obtain ⟨m, hm⟩ : ∃ m, (1 + v % 3).toNat = m + 1 := ⟨(v % 3).toNat, by omega⟩
    have nb : 32 ∉ bs[j] := fun z => (gl_ok (xg 32 z)).2 rfl
    rw [Nat.zero_add] at hI
    refine ⟨?_, ?_, fun d hd => ?_, ?_, fun d md => ?_⟩
    · rw [hm, List.replicate_succ, List.append_assoc, List.cons_append, words_cat, hI.wd, words_blanks, words_free nb x0, Nat.zero_add, List.take_succ, hx]
      rfl
    · obtain ⟨r, er⟩ := hI.hd
      exact ⟨_, by rw [er]; rfl⟩
    · rw [last_app x0] at hd
      intro z
      exact nb (z ▸ List.mem_of_getLast? hd)
    · rw [List.length_append, List.length_append]; omega
    · rcases List.mem_append.mp md with z | z
      · rcases List.mem_append.mp z with z | z
        · exact hI.ok d z
        · rw [(List.mem_replicate.mp z).2]; decide
      · exact (gl_ok (xg d z)).1
  have hI := es.2
  rw [rng_len, Nat.zero_add] at hI
  have e9 : bs.take ((1 + c % 5 - 1).toNat) = bs := List.take_of_length_le (by rw [hl]; omega)
  rw [e9] at hI
  have hle : (joinS [32] ([[120] ++ w0] ++ bs)).length ≤ 1000000 := by
    have h1 := tidy_len s
    unfold tidyS at h1
    rw [hI.wd] at h1
    have := hI.ln
    have : (1 + c % 5 - 1).toNat ≤ 5 := by omega
    show (joinS [32] (([120] ++ w0) :: bs)).length ≤ 1000000
    omega
  have hl9 : s.length ≤ 100 := by
    have := hI.ln
    have : (1 + c % 5 - 1).toNat ≤ 5 := by omega
    omega
  exact bindX (joinO_s hle) ⟨_, rfl, _, rfl, ⟨hI.wd, hI.hd, hI.lt, hl9, hI.ok⟩⟩
theorem lname_ok (c : Int) : ∃ x, m__law_name c = some x ∧ nameB x = true ∧ x.length ≤ 12 ∧ ∀ d ∈ x, d ∈ letters := by
  unfold m__law_name
  have r12 := mod_rng c (n := 12) (by decide)
  refine ltX (bindX (modO_s (by decide)) (bindX (rngO_s (by decide) (by omega)) ?_))
  obtain ⟨bs, e3, hl, hb⟩ := mapF_all (P := fun x : List Nat => ∃ d, x = [d] ∧ d ∈ letters) (as := rng 0 (1 + c % 12)) (f := fun (a16 : Int) => (m__law_mixed c a16).bind fun r24 => (modO r24 (62 : Int)).bind fun c25 => (ixO letters c25).bind fun c26 => some (some [c26])) fun a ha => by
    have ha2 := mem_rng ha
    obtain ⟨u, eu, hu⟩ := mixed_ok c a (by omega)
    have hm := mod_rng u (n := 62) (by decide)
    obtain ⟨d, ed, hd⟩ := ixO_all (P := fun d => d ∈ letters) (as := letters) (i := u % 62) (fun _ m => m) hm.1 (by have : letters.length = 62 := rfl; omega)
    exact ⟨[d], bindE eu (bindE (modO_s (by decide)) (bindE ed rfl)), d, rfl, hd⟩
  rw [rng_len] at hl
  have h1 : ∀ p ∈ bs, p.length = 1 := fun p m => by
    obtain ⟨d, e, _⟩ := hb p m
    rw [e]; rfl
  have hj := join_ones bs h1
  have hm : ∀ d ∈ joinS [] bs, d ∈ letters := fun d m => by
    rcases joinS_mem [] bs d m with z | ⟨p, hp, hc⟩
    · cases z
    · obtain ⟨d', e, hd⟩ := hb p hp
      rw [e] at hc
      rw [List.mem_singleton.mp hc]
      exact hd
  refine bindX e3 (bindX (joinO_s (by rw [hj, hl]; omega)) ⟨_, rfl, ?_, by rw [hj, hl]; omega, hm⟩)
  unfold nameB
  rw [decT (show 1 ≤ (joinS [] bs).length by rw [hj, hl]; omega), decT (show (joinS [] bs).length ≤ 12 by rw [hj, hl]; omega)]
  simp only [Bool.true_and, List.all_eq_true, decide_eq_true_eq]
  exact hm
/-! rows of cells -/
def flagS (sl : Bool) (u : List Nat) : Bool := match u.getLast? with
  | none => sl
  | some c => decide (c = 92)
theorem flag_cons (sl : Bool) (a : Nat) (r : List Nat) : flagS sl (a :: r) = flagS (decide (a = 92)) r := by
  unfold flagS
  cases r with
  | nil => rfl
  | cons b r => rw [List.getLast?_cons_cons]; cases h : (b :: r).getLast? with
    | none => exact absurd (List.getLast?_eq_none_iff.mp h) (List.cons_ne_nil _ _)
    | some c => rfl
theorem clS_cons (cur : List Nat) (sl : Bool) (c : Nat) (r : List Nat) : clS cur sl (c :: r) = if c = 124 ∧ sl = false then cur :: clS [] false r else clS (cur ++ [c]) (decide (c = 92)) r := rfl
theorem clS_cat : ∀ (u cur : List Nat) (sl : Bool) (v : List Nat), flagS sl u = false → clS cur sl (u ++ 124 :: v) = clS cur sl u ++ clS [] false v
  | [], cur, sl, v, h => by
    have h' : sl = false := h
    subst h'
    rfl
  | a :: r, cur, sl, v, h => by
    rw [flag_cons] at h
    rw [List.cons_append, clS_cons, clS_cons]
    by_cases e : a = 124 ∧ sl = false
    · rw [if_pos e, if_pos e]
      rw [e.1] at h
      rw [clS_cat r [] false v h]
      rfl
    · rw [if_neg e, if_neg e]
      exact clS_cat r (cur ++ [a]) (decide (a = 92)) v h
abbrev txs : List (List Nat × List Nat) := [([], []), ([97], [97]), ([97, 124, 98], [97, 92, 124, 98]), ([124], [92, 124]), ([45, 45, 58], [45, 45, 58]), ([120, 32, 92, 121], [120, 32, 92, 121]), ([99, 32, 124, 32, 100], [99, 32, 92, 124, 32, 100]), ([122], [122])]
theorem piece_ok : ∀ t ∈ txs, rplO [124] [92, 124] t.1 = some t.2 ∧ t.2.length ≤ 10 ∧ okS t.1 = true ∧ okS t.2 = true ∧ ∀ i ∈ [0, 1, 2], ∀ j ∈ [0, 1, 2], clS [] false (List.replicate i 32 ++ (t.2 ++ List.replicate j 32)) = [List.replicate i 32 ++ (t.2 ++ List.replicate j 32)] ∧ barS (tidyS (List.replicate i 32 ++ (t.2 ++ List.replicate j 32))) = t.1 ∧ flagS false (List.replicate i 32 ++ (t.2 ++ List.replicate j 32)) = false := by decide +kernel
/-- the row under way, its texts -/
structure Cr (i : Nat) (ts : List (List Nat)) (row : List Nat) : Prop where
  n : ts.length = i
  ok : ∀ t ∈ ts, OkS t
  ln : row.length ≤ 1 + 20 * i
  rw_ : row = [124] ∧ i = 0 ∨ ∃ m, row = 124 :: (m ++ [124]) ∧ cells m = ts ∧ flagS false m = false ∧ 0 < i
  lo : ∀ c ∈ row, c < 128
theorem lcells_ok (c : Int) : ∃ r, m__law_cells c = some r ∧ ∃ i, 1 ≤ i ∧ i ≤ 4 ∧ Cr i r.2 r.1 := by
  unfold m__law_cells
  have r4 := mod_rng c (n := 4) (by decide)
  refine ltX (ltX (bindX (modO_s (by decide)) (bindX (rngO_s (by decide) (by omega)) (fwdX ?_))))
  refine (loop_all (ρ := Unit) (as := rng 0 (1 + c % 4)) (i := 0) (s := (([] : List (List Nat)), [124])) (I := fun i s => Cr i s.1 s.2) ⟨rfl, (fun _ m => by cases m), by decide, Or.inl ⟨rfl, rfl⟩, by decide⟩ ?g).elim fun s es => ⟨s, es.1, ⟨_, rfl, (1 + c % 4).toNat, by omega, by omega, ?_⟩⟩
  case g =>
    intro j s a ha hI
    rw [Nat.zero_add] at hI ⊢
    obtain ⟨hj, ea⟩ := rng_get ha
    obtain ⟨v, ev, hv⟩ := mixed_ok c (a + 7) (by omega)
    have r8 := mod_rng v (n := 8) (by decide)
    have q1 := mod_rng (v / 8) (n := 3) (by decide)
    have q2 := mod_rng (v / 24) (n := 3) (by decide)
    have hT : ∀ t ∈ ([[], [97], [97, 124, 98], [124], [45, 45, 58], [120, 32, 92, 121], [99, 32, 124, 32, 100], [122]] : List (List Nat)), ∃ p ∈ txs, p.1 = t := by decide
    obtain ⟨t, et, htm⟩ := ixO_all (P := fun t => t ∈ ([[], [97], [97, 124, 98], [124], [45, 45, 58], [120, 32, 92, 121], [99, 32, 124, 32, 100], [122]] : List (List Nat))) (as := ([[], [97], [97, 124, 98], [124], [45, 45, 58], [120, 32, 92, 121], [99, 32, 124, 32, 100], [122]] : List (List Nat))) (i := v % 8) (fun _ m => m) r8.1 r8.2
    obtain ⟨⟨t', e⟩, hte, rfl⟩ := hT t htm
    obtain ⟨p1, p2, p3, p4, p5⟩ := piece_ok (t', e) hte
    generalize t' = t at *
    have p1' : rplO [124] [92, 124] t = some e := p1
    have p2' : e.length ≤ 10 := p2
    dsimp only at et p3 p4 p5
    have three : ∀ x : Int, 0 ≤ x ∧ x < 3 → x.toNat ∈ [0, 1, 2] := fun x h => by
      have : x.toNat = 0 ∨ x.toNat = 1 ∨ x.toNat = 2 := by omega
      rcases this with z | z | z <;> rw [z] <;> decide
    obtain ⟨k1, k2, k3⟩ := p5 _ (three _ q1) _ (three _ q2)
    have l1 : (List.replicate (v / 8 % 3).toNat 32).length ≤ 2 := by rw [List.length_replicate]; omega
    have l2 : (List.replicate (v / 24 % 3).toNat 32).length ≤ 2 := by rw [List.length_replicate]; omega
    have hl := hI.ln
    have hn := hI.n
    refine ⟨_, bindE ev (ltE (bindE (modO_s (by decide)) (bindE et (ltE (bindE (appO_s (by omega)) (bindE (divO_s (by decide)) (bindE (modO_s (by decide)) (bindE (repS_s (by omega) (by omega)) (bindE (catS_s (by omega)) (bindE p1' (bindE (catS_s (by rw [List.length_append]; omega)) (bindE (divO_s (by decide)) (bindE (modO_s (by decide)) (bindE (repS_s (by omega) (by omega)) (bindE (catS_s (by rw [List.length_append, List.length_append]; omega)) (bindE (catS_s (by rw [List.length_append, List.length_append, List.length_append]; simp only [List.length_singleton]; omega)) rfl)))))))))))))))), ?_⟩
    dsimp only
    refine ⟨by rw [List.length_append, List.length_singleton, hn], fun x m => ?_, ?_, ?_, fun x m => ?_⟩
    · rcases List.mem_append.mp m with z | z
      · exact hI.ok x z
      · rw [List.mem_singleton.mp z]; exact okS_iff.mp p3
    · rw [List.length_append, List.length_append, List.length_append, List.length_append]
      simp only [List.length_singleton]
      omega
    · right
      rcases hI.rw_ with ⟨er, e0⟩ | ⟨m, er, em, fm, pm⟩
      · refine ⟨List.replicate (v / 8 % 3).toNat 32 ++ (e ++ List.replicate (v / 24 % 3).toNat 32), by rw [er]; simp, ?_, k3, by omega⟩
        have es : s.1 = [] := List.eq_nil_of_length_eq_zero (by omega)
        unfold cells
        rw [k1, es]
        show [barS (tidyS _)] = [t]
        rw [k2]
      · refine ⟨m ++ 124 :: (List.replicate (v / 8 % 3).toNat 32 ++ (e ++ List.replicate (v / 24 % 3).toNat 32)), by rw [er]; simp, ?_, ?_, by omega⟩
        · unfold cells
          rw [clS_cat m [] false _ fm, List.map_append, k1]
          show cells m ++ [barS (tidyS _)] = _
          rw [em, k2]
        · -- the flag behind is the last piece's
          unfold flagS at k3 ⊢
          cases hz : (List.replicate (v / 8 % 3).toNat 32 ++ (e ++ List.replicate (v / 24 % 3).toNat 32)) with
          | nil => rw [last_app (List.cons_ne_nil _ _)]; rfl
          | cons y r =>
            rw [last_app (List.cons_ne_nil _ _), List.getLast?_cons_cons]
            rw [hz] at k3
            exact k3
    · have he : ∀ y ∈ e, y < 128 := (okS_iff.mp p4).2
      rcases List.mem_append.mp m with z | z
      · rcases List.mem_append.mp z with z | z
        · rcases List.mem_append.mp z with z | z
          · rcases List.mem_append.mp z with z | z
            · exact hI.lo x z
            · rw [(List.mem_replicate.mp z).2]; decide
          · exact he x z
        · rw [(List.mem_replicate.mp z).2]; decide
      · rw [List.mem_singleton.mp z]; decide
  have hI := es.2
  rw [rng_len, Nat.zero_add] at hI
  have e9 : (1 + c % 4 - 0).toNat = (1 + c % 4).toNat := by omega
  rw [e9] at hI
  exact hI
/-! what is due -/
structure Du (d : PyData) : Prop where
  ex : ∃ k ds, d = PyData.tuple (encS k :: ds) ∧ OkS k ∧ (∀ x ∈ ds, x.canLay0 = true ∧ x.depth ≤ 3 ∧ isBoolD x = false ∧ anyTy x ["int", "str", "list"] = some true) ∧
    (k = [99, 101, 108, 108, 115] → ∃ ts : List (List Nat), ds = [PyData.list (ts.map encS)] ∧ (∀ t ∈ ts, OkS t) ∧ ts.length ≤ 10)
theorem any_is (d : PyData) : anyTy d ["int", "str", "list"] = some (isIntD d || (isStrD d || isListD d)) := by
  unfold anyTy
  rw [k_int]
  cases isIntD d with
  | true => rfl
  | false =>
    show anyTy d ["str", "list"] = _
    unfold anyTy
    rw [k_str]
    cases isStrD d with
    | true => rfl
    | false =>
      show anyTy d ["list"] = _
      unfold anyTy
      rw [k_list]
      cases isListD d <;> rfl
abbrev Pt (x : PyData) : Prop := x.canLay0 = true ∧ x.depth ≤ 3 ∧ isBoolD x = false ∧ anyTy x ["int", "str", "list"] = some true
theorem pt_S {l : List Nat} (h : OkS l) : Pt (encS l) := ⟨gS.lay l h, Nat.le_trans (gS.dep l) (by decide), rfl, any_is _⟩
theorem pt_I (i : Int) : Pt (PyData.int i) := ⟨rfl, Nat.le_trans (gI.dep i) (by decide), rfl, any_is _⟩
theorem pt_L {ls : List (List Nat)} (h : ∀ l ∈ ls, OkS l) : Pt (PyData.list (ls.map encS)) := ⟨(gL gS).lay ls h, Nat.le_trans ((gL gS).dep ls) (by decide), rfl, any_is _⟩
theorem layDu : ∀ ds : List PyData, (∀ x ∈ ds, Pt x) → PyData.canLayAll0 ds = true ∧ PyData.depthAll ds ≤ 3
  | [], _ => ⟨rfl, Nat.zero_le _⟩
  | d :: ds, h => by
    obtain ⟨h1, h2⟩ := layDu ds fun x m => h x (List.mem_cons_of_mem _ m)
    have h3 := h d (List.mem_cons_self ..)
    simp only [PyData.canLayAll0, PyData.depthAll, h1, h3.1, Bool.and_self]
    exact ⟨trivial, Nat.max_le.mpr ⟨h3.2.1, h2⟩⟩
theorem Du.sh {d : PyData} (g : Du d) : SeqAt.shaped d = true := by
  obtain ⟨k, ds, rfl, hk, hd, _⟩ := g.ex
  obtain ⟨h1, h2⟩ := layDu ds hd
  have h3 := gS.lay k hk
  have h4 := gS.dep k
  unfold SeqAt.shaped
  simp only [PyData.canLay0, PyData.canLayAll0, PyData.depth, PyData.depthAll, h1, h3, Bool.and_self, Bool.true_and]
  exact decide_eq_true (by omega)
theorem Du.self {d : PyData} (g : Du d) : eqO d d = some true := by
  unfold eqO
  rw [if_pos ⟨g.sh, g.sh⟩]
  congr 1
  have := g.sh
  unfold SeqAt.shaped at this
  exact eqv_lay d (Bool.and_eq_true_iff.mp this).1
theorem du_not (k : List Nat) (ds : List PyData) (hk : okS k = true) (hd : ∀ x ∈ ds, Pt x) (hn : k ≠ [99, 101, 108, 108, 115]) : Du (PyData.tuple (encS k :: ds)) := ⟨⟨k, ds, rfl, okS_iff.mp hk, hd, fun z => absurd z hn⟩⟩
theorem plain_ok {d : PyData} (g : Du d) : m__law_plain d d = some true := by
  obtain ⟨k, ds, rfl, hk, hd, _⟩ := g.ex
  unfold m__law_plain
  refine bindE (a := false) (cndF rfl (bindE g.self rfl)) (cndF rfl ?_)
  have s1 : slD (PyData.tuple (encS k :: ds)) (some (1 : Int)) none = some (PyData.tuple ds) := by
    show some (PyData.tuple (cutL (encS k :: ds) (some ((1 : Nat) : Int)) none)) = _
    rw [cut_drop]
    rfl
  refine bindE s1 (bindE (show asT (PyData.tuple ds) = some ds from rfl) (fwdEx ?_))
  refine (loop_all (ρ := Bool) (as := ds) (i := 0) (s := ()) (I := fun _ _ => True) trivial ?g).elim fun s es => ⟨s, es.1, rfl⟩
  case g =>
    intro j s a ha _
    obtain ⟨h1, h2, h3, h4⟩ := hd a (List.mem_of_getElem? ha)
    exact ⟨(), bindE (a := false) (by rw [h3]; exact cndF rfl (bindE h4 rfl)) (cndF rfl rfl), trivial⟩
/-! the sort of rows of one form -/
theorem sort_0 {e : Nat} {t : List Nat} (hl : t.length ≤ 10000) (h0 : t ≠ []) (h1 : ∀ d, t.head? = some d → d ≠ 32) (h2 : ∀ d, t.getLast? = some d → d ≠ 32) :
    m_sort_of (t ++ List.replicate e 32) = some (if isND (flushD (t ++ List.replicate e 32) t) = false then flushD (t ++ List.replicate e 32) t else bodyD 0 t) := by
  have := sort_t (b := 0) (e := e) hl h0 h1 h2
  have e0 : List.replicate 0 32 ++ (t ++ List.replicate e 32) = t ++ List.replicate e 32 := rfl
  rw [e0] at this
  rw [this]
  by_cases z : isND (flushD (t ++ List.replicate e 32) t) = false
  · rw [if_pos z, if_pos ⟨rfl, z⟩]
  · rw [if_neg z, if_neg fun q => z q.2]
theorem sort_quote {r : List Nat} (h : r.length ≤ 9000) : m_sort_of (62 :: r) = some (PyData.tuple [encS [113, 117, 111, 116, 101], encS (if r.take 1 = [32] then r.drop 1 else r)]) := by
  rcases body_or (62 :: r) with ⟨b, e⟩ | ⟨b, t, e, hrow, h0, h1, h2⟩
  · have : (62 : Nat) ∈ List.replicate b 32 := by rw [← e]; exact List.mem_cons_self ..
    have := (List.mem_replicate.mp this).2
    cases this
  · have hb : b = 0 := by
      cases b with
      | zero => rfl
      | succ b =>
        rw [List.replicate_succ, List.cons_append] at hrow
        have := (List.cons.inj hrow).1
        cases this
    subst hb
    have hr2 : 62 :: r = t ++ List.replicate e 32 := hrow
    have hl : t.length ≤ 10000 := by
      have := congrArg List.length hr2
      rw [List.length_append, List.length_cons] at this
      omega
    rw [hr2, sort_0 hl h0 h1 h2, ← hr2]
    obtain ⟨u, hu⟩ : ∃ u, t = 62 :: u := by
      cases t with
      | nil => exact absurd rfl h0
      | cons a u =>
        rw [List.cons_append] at hr2
        exact ⟨u, by rw [(List.cons.inj hr2).1]⟩
    have hs : startsS t [62] = true := by rw [hu, starts_cons, starts_nil]; rfl
    unfold flushD
    rw [if_pos hs]
    rfl
theorem head_none {a : Nat} {r : List Nat} (h : a ≠ 61) : headD (a :: r) = PyData.none := by
  unfold headD lstripS
  rw [dropW_id 61 (a :: r) (fun d hd => by cases hd; exact h), Nat.sub_self]
  rw [if_neg (fun z => by have := z.1.1; omega)]
theorem cells_none {a : Nat} {r : List Nat} (h : a ≠ 124) : cellsD (a :: r) = PyData.none := by
  unfold cellsD cellsB
  rw [starts_cons, decF h, Bool.false_and, Bool.false_and, Bool.and_false]
  rfl
theorem named_none {a : Nat} {r : List Nat} (h : a ≠ 91) (hm : a ≠ 93) : namedD (a :: r) = PyData.none := by
  unfold namedD
  cases q : TL.par MK [] (a :: r) with
  | none => rfl
  | some ab =>
    obtain ⟨x, y⟩ := ab
    obtain ⟨m, e1, e2, _, _, e5⟩ := par_some q
    rw [List.nil_append] at e1
    subst e1
    dsimp only
    cases x with
    | nil => rfl
    | cons b x =>
      rw [List.cons_append] at e2
      have : a = b := (List.cons.inj e2).1
      subst this
      rw [if_neg]
      rw [starts_cons, decF h, Bool.false_and]
      exact Bool.false_ne_true
/-- none of the sorts without blanks ahead -/
theorem flush_none {a : Nat} {r row : List Nat} (h1 : a ≠ 62) (h2 : a ≠ 126) (h3 : a ≠ 61) (h4 : a ≠ 124) (h5 : a ≠ 91) (h6 : a ≠ 93) : flushD row (a :: r) = PyData.none := by
  unfold flushD
  rw [if_neg (by rw [starts_cons, decF h1, Bool.false_and]; exact Bool.false_ne_true), if_neg (fun z => h2 (List.cons.inj z).1)]
  unfold pick3
  rw [head_none h3, cells_none h4, named_none h5 h6]
  rfl
theorem par_free : ∀ (u acc v : List Nat), 93 ∉ u → TL.par MK acc (u ++ (MK ++ v)) = some (acc ++ u, v)
  | [], acc, v, _ => by
    have h : TL.pre MK (93 :: 58 :: 32 :: v) = true := TL.pre_self MK v
    show TL.par MK acc (93 :: 58 :: 32 :: v) = _
    rw [TL.par_hit h]
    simp
  | a :: r, acc, v, h => by
    have h1 : TL.pre MK (a :: (r ++ (MK ++ v))) = false := TL.pre_of_head (s := 93) [58, 32] _ fun z => h (by rw [z]; exact List.mem_cons_self ..)
    show TL.par MK acc (a :: (r ++ (MK ++ v))) = _
    rw [TL.par_miss h1, par_free r _ v fun m => h (List.mem_cons_of_mem _ m), List.append_assoc]
    rfl
theorem head_some {k : Nat} {u : List Nat} (h : 1 ≤ k ∧ k ≤ 3) : headD (List.replicate k 61 ++ 32 :: u) = PyData.tuple [encS [104, 101, 97, 100, 105, 110, 103], PyData.int (k : Int), encS (tidyS u)] := by
  have e : lstripS (List.replicate k 61 ++ 32 :: u) [61] = 32 :: u := by
    unfold lstripS
    rw [dropW_app, dropW_id 61 (32 :: u) (fun d hd => by cases hd; decide)]
  have e2 : (List.replicate k 61 ++ 32 :: u).length - (32 :: u).length = k := by simp
  unfold headD
  rw [e, e2, if_pos ⟨h, rfl⟩, tidy_blank]
theorem cut_inner {α : Type} (a b : α) (m : List α) : cutL (a :: (m ++ [b])) (some (1 : Int)) (some (-1)) = m := by
  unfold cutL
  have e2 := sIx_neg (a :: (m ++ [b])).length (a :: (m ++ [b])).length 1 (by decide)
  have e1 := HT.sIx_nat (a :: (m ++ [b])).length 0 1
  have l : (a :: (m ++ [b])).length = m.length + 2 := by simp
  rw [show (-1 : Int) = -((1 : Nat) : Int) from rfl, show (1 : Int) = ((1 : Nat) : Int) from rfl, e1, e2, l]
  have k1 : min 1 (m.length + 2) = 1 := by omega
  have k2 : m.length + 2 - 1 - 1 = m.length := by omega
  rw [k1, k2]
  simp
theorem cells_some {m : List Nat} (h : flagS false m = false) : cellsD (124 :: (m ++ [124])) = PyData.tuple [encS [99, 101, 108, 108, 115], PyData.list ((cells m).map encS)] := by
  have hc : cellsB (124 :: (m ++ [124])) = true := by
    unfold cellsB
    have h2 : ixO (124 :: (m ++ [124])) (-2) ≠ some 92 := by
      rcases List.eq_nil_or_concat m with z | ⟨m', x, z⟩
      · rw [z]
        have := ixO_m2 ([] : List Nat) 124 124
        rw [List.nil_append] at this
        show ixO [124, 124] (-2) ≠ _
        rw [this]
        decide
      · have z' : m = m' ++ [x] := by rw [z]; simp
        have e : 124 :: (m ++ [124]) = (124 :: m') ++ [x, 124] := by rw [z']; simp
        rw [e, ixO_m2]
        intro q
        rw [z'] at h
        unfold flagS at h
        rw [List.getLast?_concat] at h
        have hx : x = 92 := Option.some.inj q
        rw [hx] at h
        simp at h
    have h3 : endsS (124 :: (m ++ [124])) [124] = true := by
      unfold endsS
      exact List.isSuffixOf_iff_suffix.mpr ⟨124 :: m, rfl⟩
    rw [decT (show 2 ≤ (124 :: (m ++ [124])).length by simp), starts_cons, starts_nil, h3, decF h2]
    rfl
  unfold cellsD
  rw [if_pos hc, cut_inner]
/-- data that the rows are of -/
theorem flush_pick {a : Nat} {r row : List Nat} {d : PyData} (h1 : a ≠ 62) (h2 : a ≠ 126) (h : pick3 (headD (a :: r)) (cellsD (a :: r)) (namedD (a :: r)) = d) : flushD row (a :: r) = d := by
  unfold flushD
  rw [if_neg (by rw [starts_cons, decF h1, Bool.false_and]; exact Bool.false_ne_true), if_neg (fun z => h2 (List.cons.inj z).1)]
  exact h
theorem sort_f {e a : Nat} {r : List Nat} {d : PyData} (hl : (a :: r).length ≤ 10000) (h1 : a ≠ 32) (h2 : ∀ x, (a :: r).getLast? = some x → x ≠ 32) (hd : flushD ((a :: r) ++ List.replicate e 32) (a :: r) = d) (hn : isND d = false) : m_sort_of ((a :: r) ++ List.replicate e 32) = some d := by
  rw [sort_0 hl (List.cons_ne_nil _ _) (fun x hx => by cases hx; exact h1) h2, hd, if_pos hn]
theorem built_ok (c m : Int) : ∃ r, m__law_built c m = some r ∧ m_sort_of r.1 = some r.2 ∧ Du r.2 := by
  unfold m__law_built
  obtain ⟨w, ew, ws, ew1, lo⟩ := lwords_ok m
  obtain ⟨name, en, nb, nl, ng⟩ := lname_ok m
  obtain ⟨neat, loose⟩ := w
  have ew1' : neat = joinS [32] ws := ew1
  have lo' : Lo ws loose 100 := lo
  clear ew1 lo
  have tl : tidyS loose = neat := by unfold tidyS; rw [lo'.wd, ew1']
  have nok : OkS neat := by rw [← tl]; exact tidy_ok (by have := lo'.ln; omega) lo'.ok
  have nle : neat.length ≤ 201 := by rw [← tl]; have := tidy_len loose; have := lo'.ln; omega
  have lln := lo'.ln
  have lne := lo'.ne
  obtain ⟨lr, hlr⟩ := lo'.hd
  have nok2 : OkS (lowerS name) := okS_lower ⟨by show name.length ≤ 1000000; omega, fun d md => by
    exact (by decide : ∀ d ∈ letters, d < 128) d (ng d md)⟩
  have n93 : 93 ∉ name := fun z => (by decide : (93 : Nat) ∉ letters) (ng 93 z)
  have r4 := mod_rng (c / 9) (n := 4) (by decide)
  have r9 := mod_rng (c / 36) (n := 9) (by decide)
  refine bindX ew (ltX (bindX (divO_s (by decide)) (bindX (modO_s (by decide)) (bindX (repS_s (by omega) (by omega)) (ltX (bindX (divO_s (by decide)) (bindX (modO_s (by decide)) (ltX (bindX en (ltX ?_))))))))))
  dsimp only
  have bll : (List.replicate (c / 9 % 4).toNat 32).length ≤ 3 := by rw [List.length_replicate]; omega
  have fal : (List.replicate (c / 36 % 9).toNat 32).length ≤ 8 := by rw [List.length_replicate]; omega
  generalize hbe : (c / 9 % 4).toNat = be at *
  have fari : (((c / 36 % 9).toNat : Nat) : Int) = c / 36 % 9 := by omega
  generalize hfa : (c / 36 % 9).toNat = fa at *
  refine bindX (modO_s (by decide)) (cndX (fun _ => ?c0) fun _ => bindX (modO_s (by decide)) (cndX (fun _ => ?c1) fun _ => bindX (modO_s (by decide)) (cndX (fun _ => ?c2) fun _ => bindX (modO_s (by decide)) (cndX (fun _ => ?c3) fun _ => bindX (modO_s (by decide)) (cndX (fun _ => ?c4) fun _ => bindX (modO_s (by decide)) (cndX (fun _ => ?c5) fun _ => bindX (modO_s (by decide)) (cndX (fun _ => ?c6) fun _ => bindX (modO_s (by decide)) (cndX (fun _ => ?c7) fun _ => ?c8))))))))
  case c0 =>
    refine bindX (repS_s (by omega) (by omega)) ⟨_, rfl, ?_, du_not [101, 109, 112, 116, 121] [] (by decide) (fun _ m => by cases m) (by decide)⟩
    exact sort_empty _
  case c1 =>
    refine bindX (catS_s (by simp; omega)) (bindX (catS_s (by simp; omega)) (bindX (catS_s (by simp; omega)) (bindX (divO_s (by decide)) (bindX (modO_s (by decide)) ?_))))
    have hch : ∀ l ∈ ([[], neat, [32] ++ loose, [62, 32] ++ loose, [45, 32] ++ neat] : List (List Nat)), l.length ≤ 300 ∧ ∀ d ∈ l, d < 128 := by
      intro l hl
      simp only [List.mem_cons, List.not_mem_nil, or_false] at hl
      have q : ∀ (a : List Nat), (∀ d ∈ a, d < 128) → ∀ (b : List Nat), (∀ d ∈ b, d < 128) → ∀ d ∈ a ++ b, d < 128 := fun a ha b hb d md => (List.mem_append.mp md).elim (ha d) (hb d)
      rcases hl with z | z | z | z | z
      · rw [z]; exact ⟨by simp, fun d md => by cases md⟩
      · rw [z]; exact ⟨by omega, nok.2⟩
      · rw [z]; exact ⟨by simp; omega, q _ (by decide) _ lo'.ok⟩
      · rw [z]; exact ⟨by simp; omega, q _ (by decide) _ lo'.ok⟩
      · rw [z]; exact ⟨by simp; omega, q _ (by decide) _ nok.2⟩
    have r5 := mod_rng (c / 324) (n := 5) (by decide)
    obtain ⟨rest, er, hr1, hr2⟩ := ixO_all hch r5.1 (by simpa using r5.2)
    refine bindX er (ltX (bindX (divO_s (by decide)) (bindX (modO_s (by decide)) (ltX ?_))))
    have ct : cutL rest none (some (1 : Int)) = rest.take 1 := cut_take rest 1
    rw [ct]
    have okr : OkS (rest ++ List.replicate be 32) := ⟨by rw [List.length_append]; show _ ≤ 1000000; omega, fun d md => (List.mem_append.mp md).elim (hr2 d) fun z => by rw [(List.mem_replicate.mp z).2]; decide⟩
    have du : Du (PyData.tuple [encS [113, 117, 111, 116, 101], encS (rest ++ List.replicate be 32)]) := du_not _ [_] (by decide) (fun x m => by rw [List.mem_singleton.mp m]; exact pt_S okr) (by decide)
    cases hcd : (decide (c / 1620 % 2 = 1) && !decide (rest.take 1 ∈ ([[], [32]] : List (List Nat)))) with
    | true =>
      rw [if_pos rfl]
      refine bindX (repS_s (by decide) (by decide)) (bindX (catS_s (by decide)) (bindX (catS_s (by simp; omega)) (bindX (catS_s (by simp; omega)) (bindX (catS_s (by omega)) ⟨_, rfl, ?_, du⟩))))
      rw [Bool.and_eq_true] at hcd
      have hn : rest.take 1 ∉ ([[], [32]] : List (List Nat)) := by
        have := hcd.2
        rw [Bool.not_eq_true', decide_eq_false_iff_not] at this
        exact this
      have e : ([62] ++ List.replicate (1 - 1 : Int).toNat 32 ++ rest ++ List.replicate be 32) = 62 :: (rest ++ List.replicate be 32) := by simp
      show m_sort_of ([62] ++ List.replicate (1 - 1 : Int).toNat 32 ++ rest ++ List.replicate be 32) = _
      rw [e, sort_quote (by rw [List.length_append]; omega), if_neg]
      intro z
      apply hn
      cases rest with
      | nil => exact List.mem_cons_self ..
      | cons a rest =>
        rw [List.cons_append, List.take_succ_cons, List.take_zero] at z
        rw [List.take_succ_cons, List.take_zero, z]
        exact List.mem_cons_of_mem _ (List.mem_cons_self ..)
    | false =>
      rw [if_neg Bool.false_ne_true]
      refine bindX (repS_s (by decide) (by decide)) (bindX (catS_s (by decide)) (bindX (catS_s (by simp; omega)) (bindX (catS_s (by simp; omega)) (bindX (catS_s (by omega)) ⟨_, rfl, ?_, du⟩))))
      have e : ([62] ++ List.replicate (1 - 0 : Int).toNat 32 ++ rest ++ List.replicate be 32) = 62 :: (32 :: (rest ++ List.replicate be 32)) := by simp
      show m_sort_of ([62] ++ List.replicate (1 - 0 : Int).toNat 32 ++ rest ++ List.replicate be 32) = _
      rw [e, sort_quote (by simp; omega), if_pos (show (32 :: (rest ++ List.replicate be 32)).take 1 = [32] from rfl)]
      rfl
  case c2 =>
    refine bindX (catS_s (by simp; omega)) ⟨_, rfl, ?_, du_not [102, 101, 110, 99, 101] [] (by decide) (fun _ m => by cases m) (by decide)⟩
    exact sort_f (a := 126) (r := [126, 126]) (by decide) (by decide) (fun x hx => by
      have hx2 : some 126 = some x := hx
      cases hx2
      decide) rfl rfl
  case c3 =>
    have r3 := mod_rng (c / 324) (n := 3) (by decide)
    have q3 := mod_rng (c / 36) (n := 3) (by decide)
    refine bindX (divO_s (by decide)) (bindX (modO_s (by decide)) (ltX (bindX (repS_s (by omega) (by omega)) (bindX (divO_s (by decide)) (bindX (modO_s (by decide)) (bindX (repS_s (by omega) (by omega)) ?_))))))
    obtain ⟨k, hk⟩ : ∃ k, (1 + c / 324 % 3).toNat = k + 1 := ⟨(c / 324 % 3).toNat, by omega⟩
    obtain ⟨j, hj⟩ : ∃ j, (1 + c / 36 % 3).toNat = j + 1 := ⟨(c / 36 % 3).toNat, by omega⟩
    have ki : (1 + c / 324 % 3 : Int) = ((k + 1 : Nat) : Int) := by omega
    rw [hk, hj]
    have kl : (List.replicate (k + 1) 61).length ≤ 3 := by rw [List.length_replicate]; omega
    have jl : (List.replicate (j + 1) 32).length ≤ 3 := by rw [List.length_replicate]; omega
    refine bindX (catS_s (by omega)) (bindX (catS_s (by rw [List.length_append]; omega)) (bindX (catS_s (by rw [List.length_append, List.length_append]; omega)) ⟨_, rfl, ?_, du_not [104, 101, 97, 100, 105, 110, 103] [PyData.int _, encS neat] (by decide) (fun x m => ?_) (by decide)⟩))
    · have e : List.replicate (k + 1) 61 ++ List.replicate (j + 1) 32 ++ loose = 61 :: (List.replicate k 61 ++ 32 :: (List.replicate j 32 ++ loose)) := by
        rw [List.replicate_succ, List.replicate_succ]; simp
      have e2 : (61 :: (List.replicate k 61 ++ 32 :: (List.replicate j 32 ++ loose))) = List.replicate (k + 1) 61 ++ 32 :: (List.replicate j 32 ++ loose) := by
        rw [List.replicate_succ]; rfl
      have tb : tidyS (List.replicate j 32 ++ loose) = neat := by
        have := tidy_both j 0 loose
        rw [List.replicate_zero, List.append_nil] at this
        rw [this, tl]
      have hh : headD (61 :: (List.replicate k 61 ++ 32 :: (List.replicate j 32 ++ loose))) = PyData.tuple [encS [104, 101, 97, 100, 105, 110, 103], PyData.int ((k + 1 : Nat) : Int), encS neat] := by
        rw [e2, head_some (by omega), tb]
      show m_sort_of (List.replicate (k + 1) 61 ++ List.replicate (j + 1) 32 ++ loose ++ List.replicate be 32) = _
      rw [e, ki]
      refine sort_f ?_ (by decide) (fun x hx => ?_) (flush_pick (by decide) (by decide) ?_) rfl
      · have := congrArg List.length e
        simp only [List.length_append] at this
        rw [← this]; omega
      · rw [← e, last_app lne] at hx
        exact lo'.lt x hx
      · unfold pick3
        rw [hh]
        rfl
    · rcases List.mem_cons.mp m with z | m
      · rw [z]; exact pt_I _
      · rw [List.mem_singleton.mp m]; exact pt_S nok
  case c4 =>
    obtain ⟨rt, ert, i, i1, i4, cr⟩ := lcells_ok m
    obtain ⟨row, ts⟩ := rt
    have hl := cr.ln
    refine bindX ert (ltX (bindX (catS_s (by dsimp only at hl ⊢; omega)) ⟨_, rfl, ?_, ⟨[99, 101, 108, 108, 115], _, rfl, okS_iff.mp (by decide), fun x m => ?_, fun _ => ⟨ts, rfl, cr.ok, by have := cr.n; dsimp only at this ⊢; omega⟩⟩⟩))
    · rcases cr.rw_ with ⟨_, z⟩ | ⟨u, eu, cu, fu, _⟩
      · omega
      · have eu' : row = 124 :: (u ++ [124]) := eu
        have cu' : cells u = ts := cu
        show m_sort_of (row ++ List.replicate be 32) = _
        dsimp only at hl
        rw [eu'] at hl ⊢
        refine sort_f (by omega) (by decide) (fun x hx => ?_) (flush_pick (by decide) (by decide) ?_) rfl
        · have hx2 : ((124 :: u) ++ [124]).getLast? = some x := hx
          rw [List.getLast?_concat] at hx2
          cases hx2
          decide
        · unfold pick3
          rw [head_none (by decide), cells_some fu, cu']
          rfl
    · rw [List.mem_singleton.mp m]
      exact pt_L cr.ok
  case c5 =>
    refine bindX (catS_s (by simp; omega)) (bindX (catS_s (by simp; omega)) (bindX (catS_s (by simp; omega)) (bindX (catS_s (by simp; omega)) (bindX (catS_s (by simp; omega)) ⟨_, rfl, ?_, du_not [110, 111, 116, 101] [encS (lowerS name), encS neat] (by decide) (fun x m => ?_) (by decide)⟩))))
    · have e : [91, 94] ++ name ++ [93, 58, 32] ++ List.replicate be 32 ++ loose = 91 :: (94 :: name ++ (MK ++ (List.replicate be 32 ++ loose))) := by simp
      show m_sort_of ([91, 94] ++ name ++ [93, 58, 32] ++ List.replicate be 32 ++ loose ++ List.replicate be 32) = _
      rw [e]
      have hp : TL.par MK [] (91 :: (94 :: name ++ (MK ++ (List.replicate be 32 ++ loose)))) = some (91 :: 94 :: name, List.replicate be 32 ++ loose) := par_free (91 :: 94 :: name) [] _ (fun z => by
        rcases List.mem_cons.mp z with q | z
        · cases q
        · rcases List.mem_cons.mp z with q | z
          · cases q
          · exact n93 z)
      refine sort_f ?_ (by decide) (fun x hx => ?_) (flush_pick (by decide) (by decide) ?_) rfl
      · have := congrArg List.length e
        simp only [List.length_append, List.length_cons, List.length_nil] at this ⊢
        omega
      · rw [← e, last_app lne] at hx
        exact lo'.lt x hx
      · unfold pick3
        rw [head_none (by decide), cells_none (by decide)]
        have hb : tidyS (List.replicate be 32 ++ loose) = neat := by
          have := tidy_both be 0 loose
          rw [List.replicate_zero, List.append_nil] at this
          rw [this, tl]
        show namedD _ = _
        unfold namedD
        rw [hp]
        dsimp only
        rw [if_pos (by rw [starts_cons, starts_nil]; rfl), if_pos ⟨by rw [starts_cons, starts_cons, starts_nil]; rfl, nb⟩, hb]
        rfl
    · rcases List.mem_cons.mp m with z | m
      · rw [z]; exact pt_S nok2
      · rw [List.mem_singleton.mp m]; exact pt_S nok
  case c6 =>
    obtain ⟨tg, et, t0, tlen, tg1⟩ := word_ok m 2 (by decide)
    have tnb : 32 ∉ tg := fun z => (gl_ok (tg1 32 z)).2 rfl
    refine bindX et (ltX (bindX (catS_s (by simp; omega)) (bindX (catS_s (by simp; omega)) (bindX (catS_s (by simp; omega)) (bindX (catS_s (by simp; omega)) (bindX (catS_s (by simp; omega)) ⟨_, rfl, ?_, du_not [110, 97, 109, 101] [encS (lowerS name), encS tg] (by decide) (fun x m => ?_) (by decide)⟩))))))
    · have e : [91] ++ name ++ [93, 58, 32] ++ List.replicate be 32 ++ tg = 91 :: (name ++ (MK ++ (List.replicate be 32 ++ tg))) := by simp
      show m_sort_of ([91] ++ name ++ [93, 58, 32] ++ List.replicate be 32 ++ tg ++ List.replicate be 32) = _
      rw [e]
      have hp : TL.par MK [] (91 :: (name ++ (MK ++ (List.replicate be 32 ++ tg)))) = some (91 :: name, List.replicate be 32 ++ tg) := par_free (91 :: name) [] _ (fun z => by
        rcases List.mem_cons.mp z with q | z
        · cases q
        · exact n93 z)
      have wt : wordsS (List.replicate be 32 ++ tg) = [tg] := by rw [words_blanks, words_free tnb t0]
      refine sort_f ?_ (by decide) (fun x hx => ?_) (flush_pick (by decide) (by decide) ?_) rfl
      · have := congrArg List.length e
        simp only [List.length_append, List.length_cons, List.length_nil] at this ⊢
        omega
      · rw [← e, last_app t0] at hx
        intro z
        exact tnb (z ▸ List.mem_of_getLast? hx)
      · unfold pick3
        rw [head_none (by decide), cells_none (by decide)]
        show namedD _ = _
        unfold namedD
        rw [hp]
        dsimp only
        have s2 : startsS (91 :: name) [91, 94] = false := by
          rw [starts_cons]
          cases name with
          | nil => rfl
          | cons y n =>
            have hy : ¬y = 94 := fun z => (by decide : (94 : Nat) ∉ letters) (ng 94 (by rw [z]; exact List.mem_cons_self ..))
            rw [starts_cons, decF hy]
            rfl
        rw [if_pos (by rw [starts_cons, starts_nil]; rfl), if_neg (fun z => by rw [s2] at z; cases z.1), if_pos ⟨nb, by rw [wt]; rfl⟩]
        unfold tidyS
        rw [wt]
        rfl
    · rcases List.mem_cons.mp m with z | m
      · rw [z]; exact pt_S nok2
      · rw [List.mem_singleton.mp m]
        exact pt_S ⟨by show tg.length ≤ 1000000; omega, fun d md => (gl_ok (tg1 d md)).1⟩
  case c7 =>
    have r2 := mod_rng (c / 324) (n := 2) (by decide)
    have q3 := mod_rng (c / 648) (n := 3) (by decide)
    obtain ⟨sg, es, hs⟩ := ixO_all (P := fun x => x = 45 ∨ x = 43) (as := [45, 43]) (i := c / 324 % 2) (by decide) r2.1 (by simpa using r2.2)
    refine bindX (divO_s (by decide)) (bindX (modO_s (by decide)) (bindX es (ltX (bindX (repS_s (by omega) (by omega)) ?_))))
    rw [hfa]
    refine bindX (catS_s (by simp; omega)) (bindX (divO_s (by decide)) (bindX (modO_s (by decide)) (bindX (repS_s (by omega) (by omega)) ?_)))
    obtain ⟨j, hj⟩ : ∃ j, (1 + c / 648 % 3).toNat = j + 1 := ⟨(c / 648 % 3).toNat, by omega⟩
    rw [hj]
    have jl : (List.replicate (j + 1) 32).length ≤ 3 := by rw [List.length_replicate]; omega
    refine bindX (catS_s (by rw [List.length_append, List.length_singleton]; omega)) (bindX (catS_s (by rw [List.length_append, List.length_append, List.length_singleton]; omega)) (bindX (catS_s (by rw [List.length_append, List.length_append, List.length_append, List.length_singleton]; omega)) ⟨_, rfl, ?_, du_not [105, 116, 101, 109] [PyData.int _, encC sg, encS neat] (by decide) (fun x m => ?_) (by decide)⟩))
    · have e : List.replicate fa 32 ++ [sg] ++ List.replicate (j + 1) 32 ++ loose ++ List.replicate be 32 = List.replicate fa 32 ++ ((sg :: 32 :: (List.replicate j 32 ++ loose)) ++ List.replicate be 32) := by
        rw [List.replicate_succ]; simp
      have tb : tidyS (List.replicate j 32 ++ loose) = neat := by
        have := tidy_both j 0 loose
        rw [List.replicate_zero, List.append_nil] at this
        rw [this, tl]
      show m_sort_of (List.replicate fa 32 ++ [sg] ++ List.replicate (j + 1) 32 ++ loose ++ List.replicate be 32) = _
      have hl : (sg :: 32 :: (List.replicate j 32 ++ loose)).length ≤ 10000 := by
        have := congrArg List.length e
        simp only [List.length_append, List.length_cons, List.length_nil, List.length_replicate] at this ⊢
        rw [List.length_replicate] at jl
        omega
      rw [e, sort_t hl (List.cons_ne_nil _ _) (fun d hd => by cases hd; rcases hs with z | z <;> rw [z] <;> decide) (fun d hd => by
        rw [List.getLast?_cons_cons] at hd
        have : (32 :: (List.replicate j 32 ++ loose)) = (32 :: List.replicate j 32) ++ loose := rfl
        rw [this, last_app lne] at hd
        exact lo'.lt d hd)]
      have fn : flushD ((sg :: 32 :: (List.replicate j 32 ++ loose)) ++ List.replicate be 32) (sg :: 32 :: (List.replicate j 32 ++ loose)) = PyData.none := by
        rcases hs with z | z <;> rw [z] <;> exact flush_none (by decide) (by decide) (by decide) (by decide) (by decide) (by decide)
      rw [fn, if_neg (fun z => by cases z.2)]
      unfold bodyD
      have st : (startsS (sg :: 32 :: (List.replicate j 32 ++ loose)) [45, 32] || startsS (sg :: 32 :: (List.replicate j 32 ++ loose)) [43, 32]) = true := by
        rw [starts_cons, starts_cons, starts_cons, starts_cons, starts_nil]
        rcases hs with z | z <;> rw [z] <;> rfl
      rw [if_pos st, fari]
      show some (PyData.tuple [_, _, encC sg, encS (tidyS (List.replicate j 32 ++ loose))]) = _
      rw [tb]
    · rcases List.mem_cons.mp m with z | m
      · rw [z]; exact pt_I _
      · rcases List.mem_cons.mp m with z | m
        · rw [z]
          exact pt_S (l := [sg]) (okS_one (by rcases hs with z | z <;> rw [z] <;> decide))
        · rw [List.mem_singleton.mp m]; exact pt_S nok
  case c8 =>
    refine bindX (repS_s (by omega) (by omega)) ?_
    rw [hfa]
    refine bindX (catS_s (by omega)) (bindX (catS_s (by rw [List.length_append]; omega)) ⟨_, rfl, ?_, du_not [112, 108, 97, 105, 110] [PyData.int _, encS neat] (by decide) (fun x m => ?_) (by decide)⟩)
    · show m_sort_of (List.replicate fa 32 ++ loose ++ List.replicate be 32) = _
      rw [List.append_assoc, sort_t (by omega) lne (fun d hd => by rw [hlr] at hd; cases hd; decide) lo'.lt]
      have fn : flushD (loose ++ List.replicate be 32) loose = PyData.none := by
        rw [hlr]
        exact flush_none (by decide) (by decide) (by decide) (by decide) (by decide) (by decide)
      rw [fn, if_neg (fun z => by cases z.2)]
      unfold bodyD
      have st : (startsS loose [45, 32] || startsS loose [43, 32]) = false := by
        rw [hlr, starts_cons, starts_cons]
        rfl
      rw [st, if_neg Bool.false_ne_true, tl, fari]
    · rcases List.mem_cons.mp m with z | m
      · rw [z]; exact pt_I _
      · rw [List.mem_singleton.mp m]; exact pt_S nok
/-! rows that are nearly of a sort -/
def Nr (r : List Nat) : Prop := ∃ a, ixO r (0 : Int) = some a ∧ m_sort_of r = some (PyData.tuple [encS [112, 108, 97, 105, 110], PyData.int (if (decide (a = 32)) = true then (1 : Int) else 0), encS (lstripS r [32])]) ∧ okS (lstripS r [32]) = true
abbrev nears : List (List Nat) := [[32, 62, 32, 97], [32, 126, 126, 126], [126, 126, 126, 126], [126, 126], [126, 126, 126, 32, 97], [32, 61, 32, 97], [61, 97], [61, 61, 61, 61, 32, 97], [61], [61, 61, 61], [124], [32, 124, 32, 97, 32, 124], [124, 32, 97], [97, 32, 124], [124, 92, 124], [124, 32, 97, 32, 92, 124], [91, 97, 32, 98, 93, 58, 32, 99], [91, 97, 93, 58, 32, 98, 32, 99], [91, 97, 93, 58, 98], [91, 94, 93, 58, 32, 97], [91, 93, 58, 32, 97], [91, 94, 97, 32, 98, 93, 58, 32, 99], [91, 97, 98, 99, 100, 101, 102, 103, 104, 105, 106, 107, 108, 109, 93, 58, 32, 120], [45], [43], [45, 97], [45, 45, 45, 32, 97], [42, 32, 97], [91, 94, 97, 98, 99, 100, 101, 102, 103, 104, 105, 106, 107, 108, 109, 93, 58, 32, 120], [32, 91, 97, 93, 58, 32, 98]]
theorem nr_0 : Nr [32, 62, 32, 97] := ⟨32, rfl, by kernel_rfl, by decide +kernel⟩
theorem nr_1 : Nr [32, 126, 126, 126] := ⟨32, rfl, by kernel_rfl, by decide +kernel⟩
theorem nr_2 : Nr [126, 126, 126, 126] := ⟨126, rfl, by kernel_rfl, by decide +kernel⟩
theorem nr_3 : Nr [126, 126] := ⟨126, rfl, by kernel_rfl, by decide +kernel⟩
theorem nr_4 : Nr [126, 126, 126, 32, 97] := ⟨126, rfl, by kernel_rfl, by decide +kernel⟩
theorem nr_5 : Nr [32, 61, 32, 97] := ⟨32, rfl, by kernel_rfl, by decide +kernel⟩
theorem nr_6 : Nr [61, 97] := ⟨61, rfl, by kernel_rfl, by decide +kernel⟩
theorem nr_7 : Nr [61, 61, 61, 61, 32, 97] := ⟨61, rfl, by kernel_rfl, by decide +kernel⟩
theorem nr_8 : Nr [61] := ⟨61, rfl, by kernel_rfl, by decide +kernel⟩
theorem nr_9 : Nr [61, 61, 61] := ⟨61, rfl, by kernel_rfl, by decide +kernel⟩
theorem nr_10 : Nr [124] := ⟨124, rfl, by kernel_rfl, by decide +kernel⟩
theorem nr_11 : Nr [32, 124, 32, 97, 32, 124] := ⟨32, rfl, by kernel_rfl, by decide +kernel⟩
theorem nr_12 : Nr [124, 32, 97] := ⟨124, rfl, by kernel_rfl, by decide +kernel⟩
theorem nr_13 : Nr [97, 32, 124] := ⟨97, rfl, by kernel_rfl, by decide +kernel⟩
theorem nr_14 : Nr [124, 92, 124] := ⟨124, rfl, by kernel_rfl, by decide +kernel⟩
theorem nr_15 : Nr [124, 32, 97, 32, 92, 124] := ⟨124, rfl, by kernel_rfl, by decide +kernel⟩
theorem nr_16 : Nr [91, 97, 32, 98, 93, 58, 32, 99] := ⟨91, rfl, by kernel_rfl, by decide +kernel⟩
theorem nr_17 : Nr [91, 97, 93, 58, 32, 98, 32, 99] := ⟨91, rfl, by kernel_rfl, by decide +kernel⟩
theorem nr_18 : Nr [91, 97, 93, 58, 98] := ⟨91, rfl, by kernel_rfl, by decide +kernel⟩
theorem nr_19 : Nr [91, 94, 93, 58, 32, 97] := ⟨91, rfl, by kernel_rfl, by decide +kernel⟩
theorem nr_20 : Nr [91, 93, 58, 32, 97] := ⟨91, rfl, by kernel_rfl, by decide +kernel⟩
theorem nr_21 : Nr [91, 94, 97, 32, 98, 93, 58, 32, 99] := ⟨91, rfl, by kernel_rfl, by decide +kernel⟩
theorem nr_22 : Nr [91, 97, 98, 99, 100, 101, 102, 103, 104, 105, 106, 107, 108, 109, 93, 58, 32, 120] := ⟨91, rfl, by kernel_rfl, by decide +kernel⟩
theorem nr_23 : Nr [45] := ⟨45, rfl, by kernel_rfl, by decide +kernel⟩
theorem nr_24 : Nr [43] := ⟨43, rfl, by kernel_rfl, by decide +kernel⟩
theorem nr_25 : Nr [45, 97] := ⟨45, rfl, by kernel_rfl, by decide +kernel⟩
theorem nr_26 : Nr [45, 45, 45, 32, 97] := ⟨45, rfl, by kernel_rfl, by decide +kernel⟩
theorem nr_27 : Nr [42, 32, 97] := ⟨42, rfl, by kernel_rfl, by decide +kernel⟩
theorem nr_28 : Nr [91, 94, 97, 98, 99, 100, 101, 102, 103, 104, 105, 106, 107, 108, 109, 93, 58, 32, 120] := ⟨91, rfl, by kernel_rfl, by decide +kernel⟩
theorem nr_29 : Nr [32, 91, 97, 93, 58, 32, 98] := ⟨32, rfl, by kernel_rfl, by decide +kernel⟩
theorem near_all : ∀ r ∈ nears, Nr r := by
  intro r h
  simp only [nears, List.mem_cons, List.not_mem_nil, or_false] at h
  rcases h with rfl | rfl | rfl | rfl | rfl | rfl | rfl | rfl | rfl | rfl | rfl | rfl | rfl | rfl | rfl | rfl | rfl | rfl | rfl | rfl | rfl | rfl | rfl | rfl | rfl | rfl | rfl | rfl | rfl | rfl
  · exact nr_0
  · exact nr_1
  · exact nr_2
  · exact nr_3
  · exact nr_4
  · exact nr_5
  · exact nr_6
  · exact nr_7
  · exact nr_8
  · exact nr_9
  · exact nr_10
  · exact nr_11
  · exact nr_12
  · exact nr_13
  · exact nr_14
  · exact nr_15
  · exact nr_16
  · exact nr_17
  · exact nr_18
  · exact nr_19
  · exact nr_20
  · exact nr_21
  · exact nr_22
  · exact nr_23
  · exact nr_24
  · exact nr_25
  · exact nr_26
  · exact nr_27
  · exact nr_28
  · exact nr_29
theorem near_ok (c : Int) : ∃ r, m__law_near c = some r ∧ m_sort_of r.1 = some r.2 ∧ Du r.2 := by
  unfold m__law_near
  have r30 := mod_rng c (n := 30) (by decide)
  refine ltX (bindX (catO_s (by decide)) (ltX (bindX (appO_s (by decide)) (bindX (catO_s (by decide)) (ltX (bindX (modO_s (by decide)) ?_))))))
  obtain ⟨r, er, a, ha, hs, ho⟩ := ixO_all (P := Nr) (as := ([[32, 62, 32, 97], [32, 126, 126, 126], [126, 126, 126, 126], [126, 126], [126, 126, 126, 32, 97], [32, 61, 32, 97], [61, 97], [61, 61, 61, 61, 32, 97], [61], [61, 61, 61], [124], [32, 124, 32, 97, 32, 124], [124, 32, 97], [97, 32, 124]] ++ [[124, 92, 124], [124, 32, 97, 32, 92, 124], [91, 97, 32, 98, 93, 58, 32, 99], [91, 97, 93, 58, 32, 98, 32, 99], [91, 97, 93, 58, 98], [91, 94, 93, 58, 32, 97], [91, 93, 58, 32, 97], [91, 94, 97, 32, 98, 93, 58, 32, 99]] ++ [[91, 97, 98, 99, 100, 101, 102, 103, 104, 105, 106, 107, 108, 109, 93, 58, 32, 120]] ++ [[45], [43], [45, 97], [45, 45, 45, 32, 97], [42, 32, 97], [91, 94, 97, 98, 99, 100, 101, 102, 103, 104, 105, 106, 107, 108, 109, 93, 58, 32, 120], [32, 91, 97, 93, 58, 32, 98]] : List (List Nat))) (i := c % 30) near_all r30.1 (by simpa using r30.2)
  refine bindX er (ltX (bindX ha ⟨_, rfl, hs, du_not [112, 108, 97, 105, 110] [PyData.int _, encS _] (by decide) (fun x m => ?_) (by decide)⟩))
  rcases List.mem_cons.mp m with z | m
  · rw [z]; exact pt_I _
  · rw [List.mem_singleton.mp m]; exact pt_S (okS_iff.mp ho)
/-! the law -/
theorem cell_ok (ns : List Int) (hn : ns.length ≤ 63) (k : Nat) : ∃ v, m__law_cell_at ns (k : Int) = some v := by
  unfold m__law_cell_at
  by_cases h : k < ns.length
  · exact ⟨_, cndT (decT (by omega)) (bindE (ixO_nat (List.getElem?_eq_getElem h)) rfl)⟩
  · exact ⟨_, cndF (decF (by omega)) rfl⟩
theorem asSs_map : ∀ ts : List (List Nat), asSs (ts.map encS) = some ts
  | [] => rfl
  | t :: ts => by
    unfold asSs
    rw [List.map_cons]
    show (match asS (encS t), asSs (ts.map encS) with | some a, some as => some (a :: as) | _, _ => none) = _
    rw [asSs_map ts]
    rfl
structure Hd (i : Nat) (hs : List (List (List Nat) × List (List Nat))) : Prop where
  n : hs.length ≤ i
  eq : ∀ p ∈ hs, p.1 = p.2 ∧ ∀ t ∈ p.1, OkS t
theorem pure_law (ns : List Int) (hn : ns.length ≤ 63) : m_law ns = some true := by
  unfold m_law
  obtain ⟨c0, e0⟩ := cell_ok ns hn 0
  obtain ⟨c1, e1⟩ := cell_ok ns hn 1
  obtain ⟨c2, e2⟩ := cell_ok ns hn 2
  obtain ⟨c3, e3⟩ := cell_ok ns hn 3
  obtain ⟨c4, e4⟩ := cell_ok ns hn 4
  obtain ⟨d0, f0, _⟩ := mixed_ok c0 1 (by decide)
  obtain ⟨d1, f1, _⟩ := mixed_ok c1 2 (by decide)
  obtain ⟨d2, f2, _⟩ := mixed_ok c2 3 (by decide)
  obtain ⟨d3, f3, _⟩ := mixed_ok c3 4 (by decide)
  obtain ⟨d4, f4, _⟩ := mixed_ok c4 5 (by decide)
  obtain ⟨p0, g0, q0⟩ := built_ok d0 d1
  obtain ⟨p1, g1, q1⟩ := built_ok d2 d3
  obtain ⟨p2, g2, q2⟩ := near_ok d4
  refine bindE e0 (bindE f0 (bindE e1 (bindE f1 (bindE g0 (ltE (bindE e2 (bindE f2 (bindE e3 (bindE f3 (bindE g1 (bindE (appO_s (by simp)) (bindE e4 (bindE f4 (bindE g2 (bindE (appO_s (by simp)) (ltE (fwdEx ?_)))))))))))))))))
  have hall : ∀ p ∈ ([p0] ++ [p1] ++ [p2] : List (List Nat × PyData)), m_sort_of p.1 = some p.2 ∧ Du p.2 := by
    intro p m
    rcases List.mem_append.mp m with m | m
    · rcases List.mem_append.mp m with m | m
      · rw [List.mem_singleton.mp m]; exact q0
      · rw [List.mem_singleton.mp m]; exact q1
    · rw [List.mem_singleton.mp m]; exact q2
  refine (loop_all (ρ := Bool) (as := [(0 : Int), 1, 2, 0, 2, 1]) (i := 0) (s := ([] : List (List (List Nat) × List (List Nat)))) (I := fun i s => Hd i s) ⟨Nat.le_refl _, fun _ m => by cases m⟩ ?g).elim fun s es => ⟨s, es.1, ?_⟩
  case g =>
    intro j s a ha hI
    rw [Nat.zero_add] at hI ⊢
    have ha2 : 0 ≤ a ∧ a < 3 := (by decide : ∀ a ∈ [(0 : Int), 1, 2, 0, 2, 1], 0 ≤ a ∧ a < 3) a (List.mem_of_getElem? ha)
    have hj : j < 6 := (List.getElem?_eq_some_iff.mp ha).1
    obtain ⟨p, ep, hs, du⟩ := ixO_all hall ha2.1 ha2.2
    obtain ⟨row, due⟩ := p
    dsimp only at hs du
    have hpl := plain_ok du
    obtain ⟨k, ds, rfl, hk, hd, hc⟩ := du.ex
    have hlen := hI.n
    have i0 : ixD (PyData.tuple (encS k :: ds)) (0 : Int) = some (encS k) := ixO_nat (i := 0) rfl
    have eqk : eqO (id (encS k)) (encS [99, 101, 108, 108, 115]) = some (decide (k = [99, 101, 108, 108, 115])) := ge_eqO gS (by decide) hk (okS_iff.mp (by decide))
    by_cases c : k = [99, 101, 108, 108, 115]
    · obtain ⟨ts, rfl, hts, htl⟩ := hc c
      have i1 : ixD (PyData.tuple [encS k, PyData.list (ts.map encS)]) (1 : Int) = some (PyData.list (ts.map encS)) := ixO_nat (i := 1) rfl
      have al : asLS (PyData.list (ts.map encS)) = some ts := asSs_map ts
      refine ⟨_, bindE ep (ltE (bindE hs (ltE (bindE hpl (cndF rfl (bindE i0 (bindE eqk (cndT (decT c) (bindE i1 (bindE al (bindE (catO_s (by simp; omega)) (bindE i1 (bindE al (bindE (appO_s (by omega)) (bindE (appO_s (by omega)) rfl))))))))))))))), ⟨by rw [List.length_append, List.length_singleton]; omega, fun q m => ?_⟩⟩
      rcases List.mem_append.mp m with m | m
      · exact hI.eq q m
      · rw [List.mem_singleton.mp m]
        refine ⟨rfl, fun t mt => ?_⟩
        rcases List.mem_append.mp mt with z | z
        · exact hts t z
        · rw [List.mem_singleton.mp z]; exact okS_iff.mp (by decide)
    · exact ⟨s, bindE ep (ltE (bindE hs (ltE (bindE hpl (cndF rfl (bindE i0 (bindE eqk (cndF (decF c) rfl)))))))), ⟨by omega, hI.eq⟩⟩
  · have hI := es.2
    have f1 : mapF (fun (a63 : (List (List Nat) × List (List Nat))) => (eqO ((fun as => PyData.list (List.map encS as)) a63.1) ((fun as => PyData.list (List.map encS as)) a63.2)).bind fun c71 => cnd (!c71) (some (some a63)) (some none)) s = some [] := by
      have := mapF_filter (p := fun _ => false) (g := id) (as := s) (f := fun (a63 : (List (List Nat) × List (List Nat))) => (eqO ((fun as => PyData.list (List.map encS as)) a63.1) ((fun as => PyData.list (List.map encS as)) a63.2)).bind fun c71 => cnd (!c71) (some (some a63)) (some none)) fun q m => by
        obtain ⟨h1, h2⟩ := hI.eq q m
        refine bindE (a := true) ?_ rfl
        rw [← h1]
        exact ge_same (gL gS) (by decide) h2
      rw [this]
      simp
    exact bindE f1 (bindE (a := true) rfl rfl)
end Law
namespace Law
open PySem PySem.Spec PyProof.Rows L2 Lm

/-! the head -/
def d_is_name : He.DefD := ⟨("is_name", none), "is_name", "is_name", defArgs s_is_name, defBody s_is_name, defScope s_is_name, [], []⟩
def d_words_of : He.DefD := ⟨("words_of", none), "words_of", "words_of", defArgs s_words_of, defBody s_words_of, defScope s_words_of, [], []⟩
def d_tidy : He.DefD := ⟨("tidy", none), "tidy", "tidy", defArgs s_tidy, defBody s_tidy, defScope s_tidy, [], []⟩
def d_split_cells : He.DefD := ⟨("split_cells", none), "split_cells", "split_cells", defArgs s_split_cells, defBody s_split_cells, defScope s_split_cells, [], []⟩
def d_heading_sort : He.DefD := ⟨("heading_sort", none), "heading_sort", "heading_sort", defArgs s_heading_sort, defBody s_heading_sort, defScope s_heading_sort, [], []⟩
def d_cells_sort : He.DefD := ⟨("cells_sort", none), "cells_sort", "cells_sort", defArgs s_cells_sort, defBody s_cells_sort, defScope s_cells_sort, [], []⟩
def d_named_sort : He.DefD := ⟨("named_sort", none), "named_sort", "named_sort", defArgs s_named_sort, defBody s_named_sort, defScope s_named_sort, [], []⟩
def d_flush_sort : He.DefD := ⟨("flush_sort", none), "flush_sort", "flush_sort", defArgs s_flush_sort, defBody s_flush_sort, defScope s_flush_sort, [], []⟩
def d_sort_of : He.DefD := ⟨("sort_of", none), "sort_of", "sort_of", defArgs s_sort_of, defBody s_sort_of, defScope s_sort_of, [], []⟩
def d__law_cell_at : He.DefD := ⟨("_law_cell_at", none), "_law_cell_at", "_law_cell_at", defArgs s__law_cell_at, defBody s__law_cell_at, defScope s__law_cell_at, [], []⟩
def d__law_mixed : He.DefD := ⟨("_law_mixed", none), "_law_mixed", "_law_mixed", defArgs s__law_mixed, defBody s__law_mixed, defScope s__law_mixed, [], []⟩
def d__law_signs : He.DefD := ⟨("_law_signs", none), "_law_signs", "_law_signs", defArgs s__law_signs, defBody s__law_signs, defScope s__law_signs, [], []⟩
def d__law_word : He.DefD := ⟨("_law_word", none), "_law_word", "_law_word", defArgs s__law_word, defBody s__law_word, defScope s__law_word, [], []⟩
def d__law_words : He.DefD := ⟨("_law_words", none), "_law_words", "_law_words", defArgs s__law_words, defBody s__law_words, defScope s__law_words, [], []⟩
def d__law_name : He.DefD := ⟨("_law_name", none), "_law_name", "_law_name", defArgs s__law_name, defBody s__law_name, defScope s__law_name, [], []⟩
def d__law_cells : He.DefD := ⟨("_law_cells", none), "_law_cells", "_law_cells", defArgs s__law_cells, defBody s__law_cells, defScope s__law_cells, [], []⟩
def d__law_built : He.DefD := ⟨("_law_built", none), "_law_built", "_law_built", defArgs s__law_built, defBody s__law_built, defScope s__law_built, [], []⟩
def d__law_near : He.DefD := ⟨("_law_near", none), "_law_near", "_law_near", defArgs s__law_near, defBody s__law_near, defScope s__law_near, [], []⟩
def d__law_plain : He.DefD := ⟨("_law_plain", none), "_law_plain", "_law_plain", defArgs s__law_plain, defBody s__law_plain, defScope s__law_plain, [], []⟩
def d_law : He.DefD := ⟨("law", none), "law", "law", defArgs s_law, defBody s_law, defScope s_law, [], []⟩
def fn : List He.DefD := [d_is_name, d_words_of, d_tidy, d_split_cells, d_heading_sort, d_cells_sort, d_named_sort, d_flush_sort, d_sort_of, d__law_cell_at, d__law_mixed, d__law_signs, d__law_word, d__law_words, d__law_name, d__law_cells, d__law_built, d__law_near, d__law_plain, d_law]
def fa : List He.Fa := [.glo "is_name", .glo "words_of", .glo "tidy", .glo "split_cells", .glo "heading_sort", .glo "cells_sort", .glo "named_sort", .glo "flush_sort", .glo "sort_of", .glo "_law_cell_at", .glo "_law_mixed", .glo "_law_signs", .glo "_law_word", .glo "_law_words", .glo "_law_name", .glo "_law_cells", .glo "_law_built", .glo "_law_near", .glo "_law_plain", .glo "law", .free "all", .free "bool", .free "int", .free "isinstance", .free "len", .free "list", .free "range", .free "str", .free "tuple", .str "BAR" "|", .str "FENCE" "~~~", .str "LETTERS" "abcdefghijklmnopqrstuvwxyzABCDEFGHIJKLMNOPQRSTUVWXYZ0123456789", .int "MOST_LETTERS" 12, .int "MOST_LEVEL" 3, .str "SLASH" "\\"]
def ts : List (Str × Str) := [("BAR", "|"), ("FENCE", "~~~"), ("LETTERS", "abcdefghijklmnopqrstuvwxyzABCDEFGHIJKLMNOPQRSTUVWXYZ0123456789"), ("SLASH", "\\")]
abbrev R : PySem.W.OpenRow := PySem.W.OpenLaw.row PySem.Challenge.rw_lightmark_k02_sorts_of_built_rows
abbrev hk : PySem.W.Hook := hookT 4 fa fn ts 375
def ob (s : PySem.W.SharedT) : (He.AlD × Bool) × Nat := (seenT 4 fa fn ts 375 (HandSHeadRun.getT s), s.abs.toks)
theorem ob_eq (s : PySem.W.SharedT) : ob s = hk.obs s.abs := by
  show (seenT 4 fa fn ts 375 (HandSHeadRun.getT s), s.abs.toks) = (seenT 4 fa fn ts 375 s.abs.heap.get?, s.abs.toks)
  rw [seenT_eq (HandSHeadRun.getT_eq s)]
theorem run (w : World) : HandSHeadRun.RunEq R (PySem.W.view R.prog [28]) hk ob 3680 ["LETTERS", "MOST_LETTERS", "BAR", "SLASH", "is_name", "words_of", "tidy", "split_cells", "FENCE", "MOST_LEVEL", "heading_sort", "cells_sort", "named_sort", "flush_sort", "sort_of", "_law_cell_at", "_law_mixed", "_law_signs", "_law_word", "_law_words", "_law_name", "_law_cells", "_law_built", "_law_near", "_law_plain"] w := by
  intro os
  kernel_rfl
theorem calls {P : Program} {w : World} {K : PySem.W.Frag} {h base : Heap} {mg : Str → Option Value} (X : K.In h) (G : h.Ns mainGlobals mg) (c : He.SaysD fa fn K) (tk : tokOk ts 375 K = true) : CalN 375 P w K mg base 7 "law" ["_law_script"] (spG (P_law K)) := by
  have T : Top 375 K mg := ⟨by decide, He.free_ok X G (c.fact 20 (f := .free "all") rfl), He.free_ok X G (c.fact 21 (f := .free "bool") rfl), He.free_ok X G (c.fact 22 (f := .free "int") rfl), He.free_ok X G (c.fact 23 (f := .free "isinstance") rfl), He.free_ok X G (c.fact 24 (f := .free "len") rfl), He.free_ok X G (c.fact 25 (f := .free "list") rfl), He.free_ok X G (c.fact 26 (f := .free "range") rfl), He.free_ok X G (c.fact 27 (f := .free "str") rfl), He.free_ok X G (c.fact 28 (f := .free "tuple") rfl), tok_at X G tk 0 rfl, tok_at X G tk 1 rfl, tok_at X G tk 2 rfl, He.int_ok X G (c.fact 32 (f := .int "MOST_LETTERS" 12) rfl), He.int_ok X G (c.fact 33 (f := .int "MOST_LEVEL" 3) rfl), tok_at X G tk 3 rfl⟩
  have D_is_name : Df K mg "is_name" s_is_name := ⟨(c.def_ 0 (d := d_is_name) rfl).elim fun fd F => ⟨_, fd, F, He.glo_ok X G (c.fact 0 (f := .glo "is_name") rfl)⟩⟩
  have D_words_of : Df K mg "words_of" s_words_of := ⟨(c.def_ 1 (d := d_words_of) rfl).elim fun fd F => ⟨_, fd, F, He.glo_ok X G (c.fact 1 (f := .glo "words_of") rfl)⟩⟩
  have D_tidy : Df K mg "tidy" s_tidy := ⟨(c.def_ 2 (d := d_tidy) rfl).elim fun fd F => ⟨_, fd, F, He.glo_ok X G (c.fact 2 (f := .glo "tidy") rfl)⟩⟩
  have D_split_cells : Df K mg "split_cells" s_split_cells := ⟨(c.def_ 3 (d := d_split_cells) rfl).elim fun fd F => ⟨_, fd, F, He.glo_ok X G (c.fact 3 (f := .glo "split_cells") rfl)⟩⟩
  have D_heading_sort : Df K mg "heading_sort" s_heading_sort := ⟨(c.def_ 4 (d := d_heading_sort) rfl).elim fun fd F => ⟨_, fd, F, He.glo_ok X G (c.fact 4 (f := .glo "heading_sort") rfl)⟩⟩
  have D_cells_sort : Df K mg "cells_sort" s_cells_sort := ⟨(c.def_ 5 (d := d_cells_sort) rfl).elim fun fd F => ⟨_, fd, F, He.glo_ok X G (c.fact 5 (f := .glo "cells_sort") rfl)⟩⟩
  have D_named_sort : Df K mg "named_sort" s_named_sort := ⟨(c.def_ 6 (d := d_named_sort) rfl).elim fun fd F => ⟨_, fd, F, He.glo_ok X G (c.fact 6 (f := .glo "named_sort") rfl)⟩⟩
  have D_flush_sort : Df K mg "flush_sort" s_flush_sort := ⟨(c.def_ 7 (d := d_flush_sort) rfl).elim fun fd F => ⟨_, fd, F, He.glo_ok X G (c.fact 7 (f := .glo "flush_sort") rfl)⟩⟩
  have D_sort_of : Df K mg "sort_of" s_sort_of := ⟨(c.def_ 8 (d := d_sort_of) rfl).elim fun fd F => ⟨_, fd, F, He.glo_ok X G (c.fact 8 (f := .glo "sort_of") rfl)⟩⟩
  have D__law_cell_at : Df K mg "_law_cell_at" s__law_cell_at := ⟨(c.def_ 9 (d := d__law_cell_at) rfl).elim fun fd F => ⟨_, fd, F, He.glo_ok X G (c.fact 9 (f := .glo "_law_cell_at") rfl)⟩⟩
  have D__law_mixed : Df K mg "_law_mixed" s__law_mixed := ⟨(c.def_ 10 (d := d__law_mixed) rfl).elim fun fd F => ⟨_, fd, F, He.glo_ok X G (c.fact 10 (f := .glo "_law_mixed") rfl)⟩⟩
  have D__law_signs : Df K mg "_law_signs" s__law_signs := ⟨(c.def_ 11 (d := d__law_signs) rfl).elim fun fd F => ⟨_, fd, F, He.glo_ok X G (c.fact 11 (f := .glo "_law_signs") rfl)⟩⟩
  have D__law_word : Df K mg "_law_word" s__law_word := ⟨(c.def_ 12 (d := d__law_word) rfl).elim fun fd F => ⟨_, fd, F, He.glo_ok X G (c.fact 12 (f := .glo "_law_word") rfl)⟩⟩
  have D__law_words : Df K mg "_law_words" s__law_words := ⟨(c.def_ 13 (d := d__law_words) rfl).elim fun fd F => ⟨_, fd, F, He.glo_ok X G (c.fact 13 (f := .glo "_law_words") rfl)⟩⟩
  have D__law_name : Df K mg "_law_name" s__law_name := ⟨(c.def_ 14 (d := d__law_name) rfl).elim fun fd F => ⟨_, fd, F, He.glo_ok X G (c.fact 14 (f := .glo "_law_name") rfl)⟩⟩
  have D__law_cells : Df K mg "_law_cells" s__law_cells := ⟨(c.def_ 15 (d := d__law_cells) rfl).elim fun fd F => ⟨_, fd, F, He.glo_ok X G (c.fact 15 (f := .glo "_law_cells") rfl)⟩⟩
  have D__law_built : Df K mg "_law_built" s__law_built := ⟨(c.def_ 16 (d := d__law_built) rfl).elim fun fd F => ⟨_, fd, F, He.glo_ok X G (c.fact 16 (f := .glo "_law_built") rfl)⟩⟩
  have D__law_near : Df K mg "_law_near" s__law_near := ⟨(c.def_ 17 (d := d__law_near) rfl).elim fun fd F => ⟨_, fd, F, He.glo_ok X G (c.fact 17 (f := .glo "_law_near") rfl)⟩⟩
  have D__law_plain : Df K mg "_law_plain" s__law_plain := ⟨(c.def_ 18 (d := d__law_plain) rfl).elim fun fd F => ⟨_, fd, F, He.glo_ok X G (c.fact 18 (f := .glo "_law_plain") rfl)⟩⟩
  have D_law : Df K mg "law" s_law := ⟨(c.def_ 19 (d := d_law) rfl).elim fun fd F => ⟨_, fd, F, He.glo_ok X G (c.fact 19 (f := .glo "law") rfl)⟩⟩
  have C_is_name : Cal P w K mg base 1 "is_name" ["thing"] (spG (P_is_name)) := ok_is_name T D_is_name 
  have C_words_of : Cal P w K mg base 1 "words_of" ["text"] (spN rS (P_words_of)) := ok_words_of T D_words_of 
  have C_tidy : Cal P w K mg base 2 "tidy" ["text"] (spG (P_tidy)) := ok_tidy T D_tidy C_words_of
  have C_split_cells : CalN 375 P w K mg base 3 "split_cells" ["text"] (spN rS (P_split_cells)) := ok_split_cells T D_split_cells C_tidy
  have C_heading_sort : Cal P w K mg base 3 "heading_sort" ["bare"] (spF (P_heading_sort)) := ok_heading_sort T D_heading_sort C_tidy
  have C_cells_sort : CalN 375 P w K mg base 4 "cells_sort" ["bare"] (spF (P_cells_sort)) := ok_cells_sort T D_cells_sort C_split_cells
  have C_named_sort : Cal P w K mg base 3 "named_sort" ["bare"] (spF (P_named_sort)) := ok_named_sort T D_named_sort C_is_name C_tidy C_words_of
  have C_flush_sort : CalN 375 P w K mg base 5 "flush_sort" ["row", "bare"] (spF (P_flush_sort)) := ok_flush_sort T D_flush_sort C_heading_sort C_cells_sort C_named_sort
  have C_sort_of : CalN 375 P w K mg base 6 "sort_of" ["row"] (spF (P_sort_of)) := ok_sort_of T D_sort_of C_flush_sort C_tidy
  have C__law_cell_at : Cal P w K mg base 1 "_law_cell_at" ["_law_script", "_law_k"] (spG (P__law_cell_at K)) := ok__law_cell_at T D__law_cell_at 
  have C__law_mixed : Cal P w K mg base 1 "_law_mixed" ["_law_cell", "_law_k"] (spG (P__law_mixed)) := ok__law_mixed T D__law_mixed 
  have C__law_signs : Cal P w K mg base 1 "_law_signs" [] (spG (P__law_signs)) := ok__law_signs T D__law_signs 
  have C__law_word : CalN 375 P w K mg base 2 "_law_word" ["_law_cell", "_law_k"] (spG (P__law_word)) := ok__law_word T D__law_word C__law_signs C__law_mixed
  have C__law_words : CalN 375 P w K mg base 3 "_law_words" ["_law_cell"] (spG (P__law_words)) := ok__law_words T D__law_words C__law_word C__law_mixed
  have C__law_name : Cal P w K mg base 2 "_law_name" ["_law_cell"] (spG (P__law_name)) := ok__law_name T D__law_name C__law_mixed
  have C__law_cells : CalN 375 P w K mg base 2 "_law_cells" ["_law_cell"] (spG (P__law_cells)) := ok__law_cells T D__law_cells C__law_mixed
  have C__law_built : CalN 375 P w K mg base 4 "_law_built" ["_law_cell", "_law_more"] (spG (P__law_built)) := ok__law_built T D__law_built C__law_words C__law_name C__law_cells C__law_word
  have C__law_near : Cal P w K mg base 1 "_law_near" ["_law_cell"] (spG (P__law_near)) := ok__law_near T D__law_near 
  have C__law_plain : Cal P w K mg base 1 "_law_plain" ["_law_found", "_law_due"] (spG (P__law_plain)) := ok__law_plain T D__law_plain 
  have C_law : CalN 375 P w K mg base 7 "law" ["_law_script"] (spG (P_law K)) := ok_law T D_law C__law_built C__law_mixed C__law_cell_at C__law_near C_sort_of C__law_plain
  exact C_law
end Law
open PySem PySem.W PySem.Calls PyProof.Rows in
theorem PySem.Challenge.cw_lightmark_k02_sorts_of_built_rows_holds : PySem.Challenge.rw_lightmark_k02_sorts_of_built_rows.Holds := by
  w_on; o_law
  refine Lm.head_seen (r := OpenLaw.row PySem.Challenge.rw_lightmark_k02_sorts_of_built_rows) (q := view (OpenLaw.row PySem.Challenge.rw_lightmark_k02_sorts_of_built_rows).prog [28]) (H := Law.hk) (ob := Law.ob) (M := 3680) (loose := ["LETTERS", "MOST_LETTERS", "BAR", "SLASH", "is_name", "words_of", "tidy", "split_cells", "FENCE", "MOST_LEVEL", "heading_sort", "cells_sort", "named_sort", "flush_sort", "sort_of", "_law_cell_at", "_law_mixed", "_law_signs", "_law_word", "_law_words", "_law_name", "_law_cells", "_law_built", "_law_near", "_law_plain"]) (d := HandSHeadRun.topDef (OpenLaw.row PySem.Challenge.rw_lightmark_k02_sorts_of_built_rows).prog 28) (kwd := []) Law.ob_eq
    (by kernel_rfl) (fun s => by kernel_rfl) Law.run (by kernel_rfl) (by kernel_rfl) (by kernel_rfl) (by rfl) (by first | assumption | decide +kernel) (by decide +kernel) ⟨rfl, rfl, rfl, rfl, rfl, by decide +kernel⟩ ?hw ?hc
  case hw => w_witness2
  case hc =>
    refine Lm.walk_tok (l := PySem.Challenge.rw_lightmark_k02_sorts_of_built_rows) (m := 63) (k := 7) (T := 375) (x := "_law_script") rfl (by decide) (by kernel_rfl) ⟨rfl, by decide, by decide⟩ ?F
    intro w K mg fa h KX c tk G hmg0
    have hmg : mg ("law" : PySem.Str) = some (.ref fa) := by
      have e : (HandSHeadRun.topDef (OpenLaw.row PySem.Challenge.rw_lightmark_k02_sorts_of_built_rows).prog 28).name = ("law" : PySem.Str) := by kernel_rfl
      rw [← e]
      exact hmg0
    obtain ⟨fd, hb, hF⟩ := Lm.fin_ofN (n := 375) (P := (PySem.Challenge.rw_lightmark_k02_sorts_of_built_rows).prog) (w := w) hmg h (fun base => Law.calls KX G c tk)
    exact ⟨fd, Lm.spG (Law.P_law K), hb, fun H a ns hl hS => ⟨H, _, _, ⟨ns, true, rfl, Law.pure_law ns hl, rfl⟩, L2.Same.refl H, ⟨⟨a, rfl, hS, Nat.le_trans hl (by decide)⟩, trivial⟩, fun v F' H' g e => e⟩, fun base _ _ => hF base⟩

