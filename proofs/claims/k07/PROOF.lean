import PyProof.Rows.All
import PySem.Challenge.RW_lightmark_k07_parts_refused_or_made
import Wide.All
import OpenK.AllK
import Wide.FinOn
import KE.KStateDown
import Lean
import HandS.ForMost
import HandS.StrMore
import HandS.Style
import HandS.IsInst
import HandS.Replace
import HandS.Wide
import HandS.Defaults
import HandS.HeadHook1
import HandS.HeadHook2
import HandS.HeadEnd
import HandS.Head0
import HandS.Head1
import HandS.Head2
import HandS.MapJoin
import HandS.Deep
import HandS.CallLocal
import HandS.Comp
import HandS.Conv
import HandS.EndBits
import HandS.EndTab
import HandS.Ends
import HandS.ExcCtx
import HandS.ExcIs
import HandS.ExcOwn
import HandS.Flow
import HandS.HeadHook4
import HandS.HeadWalk
import HandS.HotCalls
import HandS.Nested
import HandS.ReplaceLit
import HandS.Small
import HandS.TryOnly
import HandS.TupAny
import HandS.Zip
import OpenK.XOpen
import OpenK.ZHead
import PyProof.ExcBaseAll.ValueError
import PyProof.ToksMono
set_option Elab.async false
set_option linter.all false
set_option maxRecDepth 100000
set_option maxHeartbeats 4000000
/-! Lm: readings over a frozen heap F and owned lists O. -/
namespace Lm
open PySem PySem.Spec L2
/-! ### heaps -/
theorem free_of {F H : Hp} (e : Same F H) {p : Addr} (h : H p = none) : F p = none := e.free h
theorem same_new {H : Hp} {p : Addr} {o : HO} (h : H p = none) : Same H (upd H p o) := fun b x e => by
  rw [upd_ne (ne_of_none e h)]
  exact e
theorem same_mut {F H : Hp} {p : Addr} {o : HO} (e : Same F H) (h : F p = none) : Same F (upd H p o) := fun a u ha => by
  rw [upd_ne (ne_of_none ha h)]
  exact e a u ha
/-- F grew to F', H to H': nothing of H changed, what is new in F' is new in H -/
structure Gr (F H F' H' : Hp) : Prop where
  f : Same F F'
  h : Same H H'
  fh : Same F' H'
  nw : ∀ a, F a = none → H a ≠ none → F' a = none
theorem Gr.refl {F H : Hp} (e : Same F H) : Gr F H F H := ⟨Same.refl F, Same.refl H, e, fun _ h _ => h⟩
theorem Gr.trans {F H F1 H1 F2 H2 : Hp} (a : Gr F H F1 H1) (b : Gr F1 H1 F2 H2) : Gr F H F2 H2 :=
  ⟨a.f.trans b.f, a.h.trans b.h, b.fh, fun x h1 h2 => b.nw x (a.nw x h1 h2) (by
    cases e : H x with
    | none => exact absurd e h2
    | some o => rw [a.h x o e]; exact fun z => by cases z)⟩
/-- a new object that is frozen at once -/
theorem Gr.frz {F H : Hp} {p : Addr} {o : HO} (e : Same F H) (h : H p = none) : Gr F H (upd F p o) (upd H p o) := by
  have hf := free_of e h
  refine ⟨same_new hf, same_new h, fun a u ha => ?_, fun a h1 h2 => ?_⟩
  · by_cases q : a = p
    · subst q; rw [upd_same] at ha ⊢; exact ha
    · rw [upd_ne q] at ha ⊢; exact e a u ha
  · rw [upd_ne (fun q => h2 (by rw [q]; exact h))]
    exact h1
/-- a new object that is not kept in F -/
theorem Gr.gar {F H : Hp} {p : Addr} {o : HO} (e : Same F H) (h : H p = none) : Gr F H F (upd H p o) :=
  ⟨Same.refl F, same_new h, e.trans (same_new h), fun _ q _ => q⟩
/-- owned objects -/
abbrev Own := List (Addr × HO)
structure Ok (F : Hp) (O : Own) (H : Hp) : Prop where
  ex : Same F H
  own : ∀ q ∈ O, F q.1 = none ∧ H q.1 = some q.2
theorem Ok.gr {F H F' H' : Hp} {O : Own} (k : Ok F O H) (g : Gr F H F' H') : Ok F' O H' :=
  ⟨g.fh, fun q m => ⟨g.nw _ (k.own q m).1 (by rw [(k.own q m).2]; exact fun z => by cases z), g.h _ _ (k.own q m).2⟩⟩
/-! ### what a value stands for -/
structure Rep (α : Type) where
  rp : α → V → Hp → Prop
  mono : ∀ {a v F F'}, Same F F' → rp a v F → rp a v F'
abbrev mk (l : List Nat) : Str := ⟨l.toArray⟩
def rInt : Rep Int := ⟨fun i v _ => v = .int i, fun _ h => h⟩
def rB : Rep Bool := ⟨fun i v _ => v = .bl i, fun _ h => h⟩
/-- texts are of signs below 128, and no longer than a million -/
abbrev lim : Nat := 5500000
/-- lists are no longer than this -/
abbrev limL : Nat := 8000000
def OkS (l : List Nat) : Prop := l.length ≤ lim ∧ ∀ c ∈ l, c < 128
def okS (l : List Nat) : Bool := decide (l.length ≤ lim) && l.all fun c => decide (c < 128)
theorem okS_iff {l : List Nat} : okS l = true ↔ OkS l := by
  unfold okS OkS
  rw [Bool.and_eq_true, decide_eq_true_eq, List.all_eq_true]
  simp only [decide_eq_true_eq]
def rS : Rep (List Nat) := ⟨fun l v _ => v = .str (mk l) ∧ OkS l, fun _ h => h⟩
/-- one sign -/
def rC : Rep Nat := ⟨fun c v _ => v = .str (mk [c]) ∧ c < 128, fun _ h => h⟩
def rN : Rep Unit := ⟨fun _ v _ => v = .non, fun _ h => h⟩
def rV (v : V) : Rep Unit := ⟨fun _ w _ => w = v, fun _ h => h⟩
def All2 {α : Type} (R : Rep α) : List α → List V → Hp → Prop
  | [], [], _ => True
  | a :: as, v :: vs, F => R.rp a v F ∧ All2 R as vs F
  | _, _, _ => False
section
variable {α β γ : Type} {R : Rep α} {R' : Rep β}
theorem All2.mono {F F' : Hp} (e : Same F F') : ∀ {as : List α} {vs : List V}, All2 R as vs F → All2 R as vs F'
  | [], [], _ => trivial
  | _ :: _, _ :: _, h => ⟨R.mono e h.1, All2.mono e h.2⟩
  | [], _ :: _, h => h.elim
  | _ :: _, [], h => h.elim
theorem All2.len {F : Hp} : ∀ {as : List α} {vs : List V}, All2 R as vs F → as.length = vs.length
  | [], [], _ => rfl
  | _ :: _, _ :: _, h => by rw [List.length_cons, List.length_cons, All2.len h.2]
  | [], _ :: _, h => h.elim
  | _ :: _, [], h => h.elim
theorem All2.get {F : Hp} : ∀ {as : List α} {vs : List V} {i : Nat} {a : α}, All2 R as vs F → as[i]? = some a → ∃ v, vs[i]? = some v ∧ R.rp a v F
  | [], _, _, _, _, e => by simp at e
  | a :: as, [], _, _, h, _ => h.elim
  | a :: as, v :: vs, 0, b, h, e => by
    have e1 : a = b := Option.some.inj e
    subst e1
    exact ⟨v, rfl, h.1⟩
  | a :: as, v :: vs, i + 1, b, h, e => All2.get (i := i) h.2 e
theorem All2.app {F : Hp} : ∀ {as bs : List α} {vs ws : List V}, All2 R as vs F → All2 R bs ws F → All2 R (as ++ bs) (vs ++ ws) F
  | [], _, [], _, _, h => h
  | _ :: _, _, _ :: _, _, h1, h2 => ⟨h1.1, All2.app h1.2 h2⟩
  | [], _, _ :: _, _, h, _ => h.elim
  | _ :: _, _, [], _, h, _ => h.elim
theorem All2.one {F : Hp} {a : α} {v : V} (h : R.rp a v F) : All2 R [a] [v] F := ⟨h, trivial⟩
theorem All2.take {F : Hp} : ∀ (n : Nat) {as : List α} {vs : List V}, All2 R as vs F → All2 R (as.take n) (vs.take n) F
  | 0, _, _, _ => trivial
  | _ + 1, [], [], _ => trivial
  | n + 1, _ :: _, _ :: _, h => ⟨h.1, All2.take n h.2⟩
  | _ + 1, [], _ :: _, h => h.elim
  | _ + 1, _ :: _, [], h => h.elim
theorem All2.drop {F : Hp} : ∀ (n : Nat) {as : List α} {vs : List V}, All2 R as vs F → All2 R (as.drop n) (vs.drop n) F
  | 0, _, _, h => h
  | _ + 1, [], [], _ => trivial
  | n + 1, _ :: _, _ :: _, h => All2.drop n h.2
  | _ + 1, [], _ :: _, h => h.elim
  | _ + 1, _ :: _, [], h => h.elim
theorem All2.set {F : Hp} {a : α} {v : V} (hr : R.rp a v F) : ∀ (n : Nat) {as : List α} {vs : List V}, All2 R as vs F → All2 R (as.set n a) (vs.set n v) F
  | _, [], [], _ => trivial
  | 0, _ :: _, _ :: _, h => ⟨hr, h.2⟩
  | n + 1, _ :: _, _ :: _, h => ⟨h.1, All2.set hr n h.2⟩
  | _, [], _ :: _, h => h.elim
  | _, _ :: _, [], h => h.elim
/-- a kind whose values are told by a function -/
structure Fl (R : Rep α) (f : α → V) : Prop where
  to : ∀ {a v F}, R.rp a v F → v = f a
  of : ∀ a F, R.rp a (f a) F
theorem flI : Fl rInt V.int := ⟨fun h => h, fun _ _ => rfl⟩
theorem flB : Fl rB V.bl := ⟨fun h => h, fun _ _ => rfl⟩
theorem All2.strs {F : Hp} : ∀ {as : List (List Nat)} {vs : List V}, All2 rS as vs F → vs = (as.map mk).map V.str
  | [], [], _ => rfl
  | _ :: _, _ :: _, q => by
    have e := q.1.1
    rw [List.map_cons, List.map_cons, ← All2.strs q.2, e]
  | [], _ :: _, q => q.elim
  | _ :: _, [], q => q.elim
theorem All2.oks {F : Hp} : ∀ {as : List (List Nat)} {vs : List V}, All2 rS as vs F → ∀ a ∈ as, OkS a
  | [], _, _, _, m => by cases m
  | b :: bs, [], h, _, _ => h.elim
  | b :: bs, v :: vs, h, a, m => by
    rcases List.mem_cons.mp m with e | m
    · subst e; exact h.1.2
    · exact All2.oks h.2 a m
theorem All2.map {f : α → V} (h : Fl R f) {F : Hp} : ∀ {as : List α} {vs : List V}, All2 R as vs F → vs = as.map f
  | [], [], _ => rfl
  | _ :: _, _ :: _, q => by rw [List.map_cons, h.to q.1, All2.map h q.2]
  | [], _ :: _, q => q.elim
  | _ :: _, [], q => q.elim
theorem All2.of_map {f : α → V} (h : Fl R f) {F : Hp} : ∀ (as : List α), All2 R as (as.map f) F
  | [] => trivial
  | a :: as => ⟨h.of a F, All2.of_map h as⟩
/-- .. and not too many -/
structure AllB (R : Rep α) (as : List α) (xs : List V) (F : Hp) : Prop where
  all : All2 R as xs F
  len : as.length ≤ limL
theorem AllB.mono {F F' : Hp} {as : List α} {xs : List V} (e : Same F F') (h : AllB R as xs F) : AllB R as xs F' := ⟨h.all.mono e, h.len⟩
theorem AllB.sz {F : Hp} {as : List α} {xs : List V} (h : AllB R as xs F) : xs.length ≤ limL := by
  rw [← h.all.len]
  exact h.len
theorem sz_lim {n : Nat} (h : n ≤ lim) : n ≤ limL := Nat.le_trans h (by decide)
theorem sz_line {n : Nat} (h : n ≤ limL) : n ≤ sizeLine := Nat.le_trans h (by decide)
theorem sz_lt {n : Nat} (h : n ≤ limL) : n < sizeLine := Nat.lt_of_le_of_lt h (by decide)
/-- a frozen list, tuples -/
def rL (R : Rep α) : Rep (List α) := ⟨fun as v F => ∃ p xs, v = .ref p ∧ F p = some (.lst xs) ∧ AllB R as xs F,
  fun e ⟨p, xs, h1, h2, h3⟩ => ⟨p, xs, h1, e _ _ h2, h3.mono e⟩⟩
/-- a tuple of things of one kind -/
def rTL (R : Rep α) : Rep (List α) := ⟨fun as v F => ∃ p xs, v = .ref p ∧ F p = some (.tup xs) ∧ AllB R as xs F,
  fun e ⟨p, xs, h1, h2, h3⟩ => ⟨p, xs, h1, e _ _ h2, h3.mono e⟩⟩
def rT2 (R : Rep α) (R' : Rep β) : Rep (α × β) := ⟨fun t v F => ∃ p x y, v = .ref p ∧ F p = some (.tup [x, y]) ∧ R.rp t.1 x F ∧ R'.rp t.2 y F,
  fun e ⟨p, x, y, h1, h2, h3, h4⟩ => ⟨p, x, y, h1, e _ _ h2, R.mono e h3, R'.mono e h4⟩⟩
/-- the script: a list of ints that is only read -/
def rScr (K : PySem.W.Frag) : Rep (List Int) := ⟨fun ns v F => ∃ p, v = .ref p ∧ SqL K F p (ns.map V.int) ∧ ns.length ≤ limL, fun e ⟨p, h1, h2, h3⟩ => ⟨p, h1, e.seq h2, h3⟩⟩
end
/-! ### what an expression evaluates to -/
structure Ar where
  p : V → Hp → Hp → Prop
  mono : ∀ {v F H F' H'}, Same F F' → Same H H' → p v F H → p v F' H'
def val {α : Type} (R : Rep α) (a : α) : Ar := ⟨fun v F _ => R.rp a v F, fun e _ h => R.mono e h⟩
/-- a list whose spine is read: frozen, owned or just made -/
def spn {α : Type} (R : Rep α) (as : List α) : Ar := ⟨fun v F H => ∃ p xs, v = .ref p ∧ H p = some (.lst xs) ∧ AllB R as xs F,
  fun e e' ⟨p, xs, h1, h2, h3⟩ => ⟨p, xs, h1, e' _ _ h2, h3.mono e⟩⟩
def Ev (te : TE) (σ : L2.St) (F : Hp) (O : Own) (A : Ar) : Prop := ∀ H, Ok F O H → ∀ Q : VK, (∀ v F' H', Gr F H F' H' → A.p v F' H' → Q v H') → te σ H Q
def EvT (tt : TT) (σ : L2.St) (F : Hp) (O : Own) (b : Bool) : Prop := ∀ H, Ok F O H → ∀ Q : Bool → Hp → Prop, (∀ F' H', Gr F H F' H' → Q b H') → tt σ H Q
/-- a new list -/
def EvN {α : Type} (te : TE) (σ : L2.St) (F : Hp) (O : Own) (R : Rep α) (as : List α) : Prop := ∀ H, Ok F O H → ∀ Q : VK,
  (∀ p xs F' H', Gr F H F' H' → H p = none → F' p = none → H' p = some (.lst xs) → AllB R as xs F' → Q (.ref p) H') → te σ H Q
def AllA : List Ar → List V → Hp → Hp → Prop
  | [], [], _, _ => True
  | A :: as, v :: vs, F, H => A.p v F H ∧ AllA as vs F H
  | _, _, _, _ => False
theorem AllA.mono {F H F' H' : Hp} (e : Same F F') (e' : Same H H') : ∀ {as : List Ar} {vs : List V}, AllA as vs F H → AllA as vs F' H'
  | [], [], _ => trivial
  | A :: _, _ :: _, h => ⟨A.mono e e' h.1, AllA.mono e e' h.2⟩
  | [], _ :: _, h => h.elim
  | _ :: _, [], h => h.elim
def EvA (ta : TA) (σ : L2.St) (F : Hp) (O : Own) (as : List Ar) : Prop := ∀ H, Ok F O H → ∀ Q : List V → Hp → Prop, (∀ vs F' H', Gr F H F' H' → AllA as vs F' H' → Q vs H') → ta σ H Q
/-- two heaps laid one over the other -/
def un (F G : Hp) : Hp := fun a => match F a with | some o => some o | none => G a
theorem un_l {F G : Hp} : Same F (un F G) := fun a o e => by unfold un; rw [e]
theorem un_r {F G H : Hp} (e : Same F H) (e' : Same G H) : Same G (un F G) := fun a o h => by
  unfold un
  cases q : F a with
  | none => exact h
  | some u =>
    have h1 := e a u q
    have h2 := e' a o h
    rw [h1] at h2
    exact h2
theorem un_h {F G H : Hp} (e : Same F H) (e' : Same G H) : Same (un F G) H := fun a o h => by
  unfold un at h
  cases q : F a with
  | none => rw [q] at h; exact e' a o h
  | some u => rw [q] at h; cases h; exact e a o q
/-- known at F, known at more -/
theorem gr_un {F F1 H F' H' : Hp} (e : Same F F1) (k : Same F1 H) (g : Gr F H F' H') : Gr F1 H (un F1 F') H' := by
  have k' : Same F1 H' := k.trans g.h
  refine ⟨un_l, g.h, un_h k' g.fh, fun a h1 h2 => ?_⟩
  unfold un
  rw [h1]
  exact g.nw a (e.free h1) h2
theorem Ok.less {F F1 : Hp} {O : Own} {H : Hp} (e : Same F F1) (k : Ok F1 O H) : Ok F O H := ⟨e.trans k.ex, fun q m => ⟨e.free (k.own q m).1, (k.own q m).2⟩⟩
section
variable {α β γ δ : Type} {R : Rep α} {R' : Rep β} {σ : L2.St} {F F1 : Hp} {O : Own} {ta tb tc te : TE} {A B C : Ar} {K : PySem.W.Frag}
theorem Ev.mono (h : Ev te σ F O A) (e : Same F F1) : Ev te σ F1 O A := fun H k Q q =>
  h H (k.less e) Q fun v F' H' g a => q v (un F1 F') H' (gr_un e k.ex g) (A.mono (un_r (k.ex.trans g.h) g.fh) (Same.refl _) a)
theorem EvN.mono {as : List α} (h : EvN te σ F O R as) (e : Same F F1) : EvN te σ F1 O R as := fun H k Q q =>
  h H (k.less e) Q fun p xs F' H' g n f x a => q p xs (un F1 F') H' (gr_un e k.ex g) n (by
    unfold un
    rw [k.ex.free n]
    exact f) x (a.mono (un_r (k.ex.trans g.h) g.fh))
theorem EvT.mono {tt : TT} {b : Bool} (h : EvT tt σ F O b) (e : Same F F1) : EvT tt σ F1 O b := fun H k Q q =>
  h H (k.less e) Q fun F' H' g => q (un F1 F') H' (gr_un e k.ex g)
theorem EvA.mono {ta : TA} {as : List Ar} (h : EvA ta σ F O as) (e : Same F F1) : EvA ta σ F1 O as := fun H k Q q =>
  h H (k.less e) Q fun v F' H' g a => q v (un F1 F') H' (gr_un e k.ex g) (a.mono (un_r (k.ex.trans g.h) g.fh) (Same.refl _))
/-! ### names, constants -/
theorem ev_v {i : Nat} {v : V} {a : α} (h : σ[i]? = some (some v)) (r : R.rp a v F) : Ev (tVar i) σ F O (val R a) := fun H k _ q => ⟨v, h, q v F H (Gr.refl k.ex) r⟩
theorem ev_o {i : Nat} {p : Addr} {xs : List V} {as : List α} (h : σ[i]? = some (some (.ref p))) (m : (p, HO.lst xs) ∈ O) (r : AllB R as xs F) : Ev (tVar i) σ F O (spn R as) := fun H k _ q =>
  ⟨.ref p, h, q _ F H (Gr.refl k.ex) ⟨p, xs, rfl, (k.own _ m).2, r⟩⟩
theorem ev_c {v : V} {a : α} (r : ∀ F, R.rp a v F) : Ev (tC v) σ F O (val R a) := fun H k _ q => q v F H (Gr.refl k.ex) (r F)
theorem ev_i {i : Int} : Ev (tC (.int i)) σ F O (val rInt i) := ev_c fun _ => rfl
theorem ev_b {i : Bool} : Ev (tC (.bl i)) σ F O (val rB i) := ev_c fun _ => rfl
theorem ev_n : Ev (tC .non) σ F O (val rN ()) := ev_c fun _ => rfl
theorem ev_s {x : Str} {l : List Nat} (h : x = mk l) (k : okS l = true) : Ev (tC (.str x)) σ F O (val rS l) := ev_c fun _ => ⟨by rw [h], okS_iff.mp k⟩
theorem ev_ch {x : Str} {c : Nat} (h : x = mk [c]) (k : c < 128) : Ev (tC (.str x)) σ F O (val rC c) := ev_c fun _ => ⟨by rw [h], k⟩
theorem ev_cs {c : Nat} (h : Ev te σ F O (val rC c)) : Ev te σ F O (val rS [c]) := fun H k Q q => h H k Q fun v F' H' g a => q v F' H' g ⟨a.1, by
  refine ⟨by show 1 ≤ lim; decide, fun d m => ?_⟩
  rw [List.mem_singleton.mp m]
  exact a.2⟩
/-- other forms of the same -/
theorem ev_is {a b : α} (h : Ev te σ F O (val R a)) (e : a = b) : Ev te σ F O (val R b) := e ▸ h
theorem ev_spn {as : List α} (h : Ev te σ F O (val (rL R) as)) : Ev te σ F O (spn R as) := fun H k Q q =>
  h H k Q fun v F' H' g ⟨p, xs, h1, h2, h3⟩ => q v F' H' g ⟨p, xs, h1, g.fh _ _ h2, h3⟩
theorem ev_nspn {as : List α} (h : EvN te σ F O R as) : Ev te σ F O (spn R as) := fun H k Q q =>
  h H k Q fun p xs F' H' g _ _ h2 h3 => q _ F' H' g ⟨p, xs, rfl, h2, h3⟩
theorem ev_frz {as : List α} (h : EvN te σ F O R as) : Ev te σ F O (val (rL R) as) := fun H k Q q =>
  h H k Q fun p xs F' H' g n f h2 h3 => q _ (upd F' p (.lst xs)) H' ⟨g.f.trans (same_new f), g.h, fun a u e => by
    by_cases z : a = p
    · subst z; rw [upd_same] at e; cases e; exact h2
    · rw [upd_ne z] at e; exact g.fh a u e, fun a h1 h4 => by
    rw [upd_ne (fun z => h4 (by rw [z]; exact n))]
    exact g.nw a h1 h4⟩ ⟨p, xs, rfl, upd_same, h3.mono (same_new f)⟩
/-! ### operators -/
theorem two (ha : Ev ta σ F O A) (hb : Ev tb σ F O B) {H : Hp} (k : Ok F O H) {Q : V → V → Hp → Prop} (q : ∀ v w F' H', Gr F H F' H' → Same F' H' → A.p v F' H' → B.p w F' H' → Q v w H') : ta σ H fun x H1 => tb σ H1 fun y H2 => Q x y H2 :=
  ha H k _ fun v F1 H1 g1 a => (hb.mono g1.f) H1 (k.gr g1) _ fun w F2 H2 g2 b => q v w F2 H2 (g1.trans g2) g2.fh (A.mono g2.f g2.h a) b
def Op2 (r : R2) (A B C : Ar) : Prop := ∀ v w F H (Q : VK), Same F H → A.p v F H → B.p w F H → (∀ u F' H', Gr F H F' H' → C.p u F' H' → Q u H') → r v w H Q
def Op2N {α : Type} (r : R2) (A B : Ar) (R : Rep α) (as : List α) : Prop := ∀ v w F H (Q : VK), Same F H → A.p v F H → B.p w F H →
  (∀ p xs F' H', Gr F H F' H' → H p = none → F' p = none → H' p = some (.lst xs) → AllB R as xs F' → Q (.ref p) H') → r v w H Q
theorem ev_op {r : R2} (ha : Ev ta σ F O A) (hb : Ev tb σ F O B) (ho : Op2 r A B C) : Ev (tOp r ta tb) σ F O C := fun H k Q q =>
  two ha hb k fun v w F1 H1 g e a b => ho v w F1 H1 Q e a b fun u F2 H2 g2 c => q u F2 H2 (g.trans g2) c
theorem gr_none {F H F' H' : Hp} (g : Gr F H F' H') {p : Addr} (h : H' p = none) : H p = none := g.h.free h
theorem ev_opN {r : R2} {as : List α} (ha : Ev ta σ F O A) (hb : Ev tb σ F O B) (ho : Op2N r A B R as) : EvN (tOp r ta tb) σ F O R as := fun H k Q q =>
  two ha hb k fun v w F1 H1 g e a b => ho v w F1 H1 Q e a b fun p xs F2 H2 g2 n f x c => q p xs F2 H2 (g.trans g2) (gr_none g n) f x c
/-- where the answer is a scalar -/
theorem op_sc {r : R2} {c : γ} {Rc : Rep γ} {f : γ → V} (hf : Fl Rc f) (h : ∀ v w F H (Q : VK), Same F H → A.p v F H → B.p w F H → Q (f c) H → r v w H Q) : Op2 r A B (val Rc c) := fun v w F H Q e a b q =>
  h v w F H Q e a b (q _ F H (Gr.refl e) (hf.of c F))
theorem o_ii {g : Int → Int → V} {Rc : Rep γ} {f : γ → V} {c : Int → Int → γ} (hf : Fl Rc f) (e : ∀ i j, g i j = f (c i j)) {i j : Int} : Op2 (rI0 g) (val rInt i) (val rInt j) (val Rc (c i j)) :=
  op_sc hf fun _ _ _ _ Q _ a b q => ⟨i, j, a, b, by rw [e]; exact q⟩
theorem o_iic {P : Int → Int → Prop} {g : Int → Int → V} {Rc : Rep γ} {f : γ → V} {c : Int → Int → γ} (hf : Fl Rc f) (e : ∀ i j, g i j = f (c i j)) {i j : Int} (h : P i j) : Op2 (rI P g) (val rInt i) (val rInt j) (val Rc (c i j)) :=
  op_sc hf fun _ _ _ _ Q _ a b q => ⟨i, j, a, b, h, by rw [e]; exact q⟩
end
end Lm
/-! Lm: statements, loops, calls. -/
namespace Lm
open PySem PySem.Spec L2
/-- the code objects of the table ps lie in F -/
def TabF (F : Hp) (nm : Nat → Nat → Str) (ps : Array Value) : Prop := TriplesOk ps.toList ∧ ∀ (pos : Pos) (cv : Value), codeAmong pos ps.toList = some cv → ∃ c, cv = .ref c ∧ F c = some (LamX.CodeO c (nm pos.line pos.col))
theorem TabF.mono {F F' : Hp} {nm : Nat → Nat → Str} {ps : Array Value} (e : Same F F') (h : TabF F nm ps) : TabF F' nm ps :=
  ⟨h.1, fun pos cv hc => (h.2 pos cv hc).elim fun c q => ⟨c, q.1, e _ _ q.2⟩⟩
/-- what a def began with: the frozen heap, all that must stand, the table of code objects (where nested defs are made) -/
structure Bs where
  F0 : Hp
  B : Hp
  T : Option (List Addr × (Nat → Nat → Str))
/-- one of the tables -/
def InT (T : Option (List Addr × (Nat → Nat → Str))) (P : Addr) (nm : Nat → Nat → Str) : Prop := ∃ Ps, T = some (Ps, nm) ∧ P ∈ Ps
theorem InT.no {P : Addr} {nm : Nat → Nat → Str} (h : InT none P nm) : False := by
  obtain ⟨Ps, e, _⟩ := h
  cases e
theorem InT.one {T : Option (List Addr × (Nat → Nat → Str))} {P P' : Addr} {nm nm' : Nat → Nat → Str} (h : InT T P nm) (h' : InT T P' nm') : nm' = nm := by
  obtain ⟨Ps, e, _⟩ := h
  obtain ⟨Ps', e', _⟩ := h'
  rw [e] at e'
  cases e'
  rfl
/-- the table stands, nobody's, as it is now -/
def TabAt (Z : Bs) (F : Hp) (O : Own) (H : Hp) : Prop := ∀ P nm, InT Z.T P nm → ∃ ps, H P = some (.tbl ps) ∧ TabF F nm ps ∧ F P = none ∧ (∀ q ∈ O, q.1 ≠ P) ∧ Z.B P = none
structure At (Z : Bs) (F : Hp) (O : Own) (H : Hp) : Prop where
  ok : Ok F O H
  b : Same Z.B H
  f0 : Same Z.F0 F
  sep : ∀ a, Z.F0 a = none → Z.B a ≠ none → F a = none
  ob : ∀ q ∈ O, Z.B q.1 = none
  nd : (O.map (·.1)).Nodup
  tab : TabAt Z F O H
section
variable {Z : Bs} {F H F' H' : Hp} {O : Own} {p : Addr} {o o' : HO}
theorem TabAt.gr (k : TabAt Z F O H) (g : Gr F H F' H') : TabAt Z F' O H' := fun P nm e => by
  obtain ⟨ps, h1, h2, h3, h4, h5⟩ := k P nm e
  exact ⟨ps, g.h _ _ h1, h2.mono g.f, g.nw P h3 (by rw [h1]; exact fun z => by cases z), h4, h5⟩
theorem TabAt.less {O' : Own} (k : TabAt Z F O H) (h : ∀ q ∈ O', ∃ u ∈ O, u.1 = q.1) : TabAt Z F O' H := fun P nm e => by
  obtain ⟨ps, h1, h2, h3, h4, h5⟩ := k P nm e
  exact ⟨ps, h1, h2, h3, fun q m => (h q m).elim fun u z => by rw [← z.2]; exact h4 u z.1, h5⟩
theorem At.gr (k : At Z F O H) (g : Gr F H F' H') : At Z F' O H' :=
  ⟨k.ok.gr g, k.b.trans g.h, k.f0.trans g.f, fun a h1 h2 => g.nw a (k.sep a h1 h2) (by
    cases e : Z.B a with
    | none => exact absurd e h2
    | some u => rw [k.b a u e]; exact fun z => by cases z), k.ob, k.nd, k.tab.gr g⟩
theorem At.new (k : At Z F O H) (g : Gr F H F' H') (hn : H p = none) (hf : F' p = none) (hx : H' p = some o) : At Z F' ((p, o) :: O) H' := by
  have k' := k.gr g
  refine ⟨⟨k'.ok.ex, fun q m => ?_⟩, k'.b, k'.f0, k'.sep, fun q m => ?_, ?_, fun P nm e => ?_⟩
  · rcases List.mem_cons.mp m with e | m
    · subst e; exact ⟨hf, hx⟩
    · exact k'.ok.own q m
  · rcases List.mem_cons.mp m with e | m
    · subst e; exact k.b.free hn
    · exact k.ob q m
  · rw [List.map_cons, List.nodup_cons]
    refine ⟨fun m => ?_, k.nd⟩
    obtain ⟨q, m, e⟩ := List.mem_map.mp m
    have e2 := (k.ok.own q m).2
    rw [e, hn] at e2
    cases e2
  · obtain ⟨ps, h1, h2, h3, h4, h5⟩ := k'.tab P nm e
    refine ⟨ps, h1, h2, h3, fun q m => ?_, h5⟩
    rcases List.mem_cons.mp m with z | m
    · rw [z]
      obtain ⟨_, g1, _⟩ := k.tab P nm e
      exact fun z2 => by
        have z2 : p = P := z2
        rw [z2, g1] at hn; cases hn
    · exact h4 q m
theorem At.frz (k : At Z F ((p, o) :: O) H) : At Z (upd F p o) O H := by
  have hp := k.ok.own (p, o) (List.mem_cons_self ..)
  have nd := List.nodup_cons.mp (show ((p, o) :: O |>.map (·.1)).Nodup from k.nd)
  refine ⟨⟨fun a u e => ?_, fun q m => ?_⟩, k.b, k.f0.trans (same_new hp.1), fun a h1 h2 => ?_, fun q m => k.ob q (List.mem_cons_of_mem _ m), nd.2, fun P nm e => ?_⟩
  · by_cases z : a = p
    · subst z; rw [upd_same] at e; cases e; exact hp.2
    · rw [upd_ne z] at e; exact k.ok.ex a u e
  · have h1 := k.ok.own q (List.mem_cons_of_mem _ m)
    refine ⟨?_, h1.2⟩
    rw [upd_ne (fun z => nd.1 (List.mem_map.mpr ⟨q, m, z⟩))]
    exact h1.1
  · rw [upd_ne (fun z => h2 (by rw [z]; exact k.ob (p, o) (List.mem_cons_self ..)))]
    exact k.sep a h1 h2
  · obtain ⟨ps, h1, h2, h3, h4, h5⟩ := k.tab P nm e
    have ne : p ≠ P := h4 (p, o) (List.mem_cons_self ..)
    exact ⟨ps, h1, h2.mono (same_new hp.1), by rw [upd_ne (Ne.symm ne)]; exact h3, fun q m => h4 q (List.mem_cons_of_mem _ m), h5⟩
theorem At.drop (k : At Z F ((p, o) :: O) H) : At Z F O H :=
  ⟨⟨k.ok.ex, fun q m => k.ok.own q (List.mem_cons_of_mem _ m)⟩, k.b, k.f0, k.sep, fun q m => k.ob q (List.mem_cons_of_mem _ m), (List.nodup_cons.mp (show ((p, o) :: O |>.map (·.1)).Nodup from k.nd)).2, k.tab.less fun q m => ⟨q, List.mem_cons_of_mem _ m, rfl⟩⟩
theorem At.write {n : Nat} (k : At Z F O H) (h : O[n]? = some (p, o)) : At Z F (O.set n (p, o')) (upd H p o') := by
  have hp := k.ok.own (p, o) (List.mem_of_getElem? h)
  have em : (O.set n (p, o')).map (·.1) = O.map (·.1) := by
    rw [List.map_set]
    apply List.ext_getElem?
    intro i
    rw [List.getElem?_set]
    split
    · next e =>
      subst e
      rw [List.length_map]
      have hn := (List.getElem?_eq_some_iff.mp h).1
      rw [if_pos hn, List.getElem?_map, h]
      rfl
    · rfl
  refine ⟨⟨same_mut k.ok.ex hp.1, fun q m => ?_⟩, same_mut k.b (k.ob _ (List.mem_of_getElem? h)), k.f0, k.sep, fun q m => ?_, by rw [em]; exact k.nd, fun P nm e => ?_⟩
  · obtain ⟨i, hi⟩ := List.getElem?_of_mem m
    rw [List.getElem?_set] at hi
    by_cases e : n = i
    · rw [if_pos e] at hi
      split at hi
      · cases hi
        exact ⟨hp.1, upd_same⟩
      · cases hi
    · rw [if_neg e] at hi
      have h1 := k.ok.own q (List.mem_of_getElem? hi)
      refine ⟨h1.1, ?_⟩
      rw [upd_ne]
      · exact h1.2
      · intro z
        have a1 : (O.map (·.1))[n]? = some p := by rw [List.getElem?_map, h]; rfl
        have a2 : (O.map (·.1))[i]? = some p := by rw [List.getElem?_map, hi, ← z]; rfl
        have l1 := (List.getElem?_eq_some_iff.mp a1)
        have l2 := (List.getElem?_eq_some_iff.mp a2)
        exact e ((List.getElem_inj k.nd).mp (l1.2.trans l2.2.symm))
  · obtain ⟨u, e⟩ : ∃ u, u ∈ O ∧ u.1 = q.1 := by
      have : q.1 ∈ (O.set n (p, o')).map (·.1) := List.mem_map.mpr ⟨q, m, rfl⟩
      rw [em] at this
      obtain ⟨u, a, b⟩ := List.mem_map.mp this
      exact ⟨u, a, b⟩
    rw [← e.2]
    exact k.ob u e.1
  · obtain ⟨ps, h1, h2, h3, h4, h5⟩ := k.tab P nm e
    refine ⟨ps, ?_, h2, h3, fun q m => ?_, h5⟩
    · rw [upd_ne (Ne.symm (h4 (p, o) (List.mem_of_getElem? h)))]; exact h1
    · have : q.1 ∈ (O.set n (p, o')).map (·.1) := List.mem_map.mpr ⟨q, m, rfl⟩
      rw [em] at this
      obtain ⟨u, a, b⟩ := List.mem_map.mp this
      rw [← b]; exact h4 u a
/-- at a def's entry -/
theorem At.start (e : Same F H) : At ⟨F, H, none⟩ F [] H := ⟨⟨e, fun _ m => (by cases m)⟩, Same.refl _, Same.refl _, fun _ h _ => h, fun _ m => (by cases m), List.nodup_nil, fun _ _ e => e.no.elim⟩
/-- at its end -/
theorem At.done (k : At ⟨F, H, none⟩ F' O H') : Gr F H F' H' := ⟨k.f0, k.b, k.ok.ex, k.sep⟩
end
def Sx (Z : Bs) (ts : TS) (D : Ends) (σ : L2.St) (F : Hp) (O : Own) : Prop := ∀ H, At Z F O H → ts D σ H
def Nx (Z : Bs) (D : Ends) (σ : L2.St) (F : Hp) (O : Own) : Prop := ∀ H, At Z F O H → D.nx σ H
def Ct (Z : Bs) (D : Ends) (σ : L2.St) (F : Hp) (O : Own) : Prop := ∀ H, At Z F O H → D.ct σ H
def Bk (Z : Bs) (D : Ends) (σ : L2.St) (F : Hp) (O : Own) : Prop := ∀ H, At Z F O H → D.bk σ H
def Rt (Z : Bs) (D : Ends) (v : V) (F : Hp) (O : Own) : Prop := ∀ H, At Z F O H → D.rt v H
section
variable {α β γ : Type} {R : Rep α} {R' : Rep β} {Z : Bs} {D : Ends} {σ : L2.St} {F : Hp} {O : Own} {t u : TS} {te ta tb : TE} {tt : TT} {A B C : Ar} {K : PySem.W.Frag} {i : Nat} {p : Addr} {o : HO}
theorem sx_seq (h : Sx Z t { D with nx := u D } σ F O) : Sx Z (tSeq t u) D σ F O := h
theorem sx_so {σ2 : L2.St} {O2 : Own} (e : σ = σ2) (e2 : O = O2) (h : Sx Z t D σ2 F O2) : Sx Z t D σ F O := e ▸ e2 ▸ h
theorem nx_of (h : Sx Z u D σ F O) : Nx Z { D with nx := u D } σ F O := h
theorem sx_next (h : Nx Z D σ F O) : Sx Z tNext D σ F O := h
theorem sx_asg {a : α} (h : Ev te σ F O (val R a)) (k : ∀ v F', Same F F' → R.rp a v F' → Nx Z D (σ.set i (some v)) F' O) : Sx Z (tAsg te (gName i)) D σ F O := fun H at0 =>
  h H at0.ok _ fun v F' H' g r => k v F' g.f r H' (at0.gr g)
theorem sx_asgN {as : List α} (h : EvN te σ F O R as) (k : ∀ p xs F', Same F F' → AllB R as xs F' → Nx Z D (σ.set i (some (.ref p))) F' ((p, .lst xs) :: O)) : Sx Z (tAsg te (gName i)) D σ F O := fun H at0 =>
  h H at0.ok _ fun p xs F' H' g n f x r => k p xs F' g.f r H' (at0.new g n f x)
theorem sx_ret {a : α} (h : Ev te σ F O (val R a)) (k : ∀ v F', Same F F' → R.rp a v F' → Rt Z D v F' O) : Sx Z (tRet te) D σ F O := fun H at0 =>
  h H at0.ok _ fun v F' H' g r => k v F' g.f r H' (at0.gr g)
theorem sx_retN {as : List α} (h : EvN te σ F O R as) (k : ∀ p xs F', Same F F' → AllB R as xs F' → Rt Z D (.ref p) F' ((p, .lst xs) :: O)) : Sx Z (tRet te) D σ F O := fun H at0 =>
  h H at0.ok _ fun p xs F' H' g n f x r => k p xs F' g.f r H' (at0.new g n f x)
/-- return of an owned list's name -/
theorem sx_retO {j : Nat} {v : V} (h : σ[j]? = some (some v)) (k : Rt Z D v F O) : Sx Z (tRet (tVar j)) D σ F O := fun H at0 => ⟨v, h, k H at0⟩
theorem sx_if {b : Bool} (h : EvT tt σ F O b) (h1 : b = true → ∀ F', Same F F' → Sx Z t D σ F' O) (h2 : b = false → ∀ F', Same F F' → Sx Z u D σ F' O) : Sx Z (tIfS tt t u) D σ F O := fun H at0 =>
  h H at0.ok _ fun F' H' g => by
    cases b with
    | true =>
      show t D σ H'
      exact h1 rfl F' g.f H' (at0.gr g)
    | false =>
      show u D σ H'
      exact h2 rfl F' g.f H' (at0.gr g)
/-- a frozen owned list as a value -/
theorem rp_frz {as : List α} {xs : List V} (hf : F p = none) (h : AllB R as xs F) : (rL R).rp as (.ref p) (upd F p (.lst xs)) := ⟨p, xs, rfl, upd_same, h.mono (same_new hf)⟩
/-- xs.append(e) -/
theorem sx_app {n : Nat} {xs : List V} {as : List α} {a : α} {j : Nat} (hj : σ[j]? = some (some (.ref p))) (hO : O[n]? = some (p, .lst xs)) (hx : AllB R as xs F) (h : Ev te σ F O (val R a)) (hz : (as ++ [a]).length ≤ limL)
    (k : ∀ v F', Same F F' → AllB R (as ++ [a]) (xs ++ [v]) F' → Nx Z D σ F' (O.set n (p, .lst (xs ++ [v])))) : Sx Z (tDrop (tBM K "list" rAppend (tVar j) (tCons te tNil))) D σ F O := fun H at0 => by
  have hp := at0.ok.own (p, .lst xs) (List.mem_of_getElem? hO)
  refine ⟨.ref p, hj, Or.inl ⟨rfl, xs, Or.inl (Or.inl hp.2)⟩, h H at0.ok _ fun v F' H' g r => ?_⟩
  refine ⟨p, xs, v, rfl, rfl, g.h _ _ hp.2, sz_lt hx.sz, k v F' g.f ⟨All2.app (hx.all.mono g.f) (All2.one r), hz⟩ _ (At.write (at0.gr g) hO)⟩
/-- xs[i] = e -/
theorem sx_setL {n m : Nat} {xs : List V} {as : List α} {a : α} {j : Nat} {z : Int} (hj : σ[j]? = some (some (.ref p))) (hO : O[n]? = some (p, .lst xs)) (hx : AllB R as xs F) (h : Ev te σ F O (val R a)) (hi : Ev tb σ F O (val rInt z))
    (hm : ixN as.length z = some m) (k : ∀ v F', Same F F' → AllB R (as.set m a) (xs.set m v) F' → Nx Z D σ F' (O.set n (p, .lst (xs.set m v)))) : Sx Z (tAsg te (gSub (tVar j) tb rSetL)) D σ F O := fun H at0 => by
  have hp := at0.ok.own (p, .lst xs) (List.mem_of_getElem? hO)
  refine h H at0.ok _ fun v F1 H1 g1 r => ⟨.ref p, hj, (hi.mono g1.f) H1 (at0.ok.gr g1) _ fun w F2 H2 g2 e => ?_⟩
  have g := g1.trans g2
  have e' : w = .int z := e
  subst e'
  refine ⟨p, xs, z, m, rfl, rfl, g.h _ _ hp.2, by rw [← hx.all.len]; exact hm, k v F2 g.f ⟨All2.set (R.mono g2.f r) m (hx.all.mono g.f), by rw [List.length_set]; exact hx.len⟩ _ (At.write (at0.gr g) hO)⟩
/-! ### loops -/
inductive Fw (ρ S : Type) where
  | nx (s : S) | rt (r : ρ) | bk (s : S)
def loop {α ρ S : Type} (f : S → α → Option (Fw ρ S)) : List α → S → Option (Fw ρ S)
  | [], s => some (.nx s)
  | a :: as, s => match f s a with
    | some (.nx s') => loop f as s'
    | some (.rt r) => some (.rt r)
    | some (.bk s') => some (.nx s')
    | none => none
/-- what a turn may end with -/
structure Acc {ρ S : Type} (Z : Bs) (D : Ends) (J : S → L2.St → Hp → Own → Prop) (Ro : ρ → V → Hp → Own → Prop) (F : Hp) (o : Fw ρ S) : Prop where
  nx : ∀ s, o = .nx s → ∀ σ F' O', Same F F' → J s σ F' O' → Nx Z D σ F' O' ∧ Ct Z D σ F' O'
  bk : ∀ s, o = .bk s → ∀ σ F' O', Same F F' → J s σ F' O' → Bk Z D σ F' O'
  rt : ∀ r, o = .rt r → ∀ v F' O', Same F F' → Ro r v F' O' → Rt Z D v F' O'
/-- what a loop may end with -/
structure AccL {ρ S : Type} (Z : Bs) (D : Ends) (J : S → L2.St → Hp → Own → Prop) (Ro : ρ → V → Hp → Own → Prop) (F : Hp) (o : Fw ρ S) : Prop where
  nx : ∀ s, o = .nx s → ∀ σ F' O', Same F F' → J s σ F' O' → Nx Z D σ F' O'
  rt : ∀ r, o = .rt r → ∀ v F' O', Same F F' → Ro r v F' O' → Rt Z D v F' O'
section
variable {ρ S : Type} {f : S → α → Option (Fw ρ S)} {s0 : S} {out : Fw ρ S} {J : S → L2.St → Hp → Own → Prop} {Ro : ρ → V → Hp → Own → Prop} {g : TG} {body : TS}
/-- the word of a loop: what is left to do -/
def Lw (Z : Bs) (f : S → α → Option (Fw ρ S)) (J : S → L2.St → Hp → Own → Prop) (out : Fw ρ S) (as : List α) (F : Hp) (i : Nat) (σ : L2.St) (H : Hp) : Prop :=
  ∃ s F' O', Same F F' ∧ J s σ F' O' ∧ At Z F' O' H ∧ loop f (as.drop i) s = some out
theorem lw_turn {as : List α} {a : α} (acc : AccL Z D J Ro F out) {k : Nat} (ha : as[k]? = some a) {σ' : L2.St} {H' : Hp} (w : Lw Z f J out as F k σ' H') {P : Prop}
    (h : ∀ s F' O' o, Same F F' → J s σ' F' O' → At Z F' O' H' → f s a = some o → Acc Z { D with nx := Lw Z f J out as F (k + 1), ct := Lw Z f J out as F (k + 1), bk := D.nx } J Ro F' o → P) : P := by
  obtain ⟨s, F', O', e, j, at0, hl⟩ := w
  have hk := (List.getElem?_eq_some_iff.mp ha)
  have ed : as.drop k = a :: as.drop (k + 1) := by
    rw [List.drop_eq_getElem_cons hk.1, hk.2]
  rw [ed] at hl
  cases hf : f s a with
  | none =>
    simp only [loop, hf] at hl
    cases hl
  | some o =>
    refine h s F' O' o e j at0 hf ⟨fun s' eo σ2 F2 O2 e2 j2 => ?_, fun s' eo σ2 F2 O2 e2 j2 H2 at2 => ?_, fun r eo v F2 O2 e2 r2 H2 at2 => ?_⟩
    · subst eo
      have hl' : loop f (as.drop (k + 1)) s' = some out := by
        simp only [loop, hf] at hl
        exact hl
      exact ⟨fun H2 at2 => ⟨s', F2, O2, e.trans e2, j2, at2, hl'⟩, fun H2 at2 => ⟨s', F2, O2, e.trans e2, j2, at2, hl'⟩⟩
    · subst eo
      have hl' : Fw.nx s' = out := by
        simp only [loop, hf] at hl
        exact Option.some.inj hl
      exact acc.nx s' hl'.symm σ2 F2 O2 (e.trans e2) j2 H2 at2
    · subst eo
      have hl' : Fw.rt r = out := by
        simp only [loop, hf] at hl
        exact Option.some.inj hl
      exact acc.rt r hl'.symm v F2 O2 (e.trans e2) r2 H2 at2
theorem lw_end {as : List α} {n : Nat} (hn : n = as.length) (acc : AccL Z D J Ro F out) {σ' : L2.St} {H' : Hp} (w : Lw Z f J out as F n σ' H') : D.nx σ' H' := by
  obtain ⟨s, F', O', e, j, at0, hl⟩ := w
  rw [hn, List.drop_length] at hl
  exact acc.nx s (Option.some.inj hl).symm σ' F' O' e j H' at0
end
end
end Lm
/-! Lm: operators, built-ins, lists, calls. -/
namespace Lm
open PySem PySem.Spec L2
/-! ### operators by names -/
def xAdd : R2 := rI0 fun i j => .int (i + j)
def xSub : R2 := rI0 fun i j => .int (i - j)
/-- * of numbers of together less than four million bits -/
def MulC (i j : Int) : Prop := i.natAbs.log2 + j.natAbs.log2 < 8000000
theorem MulC.ok {i j : Int} (h : MulC i j) : IntMulOk i j := by
  have b : ∀ x : Int, Builtin.Int.intBits x ≤ x.natAbs.log2 + 1 := fun x => by
    unfold Builtin.Int.intBits
    split <;> omega
  have h1 := b i
  have h2 := b j
  have h3 : i.natAbs.log2 + j.natAbs.log2 < 8000000 := h
  have e : bitsLine = 134217728 := by decide
  unfold IntMulOk
  intro z
  rw [Bool.and_eq_true] at z
  have z2 := z.2
  unfold Builtin.Int.intTooBig at z2
  have z3 := of_decide_eq_true z2
  rw [e] at z3
  omega
def xMul : R2 := rI MulC fun i j => .int (i * j)
def xDiv : R2 := rI CDiv fun i j => .int (i / j)
def xMod : R2 := rI (fun _ j => 0 < j) fun i j => .int (i % j)
def xLt : R2 := rI0 fun i j => .bl (decide (i < j))
def xLe : R2 := rI0 fun i j => .bl (decide (i ≤ j))
section
variable {X : Cx}
theorem op_xAdd : OpR X (binaryOp .Add) xAdd := op_add
theorem op_xSub : OpR X (binaryOp .Sub) xSub := op_sub
theorem op_xMul : OpR X (binaryOp .Mult) xMul := opI fun _ _ _ _ _ _ _ hc q => PyProof.Rows.mul_int q hc.ok
theorem op_xDiv : OpR X (binaryOp .FloorDiv) xDiv := op_fdiv
theorem op_xMod : OpR X (binaryOp .Mod) xMod := op_mod
theorem op_xLt : OpR X (compareOp .Lt) xLt := op_lt
theorem op_xLe : OpR X (compareOp .LtE) xLe := op_le
end
section
variable {α β γ : Type} {R : Rep α} {R' : Rep β} {σ : L2.St} {F F1 : Hp} {O : Own} {ta tb tc te : TE} {tt tu : TT} {A B C : Ar} {K : PySem.W.Frag} {i j : Int}
theorem o_add : Op2 xAdd (val rInt i) (val rInt j) (val rInt (i + j)) := o_ii (c := fun i j => i + j) flI fun _ _ => rfl
theorem o_sub : Op2 xSub (val rInt i) (val rInt j) (val rInt (i - j)) := o_ii (c := fun i j => i - j) flI fun _ _ => rfl
theorem o_mul (h : MulC i j) : Op2 xMul (val rInt i) (val rInt j) (val rInt (i * j)) := o_iic (c := fun i j => i * j) flI (fun _ _ => rfl) h
theorem o_div (h : CDiv i j) : Op2 xDiv (val rInt i) (val rInt j) (val rInt (i / j)) := o_iic (c := fun i j => i / j) flI (fun _ _ => rfl) h
theorem o_mod (h : 0 < j) : Op2 xMod (val rInt i) (val rInt j) (val rInt (i % j)) := o_iic (c := fun i j => i % j) flI (fun _ _ => rfl) h
theorem o_lt : Op2 xLt (val rInt i) (val rInt j) (val rB (decide (i < j))) := o_ii (c := fun i j => decide (i < j)) flB fun _ _ => rfl
theorem o_le : Op2 xLe (val rInt i) (val rInt j) (val rB (decide (i ≤ j))) := o_ii (c := fun i j => decide (i ≤ j)) flB fun _ _ => rfl
theorem vint_dec (i j : Int) : decide (V.int i = V.int j) = decide (i = j) := by
  by_cases e : i = j
  · subst e; simp
  · rw [decide_eq_false e, decide_eq_false (fun h => e (V.int.inj h))]
theorem mk_inj {l m : List Nat} (h : mk l = mk m) : l = m := by
  have := congrArg (fun s : Str => s.cps.toList) h
  simpa using this
theorem vstr_dec (l m : List Nat) : decide (V.str (mk l) = V.str (mk m)) = decide (l = m) := by
  by_cases e : l = m
  · subst e; simp
  · rw [decide_eq_false e, decide_eq_false (fun h => e (mk_inj (V.str.inj h)))]
theorem o_eqI : Op2 rEq (val rInt i) (val rInt j) (val rB (decide (i = j))) := op_sc flB fun v w _ _ Q _ a b q => by
  have a' : v = .int i := a
  have b' : w = .int j := b
  subst a' b'
  exact ⟨rfl, by rw [vint_dec]; exact q⟩
theorem o_neI : Op2 rNe (val rInt i) (val rInt j) (val rB (!decide (i = j))) := op_sc flB fun v w _ _ Q _ a b q => by
  have a' : v = .int i := a
  have b' : w = .int j := b
  subst a' b'
  exact ⟨rfl, by rw [vint_dec]; exact q⟩
theorem o_eqS {l m : List Nat} : Op2 rEq (val rS l) (val rS m) (val rB (decide (l = m))) := op_sc flB fun v w _ _ Q _ a b q => by
  rw [a.1, b.1]
  exact ⟨rfl, by rw [vstr_dec]; exact q⟩
/-! ### tests -/
theorem et_b {b : Bool} (h : Ev te σ F O (val rB b)) : EvT (tTest te) σ F O b := fun H k Q q => h H k _ fun v F' H' g e => ⟨b, e, q F' H' g⟩
theorem et_B {b : Bool} (h : Ev te σ F O (val rB b)) : EvT (tB te) σ F O b := fun H k Q q => h H k _ fun v F' H' g e => ⟨b, e, q F' H' g⟩
theorem et_not {b : Bool} (h : EvT tt σ F O b) : EvT (tNot tt) σ F O (!b) := fun H k Q q => h H k _ fun F' H' g => q F' H' g
theorem et_and {a b : Bool} (h1 : EvT tt σ F O a) (h2 : a = true → EvT tu σ F O b) (h3 : a = false → b = false) : EvT (tAnd tt tu) σ F O b := fun H k Q q => h1 H k _ fun F' H' g => by
  cases a with
  | true =>
    show tu σ H' Q
    exact (h2 rfl).mono g.f H' (k.gr g) Q fun F2 H2 g2 => q F2 H2 (g.trans g2)
  | false =>
    show Q false H'
    rw [← h3 rfl]
    exact q F' H' g
theorem et_or {a b : Bool} (h1 : EvT tt σ F O a) (h2 : a = false → EvT tu σ F O b) (h3 : a = true → b = true) : EvT (tOr tt tu) σ F O b := fun H k Q q => h1 H k _ fun F' H' g => by
  cases a with
  | false =>
    show tu σ H' Q
    exact (h2 rfl).mono g.f H' (k.gr g) Q fun F2 H2 g2 => q F2 H2 (g.trans g2)
  | true =>
    show Q true H'
    rw [← h3 rfl]
    exact q F' H' g
theorem ev_and {a b : Bool} (h1 : Ev ta σ F O (val rB a)) (h2 : a = true → Ev tb σ F O (val rB b)) (h3 : a = false → b = false) : Ev (tAndV ta tb) σ F O (val rB b) := fun H k Q q => h1 H k _ fun v F' H' g e => ⟨a, e, by
  cases a with
  | true =>
    show tb σ H' Q
    exact (h2 rfl).mono g.f H' (k.gr g) Q fun v F2 H2 g2 => q v F2 H2 (g.trans g2)
  | false =>
    show Q (.bl false) H'
    exact q _ F' H' g (by rw [h3 rfl]; rfl)⟩
/-- a < b < c -/
theorem ev_chain {r r' : R2} {b1 b2 : Bool} (ha : Ev ta σ F O A) (hb : Ev tb σ F O B) (ho : Op2 r A B (val rB b1)) (hc : b1 = true → Ev tc σ F O C) (ho2 : b1 = true → Op2 r' B C (val rB b2)) (h3 : b1 = false → b2 = false) : Ev (tChain r r' ta tb tc) σ F O (val rB b2) := fun H k Q q =>
  two ha hb k fun v w F1 H1 g e a b => ho v w F1 H1 _ e a b fun u F2 H2 g2 c => ⟨b1, c, by
    cases b1 with
    | true =>
      show tc σ H2 _
      exact (hc rfl).mono (g.trans g2).f H2 (k.gr (g.trans g2)) _ fun z F3 H3 g3 cz => ho2 rfl w z F3 H3 Q g3.fh (B.mono (g2.trans g3).f (g2.trans g3).h b) cz fun x F4 H4 g4 cx => q x F4 H4 ((g.trans g2).trans (g3.trans g4)) cx
    | false =>
      show Q (.bl false) H2
      exact q _ F2 H2 (g.trans g2) (by rw [h3 rfl]; rfl)⟩
/-! ### arguments, built-ins, calls -/
theorem ea_nil : EvA tNil σ F O [] := fun H k Q q => q [] F H (Gr.refl k.ex) trivial
theorem ea_cons {tr : TA} {as : List Ar} (h : Ev te σ F O A) (hr : EvA tr σ F O as) : EvA (tCons te tr) σ F O (A :: as) := fun H k Q q =>
  h H k _ fun v F1 H1 g1 a => hr.mono g1.f H1 (k.gr g1) _ fun vs F2 H2 g2 b => q (v :: vs) F2 H2 (g1.trans g2) ⟨A.mono g2.f g2.h a, b⟩
def Cb (r : List V → Hp → VK → Prop) (as : List Ar) (C : Ar) : Prop := ∀ vs F H (Q : VK), Same F H → AllA as vs F H → (∀ u F' H', Gr F H F' H' → C.p u F' H' → Q u H') → r vs H Q
def CbN {α : Type} (r : List V → Hp → VK → Prop) (as : List Ar) (R : Rep α) (bs : List α) : Prop := ∀ vs F H (Q : VK), Same F H → AllA as vs F H →
  (∀ p xs F' H', Gr F H F' H' → H p = none → F' p = none → H' p = some (.lst xs) → AllB R bs xs F' → Q (.ref p) H') → r vs H Q
theorem ev_cb {r : List V → Hp → VK → Prop} {ta : TA} {as : List Ar} (h : EvA ta σ F O as) (hr : Cb r as C) : Ev (tCB r ta) σ F O C := fun H k Q q =>
  h H k _ fun vs F1 H1 g1 a => hr vs F1 H1 Q g1.fh a fun u F2 H2 g2 c => q u F2 H2 (g1.trans g2) c
theorem ev_cbN {r : List V → Hp → VK → Prop} {ta : TA} {as : List Ar} {bs : List α} (h : EvA ta σ F O as) (hr : CbN r as R bs) : EvN (tCB r ta) σ F O R bs := fun H k Q q =>
  h H k _ fun vs F1 H1 g1 a => hr vs F1 H1 Q g1.fh a fun p xs F2 H2 g2 n f x c => q p xs F2 H2 (g1.trans g2) (gr_none g1 n) f x c
theorem cb_sc {r : List V → Hp → VK → Prop} {as : List Ar} {c : γ} {Rc : Rep γ} {f : γ → V} (hf : Fl Rc f) (h : ∀ vs F H (Q : VK), Same F H → AllA as vs F H → Q (f c) H → r vs H Q) : Cb r as (val Rc c) := fun vs F H Q e a q =>
  h vs F H Q e a (q _ F H (Gr.refl e) (hf.of c F))
/-- what one, two arguments are -/
theorem alla1 {F H : Hp} {vs : List V} {A : Ar} (h : AllA [A] vs F H) : ∃ v, vs = [v] ∧ A.p v F H := by
  match vs, h with
  | [v], h => exact ⟨v, rfl, h.1⟩
theorem alla2 {F H : Hp} {vs : List V} {A B : Ar} (h : AllA [A, B] vs F H) : ∃ v w, vs = [v, w] ∧ A.p v F H ∧ B.p w F H := by
  match vs, h with
  | [v, w], h => exact ⟨v, w, rfl, h.1, h.2.1⟩
theorem alla3 {F H : Hp} {vs : List V} {A B C : Ar} (h : AllA [A, B, C] vs F H) : ∃ v w x, vs = [v, w, x] ∧ A.p v F H ∧ B.p w F H ∧ C.p x F H := by
  match vs, h with
  | [v, w, x], h => exact ⟨v, w, x, rfl, h.1, h.2.1, h.2.2.1⟩
theorem sq_of {H : Hp} {p : Addr} {xs : List V} (h : H p = some (.lst xs)) : SqL K H p xs := Or.inl (Or.inl h)
theorem st_of {H : Hp} {p : Addr} {xs : List V} (h : H p = some (.tup xs)) : SqT K H p xs := Or.inl (Or.inl h)
def cLen (K : PySem.W.Frag) : List V → Hp → VK → Prop := fun xs H Q => ∃ x n, xs = [x] ∧ LenV K x H n ∧ Q (.int n) H
theorem call_cLen {X : Cx} : CallR X (.builtin "len") (cLen X.K) := call_len
theorem mk_len (l : List Nat) : (mk l).length = l.length := by
  show l.toArray.size = l.length
  simp
theorem b_lenS {l : List Nat} : Cb (cLen K) [val rS l] (val rInt (l.length : Int)) := cb_sc flI fun vs F H Q e a q => by
  obtain ⟨v, rfl, a2⟩ := alla1 a
  have a3 : v = .str (mk l) ∧ OkS l := a2
  refine ⟨v, l.length, rfl, ?_, q⟩
  rw [a3.1]
  exact ⟨by rw [mk_len]; exact sz_line (sz_lim a3.2.1), (mk_len l).symm⟩
theorem b_lenL {as : List α} : Cb (cLen K) [spn R as] (val rInt (as.length : Int)) := cb_sc flI fun vs F H Q e a q => by
  obtain ⟨v, rfl, p, xs, rfl, h, hx⟩ := alla1 a
  exact ⟨_, as.length, rfl, Or.inl ⟨xs, sq_of h, hx.all.len⟩, q⟩
theorem b_lenK {ns : List Int} : Cb (cLen K) [val (rScr K) ns] (val rInt (ns.length : Int)) := cb_sc flI fun vs F H Q e a q => by
  obtain ⟨v, rfl, p, rfl, h, hz⟩ := alla1 a
  exact ⟨_, ns.length, rfl, Or.inl ⟨_, e.seq h, by rw [List.length_map]⟩, q⟩
theorem b_all {bs : List Bool} : Cb (rAll K) [spn rB bs] (val rB (bs.all id)) := cb_sc flB fun vs F H Q e a q => by
  obtain ⟨v, rfl, p, xs, rfl, h, hx⟩ := alla1 a
  refine ⟨p, bs, rfl, ?_, q⟩
  rw [← hx.all.map flB]
  exact sq_of h
def cInt : List V → Hp → VK → Prop := fun xs H Q => (∃ i, xs = [.int i] ∧ Q (.int i) H) ∨ ∃ k, xs = [.bl k] ∧ Q (.int (if k then 1 else 0)) H
theorem call_cInt {X : Cx} : CallR X (.type "int") cInt := call_int1
theorem b_intB {b : Bool} : Cb cInt [val rB b] (val rInt (if b then 1 else 0)) := cb_sc flI fun vs F H Q e a q => by
  obtain ⟨v, rfl, a2⟩ := alla1 a
  have a3 : v = .bl b := a2
  subst a3
  exact Or.inr ⟨b, rfl, q⟩
/-- a list that was there is made new -/
def cList (K : PySem.W.Frag) : List V → Hp → VK → Prop := fun xs H Q => ∃ p ys, xs = [.ref p] ∧ (SqL K H p ys ∨ SqT K H p ys) ∧ ∀ l, H l = none → Q (.ref l) (upd H l (.lst ys))
theorem call_cList {X : Cx} : CallR X (.type "list") (cList X.K) := call_list_of
theorem new_post {F H : Hp} {Q : VK} {xs : List V} {as : List α} (e : Same F H) (hx : AllB R as xs F) (q : ∀ p xs F' H', Gr F H F' H' → H p = none → F' p = none → H' p = some (.lst xs) → AllB R as xs F' → Q (.ref p) H') :
    ∀ l, H l = none → Q (.ref l) (upd H l (.lst xs)) := fun l hl => q l xs F _ (Gr.gar e hl) hl (free_of e hl) upd_same hx
theorem b_list {as : List α} : CbN (cList K) [spn R as] R as := fun vs F H Q e a q => by
  obtain ⟨v, rfl, p, xs, rfl, h, hx⟩ := alla1 a
  exact ⟨p, xs, rfl, Or.inl (sq_of h), new_post e hx q⟩
/-! ### displays, slices, subscripts -/
def AllV (R : Rep α) : List α → List Ar := fun as => as.map (val R)
theorem alla_all {F H : Hp} : ∀ {as : List α} {vs : List V}, AllA (AllV R as) vs F H → All2 R as vs F
  | [], [], _ => trivial
  | _ :: _, _ :: _, h => ⟨h.1, alla_all h.2⟩
  | [], _ :: _, h => h.elim
  | _ :: _, [], h => h.elim
theorem ev_lst {ta : TA} {as : List α} (h : EvA ta σ F O (AllV R as)) (hl : as.length ≤ limL) : EvN (tLst ta) σ F O R as := fun H k Q q =>
  h H k _ fun vs F1 H1 g1 a => by
    have b : AllB R as vs F1 := ⟨alla_all a, hl⟩
    exact ⟨sz_line b.sz, fun p hp => q p vs F1 _ (g1.trans (Gr.gar g1.fh hp)) (gr_none g1 hp) (free_of g1.fh hp) upd_same b⟩
theorem ev_tupL {ta : TA} {as : List α} (h : EvA ta σ F O (AllV R as)) (hl : as.length ≤ limL) : Ev (tTup ta) σ F O (val (rTL R) as) := fun H k Q q =>
  h H k _ fun vs F1 H1 g1 a => by
    have b : AllB R as vs F1 := ⟨alla_all a, hl⟩
    exact ⟨sz_line b.sz, fun p hp => q (.ref p) (upd F1 p (.tup vs)) _ (g1.trans (Gr.frz g1.fh hp)) ⟨p, vs, rfl, upd_same, b.mono (same_new (free_of g1.fh hp))⟩⟩
theorem ev_tup2 {ta : TA} {a : α} {b : β} (h : EvA ta σ F O [val R a, val R' b]) : Ev (tTup ta) σ F O (val (rT2 R R') (a, b)) := fun H k Q q =>
  h H k _ fun vs F1 H1 g1 a => by
    obtain ⟨v, w, rfl, h1, h2⟩ := alla2 a
    refine ⟨by show 2 ≤ sizeLine; decide, fun p hp => q (.ref p) (upd F1 p (.tup [v, w])) _ (g1.trans (Gr.frz g1.fh hp)) ⟨p, v, w, rfl, upd_same, R.mono (same_new (free_of g1.fh hp)) h1, R'.mono (same_new (free_of g1.fh hp)) h2⟩⟩
/-- a slice -/
def cutL {α : Type} (as : List α) (lo hi : Option Int) : List α := (as.drop (HT.sIx as.length 0 lo)).take (HT.sIx as.length as.length hi - HT.sIx as.length 0 lo)
theorem cutL_len {α : Type} (as : List α) (lo hi : Option Int) : (cutL as lo hi).length ≤ as.length := by
  unfold cutL
  rw [List.length_take, List.length_drop]
  omega
theorem cut_all {F : Hp} {as : List α} {xs : List V} (h : AllB R as xs F) (lo hi : Option Int) : AllB R (cutL as lo hi) (cutV xs lo hi) F := by
  refine ⟨?_, Nat.le_trans (cutL_len _ _ _) h.len⟩
  unfold cutL cutV
  rw [h.all.len]
  exact (h.all.drop _).take _
def EvO (to : TO) (σ : L2.St) (F : Hp) (O : Own) (o : Option Int) : Prop := ∀ H, Ok F O H → ∀ Q : Option Int → Hp → Prop, (∀ F' H', Gr F H F' H' → Q o H') → to σ H Q
theorem EvO.mono {to : TO} {o : Option Int} (h : EvO to σ F O o) (e : Same F F1) : EvO to σ F1 O o := fun H k Q q =>
  h H (k.less e) Q fun F' H' g => q (un F1 F') H' (gr_un e k.ex g)
theorem ep_none : EvO tNoPart σ F O none := fun H k Q q => q F H (Gr.refl k.ex)
theorem ep_some (h : Ev te σ F O (val rInt i)) : EvO (tPart te) σ F O (some i) := fun H k Q q => h H k _ fun v F' H' g e => ⟨i, e, q F' H' g⟩
theorem three {to th : TO} {lo hi : Option Int} (h : Ev te σ F O A) (h1 : EvO to σ F O lo) (h2 : EvO th σ F O hi) {H : Hp} (k : Ok F O H) {Q : V → Option Int → Option Int → Hp → Prop}
    (q : ∀ v F' H', Gr F H F' H' → Same F' H' → A.p v F' H' → Q v lo hi H') : te σ H fun x H1 => to σ H1 fun l H2 => th σ H2 fun u H3 => Q x l u H3 :=
  h H k _ fun v F1 H1 g1 a => (h1.mono g1.f) H1 (k.gr g1) _ fun F2 H2 g2 => (h2.mono (g1.trans g2).f) H2 (k.gr (g1.trans g2)) _ fun F3 H3 g3 => q v F3 H3 ((g1.trans g2).trans g3) g3.fh (A.mono (g2.trans g3).f (g2.trans g3).h a)
theorem ev_slL {to th : TO} {lo hi : Option Int} {as : List α} (h : Ev te σ F O (spn R as)) (h1 : EvO to σ F O lo) (h2 : EvO th σ F O hi) : EvN (tSl (rSlL K) te to th) σ F O R (cutL as lo hi) := fun H k Q q =>
  three h h1 h2 k fun v F1 H1 g e ⟨p, xs, ev, hp, hx⟩ => ⟨p, xs, ev, sq_of hp, fun l hl => q l _ F1 _ (g.trans (Gr.gar e hl)) (gr_none g hl) (free_of e hl) upd_same (cut_all hx lo hi)⟩
theorem atI_get {F : Hp} {as : List α} {xs : List V} {a : α} (h : All2 R as xs F) (e : atI as i = some a) : ∃ v, atI xs i = some v ∧ R.rp a v F := by
  unfold atI at e ⊢
  rw [← h.len]
  cases q : ixN as.length i with
  | none => rw [q] at e; cases e
  | some j =>
    rw [q] at e
    exact h.get e
theorem o_ixL {as : List α} {a : α} (e : atI as i = some a) : Op2 (rIxL K) (spn R as) (val rInt i) (val R a) := fun v w F H Q k ⟨p, xs, ev, hp, hx⟩ b q => by
  obtain ⟨y, e1, r⟩ := atI_get hx.all e
  exact ⟨p, xs, i, y, ev, b, sq_of hp, e1, q y F H (Gr.refl k) r⟩
theorem o_ixK {ns : List Int} {a : Int} (e : atI ns i = some a) : Op2 (rIxL K) (val (rScr K) ns) (val rInt i) (val rInt a) := fun v w F H Q k ⟨p, ev, hp, hz⟩ b q => by
  obtain ⟨y, e1, r⟩ := atI_get (All2.of_map flI (F := F) ns) e
  exact ⟨p, _, i, y, ev, b, k.seq hp, e1, q y F H (Gr.refl k) r⟩
theorem o_ixS {l : List Nat} {c : Nat} (e : atI l i = some c) : Op2 rIxS (val rS l) (val rInt i) (val rC c) := fun v w F H Q k a b q => by
  have hc : c < 128 := a.2.2 c (by
    unfold atI at e
    cases z : ixN l.length i with
    | none => rw [z] at e; cases e
    | some j =>
      rw [z] at e
      exact List.mem_of_getElem? e)
  exact ⟨mk l, i, c, a.1, b, by rw [mk_len]; exact sz_line (sz_lim a.2.1), e, q _ F H (Gr.refl k) ⟨rfl, hc⟩⟩
/-- list + list, list * n -/
theorem o_catL {as bs : List α} (hz : (as ++ bs).length ≤ limL) : Op2N rCat (spn R as) (spn R bs) R (as ++ bs) := fun v w F H Q e ⟨p, xs, ev, hp, hx⟩ ⟨r, ys, ew, hr, hy⟩ q => by
  have b : AllB R (as ++ bs) (xs ++ ys) F := ⟨hx.all.app hy.all, hz⟩
  exact ⟨p, r, xs, ys, ev, ew, hp, hr, by have := b.sz; rw [List.length_append] at this; exact sz_line this, new_post e b q⟩
theorem all_rep {F : Hp} {as : List α} {xs : List V} (h : All2 R as xs F) : ∀ n : Nat, All2 R (List.replicate n as).flatten (List.replicate n xs).flatten F
  | 0 => trivial
  | n + 1 => by
    rw [List.replicate_succ, List.replicate_succ, List.flatten_cons, List.flatten_cons]
    exact h.app (all_rep h n)
theorem sum_rep (k : Nat) : ∀ n : Nat, (List.replicate n k).sum = n * k
  | 0 => by simp
  | n + 1 => by rw [List.replicate_succ, List.sum_cons, sum_rep k n, Nat.succ_mul, Nat.add_comm]
theorem o_repL {as : List α} {n : Int} (h0 : -(2 ^ 63) ≤ n) (h1 : n < 2 ^ 63) (hz : ((List.replicate n.toNat as).flatten).length ≤ limL) : Op2N rRep (spn R as) (val rInt n) R (List.replicate n.toNat as).flatten := fun v w F H Q e ⟨p, xs, ev, hp, hx⟩ ew q => by
  have b : AllB R (List.replicate n.toNat as).flatten (List.replicate n.toNat xs).flatten F := ⟨all_rep hx.all _, hz⟩
  refine ⟨p, n, xs, ev, ew, hp, h0, h1, ?_, new_post e b q⟩
  have := b.sz
  rw [List.length_flatten, List.map_replicate, sum_rep] at this
  exact sz_line (by rw [Nat.mul_comm]; exact this)
/-! ### calls of the text's defs -/
/-- what a def is worth: by what its arguments stand for -/
def spG (P : List Ar → Ar → Prop) : Sp := fun vs H Q _ => ∃ F As C, P As C ∧ Same F H ∧ AllA As vs F H ∧ ∀ v F' H', Gr F H F' H' → C.p v F' H' → Q v H'
def spN {α : Type} (R : Rep α) (P : List Ar → List α → Prop) : Sp := fun vs H Q _ => ∃ F As bs, P As bs ∧ Same F H ∧ AllA As vs F H ∧
  ∀ p xs F' H', Gr F H F' H' → H p = none → F' p = none → H' p = some (.lst xs) → AllB R bs xs F' → Q (.ref p) H'
theorem ev_call {P : List Ar → Ar → Prop} {E : XK} {ta : TA} {as : List Ar} (h : EvA ta σ F O as) (hp : P as C) : Ev (tCall (spG P) [] E ta) σ F O C := fun H k Q q =>
  h H k _ fun vs F1 H1 g1 a => ⟨F1, as, C, hp, g1.fh, by rw [List.append_nil]; exact a, fun v F2 H2 g2 c => q v F2 H2 (g1.trans g2) c⟩
theorem ev_callN {P : List Ar → List α → Prop} {E : XK} {ta : TA} {as : List Ar} {bs : List α} (h : EvA ta σ F O as) (hp : P as bs) : EvN (tCall (spN R P) [] E ta) σ F O R bs := fun H k Q q =>
  h H k _ fun vs F1 H1 g1 a => ⟨F1, as, bs, hp, g1.fh, by rw [List.append_nil]; exact a, fun p xs F2 H2 g2 n f x c => q p xs F2 H2 (g1.trans g2) (gr_none g1 n) f x c⟩
/-- a list's arguments are as many as the values -/
theorem alla_len {F H : Hp} : ∀ {as : List Ar} {vs : List V}, AllA as vs F H → vs.length = as.length
  | [], [], _ => rfl
  | _ :: _, _ :: _, h => by rw [List.length_cons, List.length_cons, alla_len h.2]
  | [], _ :: _, h => h.elim
  | _ :: _, [], h => h.elim
/-- with all owned things frozen for a while: where the answer is a scalar -/
def frzA (F : Hp) : Own → Hp
  | [] => F
  | q :: O => upd (frzA F O) q.1 q.2
theorem frz_same : ∀ {O : Own} {H : Hp}, Ok F O H → Same (frzA F O) H
  | [], _, k => k.ex
  | q :: O, H, k => fun a u e => by
    have ih := frz_same (O := O) ⟨k.ex, fun r m => k.own r (List.mem_cons_of_mem _ m)⟩
    by_cases z : a = q.1
    · subst z
      have e2 : upd (frzA F O) q.1 q.2 q.1 = some u := e
      rw [upd_same] at e2
      cases e2
      exact (k.own q (List.mem_cons_self ..)).2
    · have e2 : upd (frzA F O) q.1 q.2 a = some u := e
      rw [upd_ne z] at e2
      exact ih a u e2
theorem et_peek {b : Bool} (h : EvT tt σ (frzA F O) [] b) : EvT tt σ F O b := fun H k Q q =>
  h H ⟨frz_same k, fun _ m => (by cases m)⟩ Q fun F' H' g => q F H' ⟨Same.refl _, g.h, k.ex.trans g.h, fun _ n _ => n⟩
end
end Lm
/-! Lm: what is walked, for, comprehensions, while. -/
namespace Lm
open PySem PySem.Spec L2
/-- an iterator yields the things as, one by one -/
def Wk {α : Type} (J : It) (F : Hp) (R : Rep α) (as : List α) : Prop := as.length ≤ limL ∧ ∀ i F' H', Same F F' → Same F' H' →
  (∀ a, as[i]? = some a → J.go i H' ∧ ∀ x H2, J.yld i H' x H2 → ∃ F2, Gr F' H' F2 H2 ∧ R.rp a x F2) ∧ (as.length ≤ i → J.stop i H')
def EvI {α : Type} (wi : TI) (σ : L2.St) (F : Hp) (O : Own) (R : Rep α) (as : List α) : Prop := ∀ H, Ok F O H → ∀ Q : It → Hp → Prop, (∀ J F' H', Gr F H F' H' → Wk J F' R as → Q J H') → wi σ H Q
/-- a target takes a thing -/
def Tg {α : Type} (g : TG) (R : Rep α) (P : α → L2.St → L2.St → Hp → Prop) : Prop := ∀ a x σ F H (Q : L2.St → Hp → Prop), R.rp a x F → Same F H → (∀ σ', P a σ σ' F → Q σ' H) → g x σ H Q
section
variable {α β γ ρ S : Type} {R : Rep α} {R' : Rep β} {Z : Bs} {D : Ends} {σ : L2.St} {F : Hp} {O : Own} {te tl ta tb : TE} {tt : TT} {K : PySem.W.Frag} {i j : Nat}
theorem tg_n : Tg (gName j) R fun a σ σ' F => ∃ v, σ' = σ.set j (some v) ∧ R.rp a v F := fun a x σ F H Q r _ q => q _ ⟨x, rfl, r⟩
theorem tg_2 : Tg (gTup K 2 (gCons (gName i) (gCons (gName j) gNil))) (rT2 R R') fun a σ σ' F => ∃ v w, σ' = (σ.set i (some v)).set j (some w) ∧ R.rp a.1 v F ∧ R'.rp a.2 w F := fun a x σ F H Q ⟨p, v, w, ev, hp, h1, h2⟩ e q =>
  ⟨p, [v, w], ev, st_of (e _ _ hp), rfl, v, [w], rfl, w, [], rfl, rfl, q _ ⟨v, w, rfl, h1, h2⟩⟩
/-! ### what is walked -/
theorem ei_list {as : List α} (h : Ev tl σ F O (val (rL R) as)) : EvI (iList K tl) σ F O R as := fun H k Q q =>
  h H k _ fun v F1 H1 g ⟨p, xs, ev, hp, hx⟩ => by
    refine ⟨p, ev, ⟨xs, sq_of (g.fh _ _ hp)⟩, q _ F1 H1 g ⟨hx.len, fun i F' H' e e' => ⟨fun a ha => ?_, fun hi => ?_⟩⟩⟩
    · have hq : SqL K H' p xs := sq_of (e' _ _ (e _ _ hp))
      obtain ⟨y, hy, r⟩ := hx.all.get ha
      refine ⟨⟨xs, y, hq, hy⟩, fun x H2 ⟨e1, f⟩ => ?_⟩
      subst e1
      have ex : x = y := Option.some.inj ((f xs hq).symm.trans hy)
      subst ex
      exact ⟨F', Gr.refl e', R.mono e r⟩
    · exact ⟨xs, sq_of (e' _ _ (e _ _ hp)), by rw [← hx.all.len]; exact hi⟩
/-- lo, lo + 1, .. below hi -/
def rng (lo hi : Int) : List Int := (List.range (hi - lo).toNat).map fun (i : Nat) => lo + (i : Int)
theorem rng_get {lo hi : Int} {i : Nat} {a : Int} (h : (rng lo hi)[i]? = some a) : i < (hi - lo).toNat ∧ a = lo + (i : Int) := by
  unfold rng at h
  rw [List.getElem?_map] at h
  cases e : (List.range (hi - lo).toNat)[i]? with
  | none => rw [e] at h; cases h
  | some j =>
    rw [e] at h
    obtain ⟨h1, h2⟩ := List.getElem?_eq_some_iff.mp e
    rw [List.getElem_range] at h2
    rw [List.length_range] at h1
    subst h2
    exact ⟨h1, (Option.some.inj h).symm⟩
theorem rng_len (lo hi : Int) : (rng lo hi).length = (hi - lo).toNat := by
  unfold rng
  rw [List.length_map, List.length_range]
theorem wk_rng {F : Hp} {lo hi : Int} (hz : (hi - lo).toNat ≤ limL) : Wk (Itr lo (hi - lo).toNat) F rInt (rng lo hi) := ⟨by rw [rng_len]; exact hz, fun i F' H' e e' => ⟨fun a ha => by
  obtain ⟨h1, h2⟩ := rng_get ha
  refine ⟨h1, fun x H2 ⟨e1, f⟩ => ?_⟩
  subst e1 f h2
  exact ⟨F', Gr.refl e', rfl⟩, fun hi => by
  unfold rng at hi
  rw [List.length_map, List.length_range] at hi
  exact hi⟩⟩
theorem ei_rng1 {ta : TA} {n : Int} (h : EvA ta σ F O [val rInt n]) (h1 : -(2 ^ 62) ≤ n) (h2 : n ≤ (limL : Int)) : EvI (iRng1 ta) σ F O rInt (rng 0 n) := fun H k Q q =>
  h H k _ fun vs F1 H1 g a => by
    obtain ⟨v, rfl, a2⟩ := alla1 a
    have a3 : v = .int n := a2
    subst a3
    refine ⟨n, rfl, h1, by have e9 : (limL : Int) = 8000000 := rfl; omega, ?_⟩
    have e : n.toNat = (n - 0).toNat := by omega
    rw [e]
    exact q _ F1 H1 g (wk_rng (by omega))
theorem ei_str {l : List Nat} (h : Ev tl σ F O (val rS l)) : EvI (iStr tl) σ F O rC l := fun H k Q q =>
  h H k _ fun v F1 H1 g a => by
    refine ⟨mk l, a.1, q _ F1 H1 g ⟨sz_lim a.2.1, fun i F' H' e e' => ⟨fun c hc => ?_, fun hi => ?_⟩⟩⟩
    · have hs : i < (mk l).cps.size := by
        show i < l.toArray.size
        rw [List.size_toArray]
        exact (List.getElem?_eq_some_iff.mp hc).1
      refine ⟨hs, fun x H2 ⟨e1, c', h1, h2⟩ => ?_⟩
      subst e1
      have h3 : l[i]? = some c' := by simpa using h1
      rw [hc] at h3
      cases h3
      exact ⟨F', Gr.refl e', h2, a.2.2 c (List.mem_of_getElem? hc)⟩
    · show l.toArray.size ≤ i
      rw [List.size_toArray]
      exact hi
theorem zip_get {as : List α} {bs : List β} {i : Nat} {t : α × β} (h : (as.zip bs)[i]? = some t) : as[i]? = some t.1 ∧ bs[i]? = some t.2 := by
  rw [List.zip, List.getElem?_zipWith] at h
  cases e : as[i]? with
  | none =>
    rw [e] at h
    cases h
  | some a =>
    cases e2 : bs[i]? with
    | none => rw [e, e2] at h; cases h
    | some b =>
      rw [e, e2] at h
      cases h
      exact ⟨rfl, rfl⟩
theorem ei_zip {ta : TA} {as : List α} {bs : List β} (h : EvA ta σ F O [val (rL R) as, val (rL R') bs]) : EvI (iZip K ta) σ F O (rT2 R R') (as.zip bs) := fun H k Q q =>
  h H k _ fun vs F1 H1 g a => by
    obtain ⟨v, w, rfl, ⟨p, xs, ev, hp, hx⟩, r, ys, ew, hr, hy⟩ := alla2 a
    subst ev ew
    refine ⟨p, r, xs, ys, rfl, sq_of (g.fh _ _ hp), sq_of (g.fh _ _ hr), q _ F1 H1 g ⟨by rw [List.zip, List.length_zipWith]; exact Nat.le_trans (Nat.min_le_left _ _) hx.len, fun i F' H' e e' => ⟨fun t ht => ?_, fun hi => ?_⟩⟩⟩
    · have hq1 : SqL K H' p xs := sq_of (e' _ _ (e _ _ hp))
      have hq2 : SqL K H' r ys := sq_of (e' _ _ (e _ _ hr))
      obtain ⟨ht1, ht2⟩ := zip_get ht
      obtain ⟨y1, hy1, r1⟩ := hx.all.get ht1
      obtain ⟨y2, hy2, r2⟩ := hy.all.get ht2
      refine ⟨⟨xs, ys, y1, y2, hq1, hq2, hy1, hy2⟩, fun x H2 ⟨T, z1, z2, ex, hT, e1, f1, f2⟩ => ?_⟩
      have ez1 : z1 = y1 := Option.some.inj ((f1 xs hq1).symm.trans hy1)
      have ez2 : z2 = y2 := Option.some.inj ((f2 ys hq2).symm.trans hy2)
      subst ez1 ez2 ex e1
      have em := e.trans (same_new (o := .tup [z1, z2]) (free_of e' hT))
      exact ⟨upd F' T (.tup [z1, z2]), Gr.frz e' hT, T, _, _, rfl, upd_same, R.mono em r1, R'.mono em r2⟩
    · rw [List.zip, List.length_zipWith] at hi
      refine ⟨xs, ys, sq_of (e' _ _ (e _ _ hp)), sq_of (e' _ _ (e _ _ hr)), ?_⟩
      rw [← hx.all.len, ← hy.all.len]
      omega
/-! ### for -/
theorem sx_for {f : S → α → Option (Fw ρ S)} {s0 : S} {out : Fw ρ S} {J : S → L2.St → Hp → Own → Prop} {Ro : ρ → V → Hp → Own → Prop} {g : TG} {body : TS} {wi : TI} {as : List α} {P : α → L2.St → L2.St → Hp → Prop}
    (hm : loop f as s0 = some out) (hi : EvI wi σ F O R as) (hg : Tg g R P) (h0 : ∀ F', Same F F' → J s0 σ F' O) (acc : AccL Z D J Ro F out)
    (turn : ∀ s a σ' σ2 F' F2 O' o D', a ∈ as → Same F F' → Same F' F2 → J s σ' F' O' → P a σ' σ2 F2 → f s a = some o → Acc Z D' J Ro F2 o → Sx Z body D' σ2 F2 O') : Sx Z (tFor wi g body) D σ F O := fun H at0 => by
  refine hi H at0.ok _ fun J' F1 H1 g1 wk => ?_
  have acc1 : AccL Z D J Ro F1 out := ⟨fun s e σ2 F2 O2 e2 => acc.nx s e σ2 F2 O2 (g1.f.trans e2), fun r e v F2 O2 e2 => acc.rt r e v F2 O2 (g1.f.trans e2)⟩
  refine ⟨fun k m σ' H' => m = as.length - k ∧ k ≤ as.length ∧ Lw Z f J out as F1 k σ' H', ⟨as.length, by simp, Nat.zero_le _, s0, F1, O, Same.refl _, h0 F1 g1.f, at0.gr g1, hm⟩, fun k m σ' H' ⟨em, hk, w⟩ => ?_⟩
  subst em
  have w' := w
  obtain ⟨_, F', O', e, _, at', _⟩ := w'
  by_cases hlt : k < as.length
  · have ha : as[k]? = some as[k] := List.getElem?_eq_getElem hlt
    obtain ⟨hgo, hy⟩ := (wk.2 k F' H' e at'.ok.ex).1 _ ha
    refine Or.inr ⟨hgo, Lw Z f J out as F1 (k + 1), fun σ2 H2 w2 => ⟨as.length - (k + 1), by omega, rfl, hlt, w2⟩, fun x H2 y => ?_⟩
    refine lw_turn acc1 ha w fun s F' O' o e j2 at' hf ac => ?_
    obtain ⟨F2, g2, r⟩ := ((wk.2 k F' H' e at'.ok.ex).1 _ ha).2 x H2 y
    refine hg _ x σ' F2 H2 _ r g2.fh fun σ2 p => ?_
    refine turn s _ σ' σ2 F' F2 O' o _ (List.mem_of_getElem? ha) (g1.f.trans e) g2.f j2 p hf ?_ H2 (at'.gr g2)
    exact ⟨fun s e σ3 F3 O3 e3 => ac.nx s e σ3 F3 O3 (g2.f.trans e3), fun s e σ3 F3 O3 e3 => ac.bk s e σ3 F3 O3 (g2.f.trans e3), fun r e v F3 O3 e3 => ac.rt r e v F3 O3 (g2.f.trans e3)⟩
  · have e2 : k = as.length := by omega
    exact Or.inl ⟨(wk.2 k F' H' e at'.ok.ex).2 (by omega), lw_end e2 acc1 w⟩
/-! ### while -/
def whileN (c : S → Option Bool) (f : S → Option (Fw ρ S)) : Nat → S → Option (Fw ρ S)
  | 0, _ => none
  | n + 1, s => match c s with
    | some true => (match f s with
      | some (.nx s') => whileN c f n s'
      | some (.rt r) => some (.rt r)
      | some (.bk s') => some (.nx s')
      | none => none)
    | some false => some (.nx s)
    | none => none
theorem sx_while {c : S → Option Bool} {f : S → Option (Fw ρ S)} {n : Nat} {s0 : S} {out : Fw ρ S} {J : S → L2.St → Hp → Own → Prop} {Ro : ρ → V → Hp → Own → Prop} {body : TS}
    (hm : whileN c f n s0 = some out) (h0 : J s0 σ F O) (acc : AccL Z D J Ro F out)
    (test : ∀ s σ' F' O' b, Same F F' → J s σ' F' O' → c s = some b → EvT tt σ' F' O' b)
    (turn : ∀ s σ' F' F2 O' o D', Same F F' → Same F' F2 → J s σ' F' O' → c s = some true → f s = some o → Acc Z D' J Ro F2 o → Sx Z body D' σ' F2 O')
    (same : ∀ s σ' F' F2 O', J s σ' F' O' → Same F' F2 → J s σ' F2 O') : Sx Z (tWhile tt body) D σ F O := fun H at0 => by
  refine ⟨fun m σ' H' => ∃ s F' O', Same F F' ∧ J s σ' F' O' ∧ At Z F' O' H' ∧ whileN c f m s = some out, ⟨n, s0, F, O, Same.refl _, h0, at0, hm⟩, fun m σ' H' ⟨s, F', O', e, j2, at', hw⟩ => ?_⟩
  cases m with
  | zero => simp only [whileN] at hw; cases hw
  | succ m =>
    cases hc : c s with
    | none => simp only [whileN, hc] at hw; cases hw
    | some b =>
      refine test s σ' F' O' b e j2 hc H' at'.ok _ fun F2 H2 g2 => ?_
      cases b with
      | false =>
        simp only [whileN, hc] at hw
        exact acc.nx s (Option.some.inj hw).symm σ' F2 O' (e.trans g2.f) (same _ _ _ _ _ j2 g2.f) H2 (at'.gr g2)
      | true =>
        cases hf : f s with
        | none => simp only [whileN, hc, hf] at hw; cases hw
        | some o =>
          refine ⟨fun σ3 H3 => ∃ s F3 O3, Same F F3 ∧ J s σ3 F3 O3 ∧ At Z F3 O3 H3 ∧ whileN c f m s = some out, fun σ3 H3 w => ⟨m, by omega, w⟩, ?_⟩
          refine turn s σ' F' F2 O' o _ e g2.f j2 hc hf ⟨fun s' eo σ3 F3 O3 e3 j3 => ?_, fun s' eo σ3 F3 O3 e3 j3 H3 at3 => ?_, fun r eo v F3 O3 e3 r3 H3 at3 => ?_⟩ H2 (at'.gr g2)
          · subst eo
            simp only [whileN, hc, hf] at hw
            exact ⟨fun H3 at3 => ⟨s', F3, O3, (e.trans g2.f).trans e3, j3, at3, hw⟩, fun H3 at3 => ⟨s', F3, O3, (e.trans g2.f).trans e3, j3, at3, hw⟩⟩
          · subst eo
            simp only [whileN, hc, hf] at hw
            exact acc.nx s' (Option.some.inj hw).symm σ3 F3 O3 ((e.trans g2.f).trans e3) j3 H3 at3
          · subst eo
            simp only [whileN, hc, hf] at hw
            exact acc.rt r (Option.some.inj hw).symm v F3 O3 ((e.trans g2.f).trans e3) r3 H3 at3
/-! ### comprehensions -/
/-- f tells what an item gives: nothing known; left out; a thing -/
def mapF (f : α → Option (Option β)) : List α → Option (List β)
  | [] => some []
  | a :: as => match f a with
    | none => none
    | some o => match mapF f as with
      | none => none
      | some bs => some (match o with | some b => b :: bs | none => bs)
theorem mapF_cons {f : α → Option (Option β)} {a : α} {as : List α} {bs : List β} (h : mapF f (a :: as) = some bs) : ∃ o cs, f a = some o ∧ mapF f as = some cs ∧ bs = (match o with | some b => b :: cs | none => cs) := by
  unfold mapF at h
  cases e : f a with
  | none => rw [e] at h; cases h
  | some o =>
    rw [e] at h
    cases e2 : mapF f as with
    | none => rw [e2] at h; cases h
    | some cs =>
      rw [e2] at h
      exact ⟨o, cs, rfl, rfl, (Option.some.inj h).symm⟩
theorem ev_lc {f : α → Option (Option β)} {wi : TI} {g : TG} {vs : List Nat} {as : List α} {bs : List β} {P : α → L2.St → L2.St → Hp → Prop}
    (hm : mapF f as = some bs) (hi : EvI wi σ F O R as) (hg : Tg g R P)
    (turn : ∀ a σ2 F' F2 ob, a ∈ as → Same F F' → Same F' F2 → P a (wipe σ vs) σ2 F2 → f a = some ob → wipe σ2 vs = wipe σ vs ∧ EvT tt σ2 F2 O ob.isSome ∧ ∀ b, ob = some b → Ev te σ2 F2 O (val R' b)) :
    EvN (tLc wi g tt te vs) σ F O R' bs := fun H k Q q => by
  refine hi H k _ fun J F1 H1 g1 wk L hL => ?_
  have k1 := k.gr g1
  let W : Nat → Hp → Prop := fun i H' => ∃ F' acc done rest, Gr F1 H1 F' H' ∧ F' L = none ∧ H' L = some (.lst acc) ∧ All2 R' done acc F' ∧ mapF f (as.drop i) = some rest ∧ done ++ rest = bs ∧ done.length ≤ i
  have okL : ∀ {F' H'}, Gr F1 H1 F' H' → Ok F' O H' := fun gg => k1.gr gg
  refine ⟨fun i m H' => m = as.length - i ∧ i ≤ as.length ∧ W i H', ⟨as.length, by simp, Nat.zero_le _, F1, [], [], bs, ⟨Same.refl _, same_new hL, g1.fh.trans (same_new hL), fun _ h _ => h⟩, free_of g1.fh hL, upd_same, trivial, hm, rfl, Nat.le_refl _⟩, fun i m H' ⟨em, hile, F', acc, done, rest, gg, fL, hacc, ha2, hrest, hbs, hdl⟩ => ?_⟩
  subst em
  by_cases hlt : i < as.length
  · have ha : as[i]? = some as[i] := List.getElem?_eq_getElem hlt
    obtain ⟨hgo, hy⟩ := (wk.2 i F' H' gg.f gg.fh).1 _ ha
    refine Or.inr ⟨hgo, W (i + 1), fun H2 w => ⟨as.length - (i + 1), by omega, rfl, hlt, w⟩, fun x H2 y => ?_⟩
    obtain ⟨F2, g2, r⟩ := hy x H2 y
    rw [List.drop_eq_getElem_cons hlt] at hrest
    obtain ⟨o, cs, e1, e2, e3⟩ := mapF_cons hrest
    refine hg _ x (wipe σ vs) F2 H2 _ r g2.fh fun σ2 p => ?_
    obtain ⟨hw, ht, he⟩ := turn as[i] σ2 F' F2 o (List.mem_of_getElem? ha) (g1.f.trans gg.f) g2.f p e1
    have gg2 := gg.trans g2
    refine ⟨hw, ht H2 (okL gg2) _ fun F3 H3 g3 => ?_⟩
    have gg3 := gg2.trans g3
    have fL3 : F3 L = none := (g2.trans g3).nw L fL (by rw [hacc]; exact fun z => by cases z)
    have hacc3 : H3 L = some (.lst acc) := (g2.trans g3).h _ _ hacc
    cases o with
    | none =>
      show W (i + 1) H3
      exact ⟨F3, acc, done, cs, gg3, fL3, hacc3, ha2.mono (g2.trans g3).f, e2, by rw [← hbs, e3], by omega⟩
    | some b =>
      show te σ2 H3 _
      refine ((he b rfl).mono g3.f) H3 (okL gg3) _ fun v F4 H4 g4 r4 => ?_
      have fL4 : F4 L = none := g4.nw L fL3 (by rw [hacc3]; exact fun z => by cases z)
      have gg4 := gg3.trans g4
      have lacc : acc.length ≤ limL := by
        rw [← ha2.len]
        have := wk.1
        omega
      refine ⟨acc, g4.h _ _ hacc3, sz_lt lacc, F4, acc ++ [v], done ++ [b], cs, ⟨gg4.f, fun a u hu => ?_, same_mut gg4.fh fL4, gg4.nw⟩, fL4, upd_same, (ha2.mono ((g2.trans g3).trans g4).f).app (All2.one r4), e2, by rw [← hbs, e3, List.append_assoc]; rfl, by rw [List.length_append]; simp; omega⟩
      rw [upd_ne (ne_of_none hu hL)]
      exact gg4.h a u hu
  · refine Or.inl ⟨(wk.2 i F' H' gg.f gg.fh).2 (by omega), ?_⟩
    rw [List.drop_eq_nil_of_le (by omega)] at hrest
    have er : rest = [] := (Option.some.inj hrest).symm
    rw [er, List.append_nil] at hbs
    subst hbs
    exact q L acc F' H' (g1.trans gg) (gr_none g1 hL) fL hacc ⟨ha2, Nat.le_trans (by omega) wk.1⟩
theorem et_yes : EvT tYes σ F O true := fun H k Q q => q F H (Gr.refl k.ex)
end
end Lm
/-! Lm: texts. -/
namespace Lm
open PySem PySem.Spec L2 PySem.Builtin.Str
/-! ### texts as lists of signs -/
theorem tl_of (l : List Nat) : (mk l).cps.toList = l := rfl
theorem mk_of {x : Str} {l : List Nat} (h : x.cps.toList = l) : x = mk l := by
  apply TL.ext_tl
  exact h
def startsS (l p : List Nat) : Bool := p.isPrefixOf l
def endsS (l p : List Nat) : Bool := p.isSuffixOf l
/-- p stands somewhere in l -/
def inS (p : List Nat) : List Nat → Bool
  | [] => p.isEmpty
  | c :: r => p.isPrefixOf (c :: r) || inS p r
abbrev joinS (s : List Nat) (ps : List (List Nat)) : List Nat := TL.joinL s ps
def lstripS (l cs : List Nat) : List Nat := l.dropWhile cs.contains
def rstripS (l cs : List Nat) : List Nat := (l.reverse.dropWhile cs.contains).reverse
def lowC (c : Nat) : Nat := if 65 ≤ c ∧ c ≤ 90 then c + 32 else c
def lowerS (l : List Nat) : List Nat := l.map lowC
/-! Options -/
def catS (a b : List Nat) : Option (List Nat) := if (a ++ b).length ≤ lim then some (a ++ b) else none
def repS (a : List Nat) (n : Int) : Option (List Nat) := if (List.replicate n.toNat a).flatten.length ≤ lim ∧ n < 2 ^ 61 ∧ -(2 ^ 61) ≤ n then some (List.replicate n.toNat a).flatten else none
def joinO (s : List Nat) (ps : List (List Nat)) : Option (List Nat) := if (joinS s ps).length ≤ lim then some (joinS s ps) else none
/-- does not fail -/
theorem iteo {α : Type} {p : Prop} [Decidable p] {a b : α} (h : (if p then some a else none) = some b) : p ∧ a = b := by
  by_cases hp : p
  · rw [if_pos hp] at h
    exact ⟨hp, Option.some.inj h⟩
  · rw [if_neg hp] at h
    cases h
section
variable {x y : List Nat}
theorem pref_take {p l : List Nat} : p.isPrefixOf l = (l.take p.length == p) := by
  rw [Bool.eq_iff_iff, List.isPrefixOf_iff_prefix, beq_iff_eq, List.prefix_iff_eq_take]
  exact ⟨fun h => h.symm, fun h => h.symm⟩
theorem starts_mk : Txt.startswith (mk x) (mk y) = startsS x y := by
  unfold Txt.startswith startsS
  rw [PySem.StrLaws.subAt_eq, mk_len, mk_len, pref_take, tl_of, tl_of, List.drop_zero]
  by_cases h : 0 + y.length ≤ x.length
  · rw [decide_eq_true h, Bool.true_and]
  · rw [decide_eq_false h, Bool.false_and]
    symm
    rw [beq_eq_false_iff_ne]
    intro e
    have := congrArg List.length e
    rw [List.length_take] at this
    omega
theorem suff_drop {p l : List Nat} (h : p.length ≤ l.length) : p.isSuffixOf l = (l.drop (l.length - p.length) == p) := by
  rw [Bool.eq_iff_iff, List.isSuffixOf_iff_suffix, beq_iff_eq, List.suffix_iff_eq_drop]
  exact ⟨fun h => h.symm, fun h => h.symm⟩
theorem ends_mk : Txt.endswith (mk x) (mk y) = endsS x y := by
  unfold Txt.endswith endsS
  rw [PySem.StrLaws.subAt_eq, mk_len, mk_len, tl_of, tl_of]
  by_cases h : 0 + y.length ≤ x.length
  · rw [decide_eq_true h, Bool.true_and, suff_drop (by omega), List.take_of_length_le]
    rw [List.length_drop]
    omega
  · rw [decide_eq_false h, Bool.false_and]
    symm
    rw [Bool.eq_false_iff]
    intro e
    have := (List.isSuffixOf_iff_suffix.mp e).length_le
    omega
theorem lower_mk (h : ∀ c ∈ x, c < 128) : Txt.lower (mk x) = mk (lowerS x) := by
  rw [PyProof.Rows.lower_ascii h]
  apply mk_of
  show (Array.map _ x.toArray).toList = _
  simp [lowerS]
  intro a _
  rfl
theorem okS_lower (h : OkS x) : OkS (lowerS x) := by
  refine ⟨by unfold lowerS; rw [List.length_map]; exact h.1, fun c m => ?_⟩
  obtain ⟨d, md, e⟩ := List.mem_map.mp m
  have := h.2 d md
  subst e
  unfold lowC
  split <;> omega
theorem contains_mk (l : List Nat) : (mk l).cps.contains = l.contains := by
  funext c
  show l.toArray.contains c = l.contains c
  simp
theorem takeWhile_drop (p : Nat → Bool) (l : List Nat) : l.drop (l.takeWhile p).length = l.dropWhile p := by
  induction l with
  | nil => rfl
  | cons a r ih =>
    rw [List.takeWhile_cons, List.dropWhile_cons]
    split
    · exact ih
    · rfl
theorem lstrip_mk : Txt.lstripChars (mk x) (mk y) = mk (lstripS x y) := by
  unfold Txt.lstripChars
  rw [PyProof.Rows.stripBy_eq]
  apply mk_of
  rw [PySem.StrLaws.strSub_toList, tl_of, contains_mk]
  have e1 : stripHi y.contains false (mk x) (stripLo y.contains true (mk x)) = x.length := by
    show (mk x).length = x.length
    exact mk_len x
  have e2 : stripLo y.contains true (mk x) = (x.takeWhile y.contains).length := rfl
  rw [e1, e2, takeWhile_drop]
  unfold lstripS
  rw [List.take_of_length_le]
  have h1 : (x.takeWhile y.contains).length + (x.dropWhile y.contains).length = x.length := by
    rw [← List.length_append, List.takeWhile_append_dropWhile]
  omega
theorem rev_take (l : List Nat) (n : Nat) : (l.reverse.drop n).reverse = l.take (l.length - n) := by
  rw [List.drop_reverse, List.reverse_reverse]
theorem rstrip_mk : Txt.rstripChars (mk x) (mk y) = mk (rstripS x y) := by
  unfold Txt.rstripChars
  rw [PyProof.Rows.stripBy_eq]
  apply mk_of
  rw [PySem.StrLaws.strSub_toList, tl_of, contains_mk]
  have e2 : stripLo y.contains false (mk x) = 0 := rfl
  have e1 : stripHi y.contains true (mk x) 0 = x.length - (x.reverse.takeWhile y.contains).length := by
    show (mk x).length - _ = _
    rw [mk_len]
    first | done | rfl
  rw [e2, e1, List.drop_zero, Nat.sub_zero]
  unfold rstripS
  rw [← takeWhile_drop, rev_take]
theorem mem_dropWhile {p : Nat → Bool} {l : List Nat} {c : Nat} (h : c ∈ l.dropWhile p) : c ∈ l := (List.dropWhile_sublist p).subset h
theorem okS_lstrip (h : OkS x) : OkS (lstripS x y) := ⟨Nat.le_trans (List.dropWhile_sublist _).length_le h.1, fun c m => h.2 c (mem_dropWhile m)⟩
theorem okS_rstrip (h : OkS x) : OkS (rstripS x y) := by
  unfold rstripS
  refine ⟨?_, fun c m => ?_⟩
  · rw [List.length_reverse]
    have := (List.dropWhile_sublist (y.contains) (l := x.reverse)).length_le
    rw [List.length_reverse] at this
    exact Nat.le_trans this h.1
  · exact h.2 c (List.mem_reverse.mp (mem_dropWhile (List.mem_reverse.mp m)))
theorem join_mk (s : List Nat) (ps : List (List Nat)) : Txt.join (mk s) (ps.map mk) = mk (joinS s ps) := by
  rw [TL.join_eq]
  apply mk_of
  rw [show (Str.join (mk s) (ps.map mk)).cps.toList = TL.tl (Str.join (mk s) (ps.map mk)) from rfl, TL.tl_join]
  congr 1
  rw [List.map_map]
  exact List.map_id'' (fun l => rfl) ps
theorem joinS_one (s p : List Nat) : joinS s [p] = p := rfl
theorem joinS_cons (s p q : List Nat) (r : List (List Nat)) : joinS s (p :: q :: r) = p ++ s ++ joinS s (q :: r) := by
  first
    | rfl
    | (rw [List.append_assoc]; rfl)
theorem joinS_len (s : List Nat) : ∀ ps : List (List Nat), (ps.map List.length).sum + ps.length * s.length ≤ (joinS s ps).length + s.length
  | [] => by simp
  | [p] => by rw [joinS_one]; simp
  | p :: q :: r => by
    rw [joinS_cons, List.length_append, List.length_append]
    have ih := joinS_len s (q :: r)
    simp only [List.map_cons, List.sum_cons, List.length_cons, Nat.succ_mul] at ih ⊢
    omega
theorem joinS_mem (s : List Nat) : ∀ ps : List (List Nat), ∀ c ∈ joinS s ps, c ∈ s ∨ ∃ p ∈ ps, c ∈ p
  | [], c, m => by cases m
  | [p], c, m => Or.inr ⟨p, List.mem_cons_self .., m⟩
  | p :: q :: r, c, m => by
    rw [joinS_cons, List.mem_append, List.mem_append] at m
    rcases m with (m | m) | m
    · exact Or.inr ⟨p, List.mem_cons_self .., m⟩
    · exact Or.inl m
    · rcases joinS_mem s (q :: r) c m with h | ⟨p', h1, h2⟩
      · exact Or.inl h
      · exact Or.inr ⟨p', List.mem_cons_of_mem _ h1, h2⟩
/-- a text within a text -/
theorem inS_iff (p : List Nat) : ∀ l : List Nat, inS p l = true ↔ ∃ i, i + p.length ≤ l.length ∧ (l.drop i).take p.length = p
  | [] => by
    unfold inS
    rw [List.isEmpty_iff]
    constructor
    · intro e; subst e; exact ⟨0, by simp, by simp⟩
    · rintro ⟨i, h1, h2⟩
      cases p with
      | nil => rfl
      | cons a r => simp at h1
  | c :: r => by
    unfold inS
    rw [Bool.or_eq_true, inS_iff p r, List.isPrefixOf_iff_prefix, List.prefix_iff_eq_take]
    constructor
    · rintro (h | ⟨i, h1, h2⟩)
      · refine ⟨0, ?_, by rw [List.drop_zero]; exact h.symm⟩
        have := congrArg List.length h
        rw [List.length_take] at this
        omega
      · exact ⟨i + 1, by rw [List.length_cons]; omega, by rw [List.drop_succ_cons]; exact h2⟩
    · rintro ⟨i, h1, h2⟩
      cases i with
      | zero => exact Or.inl (by rw [List.drop_zero] at h2; exact h2.symm)
      | succ i => exact Or.inr ⟨i, by rw [List.length_cons] at h1; omega, by rw [List.drop_succ_cons] at h2; exact h2⟩
theorem in_mk : (!(occurrences (mk x) (mk y) 0 (mk x).length 1).isEmpty) = inS y x := by
  rw [Bool.eq_iff_iff, PySem.StrLaws.found_iff, inS_iff]
  constructor
  · rintro ⟨i, h1, h2⟩
    rw [mk_len, mk_len] at h1
    rw [PySem.StrLaws.subAt_eq, mk_len, tl_of, tl_of, beq_iff_eq] at h2
    exact ⟨i, h1, h2⟩
  · rintro ⟨i, h1, h2⟩
    refine ⟨i, by rw [mk_len, mk_len]; exact h1, ?_⟩
    rw [PySem.StrLaws.subAt_eq, mk_len, tl_of, tl_of, beq_iff_eq]
    exact h2
end
end Lm
/-! Lm: the methods of texts, what joins ways, how mirrors fail. -/
namespace Lm
open PySem PySem.Spec L2 PySem.Builtin.Str
/-! ### mirrors -/
theorem bsome {α β : Type} {o : Option α} {f : α → Option β} {b : β} (h : o.bind f = some b) : ∃ a, o = some a ∧ f a = some b := by
  cases o with
  | none => cases h
  | some a => exact ⟨a, rfl, h⟩
def lt {α β : Type} (a : α) (f : α → Option β) : Option β := f a
theorem lt_e {α β : Type} {a : α} {f : α → Option β} {b : β} (h : lt a f = some b) : ∃ x, a = x ∧ f x = some b := ⟨a, rfl, h⟩
def cnd {α : Type} (c : Bool) (a b : Option α) : Option α := match c with | true => a | false => b
theorem cnd_t {α : Type} {c : Bool} {a b : Option α} {x : α} (h : cnd c a b = some x) (e : c = true) : a = some x := by subst e; exact h
theorem cnd_f {α : Type} {c : Bool} {a b : Option α} {x : α} (h : cnd c a b = some x) (e : c = false) : b = some x := by subst e; exact h
def fwd {ρ S γ : Type} (o : Option (Fw ρ S)) (k : S → Option γ) (kr : ρ → Option γ) : Option γ := match o with
  | some (.nx s) => k s
  | some (.rt r) => kr r
  | some (.bk _) => none
  | none => none
theorem fwd_o {ρ S γ : Type} {o : Option (Fw ρ S)} {k : S → Option γ} {kr : ρ → Option γ} {x : γ} (h : fwd o k kr = some x) : ∃ w, o = some w ∧ (∀ s, w = .nx s → k s = some x) ∧ (∀ r, w = .rt r → kr r = some x) := by
  cases o with
  | none => cases h
  | some w =>
    refine ⟨w, rfl, fun s e => ?_, fun r e => ?_⟩
    · subst e; exact h
    · subst e; exact h
def appO {α : Type} (as : List α) (a : α) : Option (List α) := if (as ++ [a]).length ≤ limL then some (as ++ [a]) else none
def catO {α : Type} (as bs : List α) : Option (List α) := if (as ++ bs).length ≤ limL then some (as ++ bs) else none
def repO {α : Type} (as : List α) (n : Int) : Option (List α) := if ((List.replicate n.toNat as).flatten).length ≤ limL ∧ n < 2 ^ 61 ∧ -(2 ^ 61) ≤ n then some (List.replicate n.toNat as).flatten else none
def ixO {α : Type} (as : List α) (i : Int) : Option α := atI as i
def setO {α : Type} (as : List α) (i : Int) (a : α) : Option (List α) := (ixN as.length i).map fun m => as.set m a
theorem setO_e {α : Type} {as bs : List α} {i : Int} {a : α} (h : setO as i a = some bs) : ∃ m, ixN as.length i = some m ∧ as.set m a = bs := by
  unfold setO at h
  cases e : ixN as.length i with
  | none => rw [e] at h; cases h
  | some m => rw [e] at h; exact ⟨m, rfl, Option.some.inj h⟩
def mulO (i j : Int) : Option Int := if i.natAbs.log2 + j.natAbs.log2 < 8000000 then some (i * j) else none
def divO (i j : Int) : Option Int := if 0 < j ∧ j < 1073741824 then some (i / j) else none
def modO (i j : Int) : Option Int := if 0 < j then some (i % j) else none
def rngO (lo hi : Int) : Option (List Int) := if (-(2 ^ 61) ≤ lo ∧ lo < 2 ^ 61 ∧ -(2 ^ 61) ≤ hi ∧ hi < 2 ^ 61) ∧ (hi - lo).toNat ≤ limL then some (rng lo hi) else none
section
variable {α β γ : Type} {R : Rep α} {R' : Rep β} {Z : Bs} {D : Ends} {σ : L2.St} {F F1 : Hp} {O : Own} {ta tb tc te to : TE} {ts tt tu : TS} {A B C : Ar} {K : PySem.W.Frag} {i j : Int} {l m p : List Nat}
theorem o_mulO {c : Int} (h : mulO i j = some c) : Op2 xMul (val rInt i) (val rInt j) (val rInt c) := by
  obtain ⟨h1, h2⟩ := iteo h
  subst h2
  exact o_mul h1
theorem o_divO {c : Int} (h : divO i j = some c) : Op2 xDiv (val rInt i) (val rInt j) (val rInt c) := by
  obtain ⟨h1, h2⟩ := iteo h
  subst h2
  exact o_div h1
theorem o_modO {c : Int} (h : modO i j = some c) : Op2 xMod (val rInt i) (val rInt j) (val rInt c) := by
  obtain ⟨h1, h2⟩ := iteo h
  subst h2
  exact o_mod h1
theorem ei_rng1O {ta : TA} {n : Int} {as : List Int} (h : EvA ta σ F O [val rInt n]) (e : rngO 0 n = some as) : EvI (iRng1 ta) σ F O rInt as := by
  obtain ⟨h1, h2⟩ := iteo e
  subst h2
  refine ei_rng1 h (by omega) ?_
  have e9 : (limL : Int) = 8000000 := rfl
  have e8 : limL = 8000000 := rfl
  rw [e8] at h1
  omega
/-! ### text operators -/
def xCatS : R2 := fun x y H Q => ∃ i j, x = .str i ∧ y = .str j ∧ i.length + j.length ≤ sizeLine ∧ Q (.str (i ++ j)) H
def xRepS : R2 := fun x y H Q => ∃ a n, x = .str a ∧ y = .int n ∧ MulOk a n ∧ Q (.str (Txt.mul a n)) H
def xIn1 : R2 := fun x y H Q => ∃ (c : Nat) (z : Str), x = .str ⟨#[c]⟩ ∧ y = .str z ∧ Q (.bl (decide (c ∈ z.cps.toList))) H
def xNin1 : R2 := fun x y H Q => ∃ (c : Nat) (z : Str), x = .str ⟨#[c]⟩ ∧ y = .str z ∧ Q (.bl (!decide (c ∈ z.cps.toList))) H
def xNinS : R2 := fun x y H Q => ∃ i j, x = .str i ∧ y = .str j ∧ Q (.bl (!(!(occurrences j i 0 j.length 1).isEmpty))) H
theorem op_xCatS {X : Cx} : OpR X (binaryOp .Add) xCatS := op_add_str
theorem op_xRepS {X : Cx} : OpR X (binaryOp .Mult) xRepS := by
  intro pins s σ H x y v u Q I rx ry h
  obtain ⟨a, n, rfl, rfl, hm, q⟩ := h
  obtain ⟨t, rfl⟩ := rx
  obtain ⟨t', rfl⟩ := ry
  exact SB.mul hm fun t2 k => ⟨.str _, H, I.tok k, ⟨t2, rfl⟩, q⟩
theorem op_xIn1 {X : Cx} : OpR X (compareOp .In) xIn1 := op_in_sign
theorem op_xNin1 {X : Cx} : OpR X (compareOp .NotIn) xNin1 := op_notIn_sign
theorem op_xNinS {X : Cx} : OpR X (compareOp .NotIn) xNinS := op_notIn_str
theorem cat_mk : (mk l ++ mk m) = mk (l ++ m) := by
  apply mk_of
  rw [Str.cps_append, Array.toList_append]
theorem okS_cat (h : OkS l) (k : OkS m) (e : (l ++ m).length ≤ lim) : OkS (l ++ m) := ⟨e, fun c z => (List.mem_append.mp z).elim (h.2 c) (k.2 c)⟩
theorem o_catS {c : List Nat} (h : catS l m = some c) : Op2 xCatS (val rS l) (val rS m) (val rS c) := fun v w F H Q e a b q => by
  obtain ⟨h1, h2⟩ := iteo h
  subst h2
  refine ⟨mk l, mk m, a.1, b.1, ?_, q _ F H (Gr.refl e) ⟨by rw [cat_mk], okS_cat a.2 b.2 h1⟩⟩
  rw [mk_len, mk_len]
  rw [List.length_append] at h1
  exact sz_line (sz_lim h1)
theorem foldl_app (a : Array Nat) : ∀ (n : Nat) (b : Array Nat), ((List.replicate n a).foldl (· ++ ·) b).toList = b.toList ++ (List.replicate n a.toList).flatten
  | 0, b => by simp
  | n + 1, b => by
    rw [List.replicate_succ, List.foldl_cons, foldl_app a n, List.replicate_succ, List.flatten_cons, Array.toList_append, List.append_assoc]
theorem mul_mk (n : Int) : Txt.mul (mk l) n = mk (List.replicate n.toNat l).flatten := by
  apply mk_of
  unfold Txt.mul
  by_cases h : n < 1
  · rw [if_pos h]
    have e : n.toNat = 0 := by omega
    rw [e]
    rfl
  · rw [if_neg h]
    by_cases h2 : (n == 1 || (mk l).length == 0) = true
    · rw [if_pos h2]
      rw [Bool.or_eq_true, beq_iff_eq, beq_iff_eq, mk_len] at h2
      rcases h2 with h2 | h2
      · subst h2
        simp
      · have e : l = [] := List.eq_nil_of_length_eq_zero h2
        subst e
        simp
    · rw [if_neg h2]
      show ((List.replicate n.toNat l.toArray).foldl (· ++ ·) #[]).toList = _
      rw [foldl_app]
      simp
theorem rep_len (n : Nat) : (List.replicate n l).flatten.length = n * l.length := by
  rw [List.length_flatten, List.map_replicate, sum_rep]
theorem mulOk_mk {n : Int} (h : (List.replicate n.toNat l).flatten.length ≤ lim ∧ n < 2 ^ 61 ∧ -(2 ^ 61) ≤ n) : MulOk (mk l) n := by
  obtain ⟨h1, h2, h3⟩ := h
  rw [rep_len] at h1
  refine ⟨?_, fun hn _ => ?_, fun hn _ => ?_⟩
  · rw [Bool.or_eq_false_iff]
    exact ⟨decide_eq_false (by omega), decide_eq_false (by omega)⟩
  · rw [mk_len]
    intro z
    have hp : (0 : Int) < n := by omega
    have h5 : ((l.length : Nat) : Int) ≤ (2 ^ 63 - 1) / n := by
      rw [Int.le_ediv_iff_mul_le hp]
      have h6 : ((n.toNat * l.length : Nat) : Int) ≤ (lim : Int) := Int.ofNat_le.mpr h1
      rw [Int.natCast_mul, Int.toNat_of_nonneg (by omega), Int.mul_comm] at h6
      have e9 : (lim : Int) = 5500000 := rfl
      omega
    omega
  · rw [mk_len]
    unfold tooLong
    apply decide_eq_false
    rw [Nat.mul_comm] at h1
    exact Nat.not_lt.mpr (sz_line (sz_lim h1))
theorem o_repS {n : Int} {c : List Nat} (h : repS l n = some c) : Op2 xRepS (val rS l) (val rInt n) (val rS c) := fun v w F H Q e a b q => by
  obtain ⟨h1, h2⟩ := iteo h
  subst h2
  refine ⟨mk l, n, a.1, b, mulOk_mk h1, q _ F H (Gr.refl e) ⟨by rw [mul_mk], h1.1, fun c z => ?_⟩⟩
  obtain ⟨x, hx, hc⟩ := List.mem_flatten.mp z
  rw [(List.mem_replicate.mp hx).2] at hc
  exact a.2.2 c hc
theorem o_in1 {c : Nat} : Op2 xIn1 (val rC c) (val rS l) (val rB (decide (c ∈ l))) := op_sc flB fun v w F H Q e a b q => ⟨c, mk l, a.1, b.1, q⟩
theorem o_nin1 {c : Nat} : Op2 xNin1 (val rC c) (val rS l) (val rB (!decide (c ∈ l))) := op_sc flB fun v w F H Q e a b q => ⟨c, mk l, a.1, b.1, q⟩
theorem o_ninS : Op2 xNinS (val rS p) (val rS l) (val rB (!inS p l)) := op_sc flB fun v w F H Q e a b q => ⟨mk p, mk l, a.1, b.1, by rw [in_mk]; exact q⟩
theorem o_catLO {as bs cs : List α} (h : catO as bs = some cs) : Op2N rCat (spn R as) (spn R bs) R cs := by
  obtain ⟨h1, h2⟩ := iteo h
  subst h2
  exact o_catL h1
theorem o_repLO {as cs : List α} {n : Int} (h : repO as n = some cs) : Op2N rRep (spn R as) (val rInt n) R cs := by
  obtain ⟨h1, h2⟩ := iteo h
  subst h2
  exact o_repL (by omega) (by omega) h1.1
/-! ### methods of texts -/
abbrev RM := V → List V → Hp → VK → Prop
def Cm (r : RM) (l : List Nat) (as : List Ar) (C : Ar) : Prop := ∀ vs F H (Q : VK), OkS l → Same F H → AllA as vs F H → (∀ u F' H', Gr F H F' H' → C.p u F' H' → Q u H') → r (.str (mk l)) vs H Q
theorem ev_m {r : RM} {ta : TA} {as : List Ar} (ho : Ev to σ F O (val rS l)) (ha : EvA ta σ F O as) (hr : Cm r l as C) : Ev (tBM K "str" r to ta) σ F O C := fun H k Q q =>
  ho H k _ fun v F1 H1 g1 a => by
    have a1 : v = .str (mk l) := a.1
    subst a1
    exact ⟨rfl, (ha.mono g1.f) H1 (k.gr g1) _ fun vs F2 H2 g2 b => hr vs F2 H2 Q a.2 g2.fh b fun u F3 H3 g3 c => q u F3 H3 ((g1.trans g2).trans g3) c⟩
theorem ev_m0 {r : RM} (ho : Ev to σ F O (val rS l)) (hr : Cm r l [] C) : Ev (tBM0 K "str" r to) σ F O C := fun H k Q q =>
  ho H k _ fun v F1 H1 g1 a => by
    have a1 : v = .str (mk l) := a.1
    subst a1
    exact ⟨rfl, hr [] F1 H1 Q a.2 g1.fh trivial fun u F3 H3 g3 c => q u F3 H3 (g1.trans g3) c⟩
def mStarts : RM := fun x xs H Q => ∃ a b, x = .str a ∧ xs = [.str b] ∧ Q (.bl (Txt.startswith a b)) H
def mEnds : RM := fun x xs H Q => ∃ a b, x = .str a ∧ xs = [.str b] ∧ Q (.bl (Txt.endswith a b)) H
def mJoin (K : PySem.W.Frag) : RM := fun x xs H Q => ∃ a p, ∃ ys : List Str, x = .str a ∧ xs = [.ref p] ∧ (SqL K H p (ys.map V.str) ∨ SqT K H p (ys.map V.str)) ∧ (ys.map (·.length)).sum + ys.length * a.length ≤ 16777216 ∧ Q (.str (Txt.join a ys)) H
def mLstrip : RM := fun x xs H Q => ∃ a b, x = .str a ∧ xs = [.str b] ∧ a.length ≤ sizeLine ∧ Q (.str (Txt.lstripChars a b)) H
def mRstrip : RM := fun x xs H Q => ∃ a b, x = .str a ∧ xs = [.str b] ∧ a.length ≤ sizeLine ∧ Q (.str (Txt.rstripChars a b)) H
def mLower : RM := fun x xs H Q => ∃ a, x = .str a ∧ xs = [] ∧ a.length ≤ 5592405 ∧ Q (.str (Txt.lower a)) H
theorem mt_mStarts {X : Cx} : MtR X "str.startswith" mStarts := mt_startswith
theorem mt_mEnds {X : Cx} : MtR X "str.endswith" mEnds := mt_endswith
theorem mt_mJoin {X : Cx} : MtR X "str.join" (mJoin X.K) := mt_join
theorem mt_mLstrip {X : Cx} : MtR X "str.lstrip" mLstrip := mt_lstripChars
theorem mt_mRstrip {X : Cx} : MtR X "str.rstrip" mRstrip := mt_rstripChars
theorem mt_mLower {X : Cx} : MtR X "str.lower" mLower := mt_lower
theorem m_starts : Cm mStarts l [val rS m] (val rB (startsS l m)) := fun vs F H Q k e a q => by
  obtain ⟨v, rfl, b⟩ := alla1 a
  exact ⟨mk l, mk m, rfl, by rw [show v = .str (mk m) from b.1], by rw [starts_mk]; exact q _ F H (Gr.refl e) rfl⟩
theorem m_ends : Cm mEnds l [val rS m] (val rB (endsS l m)) := fun vs F H Q k e a q => by
  obtain ⟨v, rfl, b⟩ := alla1 a
  exact ⟨mk l, mk m, rfl, by rw [show v = .str (mk m) from b.1], by rw [ends_mk]; exact q _ F H (Gr.refl e) rfl⟩
theorem m_lstrip : Cm mLstrip l [val rS m] (val rS (lstripS l m)) := fun vs F H Q k e a q => by
  obtain ⟨v, rfl, b⟩ := alla1 a
  exact ⟨mk l, mk m, rfl, by rw [show v = .str (mk m) from b.1], by rw [mk_len]; exact sz_line (sz_lim k.1), by rw [lstrip_mk]; exact q _ F H (Gr.refl e) ⟨rfl, okS_lstrip k⟩⟩
theorem m_rstrip : Cm mRstrip l [val rS m] (val rS (rstripS l m)) := fun vs F H Q k e a q => by
  obtain ⟨v, rfl, b⟩ := alla1 a
  exact ⟨mk l, mk m, rfl, by rw [show v = .str (mk m) from b.1], by rw [mk_len]; exact sz_line (sz_lim k.1), by rw [rstrip_mk]; exact q _ F H (Gr.refl e) ⟨rfl, okS_rstrip k⟩⟩
theorem m_lower : Cm mLower l [] (val rS (lowerS l)) := fun vs F H Q k e a q => by
  cases vs with
  | nil => exact ⟨mk l, rfl, rfl, by rw [mk_len]; exact Nat.le_trans k.1 (by decide), by rw [lower_mk k.2]; exact q _ F H (Gr.refl e) ⟨rfl, okS_lower k⟩⟩
  | cons v vs => exact a.elim
theorem okS_join {ps : List (List Nat)} (hs : OkS l) (h : ∀ p ∈ ps, OkS p) (e : (joinS l ps).length ≤ lim) : OkS (joinS l ps) := ⟨e, fun c z => by
  rcases joinS_mem l ps c z with h1 | ⟨p, h1, h2⟩
  · exact hs.2 c h1
  · exact (h p h1).2 c h2⟩
theorem m_join {ps : List (List Nat)} {c : List Nat} (h : joinO l ps = some c) : Cm (mJoin K) l [spn rS ps] (val rS c) := fun vs F H Q k e a q => by
  obtain ⟨h1, h2⟩ := iteo h
  subst h2
  obtain ⟨v, rfl, p, xs, ev, hp, hx⟩ := alla1 a
  subst ev
  refine ⟨mk l, p, ps.map mk, rfl, rfl, Or.inl ?_, ?_, by rw [join_mk]; exact q _ F H (Gr.refl e) ⟨rfl, okS_join k hx.all.oks h1⟩⟩
  · rw [← hx.all.strs]
    exact sq_of hp
  · have h2 := joinS_len l ps
    rw [List.map_map, List.length_map, mk_len]
    have e1 : (fun (x : Str) => x.length) ∘ mk = List.length := by
      funext z
      exact mk_len z
    rw [e1]
    have h3 : (joinS l ps).length ≤ 5500000 := h1
    have h4 : l.length ≤ 5500000 := k.1
    omega
/-! ### ways that meet -/
/-- a statement whose ways all end in J, then the rest -/
theorem sx_join {S : Type} (J : S → L2.St → Hp → Own → Prop) (s : S) (h2 : ∀ σ' F' O', Same F F' → J s σ' F' O' → Sx Z tu D σ' F' O')
    (h1 : (∀ σ' F' O', Same F F' → J s σ' F' O' → Nx Z { D with nx := tu D } σ' F' O') → Sx Z tt { D with nx := tu D } σ F O) : Sx Z (tSeq tt tu) D σ F O := h1 h2
/-! ### several targets, a def's end -/
theorem rt_val {v : V} {Q : VK} {nx : L2.St → Hp → Prop} {F0 H0 : Hp} (k : ∀ v F' H', Gr F0 H0 F' H' → C.p v F' H' → Q v H') (h : ∀ H, C.p v F H) : Rt ⟨F0, H0, none⟩ { nx := nx, rt := Q } v F O := fun H a => k v F H a.done (h H)
theorem rt_own {p : Addr} {xs : List V} {bs : List α} {Q : VK} {nx : L2.St → Hp → Prop} {F0 H0 : Hp} (k : ∀ p xs F' H', Gr F0 H0 F' H' → H0 p = none → F' p = none → H' p = some (.lst xs) → AllB R bs xs F' → Q (.ref p) H')
    (m : (p, HO.lst xs) ∈ O) (h : AllB R bs xs F) : Rt ⟨F0, H0, none⟩ { nx := nx, rt := Q } (.ref p) F O := fun H a => k p xs F H a.done (a.ob _ m) (a.ok.own _ m).1 (a.ok.own _ m).2 h
/-- an owned list is frozen, wherever it stands -/
theorem At.frzI {n : Nat} {H : Hp} {p : Addr} {o : HO} (k : At Z F O H) (h : O[n]? = some (p, o)) : At Z (upd F p o) (O.eraseIdx n) H := by
  have hm := List.mem_of_getElem? h
  have hp := k.ok.own (p, o) hm
  have hn := (List.getElem?_eq_some_iff.mp h)
  have sub : ∀ q ∈ O.eraseIdx n, q ∈ O := fun q m => (List.eraseIdx_sublist O n).subset m
  have ne : ∀ q ∈ O.eraseIdx n, q.1 ≠ p := fun q m z => by
    obtain ⟨j, hj, e1⟩ := List.mem_eraseIdx_iff_getElem?.mp m
    have a1 : (O.map (·.1))[n]? = some p := by rw [List.getElem?_map, h]; rfl
    have a2 : (O.map (·.1))[j]? = some p := by rw [List.getElem?_map, e1, ← z]; rfl
    have l1 := (List.getElem?_eq_some_iff.mp a1)
    have l2 := (List.getElem?_eq_some_iff.mp a2)
    exact hj ((List.getElem_inj k.nd).mp (l2.2.trans l1.2.symm))
  refine ⟨⟨fun a u e => ?_, fun q m => ?_⟩, k.b, k.f0.trans (same_new hp.1), fun a h1 h2 => ?_, fun q m => k.ob q (sub q m), k.nd.sublist ((List.eraseIdx_sublist O n).map _), fun P nm e => ?_⟩
  · by_cases z : a = p
    · subst z; rw [upd_same] at e; cases e; exact hp.2
    · rw [upd_ne z] at e; exact k.ok.ex a u e
  · have h1 := k.ok.own q (sub q m)
    exact ⟨by rw [upd_ne (ne q m)]; exact h1.1, h1.2⟩
  · rw [upd_ne (fun z => h2 (by rw [z]; exact k.ob (p, o) hm))]
    exact k.sep a h1 h2
  · obtain ⟨ps, h1, h2, h3, h4, h5⟩ := k.tab P nm e
    exact ⟨ps, h1, h2.mono (same_new hp.1), by rw [upd_ne (Ne.symm (h4 (p, o) hm))]; exact h3, fun q m => h4 q (sub q m), h5⟩
theorem sx_frzI {n : Nat} {p : Addr} {o : HO} (h : O[n]? = some (p, o)) (k : F p = none → Sx Z ts D σ (upd F p o) (O.eraseIdx n)) : Sx Z ts D σ F O := fun H a => k (a.ok.own _ (List.mem_of_getElem? h)).1 H (a.frzI h)
theorem nx_frzI {n : Nat} {p : Addr} {o : HO} (h : O[n]? = some (p, o)) (k : F p = none → Nx Z D σ (upd F p o) (O.eraseIdx n)) : Nx Z D σ F O := fun H a => k (a.ok.own _ (List.mem_of_getElem? h)).1 H (a.frzI h)
end
end Lm
/-! Lm: the text's defs. -/
namespace Lm
open PySem PySem.Spec PyProof.Rows L2
/-- a def of the text, as the top has left it -/
structure Df (K : PySem.W.Frag) (mg : Str → Option Value) (x : Str) (st : Stmt) : Prop where
  ex : ∃ f fd, FunD K x x (defArgs st) (defBody st) (defScope st) [] [] f fd ∧ mg x = some (.ref f)
/-- a def that keeps a promise, to be called by its name -/
structure Cal (P : Program) (w : World) (K : PySem.W.Frag) (mg : Str → Option Value) (base : Heap) (k : Nat) (x : Str) (ps : List Str) (sp : Sp) : Prop where
  ex : ∃ f fd, FnOk P w K mg base CX0 k f fd ps sp ∧ mg x = some (.ref f) ∧ PySem.W.keepIn K (.ref f) = true ∧ Binds K fd ps [] ∧ (∀ (s : Shared) (us : List Value), us.length = ps.length → BindsTo s fd ⟨us, []⟩ (ps.zip us)) ∧ ∃ oc od osl, K.lookup f = some ⟨oc, od, .func fd, osl⟩
section
variable {X : Cx} {k : Nat} {ps : List Str} {sp : Sp} {x : Str} {p pos : Pos} {e : Expr} {es : List Expr} {t : TA}
theorem pe_cal (c : Cal X.prog X.w X.K X.mg X.base k x ps sp) (hr : Room k X.A) (hg : Gl X x) (ha : PA X (e :: es) t) (hdb : (x == ("__debug__" : Str)) = false := by decide)
    (he : starEach (e :: es) X.env = (false, eval e X.env) :: starEach es X.env := by rfl) (hpl : (backTo pos (starEach es X.env)).any (·.1) = false := by rfl) : PE X (.Call (.Name x p) (e :: es) [] pos) (tCall sp [] E0 t) := by
  obtain ⟨f, fd, F, hm, hk, hb, _⟩ := c.ex
  exact pe_call F hr hg hm hk hb .nil pass0 ha hdb he hpl
end
/-- the body of a def keeps its promise -/
theorem cal_of {P : Program} {w : World} {K : PySem.W.Frag} {mg : Str → Option Value} {base : Heap} {k : Nat} {x : Str} {st : Stmt} {N ps : List Str} {sp : Sp} (D : Df K mg x st) (S : FnScope N ps (defScope st))
    (hb : ∀ (kV doc pm : Value) (an : Option Addr) (cdv ct : Value) (us : List Value), us.length = ps.length → bindArgs (PySem.W.fnOf x x (defArgs st) (defBody st) (defScope st) .none kV doc pm an cdv ct) ⟨us, []⟩ = pure (ps.zip us))
    (len : ∀ vs H Q E, sp vs H Q E → vs.length = ps.length)
    (body : ∀ (f : Addr) (cdv : Value) (A : Around) (outer : List Env) (s : Shared) (H : Hp) (vs : List V) (Q : VK) (E : XK), Room k (A.deeper (envOfC x (defScope st) s.heap.objs.size f cdv)) → sp vs H Q E →
      ∃ t, PSs (cxOf CX0 P w K mg base N x (defScope st) f cdv A outer s H E).nox (defBody st) t ∧ t { nx := fun _ H' => Q .non H', rt := Q } (start N vs) H) :
    Cal P w K mg base (k + 1) x ps sp := by
  obtain ⟨f, fd, F, hm⟩ := D.ex
  exact ⟨f, fd, F.ok S len (fun cdv A outer s H vs Q E hr h => (body f cdv A outer s H vs Q E hr h).elim fun t z => ⟨t, z.1.nox, z.2⟩), hm, F.kp, F.bindsN hb, F.bindsA hb, by
    obtain ⟨oc, od, dV, kV, doc, pm, an, cdv, ct, osl, _, lk, _, _, _⟩ := F.ex
    exact ⟨oc, od, osl, lk⟩⟩
end Lm
/-! Lm: data of any shape, more tests. -/
namespace Lm
open PySem PySem.Spec L2
mutual
def rpD : PyData → V → Hp → Prop
  | .none, v, _ => v = .non
  | .bool b, v, _ => v = .bl b
  | .int i, v, _ => v = .int i
  | .str x, v, _ => v = .str x ∧ OkS x.cps.toList
  | .list ds, v, F => ∃ p xs, v = .ref p ∧ F p = some (.lst xs) ∧ rpDs ds xs F ∧ ds.length ≤ limL
  | .tuple ds, v, F => ∃ p xs, v = .ref p ∧ F p = some (.tup xs) ∧ rpDs ds xs F ∧ ds.length ≤ limL
  | .dict kvs, v, F => kvs = [] ∧ ∃ p, v = .ref p ∧ F p = some (.dK [])
def rpDs : List PyData → List V → Hp → Prop
  | [], vs, _ => vs = []
  | d :: ds, vs, F => ∃ v ws, vs = v :: ws ∧ rpD d v F ∧ rpDs ds ws F
end
mutual
theorem rpD_mono {F F' : Hp} (e : Same F F') : ∀ (d : PyData) (v : V), rpD d v F → rpD d v F'
  | .none, _, h => h
  | .bool _, _, h => h
  | .int _, _, h => h
  | .str _, _, h => h
  | .list ds, _, ⟨p, xs, h1, h2, h3, h4⟩ => ⟨p, xs, h1, e _ _ h2, rpDs_mono e ds xs h3, h4⟩
  | .tuple ds, _, ⟨p, xs, h1, h2, h3, h4⟩ => ⟨p, xs, h1, e _ _ h2, rpDs_mono e ds xs h3, h4⟩
  | .dict _, _, ⟨h0, p, h1, h2⟩ => ⟨h0, p, h1, e _ _ h2⟩
theorem rpDs_mono {F F' : Hp} (e : Same F F') : ∀ (ds : List PyData) (vs : List V), rpDs ds vs F → rpDs ds vs F'
  | [], _, h => h
  | d :: ds, _, ⟨v, ws, h1, h2, h3⟩ => ⟨v, ws, h1, rpD_mono e d v h2, rpDs_mono e ds ws h3⟩
end
def rD : Rep PyData := ⟨rpD, fun e h => rpD_mono e _ _ h⟩
theorem rpDs_all {F : Hp} : ∀ {ds : List PyData} {vs : List V}, rpDs ds vs F ↔ All2 rD ds vs F
  | [], [] => by simp [rpDs, All2]
  | [], _ :: _ => by simp [rpDs, All2]
  | d :: ds, [] => by simp [rpDs, All2]
  | d :: ds, v :: vs => by
    constructor
    · rintro ⟨w, ws, e, h1, h2⟩
      cases e
      exact ⟨h1, rpDs_all.mp h2⟩
    · rintro ⟨h1, h2⟩
      exact ⟨v, vs, rfl, h1, rpDs_all.mpr h2⟩
/-- how a kind is told as data -/
structure Enc {α : Type} (R : Rep α) (f : α → PyData) : Prop where
  to : ∀ {a v F}, R.rp a v F → rpD (f a) v F
def encS (l : List Nat) : PyData := .str (mk l)
def encC (c : Nat) : PyData := .str (mk [c])
theorem okS_one {c : Nat} (h : c < 128) : OkS [c] := ⟨by show 1 ≤ lim; decide, fun d m => by rw [List.mem_singleton.mp m]; exact h⟩
theorem eI : Enc rInt PyData.int := ⟨fun h => h⟩
theorem eB : Enc rB PyData.bool := ⟨fun h => h⟩
theorem eS : Enc rS encS := ⟨fun h => h⟩
theorem eC : Enc rC encC := ⟨fun h => ⟨h.1, okS_one h.2⟩⟩
theorem eN : Enc rN (fun _ => PyData.none) := ⟨fun h => h⟩
theorem eD : Enc rD id := ⟨fun h => h⟩
section
variable {α β γ : Type} {R : Rep α} {R' : Rep β} {R'' : Rep γ} {f : α → PyData} {g : β → PyData} {k : γ → PyData}
theorem all_enc (h : Enc R f) {F : Hp} : ∀ {as : List α} {vs : List V}, All2 R as vs F → All2 rD (as.map f) vs F
  | [], [], _ => trivial
  | _ :: _, _ :: _, q => ⟨h.to q.1, all_enc h q.2⟩
  | [], _ :: _, q => q.elim
  | _ :: _, [], q => q.elim
theorem eL (h : Enc R f) : Enc (rL R) (fun as => PyData.list (as.map f)) := ⟨fun ⟨p, xs, h1, h2, h3⟩ => ⟨p, xs, h1, h2, rpDs_all.mpr (all_enc h h3.all), by rw [List.length_map]; exact h3.len⟩⟩
theorem eT2 (h : Enc R f) (h' : Enc R' g) : Enc (rT2 R R') (fun t => PyData.tuple [f t.1, g t.2]) := ⟨fun ⟨p, x, y, h1, h2, h3, h4⟩ => ⟨p, [x, y], h1, h2, ⟨x, [y], rfl, h.to h3, y, [], rfl, h'.to h4, rfl⟩, by show 2 ≤ limL; decide⟩⟩
end
section
variable {α β γ : Type} {R : Rep α} {R' : Rep β} {f : α → PyData} {g : β → PyData} {σ : L2.St} {F F1 : Hp} {O : Own} {ta tb tc te : TE} {tt tu : TT} {A B C : Ar} {K : PySem.W.Frag} {i j : Int} {d e : PyData}
theorem ev_d {a : α} (h : Enc R f) (hv : Ev te σ F O (val R a)) : Ev te σ F O (val rD (f a)) := fun H k Q q => hv H k Q fun v F' H' g r => q v F' H' g (h.to r)
theorem ev_tupD {ta : TA} {ds : List PyData} (h : EvA ta σ F O (AllV rD ds)) (hl : ds.length ≤ limL) : Ev (tTup ta) σ F O (val rD (.tuple ds)) := fun H k Q q =>
  (ev_tupL h hl) H k Q fun v F' H' g ⟨p, xs, h1, h2, h3⟩ => q v F' H' g ⟨p, xs, h1, h2, rpDs_all.mpr h3.all, h3.len⟩
def ixD (d : PyData) (i : Int) : Option PyData := match d with
  | .tuple ds => atI ds i
  | _ => none
theorem o_ixD {c : PyData} (h : ixD d i = some c) : Op2 (rIxT K) (val rD d) (val rInt i) (val rD c) := fun v w F H Q k a b q => by
  cases d with
  | tuple ds =>
    obtain ⟨p, xs, ev, hp, hx, hl⟩ := a
    obtain ⟨y, e1, r⟩ := atI_get (rpDs_all.mp hx) h
    exact ⟨p, xs, i, y, ev, b, st_of (k _ _ hp), e1, q y F H (Gr.refl k) r⟩
  | _ => cases h
/-- data known to be a text, an int -/
def asS : PyData → Option (List Nat)
  | .str x => some x.cps.toList
  | _ => none
theorem ev_asS {l : List Nat} (h : asS d = some l) (hv : Ev te σ F O (val rD d)) : Ev te σ F O (val rS l) := fun H k Q q => hv H k Q fun v F' H' g r => q v F' H' g (by
  cases d with
  | str x =>
    have h2 : x.cps.toList = l := Option.some.inj h
    subst h2
    exact ⟨by rw [r.1], r.2⟩
  | _ => cases h)
/- == of data -/
mutual
theorem rpD_Dp {F H : Hp} (e : Same F H) : ∀ (d : PyData) (v : V), d.canLay0 = true → rpD d v F → Dp K H v d
  | .none, _, _, h => by have h2 : _ = V.non := h; subst h2; exact .non
  | .bool b, _, _, h => by have h2 : _ = V.bl b := h; subst h2; exact .bl b
  | .int b, _, _, h => by have h2 : _ = V.int b := h; subst h2; exact .int b
  | .str x, _, _, h => by rw [h.1]; exact .str x
  | .list ds, _, c, ⟨p, xs, h1, h2, h3, h4⟩ => by rw [h1]; exact .lst (sq_of (e _ _ h2)) (rpD_DpAll e ds xs c h3)
  | .tuple ds, _, c, ⟨p, xs, h1, h2, h3, h4⟩ => by rw [h1]; exact .tup (st_of (e _ _ h2)) (rpD_DpAll e ds xs c h3)
  | .dict _, _, c, _ => by cases c
theorem rpD_DpAll {F H : Hp} (e : Same F H) : ∀ (ds : List PyData) (vs : List V), PyData.canLayAll0 ds = true → rpDs ds vs F → DpAll K H vs ds
  | [], _, _, h => by have h2 : _ = [] := h; subst h2; exact .nil
  | d :: ds, _, c, ⟨v, ws, h1, h2, h3⟩ => by
    subst h1
    have c2 : (d.canLay0 && PyData.canLayAll0 ds) = true := c
    rw [Bool.and_eq_true] at c2
    exact .cons (rpD_Dp e d v c2.1 h2) (rpD_DpAll e ds ws c2.2 h3)
end
/-- data on one side of == : a value, a list's spine -/
structure Dt (K : PySem.W.Frag) (A : Ar) (d : PyData) : Prop where
  dp : ∀ {v F H}, Same F H → A.p v F H → Dp K H v d
  sh : SeqAt.shaped d = true
theorem dt_v {a : α} (h : Enc R f) (s : SeqAt.shaped (f a) = true) : Dt K (val R a) (f a) := ⟨fun e r => rpD_Dp e _ _ (SeqAt.canLay_of_shaped s) (h.to r), s⟩
theorem dt_l {as : List α} (h : Enc R f) (s : SeqAt.shaped (.list (as.map f)) = true) : Dt K (spn R as) (.list (as.map f)) := ⟨fun e ⟨p, xs, h1, h2, h3⟩ => by
  rw [h1]
  exact .lst (sq_of h2) (rpD_DpAll e _ _ (SeqAt.canLay_of_shaped s) (rpDs_all.mpr (all_enc h h3.all))), s⟩
theorem o_eqD (h1 : Dt K A d) (h2 : Dt K B e) : Op2 (rEqD K) A B (val rB (PyData.eqv d e)) := op_sc flB fun v w F H Q s a b q => ⟨d, e, h1.dp s a, h2.dp s b, h1.sh, h2.sh, q⟩
theorem o_neD (h1 : Dt K A d) (h2 : Dt K B e) : Op2 (rNeD K) A B (val rB (!PyData.eqv d e)) := op_sc flB fun v w F H Q s a b q => ⟨d, e, h1.dp s a, h2.dp s b, h1.sh, h2.sh, q⟩
def eqO (d e : PyData) : Option Bool := if SeqAt.shaped d = true ∧ SeqAt.shaped e = true then some (PyData.eqv d e) else none
theorem eqO_e {b : Bool} (h : eqO d e = some b) : SeqAt.shaped d = true ∧ SeqAt.shaped e = true ∧ PyData.eqv d e = b := by
  obtain ⟨h1, h2⟩ := iteo h
  exact ⟨h1.1, h1.2, h2⟩
/-! ### tests in short -/
theorem et_is {a b : Bool} (h : EvT tt σ F O a) (e : a = b) : EvT tt σ F O b := e ▸ h
theorem et_andP {a b : Bool} (h1 : EvT tt σ F O a) (h2 : a = true → EvT tu σ F O b) : EvT (tAnd tt tu) σ F O (a && b) := et_and h1 (fun e => by rw [e, Bool.true_and]; exact h2 e) (fun e => by rw [e, Bool.false_and])
theorem et_orP {a b : Bool} (h1 : EvT tt σ F O a) (h2 : a = false → EvT tu σ F O b) : EvT (tOr tt tu) σ F O (a || b) := et_or h1 (fun e => by rw [e, Bool.false_or]; exact h2 e) (fun e => by rw [e, Bool.true_or])
theorem ev_chainP {r r' : R2} {b1 b2 : Bool} (ha : Ev ta σ F O A) (hb : Ev tb σ F O B) (ho : Op2 r A B (val rB b1)) (hc : Ev tc σ F O C) (ho2 : Op2 r' B C (val rB b2)) : Ev (tChain r r' ta tb tc) σ F O (val rB (b1 && b2)) :=
  ev_chain ha hb ho (fun _ => hc) (fun e => by rw [e, Bool.true_and]; exact ho2) (fun e => by rw [e, Bool.false_and])
end
end Lm
/-! Lm: odds and ends. -/
namespace Lm
open PySem PySem.Spec L2
section
variable {α β γ : Type} {R : Rep α} {R' : Rep β} {σ : L2.St} {F F1 : Hp} {O : Own} {ta tb tc te : TE} {tt tu : TT} {A B C : Ar} {K : PySem.W.Frag} {i j : Int} {d e : PyData}
theorem ev_isN {as bs : List α} (h : EvN te σ F O R as) (e : as = bs) : EvN te σ F O R bs := e ▸ h
/-! ### isinstance of a built-in class -/
def HasTy (K : PySem.W.Frag) (A : Ar) (T : String) : Prop := ∀ {v F H}, Same F H → A.p v F H → TyOf K H v (.type T)
theorem ev_ty {T : String} : Ev (tC (.ty T)) σ F O (val (rV (.ty T)) ()) := ev_c fun _ => rfl
theorem b_isi {T U : String} {b : Bool} (h : HasTy K A T) (hb : kitB T U = some b) : Cb (rIsi K) [A, val (rV (.ty U)) ()] (val rB b) := cb_sc flB fun vs F H Q e a q => by
  obtain ⟨v, w, rfl, h1, h2⟩ := alla2 a
  have h3 : w = .ty U := h2
  subst h3
  exact ⟨v, .ty U, .type T, .type U, b, rfl, .ty U, .base (h e h1), kit_ty hb, q⟩
theorem tS {a : List Nat} : HasTy K (val rS a) "str" := fun _ h => by
  rw [show _ = V.str (mk a) from h.1]; exact .str _
def tyD : PyData → String
  | .none => "NoneType"
  | .bool _ => "bool"
  | .int _ => "int"
  | .str _ => "str"
  | .list _ => "list"
  | .tuple _ => "tuple"
  | .dict _ => "dict"
theorem tD : HasTy K (val rD d) (tyD d) := fun {v} {F} {H} e h => by
  cases d with
  | none => have h2 : v = V.non := h; subst h2; exact .non
  | bool b => have h2 : v = V.bl b := h; subst h2; exact .bl b
  | int b => have h2 : v = V.int b := h; subst h2; exact .int b
  | str x => rw [show v = V.str x from h.1]; exact .str _
  | list ds => obtain ⟨p, xs, h1, h2, _⟩ := h; subst h1; exact .lst (e _ _ h2)
  | tuple ds => obtain ⟨p, xs, h1, h2, _⟩ := h; subst h1; exact .tup (e _ _ h2)
  | dict ds => obtain ⟨_, p, h1, h2⟩ := h; subst h1; exact .dK (e _ _ h2)
def isStrD : PyData → Bool
  | .str _ => true
  | _ => false
def isListD : PyData → Bool
  | .list _ => true
  | _ => false
def isTupD : PyData → Bool
  | .tuple _ => true
  | _ => false
theorem k_str : kitB (tyD d) "str" = some (isStrD d) := by
  cases d with
  | none => exact (by decide +kernel : kitB "NoneType" "str" = some false)
  | bool _ => exact (by decide +kernel : kitB "bool" "str" = some false)
  | int _ => exact (by decide +kernel : kitB "int" "str" = some false)
  | str _ => exact (by decide +kernel : kitB "str" "str" = some true)
  | list _ => exact (by decide +kernel : kitB "list" "str" = some false)
  | tuple _ => exact (by decide +kernel : kitB "tuple" "str" = some false)
  | dict _ => exact (by decide +kernel : kitB "dict" "str" = some false)
theorem k_list : kitB (tyD d) "list" = some (isListD d) := by
  cases d with
  | none => exact (by decide +kernel : kitB "NoneType" "list" = some false)
  | bool _ => exact (by decide +kernel : kitB "bool" "list" = some false)
  | int _ => exact (by decide +kernel : kitB "int" "list" = some false)
  | str _ => exact (by decide +kernel : kitB "str" "list" = some false)
  | list _ => exact (by decide +kernel : kitB "list" "list" = some true)
  | tuple _ => exact (by decide +kernel : kitB "tuple" "list" = some false)
  | dict _ => exact (by decide +kernel : kitB "dict" "list" = some false)
theorem k_tup : kitB (tyD d) "tuple" = some (isTupD d) := by
  cases d with
  | none => exact (by decide +kernel : kitB "NoneType" "tuple" = some false)
  | bool _ => exact (by decide +kernel : kitB "bool" "tuple" = some false)
  | int _ => exact (by decide +kernel : kitB "int" "tuple" = some false)
  | str _ => exact (by decide +kernel : kitB "str" "tuple" = some false)
  | list _ => exact (by decide +kernel : kitB "list" "tuple" = some false)
  | tuple _ => exact (by decide +kernel : kitB "tuple" "tuple" = some true)
  | dict _ => exact (by decide +kernel : kitB "dict" "tuple" = some false)
/-! ### an item of a tuple of texts, a slice of a data tuple -/
end
end Lm
/-! Lm: expressions that change an owned cell (the tape). -/
namespace Lm
open PySem PySem.Spec L2
section
variable {Z : Bs} {F H F' H' : Hp} {O : Own} {p : Addr} {o o' : HO}
/-- all of H but p -/
def but (p : Addr) (H : Hp) : Hp := fun a => if a = p then none else H a
/-- an owned object stands for a while among what must not change -/
def Bs.hide (Z : Bs) (p : Addr) (o : HO) : Bs := ⟨Z.F0, upd Z.B p o, Z.T⟩
theorem At.hide (k : At Z F ((p, o) :: O) H) : At (Z.hide p o) F O H := by
  have hp := k.ok.own (p, o) (List.mem_cons_self ..)
  have nd := List.nodup_cons.mp (show ((p, o) :: O |>.map (·.1)).Nodup from k.nd)
  refine ⟨⟨k.ok.ex, fun q m => k.ok.own q (List.mem_cons_of_mem _ m)⟩, fun a u e => ?_, k.f0, fun a h1 h2 => ?_, fun q m => ?_, nd.2, fun P nm e => ?_⟩
  · have e' : upd Z.B p o a = some u := e
    by_cases z : a = p
    · subst z; rw [upd_same] at e'; cases e'; exact hp.2
    · rw [upd_ne z] at e'; exact k.b a u e'
  · have h2' : upd Z.B p o a ≠ none := h2
    by_cases z : a = p
    · subst z; exact hp.1
    · rw [upd_ne z] at h2'; exact k.sep a h1 h2'
  · show upd Z.B p o q.1 = none
    rw [upd_ne (fun z => nd.1 (List.mem_map.mpr ⟨q, m, z⟩))]
    exact k.ob q (List.mem_cons_of_mem _ m)
  · obtain ⟨ps, h1, h2, h3, h4, h5⟩ := k.tab P nm e
    refine ⟨ps, h1, h2, h3, fun q m => h4 q (List.mem_cons_of_mem _ m), ?_⟩
    show upd Z.B p o P = none
    rw [upd_ne (Ne.symm (h4 _ (List.mem_cons_self ..)))]
    exact h5
theorem At.show (k : At (Z.hide p o) F O H) (hf : Z.F0 p = none) (hb : Z.B p = none) : At Z F ((p, o) :: O) H := by
  have bp : (Z.hide p o).B p = some o := upd_same
  refine ⟨⟨k.ok.ex, fun q m => ?_⟩, fun a u e => k.b a u (by
      show upd Z.B p o a = some u
      rw [upd_ne (ne_of_none e hb)]; exact e), k.f0, fun a h1 h2 => k.sep a h1 (by
      show upd Z.B p o a ≠ none
      by_cases z : a = p
      · subst z; exact absurd hb h2
      · rw [upd_ne z]; exact h2), fun q m => ?_, ?_, fun P nm e => ?_⟩
  · rcases List.mem_cons.mp m with e | m
    · subst e
      exact ⟨k.sep p hf (by rw [bp]; exact fun z => by cases z), k.b p o bp⟩
    · exact k.ok.own q m
  · rcases List.mem_cons.mp m with e | m
    · subst e; exact hb
    · have h1 : upd Z.B p o q.1 = none := k.ob q m
      by_cases z : q.1 = p
      · rw [z, upd_same] at h1; cases h1
      · rw [upd_ne z] at h1; exact h1
  · rw [List.map_cons, List.nodup_cons]
    refine ⟨fun m => ?_, k.nd⟩
    obtain ⟨q, m, e⟩ := List.mem_map.mp m
    have h1 := k.ob q m
    rw [e, bp] at h1
    cases h1
  · obtain ⟨ps, h1, h2, h3, h4, h5⟩ := k.tab P nm e
    have h5' : upd Z.B p o P = none := h5
    have ne : P ≠ p := fun z => by rw [z, upd_same] at h5'; cases h5'
    rw [upd_ne ne] at h5'
    refine ⟨ps, h1, h2, h3, fun q m => ?_, h5'⟩
    rcases List.mem_cons.mp m with z | m
    · rw [z]; exact Ne.symm ne
    · exact h4 q m
end
/-! ### judgements -/
def EvM (Z : Bs) (te : TE) (σ : L2.St) (F : Hp) (O O' : Own) (A : Ar) : Prop := ∀ F1 H, Same F F1 → At Z F1 O H → ∀ Q : VK, (∀ v F2 H2, Same F1 F2 → At Z F2 O' H2 → A.p v F2 H2 → Q v H2) → te σ H Q
section
variable {α β γ ρ S : Type} {R : Rep α} {R' : Rep β} {Z : Bs} {D : Ends} {σ : L2.St} {F F1 : Hp} {O O1 O2 O' : Own} {te ta tb tc to : TE} {tt tu : TT} {t u : TS} {ts : TA} {A B C : Ar} {K : PySem.W.Frag} {i j : Nat} {p : Addr} {o : HO} {k : Int}
theorem EvI.mono {wi : TI} {as : List α} (h : EvI wi σ F O R as) (e : Same F F1) : EvI wi σ F1 O R as := fun H k Q q =>
  h H (k.less e) Q fun J F' H' g w => q J (un F1 F') H' (gr_un e k.ex g) ⟨w.1, fun i F2 H2 s1 s2 => w.2 i F2 H2 ((un_r (k.ex.trans g.h) g.fh).trans s1) s2⟩
/-! ### operators, arguments -/
/-! ### ways -/
/-! ### the tape itself; calls that take it -/
abbrev rA (p : Addr) : Rep Unit := rV (.ref p)
/-! ### statements -/
theorem sx_dropM (h : EvM Z te σ F O O1 A) (k : ∀ F', Same F F' → Nx Z D σ F' O1) : Sx Z (tDrop te) D σ F O := fun H at0 =>
  h F H (Same.refl _) at0 _ fun v F' H' e at2 _ => k F' e H' at2
/-! ### comprehensions whose things move the tape -/
/-! ### owned lists looked at by a call, for a while -/
theorem frzA_at : ∀ {O : Own} {H : Hp}, Ok F O H → ∀ q ∈ O, frzA F O q.1 = some q.2
  | [], _, _, _, m => by cases m
  | r :: O, H, k, q, m => by
    show upd (frzA F O) r.1 r.2 q.1 = some q.2
    by_cases z : q.1 = r.1
    · rw [z, upd_same]
      have h1 := (k.own q m).2
      have h2 := (k.own r (List.mem_cons_self ..)).2
      rw [z, h2] at h1
      exact h1
    · rw [upd_ne z]
      rcases List.mem_cons.mp m with e | m
      · exact absurd (by rw [e]) z
      · exact frzA_at (O := O) ⟨k.ex, fun s n => k.own s (List.mem_cons_of_mem _ n)⟩ q m
theorem frzA_same : ∀ {O : Own}, (∀ q ∈ O, F q.1 = none) → Same F (frzA F O)
  | [], _ => Same.refl _
  | r :: O, h => fun a u e => by
    show upd (frzA F O) r.1 r.2 a = some u
    rw [upd_ne (ne_of_none e (h r (List.mem_cons_self ..)))]
    exact frzA_same (O := O) (fun q m => h q (List.mem_cons_of_mem _ m)) a u e
theorem et_peekP {b : Bool} (h : Same F (frzA F O) → (∀ q ∈ O, frzA F O q.1 = some q.2) → EvT tt σ (frzA F O) [] b) : EvT tt σ F O b := fun H k Q q =>
  et_peek (h (frzA_same fun q m => (k.own q m).1) (frzA_at k)) H k Q q
end
end Lm
/-! Lm: more of lists. -/
namespace Lm
open PySem PySem.Spec L2
section
variable {α β γ ρ S : Type} {R : Rep α} {R' : Rep β} {Z : Bs} {D : Ends} {σ : L2.St} {F F1 : Hp} {O O1 O2 O' : Own} {te ta tb tc to : TE} {tt tu : TT} {t u : TS} {ts : TA} {A B C : Ar} {K : PySem.W.Frag} {p : Addr} {o : HO} {i j : Int}
/-! ### name op= e -/
/-! ### kinds whose values are told by a function, where the thing is fit -/
variable {f : α → V} {ok : α → Prop}
/-! ### xs.pop(0), xs.pop() -/
def popO {α : Type} (as : List α) : Option (α × List α) := (as[as.length - 1]?).map fun a => (a, as.dropLast)
theorem popO_e {as : List α} {x : α × List α} (h : popO as = some x) : as[as.length - 1]? = some x.1 ∧ x.2 = as.dropLast := by
  unfold popO at h
  cases e : as[as.length - 1]? with
  | none => rw [e] at h; cases h
  | some a => rw [e] at h; cases h; exact ⟨rfl, rfl⟩
theorem All2.dropLast {as : List α} {xs : List V} (h : All2 R as xs F) : All2 R as.dropLast xs.dropLast F := by
  rw [List.dropLast_eq_take, List.dropLast_eq_take, h.len]
  exact h.take _
theorem pop_all {as : List α} {xs : List V} {x : α × List α} (h : AllB R as xs F) (e : popO as = some x) : AllB R x.2 xs.dropLast F := by
  rw [(popO_e e).2]
  exact ⟨h.all.dropLast, Nat.le_trans (by rw [List.length_dropLast]; omega) h.len⟩
theorem evM_pop {n m : Nat} {as : List α} {xs : List V} {x : α × List α} (hj : σ[m]? = some (some (.ref p))) (hO : O[n]? = some (p, .lst xs)) (hx : AllB R as xs F) (e : popO as = some x) : EvM Z (tBM0 K "list" rPop (tVar m)) σ F O (O.set n (p, .lst xs.dropLast)) (val R x.1) := fun F1 H e0 at0 Q q => by
  have hp := at0.ok.own _ (List.mem_of_getElem? hO)
  obtain ⟨e1, _⟩ := popO_e e
  obtain ⟨v, hv, r⟩ := hx.all.get e1
  rw [hx.all.len] at hv
  exact ⟨.ref p, hj, Or.inl ⟨rfl, xs, sq_of hp.2⟩, p, xs, v, rfl, rfl, hp.2, hv, q v F1 _ (Same.refl _) (At.write at0 hO) (R.mono e0 r)⟩
/-! ### a def as a value -/
/-! ### None or a thing; lists of unlike things -/
/-! ### padding -/
end
end Lm
namespace Lm
/-- looked at by a mirror behind a call that changes a list: all is fit -/
def okL {α : Type} (f : α → Bool) (as : List α) : Bool := decide (as.length ≤ limL) && as.all f
end Lm
/-! Lm: the frozen part named (within comprehensions the context's own can't be told). -/
namespace Lm
open PySem PySem.Spec PyProof.Rows L2
section
variable {X : Cx} {K : PySem.W.Frag} (hK : X.K = K)
include hK
variable {e tg : Expr} {te : TE} {ta : TA} {T : String} {r : V → List V → Hp → VK → Prop} {n : Nat} {gs : TGs}
theorem kgTup (h : PG X tg (gTup X.K n gs)) : PG X tg (gTup K n gs) := hK ▸ h
end
end Lm
/-! Lm: plain laws of what mirrors are made of. -/
namespace Lm
open PySem PySem.Spec L2
/-- small products, quotients -/
theorem log2_lt64 {n : Nat} (h : n < 2 ^ 64) : n.log2 < 64 := by
  by_cases e : n = 0
  · subst e; decide
  · exact (Nat.log2_lt e).mpr h
theorem mulO_s {i j : Int} (hi : -(2 ^ 63) ≤ i ∧ i < 2 ^ 63) (hj : -(2 ^ 63) ≤ j ∧ j < 2 ^ 63) : mulO i j = some (i * j) := by
  unfold mulO
  rw [if_pos]
  have h1 := log2_lt64 (n := i.natAbs) (by omega)
  have h2 := log2_lt64 (n := j.natAbs) (by omega)
  omega
theorem modO_s {i j : Int} (h : 0 < j) : modO i j = some (i % j) := by unfold modO; rw [if_pos h]
theorem divO_s {i j : Int} (h : 0 < j ∧ j < 1073741824) : divO i j = some (i / j) := by unfold divO; rw [if_pos h]
theorem rngO_s {lo hi : Int} (h1 : -8000000 ≤ lo ∧ lo ≤ 8000000) (h2 : -8000000 ≤ hi ∧ hi ≤ lo + 8000000) : rngO lo hi = some (rng lo hi) := by
  unfold rngO
  have e : limL = 8000000 := rfl
  rw [if_pos]
  rw [e]
  omega
theorem ixN_nat {n i : Nat} (h : i < n) : ixN n (i : Int) = some i := by
  unfold ixN
  split
  · next h2 => simp [h]
  · next h2 => omega
theorem ixO_nat {α : Type} {as : List α} {i : Nat} {a : α} (h : as[i]? = some a) : ixO as (i : Int) = some a := by
  unfold ixO atI
  rw [ixN_nat (List.getElem?_eq_some_iff.mp h).1]
  exact h
theorem ixO_pos {α : Type} {as : List α} {i : Int} (h0 : 0 ≤ i) (h : i < as.length) : ixO as i = as[i.toNat]? := by
  obtain ⟨k, rfl⟩ := Int.eq_ofNat_of_zero_le h0
  have h2 : k < as.length := by omega
  rw [ixO_nat (List.getElem?_eq_getElem h2)]
  simp [h2]
theorem appO_s {α : Type} {as : List α} {a : α} (h : as.length < 8000000) : appO as a = some (as ++ [a]) := by
  unfold appO
  have e : limL = 8000000 := rfl
  rw [if_pos]
  rw [List.length_append, e]
  simp; omega
theorem catO_s {α : Type} {as bs : List α} (h : as.length + bs.length ≤ 8000000) : catO as bs = some (as ++ bs) := by
  unfold catO
  have e : limL = 8000000 := rfl
  rw [if_pos]
  rw [List.length_append, e]
  exact h
theorem setO_nat {α : Type} {as : List α} {i : Nat} {a : α} (h : i < as.length) : setO as (i : Int) a = some (as.set i a) := by
  unfold setO
  rw [ixN_nat h]
  rfl
/-! ### == of data -/
structure GE {α : Type} (f : α → PyData) (ok : α → Prop) (n : Nat) : Prop where
  lay : ∀ a, ok a → (f a).canLay0 = true
  dep : ∀ a, (f a).depth ≤ n
  eq : ∀ a b, PyData.eqv (f a) (f b) = true ↔ a = b
abbrev oks {α : Type} (ok : α → Prop) (as : List α) : Prop := ∀ a ∈ as, ok a
section
variable {α β γ : Type} {f : α → PyData} {g : β → PyData} {h : γ → PyData} {ok : α → Prop} {ok2 : β → Prop} {ok3 : γ → Prop} {n m l : Nat}
theorem ge_eqO (h : GE f ok n) (hn : n ≤ 64) {a b : α} (ha : ok a) (hb : ok b) [Decidable (a = b)] : eqO (f a) (f b) = some (decide (a = b)) := by
  have s : ∀ a, ok a → SeqAt.shaped (f a) = true := fun a q => by
    unfold SeqAt.shaped
    rw [h.lay a q, Bool.true_and]
    exact decide_eq_true (Nat.le_trans (h.dep a) hn)
  unfold eqO
  rw [if_pos ⟨s a ha, s b hb⟩]
  congr 1
  rw [Bool.eq_iff_iff, h.eq a b]
  simp
theorem gS : GE encS OkS 1 := ⟨fun a h => by
  simp only [encS, PyData.canLay0, PyData.strOk]
  rw [Array.all_eq_true']
  intro x hx
  have := h.2 x (by simpa using hx)
  exact decide_eq_true (by omega), fun _ => by simp [encS, PyData.depth], fun a b => by
  simp only [encS, PyData.eqv, beq_iff_eq]
  exact ⟨mk_inj, fun e => by rw [e]⟩⟩
theorem gT2 (h1 : GE f ok n) (h2 : GE g ok2 m) : GE (fun t : α × β => PyData.tuple [f t.1, g t.2]) (fun t => ok t.1 ∧ ok2 t.2) (max n m + 1) := ⟨fun a q => by simp only [PyData.canLay0, PyData.canLayAll0, h1.lay _ q.1, h2.lay _ q.2, Bool.and_self], fun a => by
    simp only [PyData.depth, PyData.depthAll]
    have := h1.dep a.1
    have := h2.dep a.2
    omega, fun a b => by
    simp only [PyData.eqv, PyData.eqvAll, Bool.and_eq_true, h1.eq, h2.eq, Bool.and_true]
    exact ⟨fun z => Prod.ext z.1 z.2, fun z => by rw [z]; exact ⟨rfl, rfl⟩⟩⟩
end
/-! ### comprehensions, loops -/
theorem mapF_map {α β : Type} {f : α → Option (Option β)} {g : α → β} : ∀ {as : List α}, (∀ a ∈ as, f a = some (some (g a))) → mapF f as = some (as.map g)
  | [], _ => rfl
  | a :: as, h => by
    have ih := mapF_map (as := as) fun b m => h b (List.mem_cons_of_mem _ m)
    simp only [mapF, h a (List.mem_cons_self ..), ih, List.map_cons]
/-- a for whose turns all go on: what holds behind i turns -/
theorem loop_all {α ρ S : Type} {f : S → α → Option (Fw ρ S)} {I : Nat → S → Prop} : ∀ {as : List α} {i : Nat} {s : S}, I i s → (∀ j s a, as[j]? = some a → I (i + j) s → ∃ s', f s a = some (.nx s') ∧ I (i + j + 1) s') → ∃ s', loop f as s = some (.nx s') ∧ I (i + as.length) s'
  | [], i, s, h, _ => ⟨s, rfl, h⟩
  | a :: as, i, s, h, q => by
    obtain ⟨s1, e, h1⟩ := q 0 s a rfl h
    obtain ⟨s2, e2, h2⟩ := loop_all (as := as) (i := i + 1) (s := s1) h1 fun j s b hb hI => by
      have e9 : i + 1 + j = i + (j + 1) := by omega
      rw [e9] at hI ⊢
      exact q (j + 1) s b hb hI
    refine ⟨s2, by simp only [loop, e, e2], ?_⟩
    rw [List.length_cons]
    have e9 : i + (as.length + 1) = i + 1 + as.length := by omega
    rw [e9]; exact h2
/-! ### sums -/
end Lm
namespace Lm
open PySem PySem.Spec
theorem bindE {α β : Type} {o : Option α} {a : α} {f : α → Option β} {r : Option β} (h : o = some a) (h2 : f a = r) : o.bind f = r := by rw [h]; exact h2
theorem ltE {α β : Type} {a : α} {f : α → Option β} {r : Option β} (h : f a = r) : lt a f = r := h
theorem cndT {α : Type} {c : Bool} {a b r : Option α} (h : c = true) (h2 : a = r) : cnd c a b = r := by rw [h]; exact h2
theorem cndF {α : Type} {c : Bool} {a b r : Option α} (h : c = false) (h2 : b = r) : cnd c a b = r := by rw [h]; exact h2
theorem fwdE {ρ S γ : Type} {o : Option (Fw ρ S)} {s : S} {k : S → Option γ} {kr : ρ → Option γ} {r : Option γ} (h : o = some (.nx s)) (h2 : k s = r) : fwd o k kr = r := by rw [h]; exact h2
theorem loopE {α ρ S : Type} {f : S → α → Option (Fw ρ S)} {a : α} {as : List α} {s s' : S} {r : Option (Fw ρ S)} (h : f s a = some (.nx s')) (h2 : loop f as s' = r) : loop f (a :: as) s = r := by simp only [loop, h]; exact h2
theorem decT {p : Prop} [Decidable p] (h : p) : decide p = true := decide_eq_true h
theorem decF {p : Prop} [Decidable p] (h : ¬p) : decide p = false := decide_eq_false h
theorem ndecT {p : Prop} [Decidable p] (h : ¬p) : (!decide p) = true := by rw [decide_eq_false h]; rfl
theorem catS_s {l m : List Nat} (h : l.length + m.length ≤ 5500000) : catS l m = some (l ++ m) := by
  unfold catS
  rw [if_pos]
  rw [List.length_append]
  exact h
theorem repS_s {c : Nat} {n : Int} (h : n ≤ 5500000) (h1 : -5500000 ≤ n) : repS [c] n = some (List.replicate n.toNat c) := by
  unfold repS
  have e : (List.replicate n.toNat [c]).flatten = List.replicate n.toNat c := by simp
  rw [e, if_pos]
  refine ⟨?_, by omega, by omega⟩
  rw [List.length_replicate]
  show n.toNat ≤ 5500000
  omega
theorem cut_take {α : Type} (as : List α) (n : Nat) : cutL as none (some (n : Int)) = as.take n := by
  have e : HT.sIx as.length as.length (some (n : Int)) = min n as.length := by
    unfold HT.sIx
    simp
    omega
  have e2 : HT.sIx as.length 0 none = 0 := rfl
  unfold cutL
  rw [e, e2, List.drop_zero, Nat.sub_zero]
  by_cases h : n ≤ as.length
  · rw [Nat.min_eq_left h]
  · rw [Nat.min_eq_right (by omega), List.take_of_length_le (Nat.le_refl _), List.take_of_length_le (by omega)]
theorem cut_drop {α : Type} (as : List α) (n : Nat) : cutL as (some (n : Int)) none = as.drop n := by
  have e : HT.sIx as.length 0 (some (n : Int)) = min n as.length := by
    unfold HT.sIx
    simp
    omega
  have e2 : HT.sIx as.length as.length none = as.length := rfl
  unfold cutL
  rw [e, e2]
  by_cases h : n ≤ as.length
  · rw [Nat.min_eq_left h, List.take_of_length_le]
    rw [List.length_drop]; omega
  · rw [Nat.min_eq_right (by omega), List.drop_of_length_le (Nat.le_refl _), List.drop_of_length_le (by omega)]
    simp
end Lm
namespace Lm
open PySem PySem.Spec
end Lm
namespace Lm
open PySem PySem.Spec
theorem joinO_s {s : List Nat} {ps : List (List Nat)} (h : (joinS s ps).length ≤ 5500000) : joinO s ps = some (joinS s ps) := by
  unfold joinO
  rw [if_pos]
  exact h
theorem mem_rng {lo hi x : Int} (h : x ∈ rng lo hi) : lo ≤ x ∧ x < hi := by
  obtain ⟨i, hi'⟩ := List.getElem?_of_mem h
  obtain ⟨h1, h2⟩ := rng_get hi'
  omega
/-! ### blanks at the ends -/
theorem dropW_id (c : Nat) (l : List Nat) (h : ∀ d, l.head? = some d → d ≠ c) : l.dropWhile ([c].contains) = l := by
  cases l with
  | nil => rfl
  | cons a l =>
    have h1 : ¬([c].contains a) = true := by simp [h a rfl]
    rw [List.dropWhile_cons, if_neg h1]
theorem dropW_app (c : Nat) (k : Nat) (l : List Nat) : (List.replicate k c ++ l).dropWhile ([c].contains) = l.dropWhile ([c].contains) := by
  induction k with
  | zero => rfl
  | succ k ih =>
    have h1 : ([c].contains c) = true := by simp
    rw [List.replicate_succ, List.cons_append, List.dropWhile_cons, if_pos h1, ih]
end Lm
namespace Lm
open PySem PySem.Spec L2
end Lm
namespace Lm
open PySem PySem.Spec
end Lm
/-! Lm: promises of defs that change several owned objects, the table of code objects beside. -/
namespace Lm
open PySem PySem.Spec L2
abbrev Tb := Option (List Addr × (Nat → Nat → Str))
/-! ### promises -/
end Lm
/-! Lm: closures. The cells of the def that made one are handed over as frozen things. -/
namespace Lm
open PySem PySem.Spec PyProof.Rows L2 LamX NdefX
abbrev Cs := List (Addr × Obj)
def triv : HO := .ext fun _ => True
def lay (cs : Cs) (H : Hp) : Hp := fun a => match cs.lookup a with | some o => some (.frz o triv) | none => H a
section
variable {cs : Cs} {H H' : Hp} {a : Addr} {o : Obj} {u : HO}
theorem lay_in (h : cs.lookup a = some o) : lay cs H a = some (.frz o triv) := by unfold lay; rw [h]
theorem lay_out (h : cs.lookup a = none) : lay cs H a = H a := by unfold lay; rw [h]
/-- none of them is tracked -/
def OffC (cs : Cs) (H : Hp) : Prop := ∀ c o, cs.lookup c = some o → H c = none
/-- all of them are, frozen -/
def OnC (cs : Cs) (H : Hp) : Prop := ∀ c o, cs.lookup c = some o → H c = some (.frz o triv)
theorem OffC.out (k : OffC cs H) (h : H a ≠ none) : cs.lookup a = none := by
  cases e : cs.lookup a with
  | some o => exact absurd (k a o e) h
  | none => rfl
theorem OnC.out (k : OnC cs H) (h : H a = some u) (n : ∀ o, u ≠ .frz o triv) : cs.lookup a = none := by
  cases e : cs.lookup a with
  | some o => rw [k a o e] at h; cases h; exact absurd rfl (n o)
  | none => rfl
theorem OffC.same (k : OffC cs H) : Same H (lay cs H) := fun a u e => by rw [lay_out (k.out (by rw [e]; exact fun z => by cases z))]; exact e
theorem OffC.on (k : OffC cs H) : OnC cs (lay cs H) := fun c o e => lay_in e
theorem OnC.mono (k : OnC cs H) (e : Same H H') : OnC cs H' := fun c o h => e _ _ (k c o h)
theorem OffC.mono (k : OffC cs H') (e : Same H H') : OffC cs H := fun c o h => e.free (k c o h)
end
/-! ### the heaps of the run -/
/-! ### what is known of handed cells -/
/-- a closure's own: cl its names and cells, fr the captured names, ws their values -/
structure CsOk (cl : List (Str × Addr)) (fr : List Str) (ws : List (Option V)) (cs : Cs) : Prop where
  len : ws.length = fr.length
  all : ∀ y c, cl.lookup y = some c → ∃ o v, cs.lookup c = some o ∧ o.data = .cell v
  inj : ∀ x y c, cl.lookup x = some c → cl.lookup y = some c → x = y
  has : ∀ (i : Nat) (y : Str), fr[i]? = some y → ∃ c, cl.lookup y = some c ∧ ∀ v, ws[i]? = some (some v) → ∃ o u, cs.lookup c = some o ∧ o.data = .cell (some u) ∧ RelV v u
end Lm
namespace Lm
open PySem PySem.Spec PyProof.Rows L2 LamX NdefX
end Lm
namespace Lm
open PySem PySem.Spec PyProof.Rows L2 LamX NdefX
end Lm
namespace Lm
open PySem PySem.Spec PyProof.Rows L2 LamX NdefX
end Lm
namespace Lm
open PySem PySem.Spec PyProof.Rows L2 LamX NdefX
section
variable {X : Cx}
/-- the closure G at f, its cells frozen -/
structure CloH (G : NF) (f : Addr) (fr : List Str) (ws : List V) (cs : Cs) (H : Hp) : Prop where
  fn : H f = some (FnO f G)
  co : H G.c = some (CodeO G.c G.qual)
  ok : CsOk G.cl fr (ws.map some) cs
  on : OnC cs H
theorem CloH.mono {G : NF} {f : Addr} {fr : List Str} {ws : List V} {cs : Cs} {H H' : Hp} (c : CloH G f fr ws cs H) (e : Same H H') : CloH G f fr ws cs H' := ⟨e _ _ c.fn, e _ _ c.co, c.ok, c.on.mono e⟩
end
/-! ### readings -/
/-! ### heaps with and without the cells -/
section
variable {Z : Bs} {cs : Cs} {F F' H H' B : Hp} {O O' : Own} {T : Tb}
theorem At.lay (k : At Z F O H) (off : OffC cs H) : At Z (Lm.lay cs F) O (Lm.lay cs H) := by
  have offF : OffC cs F := off.mono k.ok.ex
  refine k.gr ⟨offF.same, off.same, fun a u e => ?_, fun a h1 h2 => ?_⟩
  · cases q : cs.lookup a with
    | some o => rw [lay_in q] at e ⊢; exact e
    | none => rw [lay_out q] at e ⊢; exact k.ok.ex a u e
  · rw [lay_out (off.out h2)]; exact h1
end
end Lm
namespace Lm
open PySem PySem.Spec PyProof.Rows L2 LamX NdefX
end Lm
namespace Lm
open PySem PySem.Spec PyProof.Rows L2 LamX NdefX
end Lm
/-! Lm: tuples of four. -/
namespace Lm
open PySem PySem.Spec PyProof.Rows L2
/-! ### looks at texts -/
end Lm
/-! Lm: defs that make closures: their code object and its table; the ending. -/
namespace Lm
open PySem PySem.Spec PyProof.Rows L2 LamX
end Lm
/-! Lm: the same judgements where at least n tokens are out. -/
namespace Lm
open PySem PySem.Spec PyProof.Rows L2
def PEn (n : Nat) (X : Cx) (e : Expr) (t : TE) : Prop := ∀ (pins : List (Addr × Obj)) (s : Shared) (σ : L2.St) (H : Hp) (Q : VK), n ≤ s.toks → Inv X pins σ H s → t σ H Q → wpAny (model X.prog X.w) X.A (eval e X.env) (EP X pins σ Q) X.xe s
def PTn (n : Nat) (X : Cx) (e : Expr) (t : TT) : Prop := ∀ (pins : List (Addr × Obj)) (s : Shared) (σ : L2.St) (H : Hp) (Q : Bool → Hp → Prop), n ≤ s.toks → Inv X pins σ H s → t σ H Q → wpAny (model X.prog X.w) X.A (isTrue e X.env (eval e X.env)) (TP X pins σ Q) X.xe s
def PAn (n : Nat) (X : Cx) (es : List Expr) (t : TA) : Prop := ∀ (pos : Pos) (pins : List (Addr × Obj)) (s : Shared) (σ : L2.St) (H : Hp) (Q : List V → Hp → Prop), n ≤ s.toks → Inv X pins σ H s → t σ H Q → wpAny (model X.prog X.w) X.A (spliced (backTo pos (starEach es X.env))) (AP X pins σ Q) X.xe s
def PSn (n : Nat) (X : Cx) (st : Stmt) (t : TS) : Prop := ∀ (pins : List (Addr × Obj)) (s : Shared) (σ : L2.St) (H : Hp) (D : Ends), n ≤ s.toks → Inv X pins σ H s → t D σ H → wpAny (model X.prog X.w) X.A (exec st X.env) (SP X pins D) X.xe s
def PSsn (n : Nat) (X : Cx) (st : List Stmt) (t : TS) : Prop := ∀ (pins : List (Addr × Obj)) (s : Shared) (σ : L2.St) (H : Hp) (D : Ends), n ≤ s.toks → Inv X pins σ H s → t D σ H → wpAny (model X.prog X.w) X.A (execs st X.env) (SP X pins D) X.xe s
/-- what comes behind knows the bound, too -/
theorem thnN {α : Type} {t : Sem α} {Q Q' : α → Shared → Prop} {M : Model} {A : Around} {E : Value → Shared → Prop} {s : Shared} {n : Nat} (hn : n ≤ s.toks) (h : wpAny M A t Q E s) (hQ : ∀ a z, n ≤ z.toks → Q a z → Q' a z) : wpAny M A t Q' E s :=
  wpAny_mono (wpAny_toks_of hn h) (fun a z x => hQ a z x.1 x.2) fun _ _ x => x.2
section
variable {n : Nat} {X : Cx} {e f : Expr} {es : List Expr} {te tf : TE} {ta : TA} {st : Stmt} {rest a b : List Stmt} {t u : TS} {pos : Pos}
theorem PE.tk (h : PE X e te) : PEn n X e te := fun pins s σ H Q _ I q => h.run pins s σ H Q I q
theorem PA.tk (h : PA X es ta) : PAn n X es ta := fun p pins s σ H Q _ I q => h.run p pins s σ H Q I q
theorem PS.tk (h : PS X st t) : PSn n X st t := fun pins s σ H D _ I q => h.run pins s σ H D I q
theorem PSs.tk (h : PSs X rest t) : PSsn n X rest t := fun pins s σ H D _ I q => h.run pins s σ H D I q
theorem psn_cons (h1 : PSn n X st t) (h2 : PSsn n X rest u) : PSsn n X (st :: rest) (tSeq t u) := fun pins s σ H D hn I h => by
  refine wpAny_execs_cons (thnN hn (h1 pins s σ H { D with nx := u D } hn I h) fun fl z hz q => ?_)
  cases fl with
  | next => obtain ⟨σ', H', J, q⟩ := q; exact h2 pins z σ' H' D hz J q
  | ret v => exact q
  | brk => exact q
  | cont => exact q
theorem psn_one (h1 : PSn n X st t) : PSsn n X [st] t := fun pins s σ H D hn I h => by
  refine wpAny_execs_cons (thn (h1 pins s σ H D hn I h) fun fl z q => ?_)
  cases fl with
  | next => exact wpAny_execs_nil q
  | ret v => exact q
  | brk => exact q
  | cont => exact q
theorem psn_ret (he : PEn n X e te) : PSn n X (.Return (some e) pos) (tRet te) := fun pins s σ H D hn I h =>
  wpAny_Return_some (thn (he pins s σ H _ hn I h) fun v z ⟨x, H1, J, r, q⟩ => ⟨x, σ, H1, J, r, q⟩)
theorem pan_cons (ha : PEn n X e te) (hr : PAn n X es ta) (hs : starEach (e :: es) X.env = (false, eval e X.env) :: starEach es X.env := by rfl) : PAn n X (e :: es) (tCons te ta) := fun p pins s σ H Q hn I h => by
  rw [hs]
  refine Calls.spliced_cons (thnN hn (ha pins s σ H _ hn I h) fun u z hz ⟨x, H1, J, r, q⟩ => ?_)
  exact thn (hr p pins z σ H1 _ hz J q) fun us y ⟨xs, H2, J2, r2, q2⟩ => ⟨x :: xs, H2, J2, .cons r r2, q2⟩
theorem psn_if {c : Expr} {tc : TT} (hc : PTn n X c tc) (ha : PSsn n X a t) (hb : PSsn n X b u) : PSn n X (.If c a b pos) (tIfS tc t u) := fun pins s σ H D hn I h => by
  refine wpAny_If (thnN hn (hc pins s σ H _ hn I h) fun d z hz ⟨H1, J, q⟩ => ?_)
  cases d with
  | true => exact ha pins z σ H1 D hz J q
  | false => exact hb pins z σ H1 D hz J q
theorem PT.tk {c : Expr} {tc : TT} (h : PT X c tc) : PTn n X c tc := fun pins s σ H Q _ I q => h.run pins s σ H Q I q
theorem pen_tup {k : Nat} (h : PAn n X es ta) : PEn n X (.Tuple es k pos) (tTup ta) := fun pins s σ H Q hn I hq => by
  refine wpAny_Tuple_spliced (thn (h pos pins s σ H _ hn I hq) fun us y ⟨xs, H1, J, r, z, q⟩ => ⟨by rw [← r.length]; exact z, ?_⟩)
  have hf : H1 y.heap.objs.size = none := J.hok.fresh (Nat.le_refl _)
  refine ⟨.ref y.heap.objs.size, upd H1 y.heap.objs.size (.tup xs), J.laid (t' := y.toks) (fun b u e => Heap.get?_push_of_some _ e) (Nat.le_refl _) ?_, rfl, q _ hf⟩
  exact ⟨z, us, r, ⟨_, Heap.get?_push_size _ rfl, rfl, _, rfl⟩⟩
/-- what is walked -/
def PIn (n : Nat) (X : Cx) (tg iter : Expr) (wi : TI) : Prop := ∀ (pins : List (Addr × Obj)) (s : Shared) (σ : L2.St) (H : Hp) (R : It → Hp → Prop), n ≤ s.toks → Inv X pins σ H s → wi σ H R →
  wpAny (model X.prog X.w) X.A (eval iter X.env) (fun v s1 => wpAny (model X.prog X.w) X.A (pyIter v) (PIE X pins σ tg R) X.xe s1) X.xe s
theorem PI.tk {tg iter : Expr} {wi : TI} (h : PI X tg iter wi) : PIn n X tg iter wi := fun pins s σ H R _ I q => h.run pins s σ H R I q
/-- where a loop stands ahead of a turn: told as ps_for's word tells it (HandS.Base), and the bound -/
structure Turn (n : Nat) (X : Cx) (pins : List (Addr × Obj)) (fp : List Addr) (tn : Nat → Heap → Prop) (W : Nat → Nat → L2.St → Hp → Prop) (k : Nat) (z : Shared) : Prop where
  tk : n ≤ z.toks
  at_ : ∃ i ρ G, Inv X pins ρ G z ∧ tn i z.heap ∧ (∀ b ∈ fp, G b = none) ∧ W i k ρ G
/-- for: the walked thing, the body may want the bound -/
theorem psn_for {tg iter : Expr} {wi : TI} {g : TG} (own : PassesOwn (model X.prog X.w) X.A X.env X.xe) (calm : X.calm = true) (walk : PIn n X tg iter wi) (target : PG X tg g) (body : PSsn n X a t) (fold : ∀ x, foldedSetIterable iter X.env x = pure x := by intro _; rfl) : PSn n X (.For tg iter a [] pos) (tFor wi g t) := fun pins s σ H D hn I h => by
  have first := thnN hn (walk pins s σ H _ hn I h) fun v y hy told => thnN hy told fun itv y2 hy2 P => And.intro hy2 P
  refine wpAny_For (thn first fun v y inner => thn inner fun itv y2 P => ?_) fold
  obtain ⟨hy2, it, fp, tn, J, G, rfl, JG, T, start, apart, W, ⟨m, w0⟩, turn⟩ := P
  have stay : ∀ {G' : Hp}, (∀ b ∈ fp, G' b = none) → ∀ b ∈ fp, FpOk X pins G' b := fun hG b hb => ⟨hG b hb, (apart b hb).2⟩
  refine codeAny_forLoop_any (Turn n X pins fp tn W) (fun k z T0 => ?_) m ⟨hy2, 0, σ, G, JG, start, fun b hb => (apart b hb).1, w0⟩
  obtain ⟨tz, i, ρ, G1, J1, at1, free1, w1⟩ := T0
  refine (turn i k ρ G1 w1).elim (fun ⟨stop, last⟩ => ?_) fun ⟨go, N, less, step⟩ => ?_
  · refine wpAny_passesOwn own (thn (T.done X rfl rfl rfl calm i pins z ρ G1 X.xe J1 (stay free1) at1 stop) fun r z2 q => ?_)
    rw [q.1]
    exact wpAny_execs_nil ⟨ρ, G1, q.2, last⟩
  · refine wpAny_passesOwn own (thnN tz (T.item X rfl rfl rfl calm i pins z ρ G1 X.xe J1 (stay free1) at1 go) fun r z2 tz2 q => ?_)
    obtain ⟨item, rfl, q⟩ := q
    refine wpAny_passesOwn own (thnN tz2 q fun _ z3 tz3 q3 => ?_)
    obtain ⟨x, G3, J3, rel, yielded, at3, free3⟩ := q3
    have kept := J3.pinned (stay free3) (T.obj _ _ at3)
    refine wpAny_passesOwn own (thnN tz3 (target.run _ z3 ρ G3 x item _ kept rel (step x G3 yielded)) fun _ z4 tz4 q4 => ?_)
    obtain ⟨ρ4, G4, J4, bodyAt⟩ := q4
    refine wpAny_passesOwn own (thnN tz4 (body _ z4 ρ4 G4 _ tz4 J4 bodyAt) fun fl z5 tz5 q5 => ?_)
    have next : ∀ {ρ5 : L2.St} {G5 : Hp}, Inv X (pins ++ pinsAt fp z3.heap) ρ5 G5 z5 → N ρ5 G5 → ∃ k', k' < k ∧ Turn n X pins fp tn W k' z5 := fun {ρ5 G5} J5 nn => by
      obtain ⟨k', lt, w5⟩ := less ρ5 G5 nn
      have pinned : ∀ {b : Addr} {o : Obj}, b ∈ fp → z3.heap.get? b = some o → z5.heap.get? b = some o ∧ G5 b = none := fun {b o} hb e => by
        have := J5.pin (b, o) (List.mem_append_right _ (List.mem_append_right _ (mem_pinsAt hb e)))
        exact ⟨this.1, this.2.1⟩
      exact ⟨k', lt, tz5, i + 1, ρ5, G5, J5.unpinned, T.keep _ _ _ at3 fun b hb o e => (pinned hb e).1, fun b hb => (T.obj _ _ at3 b hb).elim fun o e => (pinned hb e.1).2, w5⟩
    match fl, q5 with
    | .next, ⟨_, _, J5, nn⟩ => exact next J5 nn
    | .cont, ⟨_, _, J5, nn⟩ => exact next J5 nn
    | .brk, ⟨ρ5, G5, J5, e⟩ => exact ⟨ρ5, G5, J5.unpinned, e⟩
    | .ret v, ⟨w, ρ5, G5, J5, rv, e⟩ => exact ⟨w, ρ5, G5, J5.unpinned, rv, e⟩
theorem psn_set {i : Nat} {x : Str} {pos' : Pos} (hN : X.N.Nodup) (hi : X.N[i]? = some x) (hx : Loc X.env.scope x) (he : PEn n X e te) (hs : swapsWith e (some (.Name x pos')) pos.line X.env = pure false := by rfl) (hf : X.fn x = true ∨ X.env.scope.names.lookup x = some .local := by first | exact .inl rfl | exact .inr rfl | assumption) : PSn n X (.Assign [.Name x pos'] e pos) (tAsg te (gName i)) := fun pins s σ H D hn I h => by
  refine wpAny_Assign_Name (thn (he pins s σ H _ hn I h) fun v z ⟨y, H1, J, r, q⟩ => ?_) hs
  exact store_ok J hN hi hx r (fun y2 J2 => ⟨_, H1, J2, q⟩) hf
end
/-! ### defs that want the bound -/
structure FnOkn (n : Nat) (P : Program) (w : World) (K : PySem.W.Frag) (mg : Str → Option Value) (base : Heap) (k : Nat) (f : Addr) (fd : FuncData) (ps : List Str) (sp : Sp) : Prop where
  len : ∀ vs H Q E, sp vs H Q E → vs.length = ps.length
  run : ∀ (A : Around) (outer : List Env) (s : Shared) (H : Hp) (args : Args) (us : List Value) (vs : List V) (Q : VK) (E : XK), n ≤ s.toks → Room k A → Env0 P w K mg base A outer s H → BindsTo s fd args (ps.zip us) → Vals vs us → sp vs H Q E → codeAny (model P w) A (.call (.ref f) args) (CR CX0 outer P w H s Q E) s
theorem fnn_of {n : Nat} {P : Program} {w : World} {K : PySem.W.Frag} {mg : Str → Option Value} {base : Heap} {k : Nat} {f : Addr} {fd : FuncData} {x0 x : Str} {st : Stmt} {N ps : List Str} {sp : Sp} (F : FunD K x0 x (defArgs st) (defBody st) (defScope st) [] [] f fd) (S : FnScope N ps (defScope st)) (len : ∀ vs H Q E, sp vs H Q E → vs.length = ps.length)
    (hbody : ∀ (cdv : Value) (A : Around) (outer : List Env) (s : Shared) (H : Hp) (vs : List V) (Q : VK) (E : XK), fd.code = cdv → Room k (A.deeper (envOfC x (defScope st) s.heap.objs.size f cdv)) → sp vs H Q E → ∃ t, PSsn n (cxOf CX0 P w K mg base N x (defScope st) f cdv A outer s H E) (defBody st) t ∧ t { nx := fun _ G => Q .non G, rt := Q } (start N vs) H) :
    FnOkn n P w K mg base (k + 1) f fd ps sp := by
  obtain ⟨oc, od, dV, kV, doc, pm, an, cdv, ct, osl, rfl, lk, hcd, _, _⟩ := F.ex
  refine ⟨len, fun A outer s H args us vs Q E hn hr e0 hb r hsp => ?_⟩
  have hl := len _ _ _ _ hsp
  have KX : K.In s.heap := e0.mod.kin.keeps fun b o e => (e0.bs b o e).1
  have lim : s.heap.NoLimit := e0.mod.nolimit.keeps fun b o e => (e0.bs b o e).1
  have hk : ∀ y ∈ ps.zip us, (defScope st).names.lookup y.1 = some .local ∨ ((defScope st).names.lookup y.1 = some .cell ∧ ((cellsFrom (s.heap.objs.size + 1) (defScope st).names []).lookup y.1).isSome = true) := fun ⟨m, v⟩ hy => (S.par m (List.of_mem_zip hy).1).elim .inl fun q => .inr ⟨q, PySem.W.cellsFrom_some _ _ _ (.inl q)⟩
  refine codeAny_call_function hr.depth (KX _ _ lk) rfl S.co S.gen rfl (PySem.W.codeRec_of KX hcd) (hb _ _ _ _ ?_)
  refine thnN hn (wpAny_newFunctionEnv_cells (Q := fun env z => env = _ ∧ InCallC s env.locals (bindL env.kindOf (ps.zip us) fun _ => none) env.cells (bindC env.kindOf (ps.zip us) fun _ => none) z) S.kind hk fun env he z x => ⟨he, x⟩) fun env z hz ⟨he, x⟩ => ?_
  subst he
  refine ⟨lim.keeps x.toInCall.keep, codeAny_func ?_⟩
  obtain ⟨t, ht, hq⟩ := hbody cdv A outer s H vs Q E rfl (hr.deeper _) hsp
  have J := inv_start (CX := CX0) (E := E) S hr.hd e0 hl r x
  refine wpAny_mono (ht [] z (start N vs) H _ hz J hq) (fun fl y hs => ?_) fun e y hs => hs
  cases fl with
  | ret u => obtain ⟨v, σ', G, J2, rv, q⟩ := hs; exact ⟨v, G, J2.os, J2.bare, J2.base, J2.hok, rv, q⟩
  | next => obtain ⟨σ', G, J2, q⟩ := hs; exact ⟨V.non, G, J2.os, J2.bare, J2.base, J2.hok, rfl, q⟩
  | brk => obtain ⟨_, _, _, q⟩ := hs; exact q.elim
  | cont => obtain ⟨_, _, _, q⟩ := hs; exact q.elim
/-- a def keeping a promise where n tokens are out -/
structure CalN (n : Nat) (P : Program) (w : World) (K : PySem.W.Frag) (mg : Str → Option Value) (base : Heap) (k : Nat) (x : Str) (ps : List Str) (sp : Sp) : Prop where
  ex : ∃ f fd, FnOkn n P w K mg base k f fd ps sp ∧ mg x = some (.ref f) ∧ PySem.W.keepIn K (.ref f) = true ∧ Binds K fd ps [] ∧ (∀ (s : Shared) (us : List Value), us.length = ps.length → BindsTo s fd ⟨us, []⟩ (ps.zip us)) ∧ ∃ oc od osl, K.lookup f = some ⟨oc, od, .func fd, osl⟩
theorem PSsn.nox {n : Nat} {X : Cx} {sts : List Stmt} {t : TS} (h : PSsn n X.nox sts t) : PSsn n X sts t := fun pins s σ H D hn I q => wpAny_mono (h pins s σ H D hn (I.wish _) q) (fun _ _ z => z.unwish) fun _ _ z => z.elim
theorem calN_of {n : Nat} {P : Program} {w : World} {K : PySem.W.Frag} {mg : Str → Option Value} {base : Heap} {k : Nat} {x : Str} {st : Stmt} {N ps : List Str} {sp : Sp} (D : Df K mg x st) (S : FnScope N ps (defScope st))
    (hb : ∀ (kV doc pm : Value) (an : Option Addr) (cdv ct : Value) (us : List Value), us.length = ps.length → bindArgs (PySem.W.fnOf x x (defArgs st) (defBody st) (defScope st) .none kV doc pm an cdv ct) ⟨us, []⟩ = pure (ps.zip us)) (len : ∀ vs H Q E, sp vs H Q E → vs.length = ps.length)
    (body : ∀ (f : Addr) (cdv : Value) (A : Around) (outer : List Env) (s : Shared) (H : Hp) (vs : List V) (Q : VK) (E : XK), Room k (A.deeper (envOfC x (defScope st) s.heap.objs.size f cdv)) → sp vs H Q E → ∃ t, PSsn n (cxOf CX0 P w K mg base N x (defScope st) f cdv A outer s H E).nox (defBody st) t ∧ t { nx := fun _ G => Q .non G, rt := Q } (start N vs) H) :
    CalN n P w K mg base (k + 1) x ps sp := by
  obtain ⟨f, fd, F, hm⟩ := D.ex
  refine ⟨f, fd, fnn_of F S len (fun cdv A outer s H vs Q E _ hr h => (body f cdv A outer s H vs Q E hr h).elim fun t z => ⟨t, z.1.nox, z.2⟩), hm, F.kp, F.bindsN hb, F.bindsA hb, ?_⟩
  · obtain ⟨oc, od, dV, kV, doc, pm, an, cdv, ct, osl, _, lk, _, _, _⟩ := F.ex
    exact ⟨oc, od, osl, lk⟩
section
variable {n : Nat} {X : Cx} {k : Nat} {ps : List Str} {sp : Sp} {x : Str} {p pos : Pos} {e : Expr} {es : List Expr} {t : TA}
theorem pen_cal (c : CalN n X.prog X.w X.K X.mg X.base k x ps sp) (hr : Room k X.A) (hg : Gl X x) (ha : PAn n X (e :: es) t) (hdb : (x == ("__debug__" : Str)) = false := by decide) (he : starEach (e :: es) X.env = (false, eval e X.env) :: starEach es X.env := by rfl) (hpl : (backTo pos (starEach es X.env)).any (·.1) = false := by rfl) : PEn n X (.Call (.Name x p) (e :: es) [] pos) (tCall sp [] E0 t) := fun pins s σ H Q hn I h => by
  obtain ⟨f, fd, F, hm, hk, hb, _⟩ := c.ex
  refine wpAny_Call_Name_kw (ld_glob I hg hm ?_ hdb)
  refine PySem.W.callWith_K (h₀ := X.base) I.ok.mod.kin hk (thnN hn (ha pos pins s σ H _ hn I h) fun us z hz ⟨vs, G, J, r, q⟩ => ⟨J.kIn, ?_⟩) he hpl
  have q : sp (vs ++ []) G Q E0 := q
  rw [List.append_nil] at q
  have hl : us.length = ps.length := by rw [← r.length]; exact F.len _ _ _ _ q
  refine wpAny_call (codeAny_mono (F.run X.A X.stack z G ⟨us, []⟩ us vs Q E0 hz hr J.env0 (by have := hb z us J.kIn (by rw [List.append_nil]; exact hl); rw [List.append_nil] at this; exact this) r q) fun o y hq => ?_)
  cases o with
  | error e => exact pass0 pins σ G z e y J hq
  | ok fl =>
    cases fl with
    | ret u => exact J.after hq
    | next => exact hq.elim
    | brk => exact hq.elim
    | cont => exact hq.elim
/-! ### replace -/
/-- o.replace('..', '..') -/
theorem pen_repC {o : Expr} {to : TE} {y z : Str} {j k : Nat} {c0 c1 apos : Pos} (h0 : 1 ≤ n) (ho : PEn n X o to) (hyz : (y == z) = false := by decide)
    (hst : starEach [.Constant (.str y) j c0, .Constant (.str z) k c1] X.env = [(false, eval (.Constant (.str y) j c0) X.env), (false, eval (.Constant (.str z) k c1) X.env)] := by rfl) (hbase : attributeBase o "replace" X.env (eval o X.env) = eval o X.env := by rfl) (hline : (apos.endLine == pos.line) = true := by rfl) :
    PEn n X (.Call (.Attribute o "replace" apos) [.Constant (.str y) j c0, .Constant (.str z) k c1] [] pos) (CwR.tReplC to y z) := fun pins s σ H Q hn I h => by
  refine PySem.Call_method2 hbase hst hline (thnN hn (ho pins s σ H _ hn I h) fun v y1 hy q => ?_)
  obtain ⟨v', G, J, r, x, e1, hb, q⟩ := q
  subst e1
  obtain ⟨tx, rfl⟩ := r
  refine ⟨"str", _, PySem.F.plainAttrs_str, PySem.F.slot_str_replace, PySem.F.type_str_replace, typeIs_str _ _ _, (fun _ e => nomatch e), Calls.callWith_builtin rfl (Calls.evalArgs_plain (Calls.spliced_cons (Calls.Constant_str (Calls.spliced_cons (Calls.Constant_str (Calls.spliced_nil ?_))))))⟩
  exact PySem.SC.replace (by show y1.toks ≠ 0; omega) (by show y1.toks + 1 ≠ 0; omega) (by show y1.toks ≠ y1.toks + 1; omega) hyz hb fun t' k => ⟨.str (Txt.replace x y z), G, J.tok k, ⟨t', rfl⟩, q⟩
end
end Lm
/-! Lm: a comprehension whose things want the bound. -/
namespace Lm
open PySem PySem.Spec PyProof.Rows L2
section
variable {n : Nat} {X : Cx} {pos : Pos} {elt tg iter : Expr} {ifs : List Expr} {scope : Scope} {own : List (Str × Nat)} {wi : TI} {g : TG} {tt : TT} {te : TE}
/-- the block's word ahead of a turn -/
structure Blk (n : Nat) (B : Cx) (ρ : L2.St) (fp : List Addr) (tn : Nat → Heap → Prop) (W : Nat → Nat → Hp → Prop) (k : Nat) (z : Shared) : Prop where
  tk : n ≤ z.toks
  at_ : ∃ i G, Inv B [] ρ G z ∧ tn i z.heap ∧ (∀ b ∈ fp, G b = none) ∧ W i k G
end
end Lm
/-! Lm: the law's own call where n tokens are out (after L2.law_call, which asks a promise of all states). -/
namespace Lm
open PySem PySem.Spec PyProof.Rows L2 PySem.W
/-- the script alone is tracked, and stays as it is -/
def scrH (a : Addr) (vs : List Value) (ns : List Int) : Hp := fun b => if b = a then some (.frz { cls := .type "list", data := .seq vs.toArray } (.lst (ns.map V.int))) else none
theorem scrH_at {a : Addr} {vs : List Value} {ns : List Int} : scrH a vs ns a = some (.frz { cls := .type "list", data := .seq vs.toArray } (.lst (ns.map V.int))) := if_pos rfl
theorem scrH_off {a b : Addr} {vs : List Value} {ns : List Int} (h : b ≠ a) : scrH a vs ns b = none := if_neg h
theorem scrH_eq {a b : Addr} {u : HO} {vs : List Value} {ns : List Int} (h : scrH a vs ns b = some u) : b = a ∧ u = .frz { cls := .type "list", data := .seq vs.toArray } (.lst (ns.map V.int)) := by
  by_cases e : b = a
  · subst e
    exact ⟨rfl, Option.some.inj (h.symm.trans scrH_at)⟩
  · rw [scrH_off e] at h
    cases h
section
variable {n k : Nat} {P : Program} {w : World} {K : PySem.W.Frag} {mg mb : Str → Option Value} {fa a : Addr} {fd : FuncData} {x : Str} {sp : Sp} {s₁ : Shared} {vs : List Value} {ns : List Int}
theorem py_ints : ∀ ns : List Int, ofPys (ns.map PyData.int) = ns.map WData.int
  | [] => by simp [ofPys]
  | i :: is => by
    have ih := py_ints is
    simp [ofPys, ofPy, ih]
end
end Lm
/-! Lm: the head whose observation reaches the walk as it is (for tokens). -/
namespace Lm
open PySem PySem.Spec PySem.W PyProof.Rows HandSHeadRun
theorem head_seen {r : OpenRow} {q : Program} {H : Hook} {ob : SharedT → H.α} {M : Nat} {loose : List PySem.Str} {d : DefRec} {kwd : List (PySem.Str × PySem.Expr)} (same : ∀ s : SharedT, ob s = H.obs s.abs)
    (opens : opening r.prog = plainProg r.prog.main.scope.names) (fences : ∀ s, fenceModules? r.prog s = some s) (runs : ∀ w, RunEq r q H ob M loose w)
    (h1 : defOf q r.name = some (d, kwd)) (h2 : r.prog.theDef r.name = some (d.params, d.body, d.scope)) (h3 : kwWritten? d.params.kwonlyargs d.params.kw_defaults = some kwd)
    (h4 : (!r.writes || r.records.isEmpty) = true) (h5 : r.wellSaid = true) (h6 : (chainsOk q && opensWell r.prog && (frees r.toRowW && r.within.isEmpty)) = true) (h7 : r.prog.bare) (h8 : r.toRowW.promised)
    (walk : WalkX q loose (XL q []) H.obs H.val r.toRowW d kwd fun f vs => PySem.call f vs) : r.Holds := by
  have eo : ob = fun s => H.obs s.abs := funext same
  have stays : LeftO r.prog q loose (fun s => xlAt q [] s && recOk r.toRowW.records s) H.obs H.val (M + 600) true := left_one (M := M) opens (Nat.ble_eq_true_of_le (by omega)) fences (Nat.ble_eq_true_of_le (by omega)) fun w os => by
    have now := runs w os
    rw [eo] at now
    simp only [endQ_eq, seenQ_eq]
    exact now
  exact holds_openX stays (fun s z => xl_of s (Bool.and_eq_true_iff.mp z).1) XL.keeps h1 h2 h3 (fun s z => recFacts_of (Bool.and_eq_true_iff.mp z).2) h4 h5 h6 h7 h8 walk
end Lm
/-! Lm: what is seen of the head, tokens too. -/
namespace Lm
open PySem PySem.Spec PySem.W PyProof.Rows
/-- each text constant stands there, its token is not 0 and below T -/
def tokOk (ts : List (Str × Str)) (T : Nat) (K : Frag) : Bool := ts.all fun p => match nsIn K mainGlobals p.1 with
  | some (some (.str y t)) => decide (y = p.2) && decide (t ≠ 0) && decide (t < T)
  | _ => false
theorem tok_at {ts : List (Str × Str)} {T : Nat} {K : Frag} {h : Heap} {mg : Str → Option Value} (X : K.In h) (G : h.Ns mainGlobals mg) (ok : tokOk ts T K = true) (i : Nat) {x z : Str} (e : ts[i]? = some (x, z) := by rfl) : ∃ t, mg x = some (.str z t) ∧ t ≠ 0 ∧ t < T := by
  have one := List.all_eq_true.mp ok (x, z) (List.mem_of_getElem? e)
  dsimp only at one
  split at one
  · next y t q =>
    rw [Bool.and_eq_true, Bool.and_eq_true, decide_eq_true_eq, decide_eq_true_eq, decide_eq_true_eq] at one
    obtain ⟨⟨rfl, h0⟩, hT⟩ := one
    exact ⟨t, mg_of X G q, h0, hT⟩
  · cases one
end Lm
/-! Lm: more rules under the bound; replace as a function of lists. -/
namespace Lm
open PySem PySem.Spec PyProof.Rows L2
/-! ### replace -/
/-- l with z in the place of each y (y not empty); k signs are passed first -/
def replS (y z : List Nat) : Nat → List Nat → List Nat
  | _, [] => []
  | 0, c :: r => if TL.pre y (c :: r) = true then z ++ replS y z (y.length - 1) r else c :: replS y z 0 r
  | k + 1, _ :: r => replS y z k r
theorem replS_nil (y z : List Nat) (k : Nat) : replS y z k [] = [] := by cases k <;> rfl
theorem spl_ne (S : List Nat) : ∀ (l : List Nat) (k : Nat) (acc : List Nat), TL.spl S k acc l ≠ []
  | [], k, acc => by rw [TL.spl_nil]; exact List.cons_ne_nil _ _
  | c :: r, 0, acc => by
    cases h : TL.pre S (c :: r) with
    | true => rw [TL.spl_hit h]; exact List.cons_ne_nil _ _
    | false => rw [TL.spl_miss h]; exact spl_ne S r 0 _
  | c :: r, k + 1, acc => by
    rw [TL.spl_pass, List.drop_succ_cons, ← TL.spl_pass]
    exact spl_ne S r k acc
theorem joinS_two {s p : List Nat} : ∀ {ps : List (List Nat)}, ps ≠ [] → joinS s (p :: ps) = p ++ s ++ joinS s ps
  | [], h => absurd rfl h
  | q :: r, _ => joinS_cons s p q r
theorem join_spl (y z : List Nat) : ∀ (l : List Nat) (k : Nat) (acc : List Nat), joinS z (TL.spl y k acc l) = acc ++ replS y z k l
  | [], k, acc => by rw [TL.spl_nil, joinS_one, replS_nil, List.append_nil]
  | c :: r, 0, acc => by
    unfold replS
    cases h : TL.pre y (c :: r) with
    | true =>
      rw [TL.spl_hit h, joinS_two (spl_ne _ _ _ _), join_spl y z r, if_pos rfl, List.nil_append, List.append_assoc]
    | false =>
      rw [TL.spl_miss h, join_spl y z r, if_neg Bool.false_ne_true, List.append_assoc]
      rfl
  | c :: r, k + 1, acc => by
    have e : TL.spl y (k + 1) acc (c :: r) = TL.spl y k acc r := by rw [TL.spl_pass, List.drop_succ_cons, ← TL.spl_pass]
    rw [e, join_spl y z r]
    rfl
theorem repl_mk {x y z : List Nat} (hy : y ≠ []) : Txt.replace (mk x) (mk y) (mk z) = mk (replS y z 0 x) := by
  have hy' : TL.tl (mk y) ≠ [] := hy
  obtain ⟨f, g, hn⟩ := PySem.StrLaws.occ_tight (mk x) (mk y) (TL.len1 hy')
  have key := TL.parts_spl hy' _ 0 f (Nat.zero_le _) g hn
  rw [List.drop_zero] at key
  have key2 : joinS z ((PySem.StrLaws.partsFrom (mk x) (mk y).length 0 (Builtin.Str.occurrences (mk x) (mk y) 0 (mk x).length ((mk x).length + 1))).map TL.tl) = replS y z 0 x := by
    rw [key]
    have := join_spl y z x 0 []
    rw [List.nil_append] at this
    exact this
  have h0 : ((mk y).length == 0) = false := by
    rw [mk_len]
    cases y with
    | nil => exact absurd rfl hy
    | cons a r => rfl
  unfold Txt.replace
  rw [h0, Bool.false_and, Bool.or_false]
  cases ho : (Builtin.Str.occurrences (mk x) (mk y) 0 (mk x).length ((mk x).length + 1)).isEmpty with
  | true =>
    rw [if_pos rfl]
    rw [List.isEmpty_iff.mp ho] at key2
    apply mk_of
    rw [← key2]
    show (mk x).cps.toList = TL.tl (Builtin.Str.strSub (mk x) 0 (mk x).length)
    rw [TL.tl_strSub_end, List.drop_zero]
  | false =>
    rw [if_neg Bool.false_ne_true, PySem.StrLaws.glued_eq_join, PySem.StrLaws.partsBetween_eq]
    apply mk_of
    rw [← key2]
    show TL.tl (Str.join (mk z) _) = _
    rw [TL.tl_join]
/-- does not fail -/
def rplO (y z l : List Nat) : Option (List Nat) := if (replS y z 0 l).length ≤ lim ∧ l.length + (l.length + 1) * z.length ≤ 16777216 then some (replS y z 0 l) else none
theorem replS_mem (y z : List Nat) : ∀ (l : List Nat) (k : Nat), ∀ c ∈ replS y z k l, c ∈ z ∨ c ∈ l
  | [], k, c, m => by rw [replS_nil] at m; cases m
  | a :: r, 0, c, m => by
    unfold replS at m
    split at m
    · rcases List.mem_append.mp m with m | m
      · exact Or.inl m
      · exact (replS_mem y z r _ c m).imp id (List.mem_cons_of_mem _)
    · rcases List.mem_cons.mp m with e | m
      · exact Or.inr (by rw [e]; exact List.mem_cons_self ..)
      · exact (replS_mem y z r _ c m).imp id (List.mem_cons_of_mem _)
  | a :: r, k + 1, c, m => (replS_mem y z r k c m).imp id (List.mem_cons_of_mem _)
theorem ev_rep {F : Hp} {O : Own} {σ : L2.St} {to : TE} {x y z r : List Nat} {y' z' : Str} (hy' : y' = mk y) (hz' : z' = mk z) (hy : y ≠ []) (hz : okS z = true) (hr : rplO y z x = some r) (h : Ev to σ F O (val rS x)) : Ev (CwR.tReplC to y' z') σ F O (val rS r) := fun H k Q q =>
  h H k _ fun v F' H' g a => by
    obtain ⟨⟨h1, h2⟩, e⟩ := iteo hr
    subst e
    have a' : v = .str (mk x) ∧ OkS x := a
    refine ⟨mk x, a'.1, by rw [hz', mk_len, mk_len]; exact h2, ?_⟩
    rw [hy', hz', repl_mk hy]
    exact q _ F' H' g ⟨rfl, h1, fun c m => (replS_mem y z x 0 c m).elim ((okS_iff.mp hz).2 c) (a'.2.2 c)⟩
/-! ### rules -/
def PWn (n : Nat) (X : Cx) (e : Expr) (t : TT) : Prop := ∀ (sem : Sem Value) (pins : List (Addr × Obj)) (s : Shared) (σ : L2.St) (H : Hp) (Q : Bool → Hp → Prop), n ≤ s.toks → Inv X pins σ H s → t σ H Q → wpAny (model X.prog X.w) X.A (isTrue e X.env sem) (TP X pins σ Q) X.xe s
section
variable {n : Nat} {X : Cx} {a b e f c : Expr} {es rest : List Expr} {ta tb tc te : TE} {tA tB2 : TT} {pos : Pos}
theorem PW.tk (h : PW X e tA) : PWn n X e tA := fun w pins s σ H Q _ I q => h.run w pins s σ H Q I q
theorem PWn.pt (h : PWn n X e tA) : PTn n X e tA := fun pins s σ H Q hn I q => h _ pins s σ H Q hn I q
end
theorem tkE {n : Nat} {X : Cx} {e : Expr} {te : TE} (h : PE X e te) : PEn n X e te := PE.tk h
theorem tkA {n : Nat} {X : Cx} {es : List Expr} {ta : TA} (h : PA X es ta) : PAn n X es ta := PA.tk h
theorem tkS {n : Nat} {X : Cx} {st : Stmt} {t : TS} (h : PS X st t) : PSn n X st t := PS.tk h
theorem tkSs {n : Nat} {X : Cx} {st : List Stmt} {t : TS} (h : PSs X st t) : PSsn n X st t := PSs.tk h
theorem tkT {n : Nat} {X : Cx} {c : Expr} {tc : TT} (h : PT X c tc) : PTn n X c tc := PT.tk h
theorem tkI {n : Nat} {X : Cx} {tg iter : Expr} {wi : TI} (h : PI X tg iter wi) : PIn n X tg iter wi := PI.tk h
/-- a promise kept always is kept where n are out -/
theorem Cal.tk {n : Nat} {P : Program} {w : World} {K : PySem.W.Frag} {mg : Str → Option Value} {base : Heap} {k : Nat} {x : Str} {ps : List Str} {sp : Sp} (c : Cal P w K mg base k x ps sp) : CalN n P w K mg base k x ps sp := by
  obtain ⟨f, fd, F, hm, hk, hb, hA, q⟩ := c.ex
  exact ⟨f, fd, ⟨F.len, fun A outer s H args us vs Q E _ hr e0 hbd r h => F.run A outer s H args us vs Q E hr e0 hbd r h⟩, hm, hk, hb, hA, q⟩
end Lm
/-! Lm: text.index, data as a tuple. -/
namespace Lm
open PySem PySem.Spec PyProof.Rows L2
def asL : PyData → Option (List PyData)
  | .list ds => some ds
  | _ => none
section
variable {σ : L2.St} {F : Hp} {O : Own} {te : TE} {d : PyData} {ds : List PyData}
theorem ev_asL (h : asL d = some ds) (hv : Ev te σ F O (val rD d)) : Ev te σ F O (val (rL rD) ds) := fun H k Q q => hv H k Q fun v F' H' g r => q v F' H' g (by
  cases d with
  | list xs =>
    have h2 : xs = ds := Option.some.inj h
    subst h2
    obtain ⟨p, ys, h1, h2, h3, h4⟩ := r
    exact ⟨p, ys, h1, h2, rpDs_all.mp h3, h4⟩
  | _ => cases h)
end
end Lm
/-! Lm: the ending of a law whose defs want tokens. -/
namespace Lm
open PySem PySem.Spec PySem.W PyProof.Rows L2
theorem FnOkn.less {n m k : Nat} {P : Program} {w : World} {K : PySem.W.Frag} {mg : Str → Option Value} {base : Heap} {f : Addr} {fd : FuncData} {ps : List Str} {sp : Sp} (h : FnOkn n P w K mg base k f fd ps sp) (e : n ≤ m) : FnOkn m P w K mg base k f fd ps sp :=
  ⟨h.len, fun A outer s H args us vs Q E hm => h.run A outer s H args us vs Q E (Nat.le_trans e hm)⟩
end Lm
/-! Lm: words, tidy texts, cells, names (plain). -/
namespace Lm
open PySem PySem.Spec L2
/-! ### words -/
/-! ### backslash and bar -/
/-! ### names -/
abbrev letters : List Nat := [97, 98, 99, 100, 101, 102, 103, 104, 105, 106, 107, 108, 109, 110, 111, 112, 113, 114, 115, 116, 117, 118, 119, 120, 121, 122, 65, 66, 67, 68, 69, 70, 71, 72, 73, 74, 75, 76, 77, 78, 79, 80, 81, 82, 83, 84, 85, 86, 87, 88, 89, 90, 48, 49, 50, 51, 52, 53, 54, 55, 56, 57]
def nameB (l : List Nat) : Bool := (decide (1 ≤ l.length) && decide (l.length ≤ 12)) && l.all fun c => decide (c ∈ letters)
theorem lower_len (l : List Nat) : (lowerS l).length = l.length := by unfold lowerS; rw [List.length_map]
/-! ### blanks at both ends -/
theorem rstrip_body (b e : Nat) (t : List Nat) (h0 : t ≠ []) (h2 : ∀ d, t.getLast? = some d → d ≠ 32) : rstripS (List.replicate b 32 ++ (t ++ List.replicate e 32)) [32] = List.replicate b 32 ++ t := by
  unfold rstripS
  rw [← List.append_assoc, List.reverse_append, List.reverse_replicate, dropW_app, dropW_id 32 _ ?_, List.reverse_reverse]
  intro d hd
  rw [List.reverse_append] at hd
  refine h2 d ?_
  rw [← List.head?_reverse]
  cases q : t.reverse with
  | nil => exact absurd (List.reverse_eq_nil_iff.mp q) h0
  | cons a r => rw [q] at hd; exact hd
theorem lstrip_body (b : Nat) (t : List Nat) (h1 : ∀ d, t.head? = some d → d ≠ 32) : lstripS (List.replicate b 32 ++ t) [32] = t := by
  unfold lstripS
  rw [dropW_app, dropW_id 32 t h1]
end Lm
/-! Lm: slices and places from the end (plain). -/
namespace Lm
open PySem PySem.Spec L2
theorem starts_cons (a : Nat) (r p : List Nat) (c : Nat) : startsS (a :: r) (c :: p) = (decide (a = c) && startsS r p) := by
  unfold startsS
  rw [List.isPrefixOf]
  congr 1
  rw [Bool.eq_iff_iff, beq_iff_eq, decide_eq_true_eq]
  exact eq_comm
theorem starts_nil (r : List Nat) : startsS r [] = true := by unfold startsS; cases r <;> rfl
theorem starts_empty (c : Nat) (p : List Nat) : startsS [] (c :: p) = false := rfl
/-! what is had, and how it is -/
section
variable {α β ρ S : Type} {o : Option α} {a : α} {f : α → Option β} {Q : β → Prop}
theorem bindX (h : o = some a) (k : ∃ r, f a = some r ∧ Q r) : ∃ r, o.bind f = some r ∧ Q r := by rw [h]; exact k
theorem ltX (k : ∃ r, f a = some r ∧ Q r) : ∃ r, lt a f = some r ∧ Q r := k
theorem cndX {c : Bool} {x y : Option β} (h1 : c = true → ∃ r, x = some r ∧ Q r) (h2 : c = false → ∃ r, y = some r ∧ Q r) : ∃ r, cnd c x y = some r ∧ Q r := by
  cases c with
  | true => exact h1 rfl
  | false => exact h2 rfl
theorem fwdX {o : Option (Fw ρ S)} {k : S → Option β} {kr : ρ → Option β} (h : ∃ s, o = some (.nx s) ∧ ∃ r, k s = some r ∧ Q r) : ∃ r, fwd o k kr = some r ∧ Q r := by
  obtain ⟨s, h1, h2⟩ := h
  rw [h1]
  exact h2
end
end Lm
/-! Lm: data whose lists are new (not of the heap B), and what is changed in them behind. -/
namespace Lm
open PySem PySem.Spec PyProof.Rows L2
mutual
def frD (B : Hp) : PyData → V → Hp → Prop
  | .list ds, v, F => ∃ p xs, v = .ref p ∧ F p = some (.lst xs) ∧ B p = none ∧ frDs B ds xs F
  | .tuple ds, v, F => ∃ p xs, v = .ref p ∧ F p = some (.tup xs) ∧ frDs B ds xs F
  | _, _, _ => True
def frDs (B : Hp) : List PyData → List V → Hp → Prop
  | [], vs, _ => vs = []
  | d :: ds, vs, F => ∃ v ws, vs = v :: ws ∧ frD B d v F ∧ frDs B ds ws F
end
mutual
theorem frD_mono {B F F' : Hp} (e : Same F F') : ∀ (d : PyData) (v : V), frD B d v F → frD B d v F'
  | .none, _, _ => by simp [frD]
  | .bool _, _, _ => by simp [frD]
  | .int _, _, _ => by simp [frD]
  | .str _, _, _ => by simp [frD]
  | .dict _, _, _ => by simp [frD]
  | .list ds, v, h => by
    simp only [frD] at h ⊢
    obtain ⟨p, xs, h1, h2, h3, h4⟩ := h
    exact ⟨p, xs, h1, e _ _ h2, h3, frDs_mono e ds xs h4⟩
  | .tuple ds, v, h => by
    simp only [frD] at h ⊢
    obtain ⟨p, xs, h1, h2, h4⟩ := h
    exact ⟨p, xs, h1, e _ _ h2, frDs_mono e ds xs h4⟩
theorem frDs_mono {B F F' : Hp} (e : Same F F') : ∀ (ds : List PyData) (vs : List V), frDs B ds vs F → frDs B ds vs F'
  | [], _, h => by simp only [frDs] at h ⊢; exact h
  | d :: ds, _, h => by
    simp only [frDs] at h ⊢
    obtain ⟨v, ws, h1, h2, h3⟩ := h
    exact ⟨v, ws, h1, frD_mono e d v h2, frDs_mono e ds ws h3⟩
end
mutual
theorem frD_less {B B' F : Hp} (e : Same B B') : ∀ (d : PyData) (v : V), frD B' d v F → frD B d v F
  | .none, _, _ => by simp [frD]
  | .bool _, _, _ => by simp [frD]
  | .int _, _, _ => by simp [frD]
  | .str _, _, _ => by simp [frD]
  | .dict _, _, _ => by simp [frD]
  | .list ds, v, h => by
    simp only [frD] at h ⊢
    obtain ⟨p, xs, h1, h2, h3, h4⟩ := h
    exact ⟨p, xs, h1, h2, e.free h3, frDs_less e ds xs h4⟩
  | .tuple ds, v, h => by
    simp only [frD] at h ⊢
    obtain ⟨p, xs, h1, h2, h4⟩ := h
    exact ⟨p, xs, h1, h2, frDs_less e ds xs h4⟩
theorem frDs_less {B B' F : Hp} (e : Same B B') : ∀ (ds : List PyData) (vs : List V), frDs B' ds vs F → frDs B ds vs F
  | [], _, h => by simp only [frDs] at h ⊢; exact h
  | d :: ds, _, h => by
    simp only [frDs] at h ⊢
    obtain ⟨v, ws, h1, h2, h3⟩ := h
    exact ⟨v, ws, h1, frD_less e d v h2, frDs_less e ds ws h3⟩
end
/-- no list within -/
def flatD : PyData → Bool
  | .list _ => false
  | .tuple ds => flatDs ds
  | _ => true
where flatDs : List PyData → Bool
  | [] => true
  | d :: ds => flatD d && flatDs ds
mutual
theorem frD_flat {B F : Hp} : ∀ (d : PyData) (v : V), flatD d = true → rpD d v F → frD B d v F
  | .none, _, _, _ => by simp [frD]
  | .bool _, _, _, _ => by simp [frD]
  | .int _, _, _, _ => by simp [frD]
  | .str _, _, _, _ => by simp [frD]
  | .dict _, _, _, _ => by simp [frD]
  | .list ds, v, h, _ => by simp [flatD] at h
  | .tuple ds, v, h, ⟨p, xs, h1, h2, h3, _⟩ => by
    simp only [flatD] at h
    simp only [frD]
    exact ⟨p, xs, h1, h2, frDs_flat ds xs h h3⟩
theorem frDs_flat {B F : Hp} : ∀ (ds : List PyData) (vs : List V), flatD.flatDs ds = true → rpDs ds vs F → frDs B ds vs F
  | [], _, _, h => by simp only [frDs]; exact h
  | d :: ds, _, h, ⟨v, ws, h1, h2, h3⟩ => by
    simp only [flatD.flatDs, Bool.and_eq_true] at h
    simp only [frDs]
    exact ⟨v, ws, h1, frD_flat d v h.1 h2, frDs_flat ds ws h.2 h3⟩
end
def rDf (B : Hp) : Rep PyData := ⟨fun d v F => rpD d v F ∧ frD B d v F, fun e h => ⟨rpD_mono e _ _ h.1, frD_mono e _ _ h.2⟩⟩
theorem frDs_all {B F : Hp} : ∀ {ds : List PyData} {vs : List V}, All2 (rDf B) ds vs F → rpDs ds vs F ∧ frDs B ds vs F
  | [], [], _ => by simp [rpDs, frDs]
  | d :: ds, v :: vs, h => by
    obtain ⟨h1, h2⟩ := frDs_all h.2
    simp only [frDs]
    exact ⟨⟨v, vs, rfl, h.1.1, h1⟩, v, vs, rfl, h.1.2, h2⟩
  | [], _ :: _, h => h.elim
  | _ :: _, [], h => h.elim
theorem frDs_strs {B F : Hp} : ∀ {as : List (List Nat)} {vs : List V}, All2 rS as vs F → frDs B (as.map encS) vs F
  | [], [], _ => by simp [frDs]
  | _ :: _, _ :: _, q => by
    simp only [List.map_cons, frDs]
    exact ⟨_, _, rfl, by simp [encS, frD], frDs_strs q.2⟩
  | [], _ :: _, q => q.elim
  | _ :: _, [], q => q.elim
section
variable {σ : L2.St} {F F1 B : Hp} {O : Own} {te : TE} {ta : TA} {K : PySem.W.Frag} {d : PyData}
theorem evF_D (h : Ev te σ F O (val (rDf B) d)) : Ev te σ F O (val rD d) := fun H k Q q => h H k Q fun v F' H' g r => q v F' H' g r.1
theorem evF_s (hf : flatD d = true) (h : Ev te σ F O (val rD d)) : Ev te σ F O (val (rDf B) d) := fun H k Q q => h H k Q fun v F' H' g r => q v F' H' g ⟨r, frD_flat d v hf r⟩
theorem evF_new {as : List (List Nat)} (e : Same B F) (h : EvN te σ F O rS as) : Ev te σ F O (val (rDf B) (.list (as.map encS))) := fun H k Q q =>
  h H k Q fun p xs F' H' g n f h2 h3 => by
    have G : Gr F H (upd F' p (.lst xs)) H' := ⟨g.f.trans (same_new f), g.h, fun a u e => by
      by_cases z : a = p
      · subst z; rw [upd_same] at e; cases e; exact h2
      · rw [upd_ne z] at e; exact g.fh a u e, fun a h1 h4 => by
      rw [upd_ne (fun z => h4 (by rw [z]; exact n))]
      exact g.nw a h1 h4⟩
    refine q _ _ H' G ⟨⟨p, xs, rfl, upd_same, rpDs_all.mpr (all_enc eS (h3.mono (same_new f)).all), by rw [List.length_map]; exact h3.len⟩, ?_⟩
    simp only [frD]
    exact ⟨p, xs, rfl, upd_same, (e.trans k.ex).free n, frDs_strs (h3.mono (same_new f)).all⟩
theorem evF_tup {ds : List PyData} (h : EvA ta σ F O (AllV (rDf B) ds)) (hl : ds.length ≤ limL) : Ev (tTup ta) σ F O (val (rDf B) (.tuple ds)) := fun H k Q q =>
  (ev_tupL h hl) H k Q fun v F' H' g ⟨p, xs, h1, h2, h3⟩ => q v F' H' g (by
    obtain ⟨r1, r2⟩ := frDs_all h3.all
    refine ⟨⟨p, xs, h1, h2, r1, h3.len⟩, ?_⟩
    simp only [frD]
    exact ⟨p, xs, h1, h2, r2⟩)
/-- a def that hands back data with new lists -/
def spF (P : List Ar → PyData → Prop) : Sp := fun vs H Q _ => ∃ F As d, P As d ∧ Same F H ∧ AllA As vs F H ∧ ∀ v F' H', Gr F H F' H' → (val (rDf F) d).p v F' H' → Q v H'
theorem ev_callFd {P : List Ar → PyData → Prop} {E : XK} {as : List Ar} (e : Same B F) (h : EvA ta σ F O as) (hp : P as d) : Ev (tCall (spF P) [] E ta) σ F O (val (rDf B) d) := fun H k Q q =>
  h H k _ fun vs F1 H1 g1 a => ⟨F1, as, d, hp, g1.fh, by rw [List.append_nil]; exact a, fun v F2 H2 g2 c => q v F2 H2 (g1.trans g2) ⟨c.1, frD_less (e.trans g1.f) d v c.2⟩⟩
end
end Lm
namespace Lm
open PySem PySem.Spec PyProof.Rows L2
/-! ### isinstance of a tuple of built-in classes -/
end Lm
namespace Lm
open PySem PySem.Spec L2
end Lm
/-! Lm: data with instances of the text's classes in it. -/
namespace Lm
open PySem PySem.Spec PyProof.Rows L2
inductive XD where
  | non
  | bool (b : Bool)
  | int (i : Int)
  | str (l : List Nat)
  | lst (ds : List XD)
  | tup (ds : List XD)
  | obj (c : Str) (fs : List (Str × XD))
mutual
def rpX (K : PySem.W.Frag) : XD → V → Hp → Prop
  | .non, v, _ => v = .non
  | .bool b, v, _ => v = .bl b
  | .int i, v, _ => v = .int i
  | .str l, v, _ => v = .str (mk l) ∧ OkS l
  | .lst ds, v, F => ∃ p xs, v = .ref p ∧ F p = some (.lst xs) ∧ rpXs K ds xs F ∧ ds.length ≤ limL
  | .tup ds, v, F => ∃ p xs, v = .ref p ∧ F p = some (.tup xs) ∧ rpXs K ds xs F ∧ ds.length ≤ limL
  | .obj c fs, v, F => ∃ p dx gs, v = .ref p ∧ F p = some (.ins (He.ga K c) dx gs) ∧ F dx = some (.own p) ∧ rpXf K fs gs F
def rpXs (K : PySem.W.Frag) : List XD → List V → Hp → Prop
  | [], vs, _ => vs = []
  | d :: ds, vs, F => ∃ v ws, vs = v :: ws ∧ rpX K d v F ∧ rpXs K ds ws F
def rpXf (K : PySem.W.Frag) : List (Str × XD) → List (Str × V) → Hp → Prop
  | [], gs, _ => gs = []
  | (f, d) :: fs, gs, F => ∃ v hs, gs = (f, v) :: hs ∧ rpX K d v F ∧ rpXf K fs hs F
end
mutual
theorem rpX_mono {K : PySem.W.Frag} {F F' : Hp} (e : Same F F') : ∀ (d : XD) (v : V), rpX K d v F → rpX K d v F'
  | .non, _, h => by simp only [rpX] at h ⊢; exact h
  | .bool _, _, h => by simp only [rpX] at h ⊢; exact h
  | .int _, _, h => by simp only [rpX] at h ⊢; exact h
  | .str _, _, h => by simp only [rpX] at h ⊢; exact h
  | .lst ds, _, h => by
    simp only [rpX] at h ⊢
    obtain ⟨p, xs, h1, h2, h3, h4⟩ := h
    exact ⟨p, xs, h1, e _ _ h2, rpXs_mono e ds xs h3, h4⟩
  | .tup ds, _, h => by
    simp only [rpX] at h ⊢
    obtain ⟨p, xs, h1, h2, h3, h4⟩ := h
    exact ⟨p, xs, h1, e _ _ h2, rpXs_mono e ds xs h3, h4⟩
  | .obj c fs, _, h => by
    simp only [rpX] at h ⊢
    obtain ⟨p, dx, gs, h1, h2, h3, h4⟩ := h
    exact ⟨p, dx, gs, h1, e _ _ h2, e _ _ h3, rpXf_mono e fs gs h4⟩
theorem rpXs_mono {K : PySem.W.Frag} {F F' : Hp} (e : Same F F') : ∀ (ds : List XD) (vs : List V), rpXs K ds vs F → rpXs K ds vs F'
  | [], _, h => by simp only [rpXs] at h ⊢; exact h
  | d :: ds, _, h => by
    simp only [rpXs] at h ⊢
    obtain ⟨v, ws, h1, h2, h3⟩ := h
    exact ⟨v, ws, h1, rpX_mono e d v h2, rpXs_mono e ds ws h3⟩
theorem rpXf_mono {K : PySem.W.Frag} {F F' : Hp} (e : Same F F') : ∀ (fs : List (Str × XD)) (gs : List (Str × V)), rpXf K fs gs F → rpXf K fs gs F'
  | [], _, h => by simp only [rpXf] at h ⊢; exact h
  | (f, d) :: fs, _, h => by
    simp only [rpXf] at h ⊢
    obtain ⟨v, hs, h1, h2, h3⟩ := h
    exact ⟨v, hs, h1, rpX_mono e d v h2, rpXf_mono e fs hs h3⟩
end
def rX (K : PySem.W.Frag) : Rep XD := ⟨rpX K, fun e h => rpX_mono e _ _ h⟩
theorem rpXs_all {K : PySem.W.Frag} {F : Hp} : ∀ {ds : List XD} {vs : List V}, rpXs K ds vs F ↔ All2 (rX K) ds vs F
  | [], [] => by simp [rpXs, All2]
  | [], _ :: _ => by simp [rpXs, All2]
  | d :: ds, [] => by simp [rpXs, All2]
  | d :: ds, v :: vs => by
    simp only [rpXs]
    constructor
    · rintro ⟨w, ws, e, h1, h2⟩
      cases e
      exact ⟨h1, rpXs_all.mp h2⟩
    · rintro ⟨h1, h2⟩
      exact ⟨v, vs, rfl, h1, rpXs_all.mpr h2⟩
/-- how a kind is told as such data -/
structure EncX (K : PySem.W.Frag) {α : Type} (R : Rep α) (f : α → XD) : Prop where
  to : ∀ {a v F}, R.rp a v F → rpX K (f a) v F
section
variable {α β : Type} {K : PySem.W.Frag} {R : Rep α} {R' : Rep β} {f : α → XD} {g : β → XD}
theorem xS : EncX K rS XD.str := ⟨fun h => by simp only [rpX]; exact h⟩
theorem xX : EncX K (rX K) id := ⟨fun h => h⟩
theorem allx_enc (h : EncX K R f) {F : Hp} : ∀ {as : List α} {vs : List V}, All2 R as vs F → All2 (rX K) (as.map f) vs F
  | [], [], _ => trivial
  | _ :: _, _ :: _, q => ⟨h.to q.1, allx_enc h q.2⟩
  | [], _ :: _, q => q.elim
  | _ :: _, [], q => q.elim
theorem xL (h : EncX K R f) : EncX K (rL R) (fun as => XD.lst (as.map f)) := ⟨fun ⟨p, xs, h1, h2, h3⟩ => by
  simp only [rpX]
  exact ⟨p, xs, h1, h2, rpXs_all.mpr (allx_enc h h3.all), by rw [List.length_map]; exact h3.len⟩⟩
variable {σ : L2.St} {F F1 : Hp} {O : Own} {ta tb tc te : TE} {t : TA} {A B C : Ar} {d e : XD}
/-- data known to be of a kind -/
def asSX : XD → Option (List Nat)
  | .str x => some x
  | _ => none
def asLX : XD → Option (List XD)
  | .lst x => some x
  | _ => none
theorem ev_asSX {l : List Nat} (h : asSX d = some l) (hv : Ev te σ F O (val (rX K) d)) : Ev te σ F O (val rS l) := fun H k Q q => hv H k Q fun v F' H' g r => q v F' H' g (by
  cases d with
  | str x =>
    have h2 : x = l := Option.some.inj h
    subst h2
    have r' : rpX K (.str x) v F' := r
    simp only [rpX] at r'
    exact r'
  | _ => cases h)
theorem ev_asLX {ds : List XD} (h : asLX d = some ds) (hv : Ev te σ F O (val (rX K) d)) : Ev te σ F O (val (rL (rX K)) ds) := fun H k Q q => hv H k Q fun v F' H' g r => q v F' H' g (by
  cases d with
  | lst x =>
    have h2 : x = ds := Option.some.inj h
    subst h2
    have r' : rpX K (.lst x) v F' := r
    simp only [rpX] at r'
    obtain ⟨p, xs, h1, h3, h4, h5⟩ := r'
    exact ⟨p, xs, h1, h3, rpXs_all.mp h4, h5⟩
  | _ => cases h)
/-! ### attributes -/
/-- the text's classes: each with the attributes that its instances have -/
abbrev CTab := List (Str × List Str)
/-- what must hold of them -/
structure CTabOk (K : PySem.W.Frag) (T : CTab) : Prop where
  cl : ∀ p ∈ T, Cls K (He.ga K p.1)
  na : ∀ p ∈ T, ∀ f ∈ p.2, NoAttr K (He.ga K p.1) f
def fldX (T : CTab) (f : Str) : XD → Option XD
  | .obj c fs => if (T.any fun p => decide (p.1 = c) && decide (f ∈ p.2)) = true then fs.lookup f else none
  | _ => none
theorem rpXf_at {F : Hp} : ∀ {fs : List (Str × XD)} {gs : List (Str × V)} {f : Str} {e : XD}, rpXf K fs gs F → fs.lookup f = some e → ∃ v, gs.lookup f = some v ∧ rpX K e v F
  | [], _, _, _, _, h => by cases h
  | (g, d) :: fs, gs, f, e, r, h => by
    simp only [rpXf] at r
    obtain ⟨v, hs, rfl, r1, r2⟩ := r
    rw [List.lookup_cons] at h ⊢
    cases q : (f == g) with
    | true =>
      rw [q] at h
      cases h
      exact ⟨v, rfl, r1⟩
    | false =>
      rw [q] at h
      exact rpXf_at r2 h
theorem rpXf_no {F : Hp} : ∀ {fs : List (Str × XD)} {gs : List (Str × V)} {f : Str}, rpXf K fs gs F → fs.lookup f = none → gs.lookup f = none
  | [], _, _, r, _ => by
    simp only [rpXf] at r
    subst r
    rfl
  | (g, d) :: fs, gs, f, r, h => by
    simp only [rpXf] at r
    obtain ⟨v, hs, rfl, r1, r2⟩ := r
    rw [List.lookup_cons] at h ⊢
    cases q : (f == g) with
    | true => rw [q] at h; cases h
    | false =>
      rw [q] at h
      exact rpXf_no r2 h
theorem ev_fldX {T : CTab} (ok : CTabOk K T) {f : Str} (h : fldX T f d = some e) (hv : Ev te σ F O (val (rX K) d)) : Ev (tFld K te f) σ F O (val (rX K) e) := fun H k Q q => hv H k _ fun v F1 H1 g r => by
  cases d with
  | obj c fs =>
    obtain ⟨h1, h2⟩ : (T.any fun p => decide (p.1 = c) && decide (f ∈ p.2)) = true ∧ fs.lookup f = some e := by
      have h' : (if (T.any fun p => decide (p.1 = c) && decide (f ∈ p.2)) = true then fs.lookup f else none) = some e := h
      by_cases z : (T.any fun p => decide (p.1 = c) && decide (f ∈ p.2)) = true
      · rw [if_pos z] at h'
        exact ⟨z, h'⟩
      · rw [if_neg z] at h'
        cases h'
    obtain ⟨p, hp, z⟩ := List.any_eq_true.mp h1
    rw [Bool.and_eq_true, decide_eq_true_eq, decide_eq_true_eq] at z
    have r' : rpX K (.obj c fs) v F1 := r
    simp only [rpX] at r'
    obtain ⟨a, dx, gs, rfl, h3, h4, h5⟩ := r'
    obtain ⟨w, hw, rw'⟩ := rpXf_at h5 h2
    refine ⟨a, He.ga K c, dx, gs, w, rfl, g.fh _ _ h3, by rw [← z.1]; exact ok.cl p hp, by rw [← z.1]; exact ok.na p hp f z.2, hw, q w F1 H1 g rw'⟩
  | _ => cases h
/-! ### methods, by the class -/
def tDis (m : Str) (E : XK) (ta : TE) (t : TA) : List (Addr × Sp) → TE
  | [], _, _, _ => False
  | (C, sp) :: r, σ, H, Q => tMeth C m sp [] E ta t σ H Q ∨ tDis m E ta t r σ H Q
theorem pe_dis_nil {X : Cx} {ex : Expr} {m : Str} {E : XK} {ta : TE} {t : TA} : PE X ex (tDis m E ta t []) := ⟨fun _ _ _ _ _ _ h => h.elim⟩
theorem pe_dis_cons {X : Cx} {ex : Expr} {m : Str} {E : XK} {ta : TE} {t : TA} {C : Addr} {sp : Sp} {r : List (Addr × Sp)} (h1 : PE X ex (tMeth C m sp [] E ta t)) (h2 : PE X ex (tDis m E ta t r)) : PE X ex (tDis m E ta t ((C, sp) :: r)) :=
  ⟨fun pins s σ H Q I h => h.elim (h1.run pins s σ H Q I) (h2.run pins s σ H Q I)⟩
/-- one class's way -/
structure Way (K : PySem.W.Frag) (β : Type) where
  c : Str
  r : Option β
  sp : Sp
def disO {β : Type} (m : Str) (o : XD) (ws : List (Way K β)) : Option β := match o with
  | .obj c fs => if (fs.lookup m).isNone = true then ((ws.find? fun w => decide (w.c = c)).bind Way.r) else none
  | _ => none
end
end Lm
/-! Lm: instances are made, methods are called. -/
namespace Lm
open PySem PySem.Spec PyProof.Rows L2
/-! ### two owned objects at a def's entry -/
def but2 (x y : Addr) (H : Hp) : Hp := fun a => if a = x ∨ a = y then none else H a
theorem but2_same {x y : Addr} {H : Hp} : Same (but2 x y H) H := fun a u e => by
  unfold but2 at e
  by_cases z : a = x ∨ a = y
  · rw [if_pos z] at e; cases e
  · rw [if_neg z] at e; exact e
section
variable {F H F' H' : Hp} {O : Own} {x y : Addr} {o u o' u' : HO}
theorem At.start2 (e : Same F H) (hx : F x = none) (hy : F y = none) (hxy : x ≠ y) (h1 : H x = some o) (h2 : H y = some u) : At ⟨F, but2 x y H, none⟩ F [(x, o), (y, u)] H := by
  refine ⟨⟨e, fun q m => ?_⟩, but2_same, Same.refl _, fun _ h _ => h, fun q m => ?_, ?_, fun _ _ e => e.no.elim⟩
  · rcases List.mem_cons.mp m with z | m
    · rw [z]; exact ⟨hx, h1⟩
    · rw [List.mem_singleton.mp m]; exact ⟨hy, h2⟩
  · rcases List.mem_cons.mp m with z | m
    · rw [z]; exact if_pos (Or.inl rfl)
    · rw [List.mem_singleton.mp m]; exact if_pos (Or.inr rfl)
  · show [x, y].Nodup
    simp [hxy]
/-- what is known behind -/
structure Two (x y : Addr) (F H F' H' : Hp) : Prop where
  f : Same F F'
  h : ∀ a o, a ≠ x → a ≠ y → H a = some o → H' a = some o
  fh : Same F' H'
  nw : ∀ a, F a = none → H a ≠ none → F' a = none
theorem At.done2 (k : At ⟨F, but2 x y H, none⟩ F' O H') (m1 : (x, o') ∈ O) (m2 : (y, u') ∈ O) : Two x y F H F' H' ∧ H' x = some o' ∧ H' y = some u' := by
  have h1 := k.ok.own _ m1
  have h2 := k.ok.own _ m2
  refine ⟨⟨k.f0, fun a o n1 n2 h => k.b a o (by show but2 x y H a = _; unfold but2; rw [if_neg (fun z => z.elim n1 n2)]; exact h), k.ok.ex, fun a q1 q2 => ?_⟩, h1.2, h2.2⟩
  by_cases z1 : a = x
  · subst z1; exact h1.1
  · by_cases z2 : a = y
    · subst z2; exact h2.1
    · exact k.sep a q1 (by show but2 x y H a ≠ none; unfold but2; rw [if_neg (fun z => z.elim z1 z2)]; exact q2)
end
/-! ### __init__ -/
/-- what an __init__ promises: the new instance's attributes -/
def spI (K : PySem.W.Frag) (C : Addr) (P : List Ar → List (Str × XD) → Prop) : Sp := fun vs H Q _ => ∃ F x dx As fs, P As fs ∧ Same F H ∧ F x = none ∧ F dx = none ∧ x ≠ dx ∧ H x = some (.ins C dx []) ∧ H dx = some (.own x) ∧ AllA (val (rA x) () :: As) vs F H ∧
  ∀ F' H' gs, Two x dx F H F' H' → H' x = some (.ins C dx gs) → H' dx = some (.own x) → rpXf K fs gs F' → Q .non H'
section
variable {α : Type} {R : Rep α} {K : PySem.W.Frag} {σ : L2.St} {F : Hp} {O : Own} {te : TE} {t : TA} {E : XK}
theorem ev_make {c : Str} {P : List Ar → List (Str × XD) → Prop} {As : List Ar} {fs : List (Str × XD)} (ha : EvA t σ F O As) (hp : P As fs) : Ev (tMake (He.ga K c) (spI K (He.ga K c) P) [] E t) σ F O (val (rX K) (.obj c fs)) := fun H k Q q =>
  ha H k _ fun vs F1 H1 g1 a x dx hx hdx ne => by
    have sH : Same H1 (upd (upd H1 dx (.own x)) x (.ins (He.ga K c) dx [])) := (same_new hdx).trans (same_new (by rw [upd_ne (Ne.symm ne)]; exact hx))
    have fx := free_of g1.fh hx
    have fd := free_of g1.fh hdx
    refine ⟨F1, x, dx, As, fs, hp, g1.fh.trans sH, fx, fd, Ne.symm ne, upd_same, by rw [upd_ne ne]; exact upd_same, by rw [List.append_nil]; exact ⟨rfl, AllA.mono (Same.refl _) sH a⟩, fun F' H' gs w h1 h2 r => ⟨rfl, ?_⟩⟩
    have nx : F' x = none := w.nw x fx (by rw [upd_same]; exact fun z => by cases z)
    have nd : F' dx = none := w.nw dx fd (by rw [upd_ne ne, upd_same]; exact fun z => by cases z)
    have e1 : Same F' (upd F' dx (.own x)) := same_new nd
    have nx' : upd F' dx (.own x) x = none := by rw [upd_ne (Ne.symm ne)]; exact nx
    have e2 : Same (upd F' dx (.own x)) (upd (upd F' dx (.own x)) x (.ins (He.ga K c) dx gs)) := same_new nx'
    refine q _ (upd (upd F' dx (.own x)) x (.ins (He.ga K c) dx gs)) H' (g1.trans ⟨w.f.trans (e1.trans e2), fun a o h => ?_, fun a o h => ?_, fun a q1 q2 => ?_⟩) ?_
    · have n1 : a ≠ x := fun z => by rw [z, hx] at h; cases h
      have n2 : a ≠ dx := fun z => by rw [z, hdx] at h; cases h
      exact w.h a o n1 n2 (by rw [upd_ne n1, upd_ne n2]; exact h)
    · by_cases z1 : a = x
      · subst z1; rw [upd_same] at h; cases h; exact h1
      · rw [upd_ne z1] at h
        by_cases z2 : a = dx
        · subst z2; rw [upd_same] at h; cases h; exact h2
        · rw [upd_ne z2] at h; exact w.fh a o h
    · have n1 : a ≠ x := fun z => q2 (by rw [z]; exact hx)
      have n2 : a ≠ dx := fun z => q2 (by rw [z]; exact hdx)
      rw [upd_ne n1, upd_ne n2]
      exact w.nw a q1 (by rw [upd_ne n1, upd_ne n2]; exact q2)
    · show rpX K (.obj c fs) _ _
      simp only [rpX]
      exact ⟨x, dx, gs, rfl, upd_same, by rw [upd_ne ne]; exact upd_same, rpXf_mono (e1.trans e2) fs gs r⟩
variable {Z : Bs} {D : Ends}
/-- x.f = e, x an instance that is being made -/
theorem sx_fldI {n j : Nat} {x C dx : Addr} {gs : List (Str × V)} {f : Str} {a : α} (hj : σ[j]? = some (some (.ref x))) (hO : O[n]? = some (x, .ins C dx gs)) (c : Cls K C) (na : NoAttr K C f) (hl : gs.length < 1000) (h : Ev te σ F O (val R a))
    (k : ∀ v F', Same F F' → R.rp a v F' → Nx Z D σ F' (O.set n (x, .ins C dx (putF f v gs)))) : Sx Z (sFld K (tVar j) te f) D σ F O := fun H at0 => by
  have hp := at0.ok.own (x, .ins C dx gs) (List.mem_of_getElem? hO)
  refine h H at0.ok _ fun v F' H' g r => ⟨.ref x, hj, x, C, dx, gs, rfl, g.h _ _ hp.2, c, na, hl, k v F' g.f r _ (At.write (at0.gr g) hO)⟩
end
/-! ### a class's defs -/
structure DfM (K : PySem.W.Frag) (c m q : Str) (st : Stmt) : Prop where
  ex : ∃ fd, FunD K m q (defArgs st) (defBody st) (defScope st) [] [] (He.ma K (He.ga K c) m) fd
structure CalM (P : Program) (w : World) (K : PySem.W.Frag) (mg : Str → Option Value) (base : Heap) (k : Nat) (c m : Str) (ps : List Str) (sp : Sp) : Prop where
  ex : ∃ fd, FnOk P w K mg base CX0 k (He.ma K (He.ga K c) m) fd ps sp ∧ Binds K fd ps []
theorem calM_of {P : Program} {w : World} {K : PySem.W.Frag} {mg : Str → Option Value} {base : Heap} {k : Nat} {c m q : Str} {st : Stmt} {N ps : List Str} {sp : Sp} (D : DfM K c m q st) (S : FnScope N ps (defScope st))
    (hb : ∀ (kV doc pm : Value) (an : Option Addr) (cdv ct : Value) (us : List Value), us.length = ps.length → bindArgs (PySem.W.fnOf m q (defArgs st) (defBody st) (defScope st) .none kV doc pm an cdv ct) ⟨us, []⟩ = pure (ps.zip us)) (len : ∀ vs H Q E, sp vs H Q E → vs.length = ps.length)
    (body : ∀ (cdv : Value) (A : Around) (outer : List Env) (s : Shared) (H : Hp) (vs : List V) (Q : VK) (E : XK), Room k (A.deeper (envOfC q (defScope st) s.heap.objs.size (He.ma K (He.ga K c) m) cdv)) → sp vs H Q E →
      ∃ t, PSs (cxOf CX0 P w K mg base N q (defScope st) (He.ma K (He.ga K c) m) cdv A outer s H E).nox (defBody st) t ∧ t { nx := fun _ G => Q .non G, rt := Q } (start N vs) H) :
    CalM P w K mg base (k + 1) c m ps sp := by
  obtain ⟨fd, F⟩ := D.ex
  exact ⟨fd, F.ok S len (fun cdv A outer s H vs Q E hr h => (body cdv A outer s H vs Q E hr h).elim fun t z => ⟨t, z.1.nox, z.2⟩), F.bindsN hb⟩
theorem cal_void {P : Program} {w : World} {K : PySem.W.Frag} {mg : Str → Option Value} {base : Heap} {k : Nat} {x : Str} {st : Stmt} {N ps : List Str} {sp : Sp} (D : Df K mg x st) (S : FnScope N ps (defScope st))
    (hb : ∀ (kV doc pm : Value) (an : Option Addr) (cdv ct : Value) (us : List Value), us.length = ps.length → bindArgs (PySem.W.fnOf x x (defArgs st) (defBody st) (defScope st) .none kV doc pm an cdv ct) ⟨us, []⟩ = pure (ps.zip us)) (no : ∀ vs H Q E, ¬ sp vs H Q E) : Cal P w K mg base (k + 1) x ps sp :=
  cal_of D S hb (fun vs H Q E h => (no vs H Q E h).elim) fun f cdv A outer s H vs Q E hr h => (no vs H Q E h).elim
section
variable {X : Cx} {K : PySem.W.Frag} {k : Nat} {c m : Str} {ps : List Str} {sp : Sp} {p pos apos : Pos} {o e : Expr} {es : List Expr} {ta : TE} {t : TA}
/-- what calls of a class's defs lean on -/
structure MethOk (K : PySem.W.Frag) (c m : Str) : Prop where
  cl : Cls K (He.ga K c)
  me : Meth K (He.ga K c) m (He.ma K (He.ga K c) m)
structure MkOk (K : PySem.W.Frag) (mg : Str → Option Value) (c : Str) : Prop where
  cl : Cls K (He.ga K c)
  mkr : Mk K (He.ga K c) (He.ma K (He.ga K c) "__init__")
  gl : mg c = some (.ref (He.ga K c))
theorem pe_mM0 {pl : Sem Bool} (hK : X.K = K) (M : MethOk K c m) (F : CalM X.prog X.w K X.mg X.base k c m ps sp) (hr : Room k X.A) (he : PE X o ta)
    (ht : eval (.Call (.Attribute o m apos) [] [] pos) X.env = (do let ov ← eval o X.env; standAt apos.atName; let (f, first) ← holding [ov] (getMethod ov m pl); callWith pos f first (backTo pos (starEach [] X.env)) (backToKw pos (keywordEach [] X.env))) := by rfl) :
    PE X (.Call (.Attribute o m apos) [] [] pos) (tMeth (He.ga K c) m sp [] E0 ta tNil) := by
  subst hK
  obtain ⟨fd, F, hb⟩ := F.ex
  exact pe_meth0 he M.cl M.me F hr hb .nil pass0 ht
theorem pe_mkC (hK : X.K = K) (M : MkOk K X.mg c) (F : CalM X.prog X.w K X.mg X.base k c "__init__" ps sp) (hr : Room (k + 1) X.A) (hg : Gl X c) (ha : PA X (e :: es) t) (hdb : (c == ("__debug__" : Str)) = false := by decide) (he : starEach (e :: es) X.env = (false, eval e X.env) :: starEach es X.env := by rfl) (hpl : (backTo pos (starEach es X.env)).any (·.1) = false := by rfl) :
    PE X (.Call (.Name c p) (e :: es) [] pos) (tMake (He.ga K c) sp [] E0 t) := by
  subst hK
  obtain ⟨fd, F, hb⟩ := F.ex
  exact pe_make M.mkr F hr hg M.gl hb .nil pass0 ha hdb he hpl
end
end Lm
/-! Lm: isinstance of the text's classes; what a head tells besides. -/
namespace Lm
open PySem PySem.Spec PyProof.Rows L2
/-- what isinstance asks of a class whose instances it is asked of -/
structure InsF (K : PySem.W.Frag) (C : Addr) : Prop where
  cl : Cls K C
  ha : PySem.W.findIn K (.ref C) "__class__" = some (some (.builtin "object.__class__"))
  hn : PySem.W.specialIn K (.builtin "object.__class__") "__get__" = some (some (.builtin "getset_descriptor.__get__"))
  tk : PySem.W.takesIn K (.builtin "object.__class__") = some true
  mo : PySem.W.mroIn K C (.type "object") = some true
/-- isinstance of the class d, asked of instances of the told classes -/
structure IsOk (K : PySem.W.Frag) (mg : Str → Option Value) (d : Str) (T : List (Str × Bool)) : Prop where
  gl : mg d = some (.ref (He.ga K d))
  at_ : ∀ p ∈ T, InsF K (He.ga K p.1) ∧ PySem.W.kitOne K (.ref (He.ga K p.1)) (.ref (He.ga K d)) = some p.2
def isO (T : List (Str × Bool)) : XD → Option Bool
  | .obj c _ => T.lookup c
  | _ => none
theorem lookup_mem {β : Type} {c : Str} {b : β} : ∀ {T : List (Str × β)}, T.lookup c = some b → (c, b) ∈ T
  | [], h => by cases h
  | (x, y) :: T, h => by
    rw [List.lookup_cons] at h
    cases q : (c == x) with
    | true =>
      rw [q] at h
      cases h
      rw [eq_of_beq q]
      exact List.mem_cons_self ..
    | false =>
      rw [q] at h
      exact List.mem_cons_of_mem _ (lookup_mem h)
theorem b_isiX {K : PySem.W.Frag} {mg : Str → Option Value} {d : Str} {T : List (Str × Bool)} {o : XD} {b : Bool} (ok : IsOk K mg d T) (h : isO T o = some b) : Cb (rIsi K) [val (rX K) o, val (rV (.ref (He.ga K d))) ()] (val rB b) := cb_sc flB fun vs F H Q e a q => by
  obtain ⟨v, w, rfl, h1, h2⟩ := alla2 a
  have h3 : w = .ref (He.ga K d) := h2
  subst h3
  cases o with
  | obj c fs =>
    have h4 : T.lookup c = some b := h
    obtain ⟨F0, hk⟩ := ok.at_ (c, b) (lookup_mem h4)
    have r : rpX K (.obj c fs) v F := h1
    simp only [rpX] at r
    obtain ⟨p, dx, gs, rfl, h5, h6, h7⟩ := r
    exact ⟨.ref p, .ref (He.ga K d), .ref (He.ga K c), .ref (He.ga K d), b, rfl, .own _, .base (.ins (e _ _ h5) F0.cl F0.ha F0.hn F0.tk F0.mo), hk, q⟩
  | _ => cases h
theorem ev_cls {K : PySem.W.Frag} {σ : L2.St} {F : Hp} {O : Own} {a : Addr} : Ev (tC (.ref a)) σ F O (val (rV (.ref a)) ()) := ev_c fun _ => rfl
/-! ### looks at the head, by decide -/
def chkIns (K : PySem.W.Frag) (c : Str) : Bool := He.eqO (PySem.W.findIn K (.ref (He.ga K c)) "__class__") (some (some (.builtin "object.__class__"))) && (He.eqO (PySem.W.specialIn K (.builtin "object.__class__") "__get__") (some (some (.builtin "getset_descriptor.__get__"))) &&
  (decide (PySem.W.takesIn K (.builtin "object.__class__") = some true) && decide (PySem.W.mroIn K (He.ga K c) (.type "object") = some true)))
def chkIs (K : PySem.W.Frag) (d : Str) (T : List (Str × Bool)) : Bool := T.all fun p => chkIns K p.1 && decide (PySem.W.kitOne K (.ref (He.ga K p.1)) (.ref (He.ga K d)) = some p.2)
theorem is_ok {K : PySem.W.Frag} {mg : Str → Option Value} {d : Str} {T : List (Str × Bool)} (h : chkIs K d T = true) (gl : mg d = some (.ref (He.ga K d))) (cl : ∀ p ∈ T, Cls K (He.ga K p.1)) : IsOk K mg d T := ⟨gl, fun p m => by
  have h1 := List.all_eq_true.mp h p m
  obtain ⟨h2, h3⟩ := He.ba h1
  obtain ⟨a1, h2⟩ := He.ba h2
  obtain ⟨a2, h2⟩ := He.ba h2
  obtain ⟨a3, a4⟩ := He.ba h2
  exact ⟨⟨cl p m, He.eqO_ok a1, He.eqO_ok a2, of_decide_eq_true a3, of_decide_eq_true a4⟩, of_decide_eq_true h3⟩⟩
/-- the text of a class -/
def clsBody (s : Stmt) : List Stmt := match s with
  | .ClassDef _ _ _ b _ _ _ _ _ _ _ => b
  | _ => []
end Lm
namespace Lm
open PySem PySem.Spec PyProof.Rows L2
theorem ctab_cl {K : PySem.W.Frag} {T : CTab} (ok : CTabOk K T) (c : Str) (h : (T.any fun p => decide (p.1 = c)) = true) : Cls K (He.ga K c) := by
  obtain ⟨p, m, e⟩ := List.any_eq_true.mp h
  rw [← of_decide_eq_true e]
  exact ok.cl p m
theorem ctab_na {K : PySem.W.Frag} {T : CTab} (ok : CTabOk K T) (c f : Str) (h : (T.any fun p => decide (p.1 = c) && decide (f ∈ p.2)) = true) : NoAttr K (He.ga K c) f := by
  obtain ⟨p, m, e⟩ := List.any_eq_true.mp h
  obtain ⟨e1, e2⟩ := He.ba e
  rw [← of_decide_eq_true e1]
  exact ok.na p m f (of_decide_eq_true e2)
/-- a class's def keeping a promise where n tokens are out -/
structure CalMN (n : Nat) (P : Program) (w : World) (K : PySem.W.Frag) (mg : Str → Option Value) (base : Heap) (k : Nat) (c m : Str) (ps : List Str) (sp : Sp) : Prop where
  ex : ∃ fd, FnOkn n P w K mg base k (He.ma K (He.ga K c) m) fd ps sp ∧ Binds K fd ps []
end Lm
/-! Lm: the walk to the law's call, the bits of the script's numbers told. -/
namespace Lm
open PySem PySem.Spec PyProof.Rows L2 PySem.W
theorem walk_toksB {l : PySem.W.OpenLaw} {m : Nat} {q : Program} {loose : List Str} {XP : (Str → Option Value) → Heap → Prop} {α : Type} {Yf : Shared → α} {Ya : World → α} {d : DefRec} (most : l.most = some m) (plain : d.params.defaults = [])
    (call : ∀ (w : World) (s₀ z : Shared) (mg mb : Str → Option Value) (fa : Addr) (o : Obj) (pm cd doc : Value) (a : Addr) (vs : List Value) (ns : List Int), PySem.W.Ground q loose [] XP w s₀ mg mb z.heap → Yf s₀ = Ya w → s₀.toks ≤ z.toks → (∀ b o, s₀.heap.get? b = some o → z.heap.get? b = some o) → a = s₀.heap.objs.size → mg d.name = some (.ref fa) →
      z.heap.get? a = some { cls := .type "list", data := .seq vs.toArray } → IntsAre vs ns → ns.length ≤ m → (∀ k ∈ ns, Builtin.Int.intBits k ≤ 1048576) → z.gens = #[] →
      codeAny (model l.prog w) callerA (.call (.ref fa) ⟨[.ref a], []⟩) (fun r s' => r = .ok (.ret (.bool true)) ∧ OldK z.heap s'.heap ∧ s'.os = z.os ∧ AllBare s'.gens) z) :
    PySem.W.WalkX q loose XP Yf Ya l.row.toRowW d [] (fun f vs => PySem.call f vs) := fun w s₀ z mg mb G Y fa o pm cd doc dV kV ho hd hcd hD hmg hg args vals as hlay hpre hAll hrd hwl hlo => by
  obtain rfl : dV = .none := PySem.W.Dflts.none hD plain
  obtain rfl : kV = .none := PySem.W.Dflts.noKw hD
  obtain ⟨a, vs, ns, rfl, rfl, obj, areI, short⟩ := Att.script_of most hpre hwl
  have lay : Laid l.row.toRowW.records w s₀ z [ofPy (PyData.list (ns.map PyData.int))] [.ref a] as := by
    have e : ofPy (PyData.list (ns.map PyData.int)) = WData.list (ns.map WData.int) := by
      simp only [ofPy]
      rw [py_ints]
    rw [e]
    exact hlay
  have made := call w s₀ z mg mb fa o pm cd doc a vs ns G Y (PySem.W.X.script_toks lay rfl) lay.keeps (PySem.W.X.script_at lay).1 hmg obj areI short (Att.script_bits hAll) hg
  refine PySem.W.enter_call (codeAny_mono made fun r s' q => ?_)
  obtain ⟨rfl, old, os, bare⟩ := q
  exact ⟨.inl ⟨.bool true, .bool true, [], rfl, fun _ => rfl, .bool true, Att.post_true l _, fun _ => ⟨List.Pairwise.nil, fun _ m => nomatch m⟩⟩, old, os, bare⟩
end Lm
/-! Lm: the law's own call where n tokens are out and tables of code objects stand (after law_calln, for tables). -/
namespace Lm
open PySem PySem.Spec PyProof.Rows L2 PySem.W
abbrev tabO : Obj := { cls := .none, data := .fields #[] }
/-- the script and the tables are tracked -/
def scrT (a : Addr) (vs : List Value) (ns : List Int) (Ps : List Addr) : Hp := fun b => if b ∈ Ps then some (.tbl #[]) else scrH a vs ns b
section
variable {a b : Addr} {vs : List Value} {ns : List Int} {Ps : List Addr} {u : HO}
theorem scrT_tab (h : b ∈ Ps) : scrT a vs ns Ps b = some (.tbl #[]) := if_pos h
theorem scrT_no (h : b ∉ Ps) : scrT a vs ns Ps b = scrH a vs ns b := if_neg h
theorem scrT_off (h : b ∉ Ps) (h2 : b ≠ a) : scrT a vs ns Ps b = none := (scrT_no h).trans (scrH_off h2)
theorem scrT_eq (h : scrT a vs ns Ps b = some u) : (b ∈ Ps ∧ u = .tbl #[]) ∨ (b ∉ Ps ∧ b = a ∧ u = .frz { cls := .type "list", data := .seq vs.toArray } (.lst (ns.map V.int))) := by
  by_cases m : b ∈ Ps
  · rw [scrT_tab m] at h
    exact .inl ⟨m, (Option.some.inj h).symm⟩
  · rw [scrT_no m] at h
    exact .inr ⟨m, scrH_eq h⟩
end
section
variable {n k : Nat} {P : Program} {w : World} {K : PySem.W.Frag} {mg mb : Str → Option Value} {fa a : Addr} {fd : FuncData} {x : Str} {sp : Sp} {s₁ : Shared} {vs : List Value} {ns : List Int} {ts : List (Addr × Addr)}
theorem law_calltn (KX : K.In s₁.heap) (alone : K.lookup a = none) (hns : s₁.heap.Ns mainGlobals mg) (hb : s₁.heap.Ns builtinsNs mb) (hbb : ∀ x : Str, x ≠ "__name__" → mb x = bootBuiltins x) (lim : s₁.heap.NoLimit) (hg : s₁.gens = #[])
    (tb : ∀ p ∈ ts, s₁.heap.get? p.2 = some tabO ∧ K.lookup p.2 = none ∧ CodeHd s₁.heap p.1 p.2)
    (bmn : ∃ (bm : Addr) (ob : Obj), mg "__builtins__" = some (.ref bm) ∧ bm ≠ builtinsNs ∧ s₁.heap.get? bm = some ob ∧ ob.cls = .type "module" ∧ ob.dict = some builtinsNs ∧ ob.data = .plain)
    (ha : s₁.heap.get? a = some { cls := .type "list", data := .seq vs.toArray }) (areI : IntsAre vs ns) (few : ns.length ≤ sizeLine) (room : Room k callerA) (hn : n ≤ s₁.toks)
    (F : ∀ base : Heap, K.In base → base.Ns mainGlobals mg → (∀ p ∈ ts, LamX.TabB base mg p.1 p.2) → FnOkn n P w K mg base k fa fd [x] sp) (bind : ∀ (s : Shared) (u : Value), BindsTo s fd ⟨[u], []⟩ [(x, u)])
    (told : ∀ H : Hp, (∀ p ∈ ts, H p.2 = some (.tbl #[])) → SqL K H a (ns.map V.int) → sp [.ref a] H (fun v _ => v = .bl true) fun _ _ _ => False) :
    codeAny (model P w) callerA (.call (.ref fa) ⟨[.ref a], []⟩) (fun r s' => r = .ok (.ret (.bool true)) ∧ OldK s₁.heap s'.heap ∧ s'.os = s₁.os ∧ AllBare s'.gens) s₁ := by
  generalize hPs : ts.map (·.2) = Ps
  have inP : ∀ p ∈ ts, p.2 ∈ Ps := fun p m => hPs ▸ List.mem_map_of_mem (f := (·.2)) m
  have isP : ∀ b ∈ Ps, ∃ p ∈ ts, p.2 = b := fun b m => List.mem_map.mp (hPs ▸ m)
  have tabs : ∀ b ∈ Ps, s₁.heap.get? b = some tabO := fun b m => (isP b m).elim fun p z => z.2 ▸ (tb p z.1).1
  have aP : a ∉ Ps := fun m => by
    have e := tabs a m
    rw [ha] at e
    cases e
  have atA : scrT a vs ns Ps a = some (.frz { cls := .type "list", data := .seq vs.toArray } (.lst (ns.map V.int))) := (scrT_no aP).trans scrH_at
  have hok : HOk P w (scrT a vs ns Ps) s₁.heap := fun b u e => by
    rcases scrT_eq e with ⟨m, rfl⟩ | ⟨_, rfl, rfl⟩
    · exact tabs b m
    · exact ⟨ha, by rw [List.length_map]; exact few, vs, _, vals_ints areI, ha⟩
  -- what is neither the script nor a table stands in the base
  have other : ∀ {b : Addr} {o : Obj}, s₁.heap.get? b = some o → b ≠ a → b ∉ Ps → (hidT s₁.heap (scrT a vs ns Ps)).get? b = some o := fun e ne m => hidT_get e (scrT_off m ne)
  have kIn : K.In (hidT s₁.heap (scrT a vs ns Ps)) := fun b o e => other (KX b o e) (fun z => by rw [z, alone] at e; cases e) fun m => by
    obtain ⟨p, hp, z⟩ := isP b m
    rw [← z, (tb p hp).2.1] at e
    cases e
  have clsd : ∀ {b : Addr} {o : Obj}, s₁.heap.get? b = some o → (∀ v k, o.data ≠ .seq v k) → o.data ≠ .fields #[] → (hidT s₁.heap (scrT a vs ns Ps)).get? b = some o := fun {b o} e h1 h2 => by
    refine other e (fun z => ?_) fun m => ?_
    · subst z
      rw [ha] at e
      cases e
      exact h1 _ _ rfl
    · rw [tabs b m] at e
      cases e
      exact h2 rfl
  have spaces : ∀ {b : Addr} {m : Str → Option Value}, s₁.heap.Ns b m → (hidT s₁.heap (scrT a vs ns Ps)).Ns b m := fun {b m} q => by
    obtain ⟨o, es, ep, e, d, r⟩ := q
    exact ⟨o, es, ep, clsd e (fun v k z => by rw [d] at z; cases z) (fun z => by rw [d] at z; cases z), d, r⟩
  have modK : Mod K mg (hidT s₁.heap (scrT a vs ns Ps)) := ⟨kIn, spaces hns, ⟨mb, spaces hb, hbb⟩, lim.elim fun mc q => ⟨mc, spaces q.1, q.2⟩⟩
  have env : Env0 P w K mg (hidT s₁.heap (scrT a vs ns Ps)) callerA [] s₁ (scrT a vs ns Ps) := ⟨rfl, modK, fun b o e => of_hidT e, Nat.le_of_eq (hidT_size _ _), trivial, (fun b (m : b ∈ ([] : List Addr)) => by cases m), hok, .of_eq hg⟩
  have tabB : ∀ p ∈ ts, LamX.TabB (hidT s₁.heap (scrT a vs ns Ps)) mg p.1 p.2 := fun p hp => by
    obtain ⟨t1, _, t3⟩ := tb p hp
    refine ⟨?_, ?_, fun z => ?_⟩
    · obtain ⟨o, us, file, tf, flags, tg, inF, text, tt, e1, r1, r2, rest⟩ := t3
      refine ⟨o, us, file, tf, flags, tg, inF, text, tt, clsd e1 (fun v k z => by rw [r2] at z; cases z) fun z => ?_, r1, r2, rest⟩
      rw [r2] at z
      cases z
      have := rest.1
      simp at this
    · obtain ⟨bm, ob, b1, b2, b3, b4, b5, b6⟩ := bmn
      refine ⟨bm, ob, b1, b2, fun q => ?_, fun q => ?_, clsd b3 (fun v k z => by rw [b6] at z; cases z) (fun z => by rw [b6] at z; cases z), b4, b5, b6⟩
      · obtain ⟨o, es, ep, e, d, _⟩ := hns
        rw [← q, b3] at e
        cases e
        rw [b6] at d
        cases d
      · rw [q, t1] at b3
        cases b3
        cases b6
    · obtain ⟨o, es, ep, e, d, _⟩ := hns
      rw [z, t1] at e
      cases e
      cases d
  have run := (F _ kIn (spaces hns) tabB).run callerA [] s₁ (scrT a vs ns Ps) ⟨[.ref a], []⟩ [.ref a] [.ref a] _ _ hn room env (bind s₁ (.ref a)) (.cons rfl .nil) (told _ (fun p m => scrT_tab (inP p m)) (.inl (.inr ⟨_, atA⟩)))
  refine codeAny_mono run fun r s' q => ?_
  match r, q with
  | .error e, q => exact q.elim
  | .ok .next, q => exact q.elim
  | .ok .brk, q => exact q.elim
  | .ok .cont, q => exact q.elim
  | .ok (.ret u), ⟨v, G, os, bare, un, hok', rel, q⟩ =>
    have q' : v = .bl true := q
    subst q'
    obtain rfl : u = Value.bool true := rel
    have kept : ∀ b o, b ∉ Ps → s₁.heap.get? b = some o → s'.heap.get? b = some o := fun b o m e => by
      by_cases z : b = a
      · subst z
        have one := (hok' b _ (un.frzs b _ _ atA)).1
        rw [ha] at e
        cases e
        exact one
      · exact un.keep b o e (scrT_off m z) (fun (m : b ∈ ([] : List Addr)) => by cases m) (fun (m : b ∈ ([] : List Addr)) => by cases m)
    have grown : ∀ b ∈ Ps, ∃ more : Array Value, s'.heap.get? b = some { cls := .none, data := .fields more } := fun b m => by
      obtain ⟨more, z⟩ := un.tbls b #[] (scrT_tab m)
      exact ⟨_, hok' b _ z⟩
    refine ⟨rfl, ⟨fun b o e => ?_, fun b o e => ?_⟩, os, bare⟩
    · by_cases m : b ∈ Ps
      · obtain ⟨p, hp, z⟩ := isP b m
        obtain ⟨t1, _, t3⟩ := tb p hp
        obtain ⟨more, h1⟩ := grown b m
        rw [tabs b m] at e
        cases e
        refine .inr (.inl ⟨z ▸ (t3.tab t1).isCodeTable, rfl, #[], more, rfl, ?_⟩)
        rw [h1, Array.empty_append]
      · exact .inl (kept b o m e)
    · by_cases m : b ∈ Ps
      · exact (grown b m).elim fun more h1 => ⟨_, h1⟩
      · exact ⟨o, kept b o m e⟩
end
/-! ### what is seen of the head: defs and facts, a look of one's own, tables, tokens -/
def hookZ (n : Nat) (fa : List He.Fa) (fn : List He.DefD) (tf : List He.Defn) (chk : PySem.W.Frag → Bool) (T : Nat) : PySem.W.Hook where
  α := He.AlX × Nat
  obs := fun s => (He.obsX n fa fn [] tf chk s.heap.get?, s.toks)
  val := fun w => (He.valX fn [] w, T)
  says := fun _ _ => True
  of := fun _ _ _ => trivial
  keeps := fun _ _ _ _ _ => trivial
theorem obsZ_eq {n : Nat} {fa : List He.Fa} {fn : List He.DefD} {tf : List He.Defn} {chk : PySem.W.Frag → Bool} {g : Addr → Option Obj} {s : Shared} (h : ∀ a, g a = s.heap.get? a) : He.obsX n fa fn [] tf chk g = He.obsX n fa fn [] tf chk s.heap.get? := by
  have e : g = s.heap.get? := funext h
  rw [e]
theorem walk_chkZ {l : PySem.W.OpenLaw} {m k T nn : Nat} {q : Program} {loose : List Str} {XP : (Str → Option Value) → Heap → Prop} {d : DefRec} {fa : List He.Fa} {fn : List He.DefD} {tf : List He.Defn} {chk : PySem.W.Frag → Bool} {x : Str} (most : l.most = some m) (few : m ≤ sizeLine) (plain : d.params.defaults = []) (room : Room k callerA)
    (F : ∀ (w : World) (K : PySem.W.Frag) (mg : Str → Option Value) (fl : Addr) (h : Heap), K.In h → He.SaysD fa fn K → chk K = true → h.Ns mainGlobals mg → mg d.name = some (.ref fl) →
      ∃ (fd : FuncData) (sp : Sp), (∀ (s : Shared) (u : Value), BindsTo s fd ⟨[u], []⟩ [(x, u)]) ∧
        (∀ (H : Hp) (a : Addr) (ns : List Int), ns.length ≤ m → (∀ k ∈ ns, Builtin.Int.intBits k ≤ 1048576) → (∀ p ∈ tf, K.lookup (He.cT K p).2 = none ∧ H (He.cT K p).2 = some (.tbl #[])) → SqL K H a (ns.map V.int) → sp [.ref a] H (fun v _ => v = .bl true) fun _ _ _ => False) ∧
        ∀ base : Heap, K.In base → base.Ns mainGlobals mg → (∀ p ∈ tf, LamX.TabB base mg (He.cT K p).1 (He.cT K p).2) → FnOkn T l.prog w K mg base k fl fd [x] sp) :
    PySem.W.WalkX q loose XP (hookZ nn fa fn tf chk T).obs (hookZ nn fa fn tf chk T).val l.row.toRowW d [] (fun f vs => PySem.call f vs) :=
  walk_toksB most plain fun w s₀ z mg mb fl o pm cd doc a vs ns G Y ht keep ha hmg obj areI short bits hg => by
    have seen : He.SaysX fa fn [] tf chk w s₀.heap (He.frT s₀.heap.get? (He.asD s₀.heap.get? nn)) := He.saysX_of (congrArg Prod.fst Y)
    have eT : s₀.toks = T := congrArg Prod.snd Y
    generalize hK : He.frT s₀.heap.get? (He.asD s₀.heap.get? nn) = K at seen
    have KX0 : K.In s₀.heap := hK ▸ He.frT_in
    have KX : K.In z.heap := fun b o e => keep _ _ (KX0 b o e)
    have alone : K.lookup a = none := by
      cases e : K.lookup a with
      | none => rfl
      | some u =>
        have := Heap.lt_size (KX0 a u e)
        rw [ha] at this
        exact absurd this (Nat.lt_irrefl _)
    obtain ⟨fd, sp, bind, told, run⟩ := F w K mg fl z.heap KX seen.t.d seen.more G.T.g hmg
    refine law_calltn (ts := tf.map (He.cT K)) KX alone G.T.g G.T.b G.T.builtins G.T.nolimit hg (fun p hp => ?_) G.T.bmain obj areI (Nat.le_trans short few) room (by rw [← eT]; exact ht) (fun base h1 h2 h3 => run base h1 h2 fun p hp => h3 _ (List.mem_map_of_mem hp)) bind fun H hH hS => told H a ns short bits (fun p hp => ⟨seen.out p hp, hH _ (List.mem_map_of_mem hp)⟩) hS
    obtain ⟨r, hr, rfl⟩ := List.mem_map.mp hp
    exact ⟨keep _ _ (seen.empty r hr), seen.out r hr, codeHd_of_K KX (seen.hd r hr)⟩
/-- the law where defs make closures -/
theorem fin_ofTN {n : Nat} {P : Program} {w : World} {K : PySem.W.Frag} {mg : Str → Option Value} {k : Nat} {x a : Str} {sp : Sp} {fa : Addr} {tf : List He.Defn} (hfa : mg x = some (.ref fa)) {st : Stmt} (D : Df K mg x st)
    (hb : ∀ (kV doc pm : Value) (an : Option Addr) (cdv ct : Value) (us : List Value), us.length = 1 → bindArgs (PySem.W.fnOf x x (defArgs st) (defBody st) (defScope st) .none kV doc pm an cdv ct) ⟨us, []⟩ = pure ([a].zip us))
    (c : ∀ base : Heap, (∀ p ∈ tf, LamX.TabB base mg (He.cT K p).1 (He.cT K p).2) → CalN n P w K mg base k x [a] sp) :
    ∃ fd : FuncData, (∀ (s : Shared) (v : Value), BindsTo s fd ⟨[v], []⟩ [(a, v)]) ∧ ∀ base : Heap, (∀ p ∈ tf, LamX.TabB base mg (He.cT K p).1 (He.cT K p).2) → FnOkn n P w K mg base k fa fd [a] sp := by
  obtain ⟨f, fd, F0, hm⟩ := D.ex
  have hA : ∀ (s : Shared) (us : List Value), us.length = [a].length → BindsTo s fd ⟨us, []⟩ ([a].zip us) := F0.bindsA hb
  obtain ⟨oc, od, osl, lk⟩ : ∃ oc od osl, K.lookup f = some ⟨oc, od, .func fd, osl⟩ := by
    obtain ⟨oc, od, dV, kV, doc, pm, an, cdv, ct, osl, _, lk, _⟩ := F0.ex
    exact ⟨oc, od, osl, lk⟩
  obtain rfl : fa = f := by
    rw [hfa] at hm
    cases hm
    rfl
  refine ⟨fd, fun s v => hA s [v] rfl, fun base TB => ?_⟩
  obtain ⟨f2, fd2, F2, hm2, _, _, _, oc2, od2, osl2, lk2⟩ := (c base TB).ex
  obtain rfl : fa = f2 := by
    rw [hfa] at hm2
    cases hm2
    rfl
  rw [lk] at lk2
  cases lk2
  exact F2
end Lm
/-! Lm: for m in ('a', 'b', ..): t = t.replace(m, 'c' + m): the walked texts are written ones, so their tokens are known. -/
namespace Lm
open PySem PySem.Spec PyProof.Rows L2
section
variable {X : Cx} {pins : List (Addr × Obj)} {σ : L2.St} {H : Hp} {s : Shared}
/-- written texts -/
inductive Texts : List Str → List Expr → Prop
  | nil : Texts [] []
  | cons {y : Str} {ys : List Str} {j : Nat} {p : Pos} {es : List Expr} (r : Texts ys es) : Texts (y :: ys) (.Constant (.str y) j p :: es)
theorem Texts.len : ∀ {ys : List Str} {es : List Expr}, Texts ys es → ys.length = es.length
  | _, _, .nil => rfl
  | _, _, .cons r => congrArg (· + 1) r.len
/-! ### the loop -/
end
/-! ### in the Lm reading -/
end Lm
/-! Lm: class methods under a bound of tokens; dispatch; lists unpacked, compared with the empty one. -/
namespace Lm
open PySem PySem.Spec PyProof.Rows L2
theorem PSsn.none {n : Nat} {X : Cx} {sts : List Stmt} {t : TS} (h : PSsn n X.nox sts t) : PSsn n X sts t := h.nox
theorem CalM.tk {n : Nat} {P : Program} {w : World} {K : PySem.W.Frag} {mg : Str → Option Value} {base : Heap} {k : Nat} {c m : Str} {ps : List Str} {sp : Sp} (h : CalM P w K mg base k c m ps sp) : CalMN n P w K mg base k c m ps sp := by
  obtain ⟨fd, F, hb⟩ := h.ex
  exact ⟨fd, ⟨F.len, fun A outer s H args us vs Q E _ hr e0 hbd r h => F.run A outer s H args us vs Q E hr e0 hbd r h⟩, hb⟩
/-! ### dispatch, told by pairs -/
def disX {β : Type} (m : Str) (o : XD) (l : List (Str × Option β)) : Option β := match o with
  | .obj c fs => if (fs.lookup m).isNone = true then ((l.find? fun w => decide (w.1 = c)).bind Prod.snd) else none
  | _ => none
section
variable {α β : Type} {R' : Rep β} {K : PySem.W.Frag} {σ : L2.St} {F : Hp} {O : Own} {te : TE} {t : TA}
theorem find_way {β : Type} {c : Str} : ∀ {ws : List (Way K β)} {l : List (Str × Option β)}, l = ws.map (fun w => (w.c, w.r)) → (l.find? fun w => decide (w.1 = c)).bind Prod.snd = ((ws.find? fun w => decide (w.c = c)).bind Way.r)
  | [], _, e => by subst e; rfl
  | w :: ws, _, e => by
    subst e
    rw [List.map_cons, List.find?_cons, List.find?_cons]
    cases decide (w.c = c) with
    | true => rfl
    | false => exact find_way rfl
end
/-! ### data -/
section
variable {α β γ : Type} {R : Rep α} {R' : Rep β} {R'' : Rep γ} {K : PySem.W.Frag} {Z : Bs} {D : Ends} {σ : L2.St} {F : Hp} {O : Own} {te : TE}
def lenD : PyData → Option Int
  | .tuple ds => some (ds.length : Int)
  | .list ds => some (ds.length : Int)
  | .str x => some (x.cps.toList.length : Int)
  | _ => none
theorem rpDs_len {F : Hp} : ∀ {ds : List PyData} {vs : List V}, rpDs ds vs F → vs.length = ds.length
  | [], vs, h => by
    have h' : vs = [] := h
    rw [h']; rfl
  | d :: ds, vs, h => by
    obtain ⟨v, ws, e, _, h2⟩ := h
    rw [e]
    exact congrArg (· + 1) (rpDs_len h2)
theorem b_lenD {d : PyData} {n : Int} (h : lenD d = some n) : Cb (cLen K) [val rD d] (val rInt n) := cb_sc flI fun vs F H Q e a q => by
  obtain ⟨v, rfl, a2⟩ := alla1 a
  have r : rpD d v F := a2
  cases d with
  | tuple ds =>
    cases h
    obtain ⟨p, xs, rfl, h2, h3, h4⟩ := r
    exact ⟨_, ds.length, rfl, Or.inr ⟨xs, st_of (e _ _ h2), (rpDs_len h3).symm⟩, q⟩
  | list ds =>
    cases h
    obtain ⟨p, xs, rfl, h2, h3, h4⟩ := r
    exact ⟨_, ds.length, rfl, Or.inl ⟨xs, sq_of (e _ _ h2), (rpDs_len h3).symm⟩, q⟩
  | str x =>
    cases h
    obtain ⟨e1, e2⟩ := r
    subst e1
    refine ⟨_, x.cps.toList.length, rfl, ?_, q⟩
    have hx : x.length = x.cps.toList.length := by simp [Str.length]
    exact ⟨by rw [hx]; exact sz_line (sz_lim e2.1), hx.symm⟩
  | _ => cases h
/-- a list beside the empty one -/
def rNeNil (K : PySem.W.Frag) : R2 := fun x y H Q => ∃ a b xs, x = .ref a ∧ y = .ref b ∧ SqL K H a xs ∧ SqL K H b [] ∧ Q (.bl (!xs.isEmpty)) H
theorem op_neNil {X : Cx} (hu : X.A.units + 64 < cLine) : OpR X (compareOp .NotEq) (rNeNil X.K) := by
  intro pins s σ H x y v u Q I rx ry h
  obtain ⟨a, b, xs, rfl, rfl, h1, h2, q⟩ := h
  cases rx
  cases ry
  obtain ⟨us, r1, p1, z1⟩ := I.list h1
  obtain ⟨ws, r2, p2, z2⟩ := I.list h2
  cases r2
  have room : X.A.units < cLine := Nat.lt_of_le_of_lt (Nat.le_add_right _ _) hu
  have q' : EP X pins σ Q (Value.bool (!xs.isEmpty)) s := ⟨.bl _, H, I, rfl, q⟩
  cases xs with
  | nil =>
    cases r1
    exact PySem.EqBoolInt.of_rcne (SeqAt.RcNeAt.lists (e := fun _ => true) p1.isList p2.isList rfl room fun j h1 _ => absurd h1 (Nat.not_lt_zero _)) q'
  | cons z zs =>
    cases r1 with
    | cons ra rb => exact PySem.EqBoolInt.of_rcne (SeqAt.RcNeAt.lists_lengths p1.isList p2.isList rfl room) q'
theorem o_neNil {as : List α} : Op2 (rNeNil K) (spn R as) (spn R' ([] : List β)) (val rB (!as.isEmpty)) := op_sc flB fun v w F H Q s a b q => by
  obtain ⟨p, xs, rfl, h, hx⟩ := a
  obtain ⟨p', xs', rfl, h', hx'⟩ := b
  have e1 : xs' = [] := by
    cases xs' with
    | nil => rfl
    | cons y ys => exact absurd hx'.all.len (by simp)
  subst e1
  refine ⟨p, p', xs, rfl, rfl, sq_of h, sq_of h', ?_⟩
  have e2 : xs.isEmpty = as.isEmpty := by
    have := hx.all.len
    cases xs <;> cases as <;> simp_all
  rw [e2]
  exact q
/-! ### what is owned, in another order -/
end
end Lm
/-! Lm: frozen lists that are changed after all: what is younger is let go; told data changed in its lists. -/
namespace Lm
open PySem PySem.Spec PyProof.Rows L2
/-- F without the lists that are younger than Fb -/
def less (Fb F : Hp) : Hp := fun a => match Fb a with
  | some o => some o
  | none => match F a with
    | some (.lst _) => none
    | r => r
/-! ### anything -/
/-! ### told data changed: for one in told: if one[0] == S: one[1].append(..) -/
end Lm
namespace Lm
open PySem PySem.Spec PyProof.Rows L2
/-! ### promises of new data, of methods by class -/
/-- a promise, asked where at least F0 lies frozen -/
def Gives (sp : Sp) (F0 : Hp) (As : List Ar) (C : Ar) : Prop := ∀ (F H : Hp) (vs : List V) (Q : VK) (E : XK), Same F0 F → Same F H → AllA As vs F H → (∀ v F' H', Gr F H F' H' → C.p v F' H' → Q v H') → sp vs H Q E
/-- a def that hands back a new list of data with new lists -/
def spFN (P : List Ar → List PyData → Prop) : Sp := fun vs H Q _ => ∃ F As ds, P As ds ∧ Same F H ∧ AllA As vs F H ∧ ∀ p xs F' H', Gr F H F' H' → H p = none → F' p = none → H' p = some (.lst xs) → AllB (rDf F) ds xs F' → Q (.ref p) H'
section
variable {α β : Type} {R : Rep α} {σ : L2.St} {F F1 B F0 : Hp} {O : Own} {te : TE} {ta : TA} {K : PySem.W.Frag} {d : PyData} {ds : List PyData} {As as : List Ar} {C : Ar} {bs : List α}
theorem frDs_lessA (e : Same B F0) {xs : List V} (h : AllB (rDf F0) ds xs F) : AllB (rDf B) ds xs F := ⟨by
  have key : ∀ {ds : List PyData} {xs : List V}, All2 (rDf F0) ds xs F → All2 (rDf B) ds xs F := by
    intro ds
    induction ds with
    | nil => intro xs h; cases xs with
      | nil => exact trivial
      | cons x xs => exact h.elim
    | cons d ds ih => intro xs h; cases xs with
      | nil => exact h.elim
      | cons x xs => exact ⟨⟨h.1.1, frD_less e d x h.1.2⟩, ih h.2⟩
  exact key h.all, h.len⟩
theorem gives_F {P : List Ar → PyData → Prop} (h : P As d) (b : Same B F0) : Gives (spF P) F0 As (val (rDf B) d) := fun F H vs Q E e0 e a q => ⟨F, As, d, h, e, a, fun v F' H' g c => q v F' H' g ⟨c.1, frD_less (b.trans e0) d v c.2⟩⟩
theorem ev_callFN {P : List Ar → List PyData → Prop} {E : XK} (e : Same B F) (h : EvA ta σ F O as) (hp : P as ds) : EvN (tCall (spFN P) [] E ta) σ F O (rDf B) ds := fun H k Q q =>
  h H k _ fun vs F1 H1 g1 a => ⟨F1, as, ds, hp, g1.fh, by rw [List.append_nil]; exact a, fun p xs F2 H2 g2 n f x c => by
    refine q p xs F2 H2 (g1.trans g2) ?_ f x (frDs_lessA (e.trans g1.f) c)
    exact g1.h.free n⟩
theorem evF_newF (e : Same B F) (h : EvN te σ F O (rDf B) ds) : Ev te σ F O (val (rDf B) (.list ds)) := fun H k Q q =>
  h H k Q fun p xs F' H' g n f h2 h3 => by
    have G : Gr F H (upd F' p (.lst xs)) H' := ⟨g.f.trans (same_new f), g.h, fun a u e => by
      by_cases z : a = p
      · subst z; rw [upd_same] at e; cases e; exact h2
      · rw [upd_ne z] at e; exact g.fh a u e, fun a h1 h4 => by
      rw [upd_ne (fun z => h4 (by rw [z]; exact n))]
      exact g.nw a h1 h4⟩
    obtain ⟨r1, r2⟩ := frDs_all (h3.mono (same_new f)).all
    refine q _ _ H' G ⟨⟨p, xs, rfl, upd_same, r1, h3.len⟩, ?_⟩
    simp only [frD]
    exact ⟨p, xs, rfl, upd_same, (e.trans k.ex).free n, r2⟩
end
section
variable {α β : Type} {R : Rep α} {K : PySem.W.Frag} {σ : L2.St} {F : Hp} {O : Own} {te : TE} {t : TA} {as : List Ar} {C : Ar} {bs : List α}
/-- the way that is taken -/
theorem dis_way {m : Str} {E : XK} {o : XD} {ws : List (Way K β)} {r : β} (h : disO m o ws = some r) : ∃ c fs w, o = .obj c fs ∧ fs.lookup m = none ∧ w ∈ ws ∧ w.c = c ∧ w.r = some r ∧ ∀ H Q, tMeth (He.ga K w.c) m w.sp [] E te t σ H Q → (tDis m E te t (ws.map fun w => (He.ga K w.c, w.sp))) σ H Q := by
  cases o with
  | obj c fs =>
    have h' : (if (fs.lookup m).isNone = true then ((ws.find? fun w => decide (w.c = c)).bind Way.r) else none) = some r := h
    by_cases hn : (fs.lookup m).isNone = true
    · rw [if_pos hn] at h'
      cases hf : ws.find? (fun w => decide (w.c = c)) with
      | none => rw [hf] at h'; cases h'
      | some w =>
        rw [hf] at h'
        have hm := List.mem_of_find?_eq_some hf
        have hc : w.c = c := by simpa using List.find?_some hf
        refine ⟨c, fs, w, rfl, Option.isNone_iff_eq_none.mp hn, hm, hc, h', ?_⟩
        clear h h' hf
        intro H Q q
        induction ws with
        | nil => cases hm
        | cons w' ws ih =>
          rcases List.mem_cons.mp hm with z | hm
          · subst z
            exact Or.inl q
          · exact Or.inr (ih hm)
    · rw [if_neg hn] at h'
      cases h'
  | _ => cases h
theorem ev_disG {m : Str} {E : XK} {o : XD} {ws : List (Way K β)} {l : List (Str × Option β)} {r : β} (hl : l = ws.map (fun w => (w.c, w.r))) (h : disX m o l = some r) (ho : Ev te σ F O (val (rX K) o)) (ha : EvA t σ F O as) (hw : ∀ w ∈ ws, w.r = some r → Gives w.sp F (val (rX K) o :: as) C) :
    Ev (tDis m E te t (ws.map fun w => (He.ga K w.c, w.sp))) σ F O C := fun H k Q q => by
  have h' : disO m o ws = some r := by
    cases o with
    | obj c fs =>
      show (if (fs.lookup m).isNone = true then ((ws.find? fun w => decide (w.c = c)).bind Way.r) else none) = some r
      rw [← find_way hl]
      exact h
    | _ => cases h
  obtain ⟨c, fs, w, rfl, hn, hm, hc, hr, one⟩ := dis_way (te := te) (t := t) (σ := σ) (E := E) h'
  refine one H Q (ho H k _ fun v F1 H1 g1 r1 => ?_)
  have r' : rpX K (.obj c fs) v F1 := r1
  simp only [rpX] at r'
  obtain ⟨a, dx, gs, rfl, h3, h4, h5⟩ := r'
  refine ⟨a, dx, gs, rfl, by rw [hc]; exact g1.fh _ _ h3, rpXf_no h5 hn, (ha.mono g1.f) H1 (k.gr g1) _ fun vs F2 H2 g2 b => ?_⟩
  refine hw w hm hr F2 H2 _ _ E (g1.f.trans g2.f) g2.fh ?_ fun v F3 H3 g3 c3 => q v F3 H3 (g1.trans (g2.trans g3)) c3
  rw [List.append_nil]
  exact ⟨(rX K).mono g2.f r1, b⟩
end
theorem allF_D {B F : Hp} {ds : List PyData} {xs : List V} (h : AllB (rDf B) ds xs F) : AllB rD ds xs F := ⟨rpDs_all.mp (frDs_all h.all).1, h.len⟩
theorem ev_spnFD {σ : L2.St} {B F : Hp} {O : Own} {te : TE} {ds : List PyData} (h : Ev te σ F O (spn (rDf B) ds)) : Ev te σ F O (spn rD ds) := fun H k Q q => h H k Q fun v F' H' g ⟨p, xs, h1, h2, h3⟩ => q v F' H' g ⟨p, xs, h1, h2, allF_D h3⟩
theorem ev_lFD {σ : L2.St} {B F : Hp} {O : Own} {te : TE} {ds : List PyData} (h : Ev te σ F O (val (rL (rDf B)) ds)) : Ev te σ F O (val (rL rD) ds) := fun H k Q q => h H k Q fun v F' H' g ⟨p, xs, h1, h2, h3⟩ => q v F' H' g ⟨p, xs, h1, h2, allF_D h3⟩
end Lm
/-! Lm: readings that do not lean on some lists (L): what is new, what is kept when lists are changed. -/
namespace Lm
open PySem PySem.Spec PyProof.Rows L2
open Classical in
/-- F without the lists in L -/
noncomputable def exc (L : Addr → Prop) (F : Hp) : Hp := fun a => if L a then (match F a with
  | some (.lst _) => none
  | r => r) else F a
/-- L is known to be old -/
def OldL (L : Addr → Prop) (F : Hp) : Prop := ∀ a, L a → F a ≠ none
theorem OldL.mono {L : Addr → Prop} {F F' : Hp} (h : OldL L F) (e : Same F F') : OldL L F' := fun a l z => h a l (e.free z)
/-! ### instances -/
end Lm
/-! Lm: what leans on no list that was there at the entry (rE); promises of it, looks at what is owned, a def that changes told data. -/
namespace Lm
open PySem PySem.Spec PyProof.Rows L2
section
variable {α β γ : Type} {R : Rep α} {L : Addr → Prop} {σ : L2.St} {F B B' Fb Fc Fg F1 : Hp} {O : Own} {te : TE} {ta : TA} {K : PySem.W.Frag} {As as : List Ar} {p : Addr}
theorem all_map {S : Rep α} {F' : Hp} (f : ∀ a v, R.rp a v F → S.rp a v F') : ∀ {as : List α} {xs : List V}, AllB R as xs F → AllB S as xs F' := by
  have key : ∀ {as : List α} {xs : List V}, All2 R as xs F → All2 S as xs F' := by
    intro as
    induction as with
    | nil => intro xs h; cases xs with
      | nil => exact trivial
      | cons x xs => exact h.elim
    | cons a as ih => intro xs h; cases xs with
      | nil => exact h.elim
      | cons x xs => exact ⟨f _ _ h.1, ih h.2⟩
  intro as xs h
  exact ⟨key h.all, h.len⟩
/-! ### promises -/
/-! ### a look at what is owned -/
/-! ### what is kept when told data is changed -/
end
/-! ### a def that changes told data -/
end Lm
/-! Lm: x = [..] whose things want the bound. -/
namespace Lm
open PySem PySem.Spec PyProof.Rows L2
section
variable {n : Nat} {X : Cx} {pos : Pos} {elt tg iter : Expr} {ifs : List Expr} {scope : Scope} {own : List (Str × Nat)} {wi : TI} {g : TG} {tt : TT} {te : TE}
/-- behind the last turn: the list gets its name, the block's frame is let go -/
theorem post_store {pins : List (Addr × Obj)} {σ : L2.St} {G : Hp} {D : Ends} {i : Nat} {y : Str} {py : Pos} {L C : Addr} {z : Shared} {m : Str → Option Value} (nd : X.N.Nodup) (at_ : X.N[i]? = some y) (loc : X.env.scope.names.lookup y = some .local) (J : Inv X pins σ G z)
    (q : gName i (.ref L) σ G D.nx) (ns : z.heap.Ns C m) (fp : FpOk X pins G C) : compPost (model X.prog X.w) X.A X.xe (some (assign (.Name y py) X.env)) (fun _ z' => SP X pins D .next z') (.ref L) C (.ok .next) z := by
  have apart : ∀ a, (a = X.env.locals ∨ ∃ x, X.env.cells.lookup x = some a) → C ≠ a := fun a h e => by
    subst e
    rcases h with h | ⟨x, h⟩
    · exact fp.2.1 h
    · exact fp.2.2.2.2.1 x C h rfl
  refine wpAny_assign_Name (store_ok2 (v := V.ref L) J nd at_ (.inl loc) rfl (fun z2 J2 told => ?_) (.inr loc))
  obtain ⟨a, but, where_⟩ := told
  have ne : C ≠ a := apart a (where_.elim Or.inl fun h => Or.inr ⟨y, h⟩)
  exact ⟨m, ns.sameBut but ne, fun hp same => ⟨σ.set i (some (.ref L)), G, J2.turned (t' := z2.toks) (fun b o hb e => (same.2 b hb).trans e) fp.1 fp.2.1 fp.2.2.2.1 fp.2.2.2.2.1 fp.2.2.2.2.2, q⟩⟩
end
end Lm
/-! Lm: defs that may raise an own class, calls of such. -/
namespace Lm
open PySem PySem.Spec PyProof.Rows L2
/-- a def whose promise tells of what it raises, too -/
structure CalX (P : Program) (w : World) (K : PySem.W.Frag) (mg : Str → Option Value) (base : Heap) (k : Nat) (x : Str) (ps : List Str) (sp : Sp) : Prop where
  ex : ∃ f fd, FnOk P w K mg base (L2N.CX P w) k f fd ps sp ∧ mg x = some (.ref f) ∧ PySem.W.keepIn K (.ref f) = true ∧ Binds K fd ps [] ∧ (∀ (s : Shared) (us : List Value), us.length = ps.length → BindsTo s fd ⟨us, []⟩ (ps.zip us)) ∧ ∃ oc od osl, K.lookup f = some ⟨oc, od, .func fd, osl⟩
section
variable {P : Program} {w : World} {K : PySem.W.Frag} {mg : Str → Option Value} {base : Heap} {k : Nat} {x : Str} {ps : List Str} {sp : Sp}
theorem CalX.mono {sp' : Sp} (c : CalX P w K mg base k x ps sp) (h : ∀ vs H Q E, sp' vs H Q E → sp vs H Q E) : CalX P w K mg base k x ps sp' := by
  obtain ⟨f, fd, F, rest⟩ := c.ex
  exact ⟨f, fd, F.imp h, rest⟩
theorem calX_of {st : Stmt} {N : List Str} (D : Df K mg x st) (S : FnScope N ps (defScope st))
    (hb : ∀ (kV doc pm : Value) (an : Option Addr) (cdv ct : Value) (us : List Value), us.length = ps.length → bindArgs (PySem.W.fnOf x x (defArgs st) (defBody st) (defScope st) .none kV doc pm an cdv ct) ⟨us, []⟩ = pure (ps.zip us)) (len : ∀ vs H Q E, sp vs H Q E → vs.length = ps.length)
    (body : ∀ (f : Addr) (cdv : Value) (A : Around) (outer : List Env) (s : Shared) (H : Hp) (vs : List V) (Q : VK) (E : XK), Room k (A.deeper (envOfC x (defScope st) s.heap.objs.size f cdv)) → sp vs H Q E →
      ∃ t, PSs (cxOf (L2N.CX P w) P w K mg base N x (defScope st) f cdv A outer s H E) (defBody st) t ∧ t { nx := fun _ G => Q .non G, rt := Q } (start N vs) H) :
    CalX P w K mg base (k + 1) x ps sp := by
  obtain ⟨f, fd, F, hm⟩ := D.ex
  refine ⟨f, fd, F.ok S len (fun cdv A outer s H vs Q E hr h => body f cdv A outer s H vs Q E hr h), hm, F.kp, F.bindsN hb, F.bindsA hb, ?_⟩
  obtain ⟨oc, od, dV, kV, doc, pm, an, cdv, ct, osl, _, lk, _, _, _⟩ := F.ex
  exact ⟨oc, od, osl, lk⟩
/-- in such a body: what is raised goes to the caller -/
theorem takesX {N : List Str} {scope : Scope} {f : Addr} {cd : Value} {A : Around} {outer : List Env} {s : Shared} {H : Hp} {E : XK} : L2N.Takes (cxOf (L2N.CX P w) P w K mg base N x scope f cd A outer s H E) (fun cls d _ G => E cls d G) := L2N.takes_of rfl rfl rfl rfl
theorem ownX {N : List Str} {scope : Scope} {f : Addr} {cd : Value} {A : Around} {outer : List Env} {s : Shared} {H : Hp} {E : XK} : PassesOwn (model P w) (cxOf (L2N.CX P w) P w K mg base N x scope f cd A outer s H E).A (cxOf (L2N.CX P w) P w K mg base N x scope f cd A outer s H E).env (cxOf (L2N.CX P w) P w K mg base N x scope f cd A outer s H E).xe := PassesOwn.leaving
end
section
variable {X : Cx} {k : Nat} {ps : List Str} {sp : Sp} {x : Str} {p pos : Pos} {e : Expr} {es : List Expr} {t : TA} {W : WX}
theorem pe_calX (c : CalX X.prog X.w X.K X.mg X.base k x ps sp) (tk : L2N.Takes X W) (hr : Room k X.A) (hg : Gl X x) (ha : PA X (e :: es) t) (hdb : (x == ("__debug__" : Str)) = false := by decide)
    (he : starEach (e :: es) X.env = (false, eval e X.env) :: starEach es X.env := by rfl) (hpl : (backTo pos (starEach es X.env)).any (·.1) = false := by rfl) : PE X (.Call (.Name x p) (e :: es) [] pos) (tCallS sp (WE W) t) := by
  obtain ⟨f, fd, F, hm, hk, hb, _⟩ := c.ex
  exact pe_callS F hr hg hm hk hb (L2N.passAt tk) ha hdb he hpl
end
/-! ### promises and judgements -/
/-- an own class, as a value -/
abbrev clsV (K : PySem.W.Frag) (c : Str) : Value := .ref (He.ga K c)
def spX {α : Type} (K : PySem.W.Frag) (R : Rep α) (P : List Ar → Except Str α → Prop) : Sp := fun vs H Q E => ∃ F As r, P As r ∧ Same F H ∧ AllA As vs F H ∧
  (∀ a, r = .ok a → ∀ v F' H', Gr F H F' H' → (val R a).p v F' H' → Q v H') ∧ (∀ c, r = .error c → ∀ H', Same H H' → E (clsV K c) none H')
/-- an expression that may raise -/
def EvX {α : Type} (K : PySem.W.Frag) (te : TE) (W : WX) (σ : L2.St) (F : Hp) (O : Own) (R : Rep α) (r : Except Str α) : Prop := ∀ H, Ok F O H → ∀ Q : VK,
  (∀ a, r = .ok a → ∀ v F' H', Gr F H F' H' → R.rp a v F' → Q v H') → (∀ c, r = .error c → ∀ F' H', Gr F H F' H' → W (clsV K c) none σ H') → te σ H Q
/-- the way out -/
def Xt (K : PySem.W.Frag) (Z : Bs) (W : WX) (c : Str) (σ : L2.St) (F : Hp) (O : Own) : Prop := ∀ H, At Z F O H → W (clsV K c) none σ H
section
variable {α β : Type} {R : Rep α} {S : Rep β} {K : PySem.W.Frag} {W : WX} {σ : L2.St} {F B : Hp} {O : Own} {te : TE} {ta : TA} {as : List Ar} {r : Except Str α} {Z : Bs} {D : Ends}
theorem gr_here {F H H' : Hp} (e : Same F H) (h : Same H H') : Gr F H F H' := ⟨Same.refl _, h, e.trans h, fun _ n _ => n⟩
theorem evX_call {P : List Ar → Except Str α → Prop} (h : EvA ta σ F O as) (hp : P as r) : EvX K (tCallS (spX K R P) (WE W) ta) W σ F O R r := fun H k Q q e =>
  h H k _ fun vs F1 H1 g1 b => ⟨F1, as, r, hp, g1.fh, b, fun a' e' v F2 H2 g2 c => q a' e' v F2 H2 (g1.trans g2) c, fun c e' H2 s => e c e' F1 H2 (g1.trans (gr_here g1.fh s))⟩
/-- raise C(..) -/
theorem sx_raise0 {c : Str} (ke : Xt K Z W c σ F O) : Sx Z (fun _ σ H => W (clsV K c) none σ H) D σ F O := fun H at0 => ke H at0
end
end Lm
/-! Lm: a def that is handed a caught error: it may ask for its class. -/
namespace Lm
open PySem PySem.Spec PyProof.Rows L2
/-- an error of the class D stands at a, pinned -/
structure Held (X : Cx) (D a : Addr) : Prop where
  at_ : ∃ oe vs, (a, oe) ∈ X.pn ∧ L2N.Zn (.ref D) none oe ∧ oe.data = .fields vs
theorem call_isH {X : Cx} {a D : Addr} (C : ExcC X.K D) (h : Held X D a) : CallR X (.builtin "isinstance") (rIsE X.K D a) := fun pins s σ H xs us Q I r told => by
  obtain ⟨c, cv, b, rfl, hcv, e, q⟩ := told
  cases r with
  | cons rx rr =>
    cases rr with
    | cons rt rr =>
      cases rr
      cases rx
      have ec := hcv _ rt
      subst ec
      obtain ⟨oe, vs, m, z, d⟩ := h.at_
      have g2 := (I.pin (a, oe) (List.mem_append_left _ m)).1
      have J : PySem.W.InstAt s.heap a oe D none := by
        obtain ⟨oc, od, oda, osl⟩ := oe
        obtain ⟨z1, z2, _⟩ := z
        dsimp only at z1 z2 d
        subst z1 z2 d
        exact ⟨g2, rfl, rfl, trivial⟩
      exact PySem.W.kia_one (PySem.W.handS_kitx_exc C.hg C.hk C.hs C.hd C.ha C.hn C.ht C.hm) I.kIn J e (fun z => nomatch z) fun tk => ⟨.bl b, H, I.kept (t' := tk) fun _ _ z => z, rfl, q⟩
/-- an error's object, of the class D -/
def IsErr (D : Addr) (p : Addr × Obj) : Prop := L2N.Zn (.ref D) none p.2 ∧ ∃ vs, p.2.data = .fields vs
/-- a def keeping a promise when it is handed an error, its class told -/
structure FnOkE (P : Program) (w : World) (K : PySem.W.Frag) (mg : Str → Option Value) (base : Heap) (k : Nat) (f : Addr) (fd : FuncData) (ps : List Str) (sp : Addr → Sp) : Prop where
  len : ∀ D vs H Q E, sp D vs H Q E → vs.length = ps.length
  run : ∀ (A : Around) (outer : List Env) (s : Shared) (H : Hp) (args : Args) (us : List Value) (p : Addr × Obj) (D : Addr) (vs : List V) (Q : VK) (E : XK), IsErr D p → L2H.Hot1 A p → L2H.PinOk outer H s p → L2H.RoomH k A → Env0 P w K mg base A outer s H → BindsTo s fd args (ps.zip us) → Vals (.ref p.1 :: vs) us → sp D (.ref p.1 :: vs) H Q E → codeAny (model P w) A (.call (.ref f) args) (CR CX0 outer P w H s Q E) s
structure CalE (P : Program) (w : World) (K : PySem.W.Frag) (mg : Str → Option Value) (base : Heap) (k : Nat) (x : Str) (ps : List Str) (sp : Addr → Sp) : Prop where
  ex : ∃ f fd, FnOkE P w K mg base k f fd ps sp ∧ mg x = some (.ref f) ∧ PySem.W.keepIn K (.ref f) = true ∧ Binds K fd ps []
theorem calE_of {P : Program} {w : World} {K : PySem.W.Frag} {mg : Str → Option Value} {base : Heap} {k : Nat} {x : Str} {st : Stmt} {N ps : List Str} {sp : Addr → Sp} (D : Df K mg x st) (S : FnScope N ps (defScope st))
    (hb : ∀ (kV doc pm : Value) (an : Option Addr) (cdv ct : Value) (us : List Value), us.length = ps.length → bindArgs (PySem.W.fnOf x x (defArgs st) (defBody st) (defScope st) .none kV doc pm an cdv ct) ⟨us, []⟩ = pure (ps.zip us)) (len : ∀ D vs H Q E, sp D vs H Q E → vs.length = ps.length)
    (body : ∀ (f : Addr) (cdv : Value) (A : Around) (outer : List Env) (s : Shared) (H : Hp) (p : Addr × Obj) (C : Addr) (vs : List V) (Q : VK) (E : XK), Held (L2H.cxH CX0 P w K mg base N x (defScope st) f cdv A outer s H E p).nox C p.1 → L2H.HotC (L2H.cxH CX0 P w K mg base N x (defScope st) f cdv A outer s H E p).nox → L2H.RoomH k (A.deeper (envOfC x (defScope st) s.heap.objs.size f cdv)) → sp C (.ref p.1 :: vs) H Q E →
      ∃ t, PSs (L2H.cxH CX0 P w K mg base N x (defScope st) f cdv A outer s H E p).nox (defBody st) t ∧ t { nx := fun _ G => Q .non G, rt := Q } (start N (.ref p.1 :: vs)) H) :
    CalE P w K mg base (k + 1) x ps sp := by
  obtain ⟨f, fd, F, hm⟩ := D.ex
  refine ⟨f, fd, ⟨len, fun A outer s H args us p C vs Q E he hot hpin hr e0 hbd r hsp => ?_⟩, hm, F.kp, F.bindsN hb⟩
  obtain ⟨oc, od, dV, kV, doc, pm, an, cdv, ct, osl, rfl, lk, hcd, _, _⟩ := F.ex
  have hl := len _ _ _ _ _ hsp
  have KX : K.In s.heap := e0.mod.kin.keeps fun b o e => (e0.bs b o e).1
  have lim : s.heap.NoLimit := e0.mod.nolimit.keeps fun b o e => (e0.bs b o e).1
  have hk : ∀ y ∈ ps.zip us, (defScope st).names.lookup y.1 = some .local ∨ ((defScope st).names.lookup y.1 = some .cell ∧ ((cellsFrom (s.heap.objs.size + 1) (defScope st).names []).lookup y.1).isSome = true) := fun ⟨m, v⟩ hy => (S.par m (List.of_mem_zip hy).1).elim .inl fun q => .inr ⟨q, PySem.W.cellsFrom_some _ _ _ (.inl q)⟩
  refine codeAny_call_function hr.depth (KX _ _ lk) rfl S.co S.gen rfl (PySem.W.codeRec_of KX hcd) (hbd _ _ _ _ ?_)
  refine wpAny_mono (wpAny_newFunctionEnv_cells (Q := fun env z => env = _ ∧ InCallC s env.locals (bindL env.kindOf (ps.zip us) fun _ => none) env.cells (bindC env.kindOf (ps.zip us) fun _ => none) z) S.kind hk fun env he z x => ⟨he, x⟩) (fun env z hz => ?_) fun _ _ z => z
  obtain ⟨rfl, x⟩ := hz
  refine ⟨lim.keeps x.toInCall.keep, codeAny_func ?_⟩
  obtain ⟨t, ht, hq⟩ := body f cdv A outer s H p C vs Q E ⟨p.2, he.2.choose, List.mem_singleton.mpr rfl, he.1, he.2.choose_spec⟩ ⟨p, ⟨hot.1, hot.2⟩, List.mem_singleton.mpr rfl⟩ (hr.deeper _) hsp
  have J := L2H.inv_startH (CX := CX0) (E := E) S hpin e0 hl r x
  refine wpAny_mono (ht.nox.run [] z (start N (.ref p.1 :: vs)) H _ J hq) (fun fl y hs => ?_) fun e y hs => hs
  cases fl with
  | ret u => obtain ⟨v, σ', G, J2, rv, q⟩ := hs; exact ⟨v, G, J2.os, J2.bare, J2.base, J2.hok, rv, q⟩
  | next => obtain ⟨σ', G, J2, q⟩ := hs; exact ⟨V.non, G, J2.os, J2.bare, J2.base, J2.hok, rfl, q⟩
  | brk => obtain ⟨_, _, _, q⟩ := hs; exact q.elim
  | cont => obtain ⟨_, _, _, q⟩ := hs; exact q.elim
/-- f(e) in an except suite, e its error -/
theorem pe_calE {X : Cx} {k : Nat} {ps : List Str} {sp : Addr → Sp} {x : Str} {p pos : Pos} {e : Expr} {i : Nat} {a D : Addr} {oe : Obj} {pn : List (Addr × Obj)} (c : CalE X.prog X.w X.K X.mg X.base k x ps sp) (hr : Room k X.A) (hg : Gl X x)
    (hz : L2N.Zn (.ref D) none oe) (hd : ∃ vs, oe.data = .fields vs) (he : PE (X.suite a ((a, oe) :: pn)) e (tVar i)) (hdb : (x == ("__debug__" : Str)) = false := by decide)
    (hst : starEach [e] X.env = (false, eval e X.env) :: starEach [] X.env := by rfl) (hpl : (backTo pos (starEach [] X.env)).any (·.1) = false := by rfl) :
    PE (X.suite a ((a, oe) :: pn)) (.Call (.Name x p) [e] [] pos) (fun σ H Q => σ[i]? = some (some (.ref a)) ∧ sp D [.ref a] H Q E0) := by
  refine ⟨fun pins s σ H Q I told => ?_⟩
  obtain ⟨hi, q⟩ := told
  obtain ⟨f, fd, F, hm, hk, hb⟩ := c.ex
  refine wpAny_Call_Name_kw (ld_glob (X := X.suite a ((a, oe) :: pn)) I hg hm ?_ hdb)
  have first : PA (X.suite a ((a, oe) :: pn)) [e] (tCons (tVar i) tNil) := pa_cons (hs := hst) he pa_nil
  refine PySem.W.callWith_K (h₀ := X.base) I.ok.mod.kin hk (wpAny_mono (first.run pos pins s σ H (fun vs G => vs = [V.ref a] ∧ G = H) I ⟨.ref a, hi, rfl, rfl⟩) (fun us z hz2 => ?_) fun _ _ z => z) hst hpl
  obtain ⟨vs, G, J, r, rfl, rfl⟩ := hz2
  refine ⟨J.kIn, ?_⟩
  have hl : us.length = ps.length := by rw [← r.length]; exact F.len _ _ _ _ _ q
  obtain ⟨g1, g2, g3, g4, g5⟩ := J.pin (a, oe) (List.mem_append.mpr (.inl List.mem_cons_self))
  have er : L2H.PinOk (X.suite a ((a, oe) :: pn)).stack G z (a, oe) := ⟨g1, g2, fun m => by
    rcases List.mem_cons.mp (J.stkSub a m) with h | h
    · exact g3 h
    · exact g4 h, g5⟩
  refine wpAny_call (codeAny_mono (F.run _ _ z G ⟨us, []⟩ us (a, oe) D [] Q E0 ⟨hz, hd⟩ ⟨rfl, hd.choose, hd.choose_spec, hz.2.2 _ hd.choose_spec⟩ er ⟨hr.dp, hr.un⟩ J.env0 (by have := hb z us J.kIn (by rw [List.append_nil]; exact hl); rw [List.append_nil] at this; exact this) r q) fun o y hq => ?_)
  cases o with
  | error e => exact hq.elim
  | ok fl =>
    cases fl with
    | ret u => exact J.after hq
    | next => exact hq.elim
    | brk => exact hq.elim
    | cont => exact hq.elim
end Lm
/-! Lm: raise of an own class, try .. except .. as, the class of what is caught. -/
namespace Lm
open PySem PySem.Spec PyProof.Rows L2
/-- an own class of errors -/
structure ExOk (K : PySem.W.Frag) (mg : Str → Option Value) (c : Str) : Prop where
  gl : mg c = some (clsV K c)
  ex : PySem.W.excIn K (He.ga K c) He.veBase "ValueError.__new__" = true
  kp : PySem.W.keepIn K (clsV K c) = true
  sb : PySem.W.subIn K (clsV K c) (.type "BaseException") = some true
  ty : PySem.W.typeIn K (clsV K c) = some (.type "type")
theorem exOk_of {K : PySem.W.Frag} {mg : Str → Option Value} {c : Str} (gl : mg c = some (clsV K c)) (h : (He.Fa.exc c).ok K = true) : ExOk K mg c := by
  obtain ⟨h1, h2, h3, h4⟩ := He.exc_ok h
  exact ⟨gl, h1, h2, h3, h4⟩
section
variable {X : Cx} {K : PySem.W.Frag} {W : WX} {c : Str} {p pos pos' : Pos}
theorem ExOk.raises {mg : Str → Option Value} (hK : X.K = K) (o : ExOk K mg c) : Raises X (clsV K c) := raises_own (by rw [hK]; exact o.sb) (by rw [hK]; exact o.ty)
/-- C() -/
theorem pmk_bare (hK : X.K = K) (o : ExOk K X.mg c) (hg : Gl X c) (hdb : (c == ("__debug__" : Str)) = false := by decide) : L2N.PMk X (.Call (.Name c p) [] [] pos) (fun _ H Q => Q (clsV K c) none H) := fun pins s σ H Q I told => by
  subst hK
  refine wpAny_Call_Name_kw (ld_glob I hg o.gl (PySem.W.callWith_K0 I.kIn o.kp ?_) hdb)
  show wpAny _ _ (call (clsV X.K c) []) _ _ _
  obtain ⟨bm, N, nm, qn, bs, hdct, sn, sub, ab, col, dd, k0, k1, k2, k3, k5, mN, hC, hN, hni, T⟩ := exc_obj I.kIn o.ex
  exact wpAny_call_exc_subT PySem.F.excBase_ValueError T hC hN hni (fun h' e made => L2N.mk_of I made (o.raises rfl) told (I.hok.gone made.new)) (Nat.zero_le _)
theorem ps_raiseB (calm : X.calm = true) (tk : L2N.Takes X W) (hK : X.K = K) (o : ExOk K X.mg c) (hg : Gl X c) (hdb : (c == ("__debug__" : Str)) = false := by decide) : PS X (.Raise (some (.Call (.Name c p) [] [] pos)) none pos') (fun _ σ H => W (clsV K c) none σ H) := L2N.ps_raise calm tk (pmk_bare hK o hg hdb)
end
/-! ### try .. except C as e: .. -/
section
variable {K : PySem.W.Frag} {Z : Bs} {D : Ends} {σ : L2.St} {F : Hp} {O : Own} {c : Str} {cv : Value} {i : Nat} {ts : Addr → Value → Option Addr → TS} {Wout : WX}
/-- the ends of a suite: the error's name goes -/
abbrev gone (i : Nat) (D : Ends) : Ends := { nx := fun σ' H' => D.nx (σ'.set i none) H', rt := D.rt, bk := fun σ' H' => D.bk (σ'.set i none) H', ct := fun σ' H' => D.ct (σ'.set i none) H' }
theorem xt_as (h : PySem.W.exmOne K (clsV K c) cv = some true) (k : ∀ a, Sx Z (ts a (clsV K c) none) (gone i D) (σ.set i (some (.ref a))) F O) : Xt K Z (wAs K cv i ts Wout D) c σ F O := fun H at0 =>
  ⟨true, h, fun _ a _ => k a H at0, fun e => by cases e⟩
end
/-! ### the class of what is caught -/
/-- isinstance of the class cv (own or built-in), asked of errors of the told classes -/
structure EIsOk (K : PySem.W.Frag) (cv : Value) (T : List (Str × Bool)) : Prop where
  at_ : ∀ p ∈ T, ExcC K (He.ga K p.1) ∧ PySem.W.kitOne K (clsV K p.1) cv = some p.2
def chkExcC (K : PySem.W.Frag) (c : Str) : Bool := He.eqO (PySem.W.findIn K (clsV K c) "__getattribute__") (some (some (.builtin "BaseException.__getattribute__"))) && (He.eqO (PySem.W.findIn K (clsV K c) "__getattr__") (some none) && (decide (PySem.W.subIn K (clsV K c) (.type "BaseException") = some true) && (PySem.W.hasDictIn K (He.ga K c) &&
  (He.eqO (PySem.W.findIn K (clsV K c) "__class__") (some (some (.builtin "object.__class__"))) && (He.eqO (PySem.W.specialIn K (.builtin "object.__class__") "__get__") (some (some (.builtin "getset_descriptor.__get__"))) && (decide (PySem.W.takesIn K (.builtin "object.__class__") = some true) && decide (PySem.W.mroIn K (He.ga K c) (.type "object") = some true)))))))
theorem excC_of {K : PySem.W.Frag} {c : Str} (h : chkExcC K c = true) : ExcC K (He.ga K c) := by
  obtain ⟨a1, h⟩ := He.ba h
  obtain ⟨a2, h⟩ := He.ba h
  obtain ⟨a3, h⟩ := He.ba h
  obtain ⟨a4, h⟩ := He.ba h
  obtain ⟨a5, h⟩ := He.ba h
  obtain ⟨a6, h⟩ := He.ba h
  obtain ⟨a7, a8⟩ := He.ba h
  exact ⟨He.eqO_ok a1, He.eqO_ok a2, of_decide_eq_true a3, a4, He.eqO_ok a5, He.eqO_ok a6, of_decide_eq_true a7, of_decide_eq_true a8⟩
def chkEIs (K : PySem.W.Frag) (cv : Value) (T : List (Str × Bool)) : Bool := T.all fun p => chkExcC K p.1 && decide (PySem.W.kitOne K (clsV K p.1) cv = some p.2)
theorem eIs_of {K : PySem.W.Frag} {cv : Value} {T : List (Str × Bool)} (h : chkEIs K cv T = true) : EIsOk K cv T := ⟨fun p m => by
  obtain ⟨h1, h2⟩ := He.ba (List.all_eq_true.mp h p m)
  exact ⟨excC_of h1, of_decide_eq_true h2⟩⟩
theorem cb_isE {K : PySem.W.Frag} {T : List (Str × Bool)} {c : Str} {cv : Value} {a : Addr} {b : Bool} {x : V} (ok : EIsOk K cv T) (h : T.lookup c = some b) (hx : ∀ u, RelV x u → u = cv) : Cb (rIsE K (He.ga K c) a) [val (rA a) (), val (rV x) ()] (val rB b) := cb_sc flB fun vs F H Q e al q => by
  obtain ⟨v, w, rfl, h1, h2⟩ := alla2 al
  have h1 : v = .ref a := h1
  have h2 : w = x := h2
  subst h1 h2
  exact ⟨w, cv, b, rfl, hx, (ok.at_ (c, b) (lookup_mem h)).2, q⟩
/-- what a def promises that is handed an error of the class c, nothing else, and gives a new list -/
def spK {α : Type} (K : PySem.W.Frag) (R : Rep α) (P : Str → List α → Prop) : Addr → Sp := fun D vs H Q _ => ∃ c F a bs, P c bs ∧ D = He.ga K c ∧ ExcC K (He.ga K c) ∧ Same F H ∧ vs = [.ref a] ∧ ∀ p xs F' H', Gr F H F' H' → H p = none → F' p = none → H' p = some (.lst xs) → AllB R bs xs F' → Q (.ref p) H'
/-- its call in a suite -/
def tKind (sp : Addr → Sp) (i : Nat) (a : Addr) (cls : Value) (d : Option Addr) : TE := fun σ H Q => ∃ C, cls = .ref C ∧ d = none ∧ σ[i]? = some (some (.ref a)) ∧ sp C [.ref a] H Q E0
theorem pe_kind {X : Cx} {k : Nat} {ps : List Str} {sp : Addr → Sp} {x : Str} {p pos : Pos} {e : Expr} {i : Nat} {a : Addr} {cls : Value} {d : Option Addr} {oe : Obj} {pn : List (Addr × Obj)} (c : CalE X.prog X.w X.K X.mg X.base k x ps sp) (hr : Room k X.A) (hg : Gl X x)
    (hz : L2N.Zn cls d oe) (hd : ∃ vs, oe.data = .fields vs) (he : PE (X.suite a ((a, oe) :: pn)) e (tVar i)) (hdb : (x == ("__debug__" : Str)) = false := by decide)
    (hst : starEach [e] X.env = (false, eval e X.env) :: starEach [] X.env := by rfl) (hpl : (backTo pos (starEach [] X.env)).any (·.1) = false := by rfl) :
    PE (X.suite a ((a, oe) :: pn)) (.Call (.Name x p) [e] [] pos) (tKind sp i a cls d) := by
  refine ⟨fun pins s σ H Q I told => ?_⟩
  obtain ⟨C, rfl, rfl, hi, q⟩ := told
  exact (pe_calE c hr hg hz hd he hdb hst hpl).run pins s σ H Q I ⟨hi, q⟩
theorem evN_kind {α : Type} {R : Rep α} {K : PySem.W.Frag} {P : Str → List α → Prop} {σ : L2.St} {F : Hp} {O : Own} {c : Str} {a : Addr} {i : Nat} {bs : List α} (ec : ExcC K (He.ga K c)) (hi : σ[i]? = some (some (.ref a))) (hp : P c bs) : EvN (tKind (spK K R P) i a (clsV K c) none) σ F O R bs := fun H k Q q =>
  ⟨He.ga K c, rfl, rfl, hi, c, F, a, bs, hp, rfl, ec, k.ex, rfl, fun p xs F' H' g n f x r => q p xs F' H' g n f x r⟩
end Lm
/-! Lm: an empty dict as data, str of a whole number. -/
namespace Lm
open PySem PySem.Spec PyProof.Rows L2
theorem ev_dnew {σ : L2.St} {F : Hp} {O : Own} : Ev tDNewK σ F O (val rD (.dict [])) := fun H k Q q => fun p hp => by
  have hf := free_of k.ex hp
  refine q _ (upd F p (.dK [])) (upd H p (.dK [])) ⟨same_new hf, same_new hp, fun a u e => ?_, fun a h1 h2 => ?_⟩ ?_
  · by_cases z : a = p
    · subst z; rw [upd_same] at e ⊢; exact e
    · rw [upd_ne z] at e ⊢; exact k.ex a u e
  · rw [upd_ne (fun z => h2 (by rw [z]; exact hp))]; exact h1
  · show rpD (.dict []) _ _
    simp only [rpD]
    exact ⟨trivial, p, rfl, upd_same⟩
/-! ### mirrors of what may raise -/
/-- the errors that a class catches -/
structure CatchOk (K : PySem.W.Frag) (mg : Str → Option Value) (d : Str) (T : List (Str × Bool)) : Prop where
  gl : mg d = some (clsV K d)
  at_ : ∀ p ∈ T, PySem.W.exmOne K (clsV K p.1) (clsV K d) = some p.2 ∧ ExcC K (He.ga K p.1)
theorem CatchOk.to {K : PySem.W.Frag} {mg : Str → Option Value} {d : Str} {T : List (Str × Bool)} {c : Str} {b : Bool} (o : CatchOk K mg d T) (h : T.lookup c = some b) : PySem.W.exmOne K (clsV K c) (clsV K d) = some b := (o.at_ (c, b) (lookup_mem h)).1
theorem CatchOk.ec {K : PySem.W.Frag} {mg : Str → Option Value} {d : Str} {T : List (Str × Bool)} {c : Str} {b : Bool} (o : CatchOk K mg d T) (h : T.lookup c = some b) : ExcC K (He.ga K c) := (o.at_ (c, b) (lookup_mem h)).2
def tTry (tb : WX → TS) (W : Ends → WX) : TS := fun D σ H => tb (W D) D σ H
theorem sx_try {tb : WX → TS} {W : Ends → WX} {Z : Bs} {D : Ends} {σ : L2.St} {F : Hp} {O : Own} (h : Sx Z (tb (W D)) D σ F O) : Sx Z (tTry tb W) D σ F O := h
theorem takes_none {X : Cx} : L2N.Takes X (fun _ _ _ _ => False) := fun u s ⟨_, _, _, _, _, _, _, _, _, _, _, _, _, _, _, _, w⟩ => w.elim
theorem ps_try {X : Cx} {K : PySem.W.Frag} {d n : Str} {i : Nat} {body suite : List Stmt} {b₀ : Stmt} {np pos pos' : Pos} {tb : WX → TS} {ts : Addr → Value → Option Addr → TS} {T : List (Str × Bool)} (hK : X.K = K) (hs : X.stack = X.env :: X.outer) (hf : X.env.frame = some X.env.locals) (hN : X.N.Nodup) (hi : X.N[i]? = some n) (hln : X.env.kindOf n = some .local)
    (o : CatchOk K X.mg d T) (hg : Gl X d) (hb : ∀ (W : WX) (pn : List (Addr × Obj)) (xe : Value → Shared → Prop), L2N.Takes (X.tr pn xe) W → PassesOwn (model X.prog X.w) X.A X.env xe → PSs (X.tr pn xe) body (tb W))
    (hsu : ∀ (a : Addr) (oe : Obj) (cls : Value) (dx : Option Addr) (pn : List (Addr × Obj)), L2N.Zn cls dx oe → (∃ vs, oe.data = .fields vs) → PSs (X.suite a ((a, oe) :: pn)) (b₀ :: suite) (ts a cls dx)) (hdb : (d == ("__debug__" : Str)) = false := by decide) :
    PS X (.Try body [.ExceptHandler (some (.Name d np)) (some n) (b₀ :: suite) pos'] [] [] pos) (tTry tb fun D => wAs K (clsV K d) i ts (fun _ _ _ _ => False) D) := by
  subst hK
  exact L2N.ps_try_as hs hf hN hi hln ⟨hg, hdb, .inl o.gl⟩ takes_none hb hsu
theorem rt_gone {Z : Bs} {D : Ends} {v : V} {F : Hp} {O : Own} {i : Nat} (h : Rt Z D v F O) : Rt Z (gone i D) v F O := h
end Lm
/-! Lm: a list of any things that a def is handed and changes; lists held in pairs; a for over a display of two pairs. -/
namespace Lm
open PySem PySem.Spec L2
/-! ### judgements: what is owned behind is told by a word -/
end Lm
/-! Lm: lambdas that capture nothing: made within a def, handed on, called. -/
namespace Lm
open PySem PySem.Spec PyProof.Rows L2 LamX NdefX
/-! ### the reading -/
end Lm
/-! Lm: chains of three comparisons; x or y; one method of one class behind an effect; texts told as data; lists in tuples in an owned list. -/
namespace Lm
open PySem PySem.Spec PyProof.Rows L2
/-! ### a op b op c op d -/
/-! ### an owned list of tuples, the last of each an owned list -/
section
variable {α β γ : Type}
def Nst (R1 : Rep α) (R2 : Rep β) (R3 : Rep γ) : List (α × β × List γ) → List V → Own → Hp → Prop
  | [], [], [], _ => True
  | a :: as, x :: xs, (q, o) :: inn, F => (∃ t u w ys, x = .ref t ∧ F t = some (.tup [u, w, .ref q]) ∧ R1.rp a.1 u F ∧ R2.rp a.2.1 w F ∧ o = .lst ys ∧ AllB R3 a.2.2 ys F) ∧ Nst R1 R2 R3 as xs inn F
  | _, _, _, _ => False
structure NstB (R1 : Rep α) (R2 : Rep β) (R3 : Rep γ) (as : List (α × β × List γ)) (xs : List V) (inn : Own) (F : Hp) : Prop where
  all : Nst R1 R2 R3 as xs inn F
  len : as.length ≤ limL
variable {R1 : Rep α} {R2 : Rep β} {R3 : Rep γ} {F F' : Hp} {as : List (α × β × List γ)} {xs : List V} {inn : Own}
theorem Nst.mono (e : Same F F') : ∀ {as : List (α × β × List γ)} {xs : List V} {inn : Own}, Nst R1 R2 R3 as xs inn F → Nst R1 R2 R3 as xs inn F'
  | [], [], [], _ => trivial
  | a :: as, x :: xs, (q, o) :: inn, ⟨⟨t, u, w, ys, h1, h2, h3, h4, h5, h6⟩, h⟩ => ⟨⟨t, u, w, ys, h1, e _ _ h2, R1.mono e h3, R2.mono e h4, h5, h6.mono e⟩, Nst.mono e h⟩
  | [], [], _ :: _, h => h.elim
  | [], _ :: _, [], h => h.elim
  | [], _ :: _, _ :: _, h => h.elim
  | _ :: _, [], [], h => h.elim
  | _ :: _, [], _ :: _, h => h.elim
  | _ :: _, _ :: _, [], h => h.elim
theorem NstB.mono (e : Same F F') (h : NstB R1 R2 R3 as xs inn F) : NstB R1 R2 R3 as xs inn F' := ⟨h.all.mono e, h.len⟩
/-! what is owned, in another order -/
variable {Z : Bs} {D : Ends} {σ : L2.St} {O pre : Own} {ta tb tc te : TE} {ts : TS} {K : PySem.W.Frag} {i j : Nat} {p : Addr}
theorem own_nd {Z : Bs} {H : Hp} (k : At Z F (pre ++ O) H) : (∀ q ∈ O, F q.1 = none) ∧ (O.map (·.1)).Nodup := ⟨fun q m => (k.ok.own q (List.mem_append_right _ m)).1, by
  have := k.nd
  rw [List.map_append] at this
  exact (List.nodup_append.mp this).2.1⟩
end
end Lm
/-! Lm: what is seen of the head, at a written list of addresses (the search for them is long where a program is large). -/
namespace Lm
open PySem PySem.Spec PyProof.Rows L2 PySem.W
end Lm
/-! Lm: a name that is None or an own list. -/
namespace Lm
open PySem PySem.Spec L2
def OptB {α : Type} (R : Rep α) (m : Option (List α)) (v : V) (sg : Own) (F : Hp) : Prop := match m with
  | none => v = .non ∧ sg = []
  | some as => ∃ p xs, v = .ref p ∧ sg = [(p, .lst xs)] ∧ AllB R as xs F
section
variable {α β : Type} {R : Rep α} {Z : Bs} {D : Ends} {σ : L2.St} {F F' : Hp} {O pre sg : Own} {te : TE} {ts : TS} {A : Ar} {K : PySem.W.Frag} {i j : Nat} {m : Option (List α)} {v : V}
theorem OptB.mono (e : Same F F') (h : OptB R m v sg F) : OptB R m v sg F' := by
  cases m with
  | none => exact h
  | some as =>
    obtain ⟨p, xs, h1, h2, h3⟩ := h
    exact ⟨p, xs, h1, h2, h3.mono e⟩
end
/-! ### min of three -/
end Lm
/-! Lm: a list of lists, each of which stands in the last thing of the one ahead: stack = stack[:n]; stack[-1].append((s, d, inner)); stack.append(inner). -/
namespace Lm
open PySem PySem.Spec L2
/-- what is open, innermost first: the things ahead, the open thing's sign and words; and the innermost list's things -/
abbrev Pst : Type := List (List PyData × List Nat × PyData) × List PyData
def PO (p0 : Addr) : List (List PyData × List Nat × PyData) → Addr → List Addr → Own → Hp → Prop
  | [], a, [], [], _ => a = p0
  | (ds, sg, w) :: P, a, b :: as, (b', o) :: O, F => (b' = b ∧ ∃ ys t vs vp, o = .lst (ys ++ [.ref t]) ∧ AllB rD ds ys F ∧ ds.length + 1 ≤ limL ∧ F t = some (.tup [vs, vp, .ref a]) ∧ rS.rp sg vs F ∧ rpD w vp F) ∧ PO p0 P b as O F
  | _, _, _, _, _ => False
def PthB (s : Pst) (p0 : Addr) (v : V) (sg : Own) (F : Hp) : Prop := ∃ ps a as xs O', v = .ref ps ∧ sg = (ps, .lst ((a :: as).reverse.map V.ref)) :: (a, .lst xs) :: O' ∧ AllB rD s.2 xs F ∧ PO p0 s.1 a as O' F ∧ as.length = s.1.length ∧ s.1.length + 1 ≤ limL
/-- between the two statements -/
def PthC (s : Pst) (sgn : List Nat) (w : PyData) (q p0 : Addr) (v : V) (sg : Own) (F : Hp) : Prop := ∃ ps a as xs O' t vs vp, v = .ref ps ∧ sg = (ps, .lst ((a :: as).reverse.map V.ref)) :: (a, .lst (xs ++ [.ref t])) :: O' ∧ AllB rD s.2 xs F ∧ F t = some (.tup [vs, vp, .ref q]) ∧ rS.rp sgn vs F ∧ rpD w vp F ∧ PO p0 s.1 a as O' F ∧ as.length = s.1.length
section
variable {α : Type} {R : Rep α} {Z : Bs} {D : Ends} {σ : L2.St} {F F' : Hp} {O pre X sgm : Own} {te ta tl : TE} {to th : TO} {ts : TS} {A : Ar} {K : PySem.W.Frag} {i j jq : Nat} {s s' : Pst} {v : V} {p0 q : Addr} {H : Hp} {sg : List Nat} {w : PyData}
theorem PO.mono (e : Same F F') : ∀ {P : List (List PyData × List Nat × PyData)} {a : Addr} {as : List Addr} {O : Own}, PO p0 P a as O F → PO p0 P a as O F'
  | [], _, [], [], h => h
  | (ds, sg, w) :: P, a, b :: as, (b', o) :: O, ⟨⟨h1, ys, t, vs, vp, h2, h3, h4, h5, h6, h7⟩, h⟩ => ⟨⟨h1, ys, t, vs, vp, h2, h3.mono e, h4, e _ _ h5, rS.mono e h6, rpD_mono e _ _ h7⟩, PO.mono e h⟩
  | [], _, [], _ :: _, h => h.elim
  | [], _, _ :: _, _, h => h.elim
  | _ :: _, _, [], _, h => h.elim
  | _ :: _, _, _ :: _, [], h => h.elim
theorem PthB.mono (e : Same F F') (h : PthB s p0 v sgm F) : PthB s p0 v sgm F' := by
  obtain ⟨ps, a, as, xs, O', h1, h2, h3, h4, h5, h6⟩ := h
  exact ⟨ps, a, as, xs, O', h1, h2, h3.mono e, h4.mono e, h5, h6⟩
theorem PthC.mono (e : Same F F') (h : PthC s sg w q p0 v sgm F) : PthC s sg w q p0 v sgm F' := by
  obtain ⟨ps, a, as, xs, O', t, vs, vp, h1, h2, h3, h4, h5, h6, h7, h8⟩ := h
  exact ⟨ps, a, as, xs, O', t, vs, vp, h1, h2, h3.mono e, e _ _ h4, rS.mono e h5, rpD_mono e _ _ h6, h7.mono e, h8⟩
end
end Lm
/-! Lm: marked words, read and written: plain Lean, no program in sight. -/
namespace Lm
/-! ### up to a sign -/
def cutA (c : Nat) : List Nat → Option (List Nat × List Nat)
  | [] => none
  | d :: r => if d = c then some ([], r) else (cutA c r).map fun x => (d :: x.1, x.2)
/-! ### parts -/
inductive Pi where
  | plain (s : List Nat) | code (s : List Nat) | link (w n : List Nat) | mark (n : List Nat)
inductive Po where
  | inn (p : Pi) | strong (ps : List Pi)
abbrev taken : List Nat := [92, 42, 96, 91, 93, 124, 45, 43, 61, 62, 126, 58, 94]
/-- words up to a bracket: without the strokes, and what is behind -/
def wrd : List Nat → Option (List Nat × List Nat)
  | [] => none
  | [c] => if c = 93 then some ([], []) else none
  | c :: d :: r => if c = 92 ∧ d ∈ taken then (wrd r).map fun x => (d :: x.1, x.2) else if c = 93 then some ([], d :: r) else (wrd (d :: r)).map fun x => (c :: x.1, x.2)
def codeL (r : List Nat) : Option (Pi × List Nat) := match cutA 96 r with
  | some (s, r1) => if s = [] then none else some (.code s, r1)
  | none => none
def markL (r : List Nat) : Option (Pi × List Nat) := match r with
  | 94 :: r1 => (match cutA 93 r1 with
    | some (n, r2) => if nameB n = true then some (.mark (lowerS n), r2) else none
    | none => none)
  | _ => none
def linkL (r : List Nat) : Option (Pi × List Nat) := match wrd r with
  | some (f, r1) => if f = [] then none else (match r1 with
    | 40 :: r2 => (match cutA 41 r2 with
      | some (n, r3) => if nameB n = true then some (.link f (lowerS n), r3) else none
      | none => none)
    | _ => none)
  | none => none
def partL (c : Nat) (r : List Nat) : Option (Pi × List Nat) := if c = 96 then codeL r else if c = 91 then (match markL r with
  | some x => some x
  | none => linkL r) else none
inductive Pc where
  | ch (c : Nat) | st | pt (p : Pi)
/-- a stroke and a sign that it takes -/
def escL (c : Nat) (r : List Nat) : Option (Nat × List Nat) := if c = 92 then (match r with
  | d :: r' => if d ∈ taken then some (d, r') else none
  | [] => none) else none
def nxt (c : Nat) (r : List Nat) : Pc × List Nat := match escL c r with
  | some (d, r') => (.ch d, r')
  | none => (match partL c r with
    | some (p, r') => (.pt p, r')
    | none => (if c = 42 then .st else .ch c, r))
/-! ### what is behind is an end -/
def pcs : Nat → List Nat → List Pc
  | 0, _ => []
  | _ + 1, [] => []
  | n + 1, c :: r => (nxt c r).1 :: pcs n (nxt c r).2
def pieces (l : List Nat) : List Pc := pcs l.length l
/-! ### the parts of pieces -/
def fl (b : List Nat) : List Pi := if b = [] then [] else [.plain b]
def mrg : List Nat → List Pc → List Pi
  | b, [] => fl b
  | b, .ch c :: r => mrg (b ++ [c]) r
  | b, .st :: r => mrg (b ++ [42]) r
  | b, .pt p :: r => fl b ++ p :: mrg [] r
inductive Qc where
  | ch (c : Nat) | pt (p : Po)
def q1 : Pc → Qc
  | .ch c => .ch c
  | .st => .ch 42
  | .pt p => .pt (.inn p)
def pair : Option (List Pc) → List Pc → List Qc
  | none, [] => []
  | some i, [] => .ch 42 :: i.map q1
  | none, .st :: r => pair (some []) r
  | some [], .st :: r => .ch 42 :: .ch 42 :: pair none r
  | some (x :: i), .st :: r => .pt (.strong (mrg [] (x :: i))) :: pair none r
  | none, .ch c :: r => .ch c :: pair none r
  | none, .pt p :: r => .pt (.inn p) :: pair none r
  | some i, .ch c :: r => pair (some (i ++ [.ch c])) r
  | some i, .pt p :: r => pair (some (i ++ [.pt p])) r
/-! ### parts that are right -/
def isP : Pi → Bool
  | .plain _ => true
  | _ => false
def isPO : Po → Bool
  | .inn p => isP p
  | .strong _ => false
/-- a name in small letters -/
def Sml (n : List Nat) : Prop := nameB n = true ∧ lowerS n = n
def apart {α : Type} (p : α → Bool) : List α → Prop
  | [] => True
  | [_] => True
  | a :: b :: r => (p a && p b) = false ∧ apart p (b :: r)
theorem name_low : ∀ c ∈ letters, lowC c ∈ letters ∧ lowC (lowC c) = lowC c := by decide
theorem sml_low {n : List Nat} (h : nameB n = true) : Sml (lowerS n) := by
  unfold nameB at h
  obtain ⟨h1, h2⟩ := (Bool.and_eq_true _ _).mp h
  have h3 : ∀ c ∈ n, c ∈ letters := fun c m => of_decide_eq_true (List.all_eq_true.mp h2 c m)
  refine ⟨?_, ?_⟩
  · unfold nameB
    rw [Bool.and_eq_true, lower_len]
    refine ⟨h1, List.all_eq_true.mpr fun c m => ?_⟩
    obtain ⟨d, m2, rfl⟩ := List.mem_map.mp m
    exact decide_eq_true (name_low d (h3 d m2)).1
  · unfold lowerS
    rw [List.map_map]
    exact List.map_congr_left fun c m => (name_low c (h3 c m)).2
theorem name_ne {n : List Nat} (h : nameB n = true) : 1 ≤ n.length ∧ n.length ≤ 12 := by
  unfold nameB at h
  have h1 := (Bool.and_eq_true _ _).mp ((Bool.and_eq_true _ _).mp h).1
  exact ⟨of_decide_eq_true h1.1, of_decide_eq_true h1.2⟩
/-! ### how parts are written -/
/-! ### what is written is read again -/
theorem starts_one (s : List Nat) (c : Nat) : startsS s [c] = true ↔ ∃ r, s = c :: r := by
  cases s with
  | nil => exact ⟨fun h => (by cases h), fun ⟨r, h⟩ => (by cases h)⟩
  | cons a r =>
    rw [starts_cons, starts_nil, Bool.and_true, decide_eq_true_eq]
    exact ⟨fun h => ⟨r, by rw [h]⟩, fun ⟨r', h⟩ => by cases h; rfl⟩
/-! ### parts that were put side by side are found again -/
/-! ### what is read is right -/
end Lm
/-! Lm: what is read of a tidy text is tidy; sizes. -/
namespace Lm
/-! ### no two blanks -/
def nodd (l : List Nat) : Prop := ∀ u v, l ≠ u ++ 32 :: 32 :: v
theorem nodd_nil : nodd [] := fun u v e => by
  have := congrArg List.length e
  simp at this
theorem nodd_tl {c : Nat} {l : List Nat} (h : nodd (c :: l)) : nodd l := fun u v e => h (c :: u) v (by rw [e]; rfl)
theorem nodd_cons {c : Nat} {l : List Nat} (h : nodd l) (h2 : c = 32 → l.head? ≠ some 32) : nodd (c :: l) := fun u v e => by
  cases u with
  | nil =>
    cases e
    exact h2 rfl rfl
  | cons d u =>
    cases e
    exact h u v rfl
theorem nodd_no {c : Nat} {l : List Nat} (h : nodd (c :: l)) (e : c = 32) : l.head? ≠ some 32 := fun e2 => by
  cases l with
  | nil => cases e2
  | cons d l => cases e2; subst e; exact h [] l rfl
/-- what a part is made of -/
def TPi (l : List Nat) : Pi → Prop
  | .plain s => nodd s ∧ ∀ c ∈ s, c ∈ l ∨ c = 1
  | .code s => nodd s ∧ ∀ c ∈ s, c ∈ l ∨ c = 1
  | .link w _ => nodd w ∧ ∀ c ∈ w, c ∈ l ∨ c = 1
  | .mark _ => True
theorem TPi.more {l m : List Nat} (h : ∀ c ∈ l, c ∈ m) {p : Pi} (g : TPi l p) : TPi m p := by
  have k : ∀ {s : List Nat}, (∀ c ∈ s, c ∈ l ∨ c = 1) → ∀ c ∈ s, c ∈ m ∨ c = 1 := fun z c q => (z c q).imp (h c) id
  cases p with
  | mark n => trivial
  | plain s => exact ⟨g.1, k g.2⟩
  | code s => exact ⟨g.1, k g.2⟩
  | link w n => exact ⟨g.1, k g.2⟩
def TPc (l : List Nat) : Pc → Prop
  | .pt p => TPi l p
  | _ => True
theorem TPc.more {l m : List Nat} (h : ∀ c ∈ l, c ∈ m) {x : Pc} (g : TPc l x) : TPc m x := by
  cases x with
  | pt p => exact TPi.more h g
  | _ => trivial
/-! ### sizes -/
def szPi : Pi → Nat
  | .plain s => s.length
  | .code s => s.length + 2
  | .link w n => w.length + n.length + 4
  | .mark n => n.length + 3
def szPo : Po → Nat
  | .inn p => szPi p
  | .strong ps => (ps.map szPi).sum + 2
end Lm
/-! Lm: loops over marked words, told by what a turn does. -/
namespace Lm
open PySem PySem.Spec
/-! ### words -/
/-! ### parts as the program has them -/
def xP : Pi → XD
  | .plain s => .obj "Plain" [("signs", .str s)]
  | .code s => .obj "Code" [("signs", .str s)]
  | .link w n => .obj "Link" [("words", .str w), ("name", .str n)]
  | .mark n => .obj "Mark" [("name", .str n)]
def xO : Po → XD
  | .inn p => xP p
  | .strong ps => .obj "Strong" [("parts", .lst (ps.map xP))]
abbrev kPlain : List Nat := [112, 108, 97, 105, 110]
/-! ### pairs of stars -/
theorem Paired.app {α β : Type} {F : α → β → Prop} : ∀ {a c : List α} {b d : List β}, Paired F a b → Paired F c d → Paired F (a ++ c) (b ++ d)
  | _, _, _, _, .nil, h => h
  | _, _, _, _, .cons x r, h => .cons x (Paired.app r h)
end Lm
/-! Lm: what parts tell; replace of one sign; more on tidy texts. -/
namespace Lm
open PySem PySem.Spec
mutual
theorem eqv_same : ∀ d : PyData, d.canLay0 = true → PyData.eqv d d = true
  | .none, _ => by simp [PyData.eqv]
  | .bool b, _ => by simp [PyData.eqv]
  | .int i, _ => by simp [PyData.eqv]
  | .str x, _ => by simp [PyData.eqv]
  | .list ds, h => by
    simp only [PyData.canLay0] at h
    simp only [PyData.eqv]
    exact eqvA_same ds h
  | .tuple ds, h => by
    simp only [PyData.canLay0] at h
    simp only [PyData.eqv]
    exact eqvA_same ds h
  | .dict _, h => by cases h
theorem eqvA_same : ∀ ds : List PyData, PyData.canLayAll0 ds = true → PyData.eqvAll ds ds = true
  | [], _ => by simp [PyData.eqvAll]
  | d :: ds, h => by
    simp only [PyData.canLayAll0, Bool.and_eq_true] at h
    simp only [PyData.eqvAll, Bool.and_eq_true]
    exact ⟨eqv_same d h.1, eqvA_same ds h.2⟩
end
/-- data that can be compared, so deep -/
structure Ld (n : Nat) (d : PyData) : Prop where
  lay : d.canLay0 = true
  dep : d.depth ≤ n
theorem Ld.sh {n : Nat} {d : PyData} (h : Ld n d) (hn : n ≤ 64) : SeqAt.shaped d = true := by
  unfold SeqAt.shaped
  rw [h.lay, Bool.true_and]
  exact decide_eq_true (Nat.le_trans h.dep hn)
theorem Ld.mono {n m : Nat} {d : PyData} (h : Ld n d) (e : n ≤ m) : Ld m d := ⟨h.lay, Nat.le_trans h.dep e⟩
theorem ldS {s : List Nat} (h : OkS s) : Ld 1 (encS s) := ⟨gS.lay s h, gS.dep s⟩
theorem ld_all {n : Nat} : ∀ {ds : List PyData}, (∀ d ∈ ds, Ld n d) → PyData.canLayAll0 ds = true ∧ PyData.depthAll ds ≤ n
  | [], _ => ⟨rfl, by simp [PyData.depthAll]⟩
  | d :: ds, h => by
    have h1 := h d (List.mem_cons_self ..)
    obtain ⟨h2, h3⟩ := ld_all fun x m => h x (List.mem_cons_of_mem _ m)
    simp only [PyData.canLayAll0, PyData.depthAll, h1.lay, h2, Bool.and_self]
    exact ⟨trivial, Nat.max_le.mpr ⟨h1.dep, h3⟩⟩
theorem ldL {n : Nat} {ds : List PyData} (h : ∀ d ∈ ds, Ld n d) : Ld (n + 1) (.list ds) := by
  obtain ⟨h1, h2⟩ := ld_all h
  exact ⟨by simp only [PyData.canLay0]; exact h1, by simp only [PyData.depth]; omega⟩
theorem ldT {n : Nat} {ds : List PyData} (h : ∀ d ∈ ds, Ld n d) : Ld (n + 1) (.tuple ds) := by
  obtain ⟨h1, h2⟩ := ld_all h
  exact ⟨by simp only [PyData.canLay0]; exact h1, by simp only [PyData.depth]; omega⟩
theorem eqO_same {n : Nat} {d : PyData} (h : Ld n d) (hn : n ≤ 64) : eqO d d = some true := by
  unfold eqO
  rw [if_pos ⟨h.sh hn, h.sh hn⟩, eqv_same d h.lay]
theorem eqO_list {n : Nat} {ds : List PyData} (h : Ld n (.list ds)) (hn : n ≤ 64) : eqO (.list ds) (.list []) = some ds.isEmpty := by
  unfold eqO
  rw [if_pos ⟨h.sh hn, by decide⟩]
  cases ds with
  | nil => simp [PyData.eqv, PyData.eqvAll]
  | cons d ds => simp [PyData.eqv, PyData.eqvAll]
theorem eqO_S {s t : List Nat} (h : OkS s) (h2 : OkS t) : eqO (encS s) (encS t) = some (decide (s = t)) := ge_eqO gS (by decide) h h2
abbrev kCode : List Nat := [99, 111, 100, 101]
abbrev kLink : List Nat := [108, 105, 110, 107]
abbrev kNote : List Nat := [110, 111, 116, 101]
abbrev kStrong : List Nat := [115, 116, 114, 111, 110, 103]
def toldP : Pi → PyData
  | .plain s => .tuple [encS kPlain, encS s]
  | .code s => .tuple [encS kCode, encS s]
  | .link w n => .tuple [encS kLink, encS w, encS n]
  | .mark n => .tuple [encS kNote, encS n]
def toldO : Po → PyData
  | .inn p => toldP p
  | .strong ps => .tuple [encS kStrong, .list (ps.map toldP)]
/-- texts within bounds -/
def OPi : Pi → Prop
  | .plain s => OkS s
  | .code s => OkS s
  | .link w n => OkS w ∧ OkS n
  | .mark n => OkS n
def OPo : Po → Prop
  | .inn p => OPi p
  | .strong ps => ∀ p ∈ ps, OPi p
theorem okK {k : List Nat} (h : okS k = true := by decide) : Ld 1 (encS k) := ldS (okS_iff.mp h)
theorem tP_ld {p : Pi} (h : OPi p) : Ld 2 (toldP p) := by
  have two : ∀ {a b : PyData}, Ld 1 a → Ld 1 b → Ld 2 (.tuple [a, b]) := fun ha hb => ldT fun d m => by
    rcases List.mem_cons.mp m with e | m
    · rw [e]; exact ha
    · rw [List.mem_singleton.mp m]; exact hb
  cases p with
  | plain s => exact two okK (ldS h)
  | code s => exact two okK (ldS h)
  | mark n => exact two okK (ldS h)
  | link w n =>
    refine ldT fun d m => ?_
    rcases List.mem_cons.mp m with e | m
    · rw [e]; exact okK
    · rcases List.mem_cons.mp m with e | m
      · rw [e]; exact ldS h.1
      · rw [List.mem_singleton.mp m]; exact ldS h.2
theorem tPs_ld {ps : List Pi} (h : ∀ p ∈ ps, OPi p) : Ld 3 (.list (ps.map toldP)) := ldL fun d m => by
  obtain ⟨p, m2, rfl⟩ := List.mem_map.mp m
  exact tP_ld (h p m2)
theorem tO_ld {p : Po} (h : OPo p) : Ld 4 (toldO p) := by
  cases p with
  | inn p => exact (tP_ld h).mono (by decide)
  | strong ps =>
    refine ldT fun d m => ?_
    rcases List.mem_cons.mp m with e | m
    · rw [e]; exact (okK : Ld 1 (encS kStrong)).mono (by decide)
    · rw [List.mem_singleton.mp m]; exact tPs_ld h
theorem tOs_ld {ps : List Po} (h : ∀ p ∈ ps, OPo p) : Ld 5 (.list (ps.map toldO)) := ldL fun d m => by
  obtain ⟨p, m2, rfl⟩ := List.mem_map.mp m
  exact tO_ld (h p m2)
/-! ### replace of one sign -/
theorem repl_one (c : Nat) (z : List Nat) : ∀ l : List Nat, replS [c] z 0 l = l.flatMap fun d => if d = c then z else [d]
  | [] => rfl
  | d :: l => by
    unfold replS
    by_cases e : d = c
    · subst e
      rw [if_pos (by simp [TL.pre])]
      show z ++ replS [d] z 0 l = _
      rw [repl_one d z l, List.flatMap_cons, if_pos rfl]
    · rw [if_neg (by simp [TL.pre]; exact e), repl_one c z l, List.flatMap_cons, if_neg e]
      rfl
/-! ### more on tidy texts -/
theorem nodd_in : ∀ {l : List Nat}, nodd l → inS [32, 32] l = false
  | [], _ => rfl
  | c :: l, h => by
    unfold inS
    rw [nodd_in (nodd_tl h), Bool.or_false]
    show startsS (c :: l) [32, 32] = false
    rw [starts_cons]
    by_cases h1 : c = 32
    · have := nodd_no h h1
      cases l with
      | nil => rw [starts_empty, Bool.and_false]
      | cons d l =>
        have hd : d ≠ 32 := fun e => this (by rw [e]; rfl)
        rw [starts_cons, decide_eq_false hd, Bool.false_and, Bool.and_false]
    · rw [decide_eq_false h1, Bool.false_and]
theorem mapF_put {α β : Type} {f : α → Option (Option β)} {a : α} {as : List α} {b : β} {bs : List β} (h : f a = some (some b)) (h2 : mapF f as = some bs) : mapF f (a :: as) = some (b :: bs) := by
  simp only [mapF, h, h2]
/-! ### parts that are taken -/
structure SG (s : List Nat) : Prop where
  ok : OkS s
  ne : s ≠ []
  nd : nodd s
  n10 : 10 ∉ s
  n9 : 9 ∉ s
def NPi : Pi → Prop
  | .plain s => SG s
  | .code s => SG s ∧ 96 ∉ s
  | .link w n => SG w ∧ Sml n ∧ OkS n
  | .mark n => Sml n ∧ OkS n
structure NPs (ps : List Pi) : Prop where
  all : ∀ p ∈ ps, NPi p
  ap : apart isP ps
def NPo : Po → Prop
  | .inn p => NPi p
  | .strong ps => ps ≠ [] ∧ NPs ps
structure NPos (ps : List Po) : Prop where
  all : ∀ p ∈ ps, NPo p
  ap : apart isPO ps
  first : ∀ s qs, ps = .inn (.plain s) :: qs → s.head? ≠ some 32
  last : ∀ s qs, ps = qs ++ [.inn (.plain s)] → s.getLast? ≠ some 32
theorem NPi.o {p : Pi} (h : NPi p) : OPi p := by
  cases p with
  | plain s => exact SG.ok h
  | code s => exact h.1.ok
  | link w n => exact ⟨h.1.ok, h.2.2⟩
  | mark n => exact h.2
theorem NPo.o {p : Po} (h : NPo p) : OPo p := by
  cases p with
  | inn p => exact NPi.o h
  | strong ps => exact fun p m => (h.2.all p m).o
theorem starts_no {s : List Nat} {c : Nat} (h : s.head? ≠ some c) : startsS s [c] = false := by
  cases q : startsS s [c] with
  | false => rfl
  | true =>
    obtain ⟨r, e⟩ := (starts_one s c).mp q
    rw [e] at h
    exact absurd rfl h
theorem ends_no {s : List Nat} {c : Nat} (h : s.getLast? ≠ some c) : endsS s [c] = false := by
  cases q : endsS s [c] with
  | false => rfl
  | true =>
    obtain ⟨u, e⟩ := List.isSuffixOf_iff_suffix.mp (show [c].isSuffixOf s = true from q)
    rw [← e] at h
    exact absurd (by simp) h
theorem letters_small : ∀ c ∈ letters, c < 128 := by decide
theorem name_small {n : List Nat} (h : nameB n = true) : ∀ c ∈ n, c < 128 := fun c m => by
  unfold nameB at h
  exact letters_small c (of_decide_eq_true (List.all_eq_true.mp ((Bool.and_eq_true _ _).mp h).2 c m))
end Lm
/-! Lm: texts put together of pieces, and how they are read (k04). -/
namespace Lm
/-- w is read as X, whatever follows but a round bracket -/
def Rd (w : List Nat) (X : List Pc) : Prop := ∀ rest : List Nat, rest.head? ≠ some 40 → pieces (w ++ rest) = X ++ pieces rest
theorem head_app {v rest : List Nat} (hv : v.head? ≠ some 40) (hr : rest.head? ≠ some 40) : (v ++ rest).head? ≠ some 40 := by
  cases v with
  | nil => exact hr
  | cons a v => exact hv
theorem Rd.app {w v : List Nat} {X Y : List Pc} (h : Rd w X) (g : Rd v Y) (hv : v.head? ≠ some 40) : Rd (w ++ v) (X ++ Y) := fun rest hr => by
  rw [List.append_assoc, h _ (head_app hv hr), g _ hr, List.append_assoc]
/-- a link's words as they stand -/
def Wr (u f : List Nat) : Prop := ∀ R, wrd (u ++ R) = (wrd R).map fun x => (f ++ x.1, x.2)
theorem Wr.app {u f v g : List Nat} (h : Wr u f) (k : Wr v g) : Wr (u ++ v) (f ++ g) := fun R => by
  rw [List.append_assoc, h, k]
  cases wrd R with
  | none => rfl
  | some x => simp
/-! ### pairs -/
/-- X's stars are paired within it -/
def Bal (X : List Pc) (Q : List Qc) : Prop := ∀ r, pair none (X ++ r) = Q ++ pair none r
theorem Bal.app {X Y : List Pc} {Q R : List Qc} (h : Bal X Q) (g : Bal Y R) : Bal (X ++ Y) (Q ++ R) := fun r => by rw [List.append_assoc, h, g, List.append_assoc]
/-! ### plain signs side by side are one -/
/-! ### sizes -/
end Lm
/-! Lm: an error leaves a def, wherever its flight was set to. -/
namespace Lm
open PySem PySem.Spec PyProof.Rows L2 HandSPX
section
variable {M : Model} {A : Around} {E : Value → Shared → Prop} {env ce : Env} {outer : List Env} {base : Heap} {e L : Addr} {Z : Obj → Prop} {s : Shared} {fl : Value}
theorem note_frame {x : Value} (h : ce.frame = env.frame) : noteFrame x ce = noteFrame x env := by
  unfold noteFrame PySem.frameOf
  rw [h]
theorem fly_of {B B' : Heap} {l l' : List Env} {a L : Addr} {Z Z' : Obj → Prop} {h : Heap} (k : Sky B l a Z L h) (f : FlyingZ B' l' a Z' h) : FlyingZ B l a Z h := by
  obtain ⟨_, _, _, oe, vs, T, oT, ts, g, _, d, v1, _, _, gT, dT, t3⟩ := f
  rcases k with ⟨_, _, _, oe2, vs2, g2, _, d2, v2⟩ | k | ⟨_, _, _, oe2, vs2, T2, oT2, ts2, g2, _, d2, v2, _, _, gT2, dT2, t2⟩
  · rw [g] at g2
    cases g2
    rw [d] at d2
    cases d2
    rw [v1] at v2
    cases v2
  · exact k
  · rw [g] at g2
    cases g2
    rw [d] at d2
    cases d2
    rw [v1] at v2
    cases v2
    rw [gT] at gT2
    cases gT2
    rw [dT] at dT2
    cases dT2
    rw [t3] at t2
    exact absurd t2 (by unfold rawInt; simp)
/-- an error leaves a frame, its flight told as anything -/
theorem leaves_any {Q : Unit → Shared → Prop} (steady : PXN.Steady1 Z) (frames : A.frames = some (env :: outer)) (here : env.frame = some L) (stays : base.StaysIn s.heap) (new : base.get? e = none) (ff : s.heap.FunFrames base (env :: outer)) (traced : TracedZ s.heap base e Z fl)
    (q : ∀ h', FlyingZ base outer e Z h' → s.heap.UpToSlots h' → Q () { s with heap := h' }) : wpAny M A (leaving env (.ref e)) Q E s := by
  by_cases same : fl = rawInt L
  · exact leaves_heldZ here ⟨stays, new, ff, same ▸ traced⟩ q
  · obtain ⟨oe, vs, T, oT, ts, ge, ze, de, e1, nT, neT, gT, dT, t3⟩ := traced
    have apart : ∀ b o, s.heap.get? b = some o → (∀ vs, o.data ≠ .fields vs) → b ≠ T := fun b o g nf z => by
      subst z
      rw [gT] at g
      cases g
      exact nf ts dT
    have keep : ∀ b, b ≠ T → (s.heap.update T (Obj.mapFields (·.setIfInBounds 3 Value.none))).get? b = s.heap.get? b := fun b z => Heap.get?_update_other _ _ (Ne.symm z)
    have gr : base.StaysIn (s.heap.update T (Obj.mapFields (·.setIfInBounds 3 Value.none))) := fun b o g => by
      rw [keep b fun z => by rw [z, nT] at g; cases g]
      exact stays b o g
    have ff2 : (s.heap.update T (Obj.mapFields (·.setIfInBounds 3 Value.none))).FunFrames base (env :: outer) := ff.of_keeps fun b o g nf => ⟨o, by rw [keep b (apart b o g nf)]; exact g, rfl⟩
    have ge2 : (s.heap.update T (Obj.mapFields (·.setIfInBounds 3 Value.none))).get? e = some oe := by rw [keep e (Ne.symm neT)]; exact ge
    have entry := PXN.wpAny_newEntryZ (M := M) (A := A) (E := E) (s := { s with heap := s.heap.update T (Obj.mapFields (·.setIfInBounds 3 Value.none)) }) (head := .ref T) (hadNext := Value.ref T != Value.none) (Q := Q) steady frames ff2 here ge2 gr new de (Array.getElem?_eq_some_iff.mp e1).1 ze fun h' noted =>
      q h' ⟨noted.1, new, by obtain ⟨_, _, z⟩ := noted.2.1; exact z, noted.2.2.1⟩ fun b o g nf => noted.2.2.2 b o (by show (s.heap.update T _).get? b = _; rw [keep b (apart b o g nf)]; exact g) nf
    have no3 : ¬ ((fl == rawInt L) = true) := fun z => same (eq_of_beq z)
    unfold leaving noteFrame
    simp only [here]
    refine wpAny_bind (wpAny_bind (wpAny_field ge de e1 ?_))
    rw [if_pos (show (Value.ref T != Value.none) = true from by simp)]
    refine wpAny_bind (wpAny_field gT dT t3 ?_)
    rw [if_neg no3]
    exact wpAny_bind (wpAny_setField gT dT (Array.getElem?_eq_some_iff.mp t3).1 entry)
end
end Lm
/-! Lm: an error leaves a comprehension. -/
namespace Lm
open PySem PySem.Spec PyProof.Rows L2 HandSPX
theorem blk_out {X : Cx} {E : XK} {E₁ : Value → Shared → Prop} (hx : X.xe = fun e s' => wpAny (model X.prog X.w) X.A (leaving X.env e) (fun _ s'' => L2N.CX X.prog X.w X.outer X.H_0 X.s_0 E e s'') E₁ s') (hs : X.stack = X.env :: X.outer) (hf : X.env.frame = some X.env.locals) (hex : X.ex = [])
    {pins pins' : List (Addr × Obj)} {σ ρ : L2.St} {y3 z y : Shared} {G3 G : Hp} {ce : Env} {fp : List Addr} {scope : Scope} {u : Value} {xe : Value → Shared → Prop} {use : Option (Value → Sem Unit)} {Qf : Value → Shared → Prop} {acc : Value} (J3 : Inv X pins σ G3 y3)
    (apart : ∀ b ∈ fp, FpOk X pins G3 b ∧ b < y3.heap.objs.size) (hce : ce.locals = y3.heap.objs.size) (hcf : ce.frame = X.env.frame) (I : Inv { X.blk y3 G3 scope ce fp with xe := xe } pins' ρ G z) (c : L2N.CX X.prog X.w X.stack G z E u y) :
    notedBy (model X.prog X.w) X.A ce (fun e s'' => compPost (model X.prog X.w) X.A X.xe use Qf acc y3.heap.objs.size (.error e) s'') u y := by
  have x := L2N.XE.of_call (W := fun cls d _ H => E cls d H) I (fun _ _ _ h => h) c
  obtain ⟨a0, B0, H0, cls0, d0, rfl, fl0, _⟩ := c
  obtain ⟨a, B, sI, pins2, ρ2, H', cls, d, ea, I2, nb, up, sky, na, os, ag, w⟩ := x
  cases ea
  have fl : FlyingZ B X.stack a0 (L2N.Zn cls d) y.heap := fly_of sky fl0
  have hfr : X.A.frames = some (X.env :: X.outer) := by rw [J3.ok.frames, hs]
  have chs : ∀ b ∈ fp, (b ∈ X.ex ∨ X.s_0.heap.objs.size ≤ b) ∧ b ≠ X.env.locals ∧ (∀ x c, X.env.cells.lookup x = some c → c ≠ b) ∧ ∀ p ∈ X.pn ++ pins, p.1 ≠ b := fun b hb => by
    obtain ⟨_, p1, _, p3, p4, p5⟩ := (apart b hb).1
    exact ⟨p3, p1, p4, p5⟩
  have back0 : Inv X pins σ H' sI := J3.call' (ch := fp) I2.os I2.base I2.hok I2.bare chs
  have nC : H' y3.heap.objs.size = none := by have := I2.free; rw [show ({ X.blk y3 G3 scope ce fp with xe := xe } : Cx).env.locals = y3.heap.objs.size from hce] at this; exact this
  show wpAny _ _ (noteFrame (.ref a0) ce) _ _ _
  rw [note_frame hcf]
  refine PXN.looks_onZ L2N.Zn.steady hfr hf (hs ▸ fl) fun h1 hd1 up1 => ?_
  have J1 := I2.landed (s' := { y with heap := h1 }) nb hd1.1 (up.trans up1) os ag
  obtain ⟨m, ns, _⟩ := J1.loc
  have ns : h1.Ns y3.heap.objs.size m := hce ▸ ns
  refine ⟨m, ns, fun h' sb cenv hcl => ?_⟩
  generalize hC : y3.heap.objs.size = C at *
  obtain ⟨B', b1, b2⟩ := restrict B fun b => decide (b ≠ C)
  have inB : ∀ b o, b ≠ C → B.get? b = some o → B'.get? b = some o := fun b o n e => by rw [b1 b (decide_eq_true n)]; exact e
  have ofB : ∀ b o, B'.get? b = some o → b ≠ C ∧ B.get? b = some o := fun b o e => by
    by_cases q : b = C
    · rw [b2 b (decide_eq_false fun n => n q)] at e; cases e
    · exact ⟨q, by rw [← b1 b (decide_eq_true q)]; exact e⟩
  have noB : ∀ b, B.get? b = none → B'.get? b = none := fun b e => by
    cases q : B'.get? b with
    | none => rfl
    | some o => rw [(ofB b o q).2] at e; cases e
  obtain ⟨st1, new1, ff1, oe, vs, T, oT, ts, ge, ze, de, v1, nT, neT, gT, dT, t3⟩ := hd1
  obtain ⟨oC, es, epC, gC, dC, _⟩ := ns
  have rec_ne : ∀ {b o ws}, h1.get? b = some o → o.data = .fields ws → b ≠ C := fun {b o ws} g dd q => by
    subst q
    rw [gC] at g
    cases g
    rw [dC] at dd
    cases dd
  have aC := rec_ne ge de
  have tC := rec_ne gT dT
  have st' : B'.StaysIn h' := fun b o e => by
    obtain ⟨n, e⟩ := ofB b o e
    rw [sb.2 b n]
    exact st1 b o e
  have fC : ∀ e ∈ X.env :: X.outer, e.frame ≠ some C := fun e he q => by
    have hm : C ∈ frs X.stack := by rw [hs]; exact List.mem_filterMap.mpr ⟨e, he, q⟩
    rcases List.mem_cons.mp (J3.stkSub C hm) with z | z
    · have := J3.lt
      rw [hC, ← z] at this
      exact Nat.lt_irrefl _ this
    · exact J3.nofs (Nat.le_of_eq hC) z
  have ff' : h'.FunFrames B' (X.env :: X.outer) := by
    have key : ∀ l : List Env, (∀ e ∈ l, e.frame ≠ some C) → h1.FunFrames B l → h'.FunFrames B' l := fun l => by
      induction l with
      | nil => exact fun _ _ => trivial
      | cons e l ih =>
        rintro hne ⟨k1, ⟨L, o, k2, k3, k4, k5⟩, k6⟩
        refine ⟨k1, ⟨L, o, k2, noB L k3, ?_, k5⟩, ih (fun e m => hne e (List.mem_cons_of_mem _ m)) k6⟩
        rw [sb.2 L fun q => hne e (List.mem_cons_self ..) (by rw [k2, q])]
        exact k4
    exact key _ fC ff1
  have tr : TracedZ h' B' a0 (L2N.Zn cls d) (rawInt X.env.locals) := ⟨oe, vs, T, oT, ts, by rw [sb.2 _ aC]; exact ge, ze, de, v1, noB T nT, neT, by rw [sb.2 _ tC]; exact gT, dT, t3⟩
  have new' : B'.get? a0 = none := noB a0 new1
  unfold PySem.passOn
  refine wpAny_bind (wpAny_field (show h'.get? a0 = some oe by rw [sb.2 _ aC]; exact ge) de v1 ?_)
  rw [if_neg (show ¬ ((Value.ref T == Value.none) = true) from by simp)]
  have fin : wpAny (model X.prog X.w) X.A (setFlight (.ref a0) cenv.frame) (fun _ s4 => wpAny (model X.prog X.w) X.A (throw (.ref a0) : Sem Value) (fun _ _ => False) X.xe s4) X.xe { y with heap := h' } := by
    refine setFlight_anyZ st' ff' tr fun h2 k1 k2 k3 up2 => wpAny_throw ?_
    rw [hx]
    refine leaves_any L2N.Zn.steady hfr hf k1 new' k2 k3 fun h3 fl3 up3 => ?_
    have nst : ∀ b o, X.s_0.heap.get? b = some o → b ∉ X.fs → b ∉ frs X.stack := fun b o e hb hm => by
      rcases List.mem_cons.mp (J3.stkSub b hm) with q | q
      · have h1 := Heap.lt_size e
        have h2 := J3.ok.above
        rw [q] at h1
        exact absurd (Nat.lt_of_lt_of_le h1 h2) (Nat.lt_irrefl _)
      · exact hb q
    have old : ∀ b o, X.s_0.heap.get? b = some o → b ≠ C := fun b o e q => by
      have h1 := Heap.lt_size e
      rw [q, ← hC] at h1
      exact absurd (Nat.lt_of_lt_of_le h1 J3.sz) (Nat.lt_irrefl _)
    have nox : ∀ b, b ∉ X.ex := fun b hb => by rw [hex] at hb; cases hb
    have hok : HOk X.prog X.w H' B := back0.inGround nb
    have hokB : HOk X.prog X.w H' B' := fun b o q => (hok b o q).stay (fun c v hc r => inB c v (fun n => by
      rcases hc with hc | hc
      · rw [← hc, n, nC] at q; cases q
      · rw [n, nC] at hc; cases hc) r) (fun _ r => r) fun _ _ r => r
    refine ⟨a0, B', H', cls, d, rfl, fl3, hokB, ⟨fun b o e n hb => inB b o (old b o e) (nb b o (back0.base.keep b o e n hb (nox b)) (nst b o e hb)), fun b o e hb => ?_, fun b o e n => back0.base.free b o e n (nox b), fun b o e hb => ?_, back0.base.tups, back0.base.frzs, back0.base.tbls⟩, na, os.trans back0.os, ag, w⟩
    · obtain ⟨_, o0, e0, hnf⟩ := J3.ok.funs.mem hb
      rw [e] at e0
      cases e0
      obtain ⟨sl, q1⟩ := back0.base.slot b o e (J3.ok.frf b hb) hb (nox b)
      obtain ⟨sl2, q2⟩ := (up.trans up1) b _ q1 hnf
      have q3 : h'.get? b = _ := (sb.2 b (old b o e)).trans q2
      obtain ⟨sl3, q4⟩ := (up2.trans up3) b _ q3 hnf
      exact ⟨sl3, q4⟩
    · obtain ⟨o', q1⟩ := back0.base.there b o e (nox b)
      exact ⟨o', inB b o' (old b o e) (nb b o' q1 (nst b o e hb))⟩
  first
    | exact wpAny_bind (wpAny_pure (wpAny_bind fin))
    | exact wpAny_bind fin
end Lm
/-! Lm: a comprehension whose things may raise. -/
namespace Lm
open PySem PySem.Spec PyProof.Rows L2
section
variable {n : Nat} {X : Cx} {pos : Pos} {elt tg iter : Expr} {ifs : List Expr} {scope : Scope} {own : List (Str × Nat)} {wi : TI} {g : TG} {tt : TT} {te : TE}
theorem lcx_core {EE : XK} {E₁ : Value → Shared → Prop} (hx : X.xe = fun e s' => wpAny (model X.prog X.w) X.A (leaving X.env e) (fun _ s'' => L2N.CX X.prog X.w X.outer X.H_0 X.s_0 EE e s'') E₁ s') (hs : X.stack = X.env :: X.outer) (hf : X.env.frame = some X.env.locals) (hex : X.ex = []) {pins : List (Addr × Obj)} {s : Shared} {σ : L2.St} {H : Hp} {Q : VK} {pos' : Pos} {use : Option (Value → Sem Unit)} {Qf : Value → Shared → Prop} (hn : n ≤ s.toks) (I : Inv X pins σ H s) (calm : X.calm = true) (nd : X.N.Nodup) (walk : PIn n X tg iter wi) (ok : BlkOk X.N X.env.scope scope own)
    (target : ∀ (y : Shared) (G : Hp) (C : Addr) (cl : List (Str × Addr)) (fp : List Addr), PG (X.blk y G scope (compEnvC scope cl C X.env) fp) tg g)
    (test : ∀ (y : Shared) (G : Hp) (C : Addr) (cl : List (Str × Addr)) (fp : List Addr), PTs (X.blk y G scope (compEnvC scope cl C X.env) fp) ifs tt)
    (item : ∀ (y : Shared) (G : Hp) (C : Addr) (cl : List (Str × Addr)) (fp : List Addr) (xe : Value → Shared → Prop), (∀ ρ, PassesAt (L2N.CX X.prog X.w) ((X.blk y G scope (compEnvC scope cl C X.env) fp).wish xe) ρ EE) → PEn n ((X.blk y G scope (compEnvC scope cl C X.env) fp).wish xe) elt te) (fold : ∀ x, foldedSetIterable iter X.env x = pure x)
    (h : tLc wi g tt te (own.map (·.2)) σ H Q) (hRR : ∀ D C s' m H', Inv X pins σ H' s' → Q (.ref D) H' → s'.heap.Ns C m → FpOk X pins H' C → compPost (model X.prog X.w) X.A X.xe use Qf (.ref D) C (.ok .next) s') :
    wpAny (model X.prog X.w) X.A (comprehension (.ListComp elt [⟨tg, iter, ifs, 0⟩] scope pos) scope X.env pos' (newList []) false (eval iter X.env) use) Qf X.xe s := by
  have free : ∀ y ∈ scope.names, y.2 = .free → ∃ c, X.env.cells.lookup y.1 = some c := fun y hy e => (ok.free y hy e).elim (fun z => I.ok.has _ (.inl z)) fun z => I.ok.has _ (.inr z)
  have first := thnN hn (walk pins s σ H _ hn I h) fun v y hy told => thnN hy told fun itv y2 hy2 P => And.intro hy2 P
  refine wpAny_comprehension_free (use := use) rfl fold (closure_ok free) ok.kind (fun y hy e => (ok.uniq y hy).trans (congrArg some e)) (thn first fun v y inner => thn inner fun itv y2 P => ?_)
  obtain ⟨hy2, it, fp, tn, J, G, rfl, JG, T, at0, apart, enter⟩ := P
  obtain ⟨W, ⟨m, w0⟩, turn⟩ := enter y2.heap.objs.size (JG.hok.fresh (Nat.le_refl _))
  refine wpAny_newObj_type (newEnv_comp ?_) (show (0 : Nat) ≤ sizeLine by decide)
  have J3 : Inv X pins σ (upd G y2.heap.objs.size (.lst [])) { y2 with heap := y2.heap.push { cls := .type "list", data := .seq ([] : List Value).toArray } } := JG.laid (t' := y2.toks) (fun b o e => Heap.get?_push_of_some _ e) (Nat.le_refl _) ⟨Nat.zero_le _, [], 0, .nil, Heap.get?_push_size _ rfl⟩
  have lower : ∀ b ∈ fp, b < y2.heap.objs.size := fun b hb => (T.obj _ _ at0 b hb).elim fun o e => Heap.lt_size e.1
  have apart3 : ∀ b ∈ fp, FpOk X pins (upd G y2.heap.objs.size (.lst [])) b ∧ b < (y2.heap.push { cls := .type "list", data := .seq ([] : List Value).toArray } : Heap).objs.size := fun b hb => ⟨⟨(upd_ne (Nat.ne_of_lt (lower b hb))).trans (apart b hb).1, (apart b hb).2⟩, Nat.lt_of_lt_of_le (lower b hb) (by rw [Heap.size_push]; exact Nat.le_succ _)⟩
  have at3 : tn 0 (y2.heap.push { cls := .type "list", data := .seq ([] : List Value).toArray } : Heap) := T.keep _ _ _ at0 fun b _ o e => Heap.get?_push_of_some _ e
  generalize eL : y2.heap.objs.size = D at *
  generalize eG : upd G D (.lst []) = G3 at *
  generalize e3 : ({ y2 with heap := y2.heap.push { cls := .type "list", data := .seq ([] : List Value).toArray } } : Shared) = y3 at *
  have h3 : y2.heap.push { cls := .type "list", data := .seq ([] : List Value).toArray } = y3.heap := by rw [← e3]
  have t3 : n ≤ y3.toks := by rw [← e3]; exact hy2
  rw [h3] at apart3 at3
  have J4 := block_start J3 ok nd apart3
  have tgtB := target y3 G3 y3.heap.objs.size (cellsFrom (y3.heap.objs.size + 1) scope.names (cloFrom X.env.cells scope.names [])) fp
  have tstB := test y3 G3 y3.heap.objs.size (cellsFrom (y3.heap.objs.size + 1) scope.names (cloFrom X.env.cells scope.names [])) fp
  have itmB := item y3 G3 y3.heap.objs.size (cellsFrom (y3.heap.objs.size + 1) scope.names (cloFrom X.env.cells scope.names [])) fp
  show codeAny _ _ (.compStart _ 0 (.ref it) (.ref D) (compEnvC scope (cellsFrom (y3.heap.objs.size + 1) scope.names (cloFrom X.env.cells scope.names [])) y3.heap.objs.size X.env)) (compPost (model X.prog X.w) X.A X.xe use Qf (.ref D) y3.heap.objs.size) _
  have frm : (compEnvC scope (cellsFrom (y3.heap.objs.size + 1) scope.names (cloFrom X.env.cells scope.names [])) y3.heap.objs.size X.env).frame = X.env.frame := rfl
  have locs : (compEnvC scope (cellsFrom (y3.heap.objs.size + 1) scope.names (cloFrom X.env.cells scope.names [])) y3.heap.objs.size X.env).locals = y3.heap.objs.size := rfl
  generalize compEnvC scope (cellsFrom (y3.heap.objs.size + 1) scope.names (cloFrom X.env.cells scope.names [])) y3.heap.objs.size X.env = ce at *
  have at4 : tn 0 (pushCells (y3.heap.push { cls := .type "dict", data := .dict #[] }) scope.names) := T.keep _ _ _ at3 fun b _ o e => pushCells_keeps _ _ _ _ (Heap.get?_push_of_some _ e)
  generalize eY : ({ y3 with heap := pushCells (y3.heap.push { cls := .type "dict", data := .dict #[] }) scope.names } : Shared) = y4 at *
  have t4 : n ≤ y4.toks := by rw [← eY]; exact t3
  have at4' : tn 0 y4.heap := by rw [← eY]; exact at4
  have still : ∀ {ρ : L2.St} {G' : Hp} {z : Shared}, Inv (X.blk y3 G3 scope ce fp) [] ρ G' z → (∀ b ∈ fp, G' b = none) → ∀ b ∈ fp, FpOk (X.blk y3 G3 scope ce fp) [] G' b := fun {ρ G' z} I' hG b hb =>
    ⟨hG b hb, (I'.ok.exf b hb).1, I'.ok.exfs b hb, .inl hb, fun x c e => (I'.ok.exf b hb).2 x c e, fun p hp => absurd (show p ∈ ([] : List (Addr × Obj)) ++ [] from hp) (by simp)⟩
  have goes : codeAny (model X.prog X.w) X.A (.compLoop (.ListComp elt [⟨tg, iter, ifs, 0⟩] scope pos) 0 (.ref it) (.ref D) ce) (compPost (model X.prog X.w) X.A X.xe use Qf (.ref D) y3.heap.objs.size) y4 := by
    refine compLoop_any (Blk n (X.blk y3 G3 scope ce fp) (wipe σ (own.map (·.2))) fp tn W) (fun k z T0 => ?_) m ⟨t4, 0, G3, J4, at4', fun b hb => (apart3 b hb).1.1, w0⟩
    obtain ⟨tz, i, G5, J5, at5, free5, w5⟩ := T0
    refine (turn i k G5 w5).elim (fun ⟨stop, last⟩ => ?_) fun ⟨go, Nx, less, step⟩ => ?_
    · refine thnF (T.done (X.blk y3 G3 scope ce fp) rfl rfl rfl calm i [] z _ G5 (fun _ _ => False) J5 (still J5 free5) at5 stop) fun r z2 q => ?_
      obtain ⟨rfl, J6⟩ := q
      have back : Inv X pins σ G5 z2 := J3.call' (ch := fp) J6.os J6.base J6.hok J6.bare fun b hb => by
        obtain ⟨_, p1, p2, p3, p4, _⟩ := (apart3 b hb).1
        exact ⟨p3, p1, p4, (apart3 b hb).1.2.2.2.2.2⟩
      have freeC : G5 y3.heap.objs.size = none := locs ▸ J6.free
      obtain ⟨mm, names, _⟩ := J6.loc
      have names : z2.heap.Ns y3.heap.objs.size mm := locs ▸ names
      exact hRR D y3.heap.objs.size z2 mm G5 back last names (J3.fpOk (Nat.le_refl _) freeC)
    · refine wpAny_mono (wpAny_toks_of tz (T.item (X.blk y3 G3 scope ce fp) rfl rfl rfl calm i [] z _ G5 (fun _ _ => False) J5 (still J5 free5) at5 go)) (fun r z2 q => ?_) fun _ _ q => q.2.elim
      obtain ⟨tz2, it2, rfl, q⟩ := q
      refine wpAny_mono (wpAny_toks_of tz2 q) (fun _ z3 q3 => ?_) fun _ _ q => q.2.elim
      obtain ⟨tz3, x, G7, J7, rel, yielded, at7, free7⟩ := q3
      have pinned7 := J7.pinned (still J7 free7) (T.obj _ _ at7)
      refine wpAny_mono (wpAny_toks_of tz3 (tgtB.run _ z3 _ G7 x it2 _ pinned7 rel (step x G7 yielded))) (fun _ z4 q4 => ?_) fun _ _ q => q.2.elim
      obtain ⟨tz4, ρ4, G8, J8, wiped, tested⟩ := q4
      refine wpAny_mono (wpAny_toks_of tz4 (tstB.run _ z4 ρ4 G8 _ J8 tested)) (fun b z5 q5 => ?_) fun _ _ q => q.2.elim
      obtain ⟨tz5, G9, J9, branch⟩ := q5
      have ends : ∀ {z' : Shared} {G' : Hp}, n ≤ z'.toks → Inv (X.blk y3 G3 scope ce fp) ([] ++ pinsAt fp z3.heap) ρ4 G' z' → Nx G' → ∃ k', k' < k ∧ Blk n (X.blk y3 G3 scope ce fp) (wipe σ (own.map (·.2))) fp tn W k' z' := fun {z' G'} tz' I' nx => by
        obtain ⟨k', lt, w'⟩ := less G' nx
        have pin : ∀ b ∈ fp, ∀ o, z3.heap.get? b = some o → z'.heap.get? b = some o ∧ G' b = none := fun b hb o e => by
          have := I'.pin (b, o) (List.mem_append_right _ (List.mem_append_right _ (mem_pinsAt hb e)))
          exact ⟨this.1, this.2.1⟩
        have same : (wipe σ (own.map (·.2))).length = ρ4.length := by rw [← wiped, wipe_length]
        have weaker := (I'.unpinned (pins := [])).weak same fun j v e => by
          rw [← wiped] at e
          exact (wipe_some e).1
        exact ⟨k', lt, tz', i + 1, G', weaker, T.keep _ _ _ at7 fun b hb o e => (pin b hb o e).1, fun b hb => (T.obj _ _ at7 b hb).elim fun o e => (pin b hb o e.1).2, w'⟩
      cases b with
      | false =>
        rw [if_neg Bool.false_ne_true] at branch ⊢
        exact ends tz5 J9 branch
      | true =>
        rw [if_pos rfl] at branch ⊢
        refine wpAny_mono (wpAny_toks_of tz5 (itmB (notedBy (model X.prog X.w) X.A ce fun e s'' => compPost (model X.prog X.w) X.A X.xe use Qf (.ref D) y3.heap.objs.size (.error e) s'') (fun ρ pins9 G9' z9 e9 y9 I9 c9 => blk_out hx hs hf hex J3 apart3 locs frm I9 c9) _ z5 ρ4 G9 _ tz5 (J9.wish _) branch)) (fun w z6 q6 => ?_) fun _ _ q => q.2
        obtain ⟨tz6, yv, G10, J10w, ry, acc, accAt, few, nx⟩ := q6
        have J10 := J10w.unwish
        refine wpAny_with_toks tz6 (app_ok (X := X.blk y3 G3 scope ce fp) J10 accAt few ry fun z7 J11 tz7 => ends tz7 J11 nx)
  exact codeAny_compStart_list goes (T.self X.A 0 _ _ _ at4' goes)
theorem ps_setLcX {EE : XK} {E₁ : Value → Shared → Prop} (hx : X.xe = fun e s' => wpAny (model X.prog X.w) X.A (leaving X.env e) (fun _ s'' => L2N.CX X.prog X.w X.outer X.H_0 X.s_0 EE e s'') E₁ s') (hs : X.stack = X.env :: X.outer) (hf : X.env.frame = some X.env.locals) (hex : X.ex = []) {i : Nat} {y : Str} {py spos : Pos} (calm : X.calm = true) (nd : X.N.Nodup) (at_ : X.N[i]? = some y)
    (loc : X.env.scope.names.lookup y = some .local) (used : swapsWith (.ListComp elt [⟨tg, iter, ifs, 0⟩] scope pos) (some (.Name y py)) spos.line X.env = pure true) (walk : PI X tg iter wi)
    (ok : BlkOk X.N X.env.scope scope own) (target : ∀ (z : Shared) (G : Hp) (C : Addr) (cl : List (Str × Addr)) (fp : List Addr), PG (X.blk z G scope (compEnvC scope cl C X.env) fp) tg g) (test : ∀ (z : Shared) (G : Hp) (C : Addr) (cl : List (Str × Addr)) (fp : List Addr), PTs (X.blk z G scope (compEnvC scope cl C X.env) fp) ifs tt)
    (item : ∀ (z : Shared) (G : Hp) (C : Addr) (cl : List (Str × Addr)) (fp : List Addr) (xe : Value → Shared → Prop), (∀ ρ, PassesAt (L2N.CX X.prog X.w) ((X.blk z G scope (compEnvC scope cl C X.env) fp).wish xe) ρ EE) → PE ((X.blk z G scope (compEnvC scope cl C X.env) fp).wish xe) elt te) (fold : ∀ x, foldedSetIterable iter X.env x = pure x := by intro _; rfl) :
    PS X (.Assign [.Name y py] (.ListComp elt [⟨tg, iter, ifs, 0⟩] scope pos) spos) (tAsg (tLc wi g tt te (own.map (·.2))) (gName i)) := ⟨fun pins s σ H D I want => by
  rw [exec_Assign_Name_used _ _ _ _ used]
  have want : tLc wi g tt te (own.map (·.2)) σ H (fun x H1 => gName i x σ H1 D.nx) := want
  have core := lcx_core (n := 0) (pos := pos) (pos' := firstIterPos [⟨tg, iter, ifs, 0⟩] pos) (use := some (assign (.Name y py) X.env)) (Qf := fun _ z' => SP X pins D .next z') hx hs hf hex (Nat.zero_le _) I calm nd (tkI walk) ok target test (fun z G C cl fp xe h => tkE (item z G C cl fp xe h)) fold want fun L C z m G J q ns fp => post_store nd at_ loc J q ns fp
  exact wpAny_bind (wpAny_standAt (wpAny_bind (wpAny_bind (thn core fun _ _ h => wpAny_pure (wpAny_pure h)))))⟩
end
/-- a def's call, in such a block -/
theorem pe_calB {X : Cx} {k : Nat} {ps : List Str} {sp : Sp} {x : Str} {p pos : Pos} {e : Expr} {es : List Expr} {t : TA} {EE : XK} (c : CalX X.prog X.w X.K X.mg X.base k x ps sp) (pa : ∀ ρ, PassesAt (L2N.CX X.prog X.w) X ρ EE) (hr : Room k X.A) (hg : Gl X x) (ha : PA X (e :: es) t) (hdb : (x == ("__debug__" : Str)) = false := by decide)
    (he : starEach (e :: es) X.env = (false, eval e X.env) :: starEach es X.env := by rfl) (hpl : (backTo pos (starEach es X.env)).any (·.1) = false := by rfl) : PE X (.Call (.Name x p) (e :: es) [] pos) (tCallS sp (fun _ => EE) t) := by
  obtain ⟨f, fd, F, hm, hk, hb, _⟩ := c.ex
  exact pe_callS F hr hg hm hk hb pa ha hdb he hpl
/-! ### the judgement -/
def mapX {α β : Type} (f : α → Option (Except Str β)) : List α → Option (Except Str (List β))
  | [] => some (.ok [])
  | a :: as => (f a).bind fun r => match r with
    | .error c => some (.error c)
    | .ok b => (mapX f as).bind fun q => some (match q with
      | .error c => .error c
      | .ok bs => .ok (b :: bs))
/-- an expression that gives a new list, or raises -/
def EvNX {α : Type} (K : PySem.W.Frag) (te : TE) (EE : XK) (σ : L2.St) (F : Hp) (O : Own) (R : Rep α) (r : Except Str (List α)) : Prop := ∀ H, Ok F O H → ∀ Q : VK,
  (∀ bs, r = .ok bs → ∀ p xs F' H', Gr F H F' H' → H p = none → F' p = none → H' p = some (.lst xs) → AllB R bs xs F' → Q (.ref p) H') → (∀ c, r = .error c → ∀ F' H', Gr F H F' H' → EE (clsV K c) none H') → te σ H Q
section
variable {α β : Type} {R : Rep α} {R' : Rep β} {K : PySem.W.Frag} {EE : XK} {σ : L2.St} {F : Hp} {O : Own} {te : TE}
theorem evX_lc {f : α → Option (Except Str β)} {wi : TI} {g : TG} {vs : List Nat} {as : List α} {r : Except Str (List β)} {P : α → L2.St → L2.St → Hp → Prop}
    (hm : mapX f as = some r) (hi : EvI wi σ F O R as) (hg : Tg g R P)
    (turn : ∀ a σ2 F' F2 ob, a ∈ as → Same F F' → Same F' F2 → P a (wipe σ vs) σ2 F2 → f a = some ob → wipe σ2 vs = wipe σ vs ∧ EvX K te (fun cls d _ G => EE cls d G) σ2 F2 O R' ob) :
    EvNX K (tLc wi g tYes te vs) EE σ F O R' r := fun H k Q q qe => by
  refine hi H k _ fun J F1 H1 g1 wk L hL => ?_
  have k1 := k.gr g1
  let W : Nat → Hp → Prop := fun i H' => ∃ F' acc done rest, Gr F1 H1 F' H' ∧ F' L = none ∧ H' L = some (.lst acc) ∧ All2 R' done acc F' ∧ mapX f (as.drop i) = some rest ∧ (∀ bs, rest = .ok bs → r = .ok (done ++ bs)) ∧ (∀ c, rest = .error c → r = .error c) ∧ done.length ≤ i
  have okL : ∀ {F' H'}, Gr F1 H1 F' H' → Ok F' O H' := fun gg => k1.gr gg
  refine ⟨fun i m H' => m = as.length - i ∧ i ≤ as.length ∧ W i H', ⟨as.length, by simp, Nat.zero_le _, F1, [], [], r, ⟨Same.refl _, same_new hL, g1.fh.trans (same_new hL), fun _ h _ => h⟩, free_of g1.fh hL, upd_same, trivial, hm, fun bs e => e, fun c e => e, Nat.le_refl _⟩, fun i m H' ⟨em, hile, F', acc, done, rest, gg, fL, hacc, ha2, hrest, ho, he, hdl⟩ => ?_⟩
  subst em
  by_cases hlt : i < as.length
  · have ha : as[i]? = some as[i] := List.getElem?_eq_getElem hlt
    obtain ⟨hgo, hy⟩ := (wk.2 i F' H' gg.f gg.fh).1 _ ha
    refine Or.inr ⟨hgo, W (i + 1), fun H2 w => ⟨as.length - (i + 1), by omega, rfl, hlt, w⟩, fun x H2 y => ?_⟩
    obtain ⟨F2, g2, rx⟩ := hy x H2 y
    rw [List.drop_eq_getElem_cons hlt] at hrest
    obtain ⟨o, e1, hrest⟩ := bsome hrest
    refine hg _ x (wipe σ vs) F2 H2 _ rx g2.fh fun σ2 p => ?_
    obtain ⟨hw, hv⟩ := turn as[i] σ2 F' F2 o (List.mem_of_getElem? ha) (g1.f.trans gg.f) g2.f p e1
    have gg2 := gg.trans g2
    have hacc2 : H2 L = some (.lst acc) := g2.h _ _ hacc
    have fL2 : F2 L = none := g2.nw L fL (by rw [hacc]; exact fun z => by cases z)
    refine ⟨hw, ?_⟩
    show te σ2 H2 _
    refine hv H2 (okL gg2) _ (fun b eb v F4 H4 g4 r4 => ?_) (fun c ec F4 H4 g4 => ?_)
    · subst eb
      obtain ⟨cs, e2, e3⟩ := bsome hrest
      have fL4 : F4 L = none := g4.nw L fL2 (by rw [hacc2]; exact fun z => by cases z)
      have gg4 := gg2.trans g4
      have lacc : acc.length ≤ limL := by
        rw [← ha2.len]
        have := wk.1
        omega
      refine ⟨acc, g4.h _ _ hacc2, sz_lt lacc, F4, acc ++ [v], done ++ [b], cs, ⟨gg4.f, fun a u hu => ?_, same_mut gg4.fh fL4, gg4.nw⟩, fL4, upd_same, (ha2.mono (g2.trans g4).f).app (All2.one r4), e2, fun bs eb => ?_, fun c ec => ?_, by rw [List.length_append]; simp; omega⟩
      · rw [upd_ne (ne_of_none hu hL)]
        exact gg4.h a u hu
      · subst eb
        rw [ho (b :: bs) (Option.some.inj e3).symm, List.append_assoc]
        rfl
      · subst ec
        exact he c (Option.some.inj e3).symm
    · subst ec
      exact qe c (he c (Option.some.inj hrest).symm) F4 H4 ((g1.trans gg2).trans g4)
  · refine Or.inl ⟨(wk.2 i F' H' gg.f gg.fh).2 (by omega), ?_⟩
    rw [List.drop_eq_nil_of_le (by omega)] at hrest
    have er := ho [] (Option.some.inj hrest).symm
    rw [List.append_nil] at er
    exact q done er L acc F' H' (g1.trans gg) (gr_none g1 hL) fL hacc ⟨ha2, Nat.le_trans (by omega) wk.1⟩
end
section
variable {α β : Type} {R : Rep α} {S : Rep β} {K : PySem.W.Frag} {EE : XK} {W : WX} {σ : L2.St} {F : Hp} {O : Own} {te : TE} {Z : Bs} {D : Ends} {A : Ar}
theorem sx_asgNX {i : Nat} {r : Except Str (List α)} (h : EvNX K te EE σ F O R r) (ko : ∀ bs, r = .ok bs → ∀ p xs F', Same F F' → AllB R bs xs F' → Nx Z D (σ.set i (some (.ref p))) F' ((p, .lst xs) :: O)) (ke : ∀ c, r = .error c → ∀ F', Same F F' → Xt K Z (fun cls d _ G => EE cls d G) c σ F' O) : Sx Z (tAsg te (gName i)) D σ F O := fun H at0 =>
  h H at0.ok _ (fun bs e p xs F' H' g n f x a => ko bs e p xs F' g.f a H' (at0.new g n f x)) fun c e F' H' g => ke c e F' g.f H' (at0.gr g)
end
end Lm
/-! Lm: great letters; the class of what a suite holds, several asked; a value within a statement that may not come. -/
namespace Lm
open PySem PySem.Spec PyProof.Rows L2
/-! ### isinstance of the error that a suite holds -/
/-! ### a value within a statement that may not come -/
def exB {α β : Type} (r : Except Str α) (k : α → Option (Except Str β)) : Option (Except Str β) := match r with
  | .ok a => k a
  | .error c => some (.error c)
theorem exB_ok {α β : Type} {r : Except Str α} {k : α → Option (Except Str β)} {a : α} {x : Option (Except Str β)} (h : exB r k = x) (e : r = .ok a) : k a = x := by subst e; exact h
theorem exB_er {α β : Type} {r : Except Str α} {k : α → Option (Except Str β)} {c : Str} {x : Option (Except Str β)} (h : exB r k = x) (e : r = .error c) : some (.error c) = x := by subst e; exact h
theorem sx_hole {α : Type} {R : Rep α} {K : PySem.W.Frag} {W : WX} {σ : L2.St} {F : Hp} {O : Own} {te : TE} {Z : Bs} {D : Ends} {r : Except Str α} {tS : TE → TS} (hT : ∀ te D σ H, tS te D σ H = te σ H fun v H1 => tS (fun _ H2 k => k v H2) D σ H1) (h : EvX K te W σ F O R r)
    (ko : ∀ a, r = .ok a → ∀ t9 F9, Same F F9 → Ev t9 σ F9 O (val R a) → Sx Z (tS t9) D σ F9 O) (ke : ∀ c, r = .error c → ∀ F', Same F F' → Xt K Z W c σ F' O) : Sx Z (tS te) D σ F O := fun H at0 => by
  rw [hT]
  exact h H at0.ok _ (fun a e v F2 H2 g c => ko a e (fun _ H9 k => k v H9) F2 g.f (fun H9 k9 Q9 q9 => q9 v F2 H9 (Gr.refl k9.ex) c) H2 (at0.gr g)) fun c e F' H' g => ke c e F' g.f H' (at0.gr g)
/-! ### three things unpacked of a list -/
end Lm
namespace Lm
open PySem PySem.Spec PyProof.Rows L2
/-! the script compared as data -/
end Lm
/-! Lm: list.extend; tables of texts and dicts that the module's top made. -/
namespace Lm
open PySem PySem.Spec PyProof.Rows L2
section
variable {α : Type} {R : Rep α} {Z : Bs} {D : Ends} {σ : L2.St} {F : Hp} {O O1 : Own} {te : TE} {K : PySem.W.Frag} {j : Nat} {p : Addr}
/-- xs.extend(e) -/
theorem sx_ext {n : Nat} {xs : List V} {as bs : List α} (hj : σ[j]? = some (some (.ref p))) (hO : O[n]? = some (p, .lst xs)) (hx : AllB R as xs F) (h : Ev te σ F O (spn R bs)) (hz : (as ++ bs).length ≤ limL)
    (k : ∀ ys F', Same F F' → AllB R (as ++ bs) (xs ++ ys) F' → Nx Z D σ F' (O.set n (p, .lst (xs ++ ys)))) : Sx Z (tDrop (tBM K "list" rExtend (tVar j) (tCons te tNil))) D σ F O := fun H at0 => by
  have own := at0.ok.own (p, .lst xs) (List.mem_of_getElem? hO)
  refine ⟨.ref p, hj, Or.inl ⟨rfl, xs, Or.inl (Or.inl own.2)⟩, h H at0.ok _ fun v F' H' g ⟨b, ys, ev, hb, hy⟩ => ?_⟩
  subst ev
  have lens : xs.length + ys.length ≤ limL := by
    rw [← hx.all.len, ← hy.all.len, ← List.length_append]
    exact hz
  exact ⟨p, b, xs, ys, rfl, rfl, g.h _ _ own.2, hb, sz_line lens, k ys F' g.f ⟨All2.app (hx.all.mono g.f) hy.all, hz⟩ _ (At.write (at0.gr g) hO)⟩
end
/-! ### tuples that stand in the written part -/
/-! ### a dict of the module's top: texts to ints -/
end Lm
/-! Lm: what is seen of the head (LmTabL), with dicts that the module's top made. -/
namespace Lm
open PySem PySem.Spec PyProof.Rows L2 PySem.W
end Lm
/-! Lm: two things of any data side by side. -/
namespace Lm
open PySem PySem.Spec PyProof.Rows L2 RZ
end Lm
/-! Lm: a list of pairs whose firsts are lists that nobody else leans on; promises by a word of what is owned behind; lists that lay frozen are owned again. -/
namespace Lm
open PySem PySem.Spec PyProof.Rows L2
section
variable {α β γ : Type}
def Bag (R1 : Rep α) (R2 : Rep β) : List (List α × β) → List V → Own → Hp → Prop
  | [], [], [], _ => True
  | a :: as, x :: xs, (q, o) :: inn, F => (∃ t w ys, x = .ref t ∧ F t = some (.tup [.ref q, w]) ∧ o = .lst ys ∧ AllB R1 a.1 ys F ∧ R2.rp a.2 w F) ∧ Bag R1 R2 as xs inn F
  | _, _, _, _ => False
structure BagB (R1 : Rep α) (R2 : Rep β) (as : List (List α × β)) (xs : List V) (inn : Own) (F : Hp) : Prop where
  all : Bag R1 R2 as xs inn F
  len : as.length ≤ limL
variable {R1 : Rep α} {R2 : Rep β} {F F' F1 : Hp} {as : List (List α × β)} {xs : List V} {inn : Own}
theorem Bag.mono (e : Same F F') : ∀ {as : List (List α × β)} {xs : List V} {inn : Own}, Bag R1 R2 as xs inn F → Bag R1 R2 as xs inn F'
  | [], [], [], _ => trivial
  | a :: as, x :: xs, (q, o) :: inn, ⟨⟨t, w, ys, h1, h2, h3, h4, h5⟩, h⟩ => ⟨⟨t, w, ys, h1, e _ _ h2, h3, h4.mono e, R2.mono e h5⟩, Bag.mono e h⟩
  | [], [], _ :: _, h => h.elim
  | [], _ :: _, [], h => h.elim
  | [], _ :: _, _ :: _, h => h.elim
  | _ :: _, [], [], h => h.elim
  | _ :: _, [], _ :: _, h => h.elim
  | _ :: _, _ :: _, [], h => h.elim
theorem BagB.mono (e : Same F F') (h : BagB R1 R2 as xs inn F) : BagB R1 R2 as xs inn F' := ⟨h.all.mono e, h.len⟩
end
/-! ### lists that lay frozen are owned again -/
open Classical in
noncomputable def lessO (OB : Own) (F : Hp) : Hp := fun a => if a ∈ OB.map (·.1) then none else F a
/-- these were owned, at Fb, and lie frozen in F -/
structure FrzB (Z : Bs) (Fb F : Hp) (OB : Own) : Prop where
  off : ∀ q ∈ OB, Fb q.1 = none ∧ Z.B q.1 = none
  at_ : ∀ q ∈ OB, F q.1 = some q.2 ∧ ∃ xs, q.2 = .lst xs
  nd : (OB.map (·.1)).Nodup
  fb : Same Fb F
section
variable {Z : Bs} {F F' F1 Fb G H : Hp} {O O' OB pre : Own} {D : Ends} {σ : L2.St} {ts : TS} {p : Addr} {xs : List V}
theorem FrzB.mono (f : FrzB Z Fb F OB) (e : Same F F') : FrzB Z Fb F' OB := ⟨f.off, fun q m => ⟨e _ _ (f.at_ q m).1, (f.at_ q m).2⟩, f.nd, f.fb.trans e⟩
theorem less_off {a : Addr} (h : a ∉ OB.map (·.1)) : lessO OB F a = F a := if_neg h
theorem same_less (e : Same Fb F) (h : ∀ q ∈ OB, Fb q.1 = none) : Same Fb (lessO OB F) := fun a u z => by
  rw [less_off fun m => ?_]
  · exact e a u z
  · obtain ⟨q, m2, e2⟩ := List.mem_map.mp m
    rw [← e2, h q m2] at z
    cases z
theorem FrzB.same (f : FrzB Z Fb F OB) : Same Fb (lessO OB F) := same_less f.fb fun q m => (f.off q m).1
end
/-! ### promises by a word of what is owned behind -/
section
variable {α β γ : Type} {R : Rep α} {Z : Bs} {F F' F1 Fb G H H' : Hp} {O O' O0 O1 OB pre inn : Own} {D : Ends} {σ : L2.St} {ts : TA} {te : TE} {p t : Addr} {xs ys : List V} {T : Tb} {as : List Ar} {C : Ar} {E : XK} {nx : L2.St → Hp → Prop} {Q : VK} {v : V} {Post : Hp → Own → Prop}
theorem At.last (k : At Z F (pre ++ O0) H) : At Z F O0 H := ⟨⟨k.ok.ex, fun q m => k.ok.own q (List.mem_append_right _ m)⟩, k.b, k.f0, k.sep, fun q m => k.ob q (List.mem_append_right _ m), (own_nd k).2, k.tab.less fun q m => ⟨q, List.mem_append_right _ m, rfl⟩⟩
end
end Lm
namespace Lm
open PySem PySem.Spec PyProof.Rows L2
/-! ### a for over such a bag, each list being changed in its turn -/
end Lm
namespace Lm
open PySem PySem.Spec PyProof.Rows L2
end Lm
namespace Lm
open PySem PySem.Spec PyProof.Rows L2
/-! plans told statement by statement -/
end Lm
/-! Lm: a def that hands back its own closure; closures that change a list which they captured; methods that are handed such. -/
namespace Lm
open PySem PySem.Spec PyProof.Rows L2 LamX NdefX
/-! ### the cells of a def that hands back its closure lie frozen behind -/
end Lm
namespace Lm
open PySem PySem.Spec PyProof.Rows L2 LamX NdefX
/-! ### what stays when cells are let go -/
end Lm
namespace Lm
open PySem PySem.Spec PyProof.Rows L2 LamX NdefX
end Lm
/-! Lm: new data, all whose lists are made longer by a def that calls itself. -/
namespace Lm
open PySem PySem.Spec PyProof.Rows L2
/-! ### how deep, how many lists, how long at most -/
mutual
def dep : PyData → Nat
  | .list ds => deps ds + 1
  | .tuple ds => deps ds + 1
  | _ => 0
def deps : List PyData → Nat
  | [] => 0
  | d :: ds => max (dep d) (deps ds)
end
def moreV : V := .str (mk [109, 111, 114, 101])
/-! ### what is reached -/
end Lm
namespace Lm
open PySem PySem.Spec PyProof.Rows L2
/-! ### lists grow -/
/-- what was frozen in F stands in F'; new lists among S may be longer -/
structure Gw (B : Hp) (n : Nat) (S : Addr → Prop) (F F' : Hp) : Prop where
  keep : ∀ a o, F a = some o → F' a = some o ∨ (B a = none ∧ S a ∧ ∃ xs k, o = .lst xs ∧ k ≤ n ∧ F' a = some (.lst (xs ++ List.replicate k moreV)))
section
variable {B F F0 F' F1 F2 H : Hp} {a : Addr} {n m : Nat} {S S1 S2 : Addr → Prop}
theorem Gw.refl : Gw B n S F F := ⟨fun a o e => Or.inl e⟩
theorem Gw.trans (g : Gw B n S F F1) (h : Gw B m S1 F1 F2) (hs : ∀ a, S1 a → S a) : Gw B (n + m) S F F2 := ⟨fun a o e => by
  rcases g.keep a o e with e1 | ⟨b, s, xs, k, eo, hk, e1⟩
  · rcases h.keep a o e1 with e2 | ⟨b, s, xs, k, eo, hk, e2⟩
    · exact Or.inl e2
    · exact Or.inr ⟨b, hs a s, xs, k, eo, by omega, e2⟩
  · rcases h.keep a _ e1 with e2 | ⟨b2, s2, xs2, k2, eo2, hk2, e2⟩
    · exact Or.inr ⟨b, s, xs, k, eo, by omega, e2⟩
    · cases eo2
      exact Or.inr ⟨b, s, xs, k + k2, eo, by omega, by rw [e2, List.append_assoc, List.replicate_append_replicate]⟩⟩
theorem Gw.mono (g : Gw B n S F F') (h : n ≤ m) (hs : ∀ a, S a → S1 a) : Gw B m S1 F F' := ⟨fun a o e => (g.keep a o e).imp id fun ⟨b, s, xs, k, eo, hk, e1⟩ => ⟨b, hs a s, xs, k, eo, by omega, e1⟩⟩
theorem Gw.less (g : Gw B n S F F') (e : Same F0 F) : Gw B n S F0 F' := ⟨fun a o h => g.keep a o (e a o h)⟩
theorem Gw.same (g : Gw B n S F F') {o : HO} (e : F a = some o) (h : ¬ S a) : F' a = some o := (g.keep a o e).elim id fun ⟨_, s, _⟩ => absurd s h
theorem Gw.tup (g : Gw B n S F F') {xs : List V} (e : F a = some (.tup xs)) : F' a = some (.tup xs) := (g.keep a _ e).elim id fun ⟨_, _, _, _, z, _⟩ => by cases z
/-! what is reached in a heap that has more is what was reached -/
end
end Lm
namespace Lm
open PySem PySem.Spec PyProof.Rows L2
/-! ### the walk -/
end Lm
namespace Lm
open PySem PySem.Spec PyProof.Rows L2
end Lm
namespace Lm
open PySem PySem.Spec PyProof.Rows L2
end Lm
namespace Lm
open PySem PySem.Spec PyProof.Rows L2
end Lm
/-! Lm: an instance is made of an owned list, which it does not lean on; a list is emptied. -/
namespace Lm
open PySem PySem.Spec PyProof.Rows L2
end Lm
namespace Lm
open PySem PySem.Spec PyProof.Rows L2
end Lm
namespace Lm
open PySem PySem.Spec PyProof.Rows L2
end Lm
/-! Lm: comprehensions over lists in a def that is called while an error is handled. -/
namespace HotX
open PySem PySem.Spec PyProof.Rows
theorem pyNext_list_end_hot {prog : Program} {w : World} {A : Around} {E : Value → Shared → Prop} {s : Shared} {it l x1 : Addr} {i : Nat} {items : Array Value} {Q : Option Value → Shared → Prop} (hot : HotAt A x1 s.heap) (nx : x1 ≠ it)
    (hit : s.heap.IsListIter it l i) (hl : s.heap.IsList l items) (hx : items[i]? = none)
    (hQ : ∀ h', Heap.ExtBut it s.heap h' → Q none { s with heap := h' }) : wpAny (model prog w) A (pyNext (.ref it)) Q E s := by
  obtain ⟨o, ho, hc, hd⟩ := id hit
  obtain ⟨ol, hol, _, nl, hdl⟩ := hl
  obtain ⟨hh, o1, vs1, h1, d1, c1⟩ := hot
  unfold pyNext
  refine wpAny_bind (wpAny_attempt (wpAny_callSpecial?_slot (name := Str.ofString "__next__") hit.typeIs slot_listiter_next
    (wpAny_call_entry slot_listiter_next hit.typeIs entry_listiter_next ?_ (args_listiter_next _))))
  show wpAny _ _ (field (.ref it) 0 >>= _) _ _ s
  refine wpAny_bind (wpAny_field ho hd (x := .ref l) rfl ?_)
  show wpAny _ _ (if (Value.ref l == Value.none) = true then _ else _) _ _ s
  rw [if_neg (show ¬ ((Value.ref l == Value.none) = true) from Bool.false_ne_true)]
  show wpAny _ _ (field (.ref it) 1 >>= _) _ _ s
  refine wpAny_bind (wpAny_field ho hd (x := .int i 0) rfl ?_)
  show wpAny _ _ (seqItems? (.ref l) >>= _) _ _ s
  refine wpAny_bind (wpAny_seqItems hol hdl ?_)
  simp only [Int.toNat_natCast, hx]
  refine wpAny_bind (wpAny_rule (wpAny_bind (wpAny_setField ho hd (by simp) ?_)))
  show wpAny _ _ (newExc (.type "StopIteration") [] >>= _) _ _ _
  refine wpAny_bind ?_
  simp only [newExc, newTuple]
  refine wpAny_bind (wpAny_newObj_type ?_ (by size_fits))
  refine wpAny_bind (m := firstArgMember _ _) (wpAny_of_eq (a := Value.none) (by first | rfl | (simp only [firstArgMember]; rfl)) ?_)
  refine wpAny_newObj_type ?_ (by size_fits)
  have h2 : (s.heap.update it (Obj.mapFields fun vs => vs.setIfInBounds 0 .none)).get? x1 = some o1 := by
    rw [Heap.get?_update_other _ _ (Ne.symm nx)]
    exact h1
  refine raiseNew_hot ⟨hh, o1, vs1, Heap.get?_push_of_some _ (Heap.get?_push_of_some _ h2), d1, c1⟩ (Nat.ne_of_lt (Heap.lt_size (Heap.get?_push_of_some _ h2))) (Heap.get?_push_size _ rfl) rfl (by first | (simp; done) | (simp; omega) | (simp only [Array.size_append]; simp; omega)) ?_
  refine wpAny_bind (wpAny_isInstance (T := "StopIteration") (b := true) ⟨_, Heap.get?_update_self _ (Heap.get?_push_size _ rfl) rfl, rfl⟩ isSubtype_stop ?_)
  refine wpAny_pure (hQ _ fun b o hb e => ?_)
  have e2 : (s.heap.update it (Obj.mapFields fun vs => vs.setIfInBounds 0 .none)).get? b = some o := by
    rw [Heap.get?_update_other _ _ (Ne.symm hb)]
    exact e
  rw [Heap.get?_update_other _ _ (Nat.ne_of_gt (Heap.lt_size (Heap.get?_push_of_some _ e2)))]
  exact Heap.get?_push_of_some _ (Heap.get?_push_of_some _ e2)
theorem next_tuple_end_hot {prog : Program} {w : World} {A : Around} {E : Value → Shared → Prop} {s : Shared} {it t x1 : Addr} {i : Nat} {items : Array Value} {Q : Option Value → Shared → Prop} (hot : HotAt A x1 s.heap) (nx : x1 ≠ it)
    (hit : IsTupIter s.heap it t i) (ht : IsTup s.heap t items) (hx : items[i]? = none)
    (hQ : ∀ h', Heap.ExtBut it s.heap h' → Q none { s with heap := h' }) : wpAny (model prog w) A (pyNext (.ref it)) Q E s := by
  obtain ⟨o, ho, hc, hd⟩ := id hit
  obtain ⟨ol, hol, _, nl, hdl⟩ := ht
  obtain ⟨hh, o1, vs1, h1, d1, c1⟩ := hot
  unfold pyNext
  refine wpAny_bind (wpAny_attempt (wpAny_callSpecial?_slot (name := Str.ofString "__next__") hit.typeIs slot_tupleiter_next
    (wpAny_call_entry slot_tupleiter_next hit.typeIs entry_tupleiter_next ?_ (args_tupleiter_next _))))
  show wpAny _ _ (field (.ref it) 0 >>= _) _ _ s
  refine wpAny_bind (wpAny_field ho hd (x := .ref t) rfl ?_)
  show wpAny _ _ (if (Value.ref t == Value.none) = true then _ else _) _ _ s
  rw [if_neg (show ¬ ((Value.ref t == Value.none) = true) from Bool.false_ne_true)]
  show wpAny _ _ (field (.ref it) 1 >>= _) _ _ s
  refine wpAny_bind (wpAny_field ho hd (x := .int i 0) rfl ?_)
  show wpAny _ _ (seqItems? (.ref t) >>= _) _ _ s
  refine wpAny_bind (wpAny_seqItems hol hdl ?_)
  simp only [Int.toNat_natCast, hx]
  refine wpAny_bind (wpAny_rule (wpAny_bind (wpAny_setField ho hd (by simp) ?_)))
  show wpAny _ _ (newExc (.type "StopIteration") [] >>= _) _ _ _
  refine wpAny_bind ?_
  simp only [newExc, newTuple]
  refine wpAny_bind (wpAny_newObj_type ?_ (by size_fits))
  refine wpAny_bind (m := firstArgMember _ _) (wpAny_of_eq (a := Value.none) (by first | rfl | (simp only [firstArgMember]; rfl)) ?_)
  refine wpAny_newObj_type ?_ (by size_fits)
  have h2 : (s.heap.update it (Obj.mapFields fun vs => vs.setIfInBounds 0 .none)).get? x1 = some o1 := by
    rw [Heap.get?_update_other _ _ (Ne.symm nx)]
    exact h1
  refine raiseNew_hot ⟨hh, o1, vs1, Heap.get?_push_of_some _ (Heap.get?_push_of_some _ h2), d1, c1⟩ (Nat.ne_of_lt (Heap.lt_size (Heap.get?_push_of_some _ h2))) (Heap.get?_push_size _ rfl) rfl (by first | (simp; done) | (simp; omega) | (simp only [Array.size_append]; simp; omega)) ?_
  refine wpAny_bind (wpAny_isInstance (T := "StopIteration") (b := true) ⟨_, Heap.get?_update_self _ (Heap.get?_push_size _ rfl) rfl, rfl⟩ isSubtype_stop ?_)
  refine wpAny_pure (hQ _ fun b o hb e => ?_)
  have e2 : (s.heap.update it (Obj.mapFields fun vs => vs.setIfInBounds 0 .none)).get? b = some o := by
    rw [Heap.get?_update_other _ _ (Ne.symm hb)]
    exact e
  rw [Heap.get?_update_other _ _ (Nat.ne_of_gt (Heap.lt_size (Heap.get?_push_of_some _ e2)))]
  exact Heap.get?_push_of_some _ (Heap.get?_push_of_some _ e2)
theorem HotAt.ext {A : Around} {x1 n : Addr} {h h' : Heap} (k : HotAt A x1 h) (ne : x1 ≠ n) (e : Heap.ExtBut n h h') : HotAt A x1 h' := by
  obtain ⟨hh, o1, vs1, h1, d1, c1⟩ := k
  exact ⟨hh, o1, vs1, e x1 o1 ne h1, d1, c1⟩
theorem HotAt.push {A : Around} {x1 : Addr} {h : Heap} (k : HotAt A x1 h) (o : Obj) : HotAt A x1 (h.push o) := by
  obtain ⟨hh, o1, vs1, h1, d1, c1⟩ := k
  exact ⟨hh, o1, vs1, Heap.get?_push_of_some _ h1, d1, c1⟩
theorem HotAt.lt {A : Around} {x1 : Addr} {h : Heap} (k : HotAt A x1 h) : x1 < h.objs.size := by
  obtain ⟨hh, o1, vs1, h1, d1, c1⟩ := k
  exact Heap.lt_size h1
theorem unpackItems_tuple_hot {prog : Program} {w : World} {A : Around} {E : Value → Shared → Prop} {s : Shared} {t x1 : Addr} {items : Array Value} {Q : List Value → Shared → Prop} (hot : HotAt A x1 s.heap) (ht : IsTup s.heap t items)
    (hQ : ∀ h', Heap.ExtBut s.heap.objs.size s.heap h' → Q items.toList { s with heap := h' }) : wpAny (model prog w) A (unpackItems (.ref t) items.size none) Q E s := by
  have hlt : t ≠ s.heap.objs.size := by obtain ⟨o, ho, _⟩ := ht; exact Nat.ne_of_lt (Heap.lt_size ho)
  unfold unpackItems
  refine wpAny_bind ?_
  · unfold notIterableAtAll
    refine wpAny_bind (wpAny_specialOf ht.typeIs slot_tuple_iter.lookup ?_)
    refine wpAny_pure ?_
    simp only [Bool.false_eq_true, if_false]
    refine wpAny_bind (wpAny_holding (iter_tuple ht ?_))
    refine wpAny_bind (wpAny_holding (draw_tuple hlt items.size 0 _ _ ⟨_, Heap.get?_push_size _ rfl, rfl, rfl⟩ (ht.push _) (by omega) fun h₁ hit₁ hs₁ => ?_))
    have hall : List.take items.size (List.drop 0 items.toList) = items.toList := by
      rw [List.drop_zero]; exact List.take_of_length_le (by simp)
    rw [hall]
    rw [if_neg (by simp)]
    have ht₁ : IsTup h₁ t items := (ht.push _).extBut hs₁.extBut hlt
    have hot1 : HotAt A x1 h₁ := (hot.push _).ext (Nat.ne_of_lt hot.lt) hs₁.extBut
    refine wpAny_bind (wpAny_holding (next_tuple_end_hot hot1 (Nat.ne_of_lt hot.lt) hit₁ ht₁ (by simp) fun h₂ he₂ => ?_))
    simp only [Option.isSome_none, Bool.false_eq_true, if_false]
    refine wpAny_pure (hQ h₂ fun b o hb e => he₂ b o hb (hs₁.extBut b o hb (Heap.get?_push_of_some _ e)))
theorem assign_Tuple_tuple_hot {prog : Program} {w : World} {A : Around} {E : Value → Shared → Prop} {s : Shared} {env : Env} {elts : List Expr} {k : Nat} {pos : Pos} {t x1 : Addr} {items : Array Value} {Q : Unit → Shared → Prop} (hot : HotAt A x1 s.heap) (ht : IsTup s.heap t items)
    (hn : (assignEach elts env).length = items.size) (hstar : (assignEach elts env).findIdx? (·.1) = none)
    (h : ∀ h', Heap.ExtBut s.heap.objs.size s.heap h' → wpAny (model prog w) A (assignInOrder ((assignEach elts env).map (·.2)) items.toList) Q E { s with heap := h' }) :
    wpAny (model prog w) A (assign (.Tuple elts k pos) env (.ref t)) Q E s := by
  rw [assign_Tuple]
  refine wpAny_bind (wpAny_standAt ?_)
  unfold unpack
  rw [hn, hstar]
  exact wpAny_bind (wpAny_holding (unpackItems_tuple_hot hot ht h))
end HotX
namespace Lm
open PySem PySem.Spec PyProof.Rows L2 L2H HotX
/-- an iterator that may end while an error is handled -/
structure TurnH (P : Program) (w : World) (K : PySem.W.Frag) (tg : Expr) (J : It) (fp : List Addr) (it : Addr) (tn : Nat → Heap → Prop) : Prop where
  T : L2.Turn P w K tg J fp it tn
  item : ∀ (X : Cx), X.prog = P → X.w = w → X.K = K → ∀ (i : Nat) (pins : List (Addr × Obj)) (s : Shared) (σ : L2.St) (H : Hp) (E : Value → Shared → Prop), Inv X pins σ H s → (∀ b ∈ fp, FpOk X pins H b) → tn i s.heap → J.go i H →
    wpAny (model P w) X.A (pyNext (.ref it)) (fun r s1 => ∃ u, r = some u ∧
      wpAny (model P w) X.A (letOwnedTupleGo tg (.ref it) u) (fun _ s2 => ∃ x H', Inv X pins σ H' s2 ∧ RelV x u ∧ J.yld i H x H' ∧ tn (i + 1) s2.heap ∧ ∀ b ∈ fp, H' b = none) E s1) E s
  done : ∀ (X : Cx), X.prog = P → X.w = w → X.K = K → ∀ (i : Nat) (pins : List (Addr × Obj)) (s : Shared) (σ : L2.St) (H : Hp) (E : Value → Shared → Prop) (x1 : Addr), HotAt X.A x1 s.heap → x1 ∉ fp → Inv X pins σ H s → (∀ b ∈ fp, FpOk X pins H b) → tn i s.heap → J.stop i H →
    wpAny (model P w) X.A (pyNext (.ref it)) (fun r s1 => r = none ∧ Inv X pins σ H s1) E s
theorem turnH_list {P : Program} {w : World} {K : PySem.W.Frag} {tg : Expr} (a it : Addr) : TurnH P w K tg (Itl K a) [it] it (fun i h => h.IsListIter it a i) where
  T := turn_list a it
  item := by
    intro X hP hw hK i pins s σ H E I hf st hg
    subst hP hw hK
    obtain ⟨xs, x, hq, hx⟩ := hg
    obtain ⟨its, rv, p, hz⟩ := I.list hq
    obtain ⟨u, hu, ru⟩ := rv.get hx
    obtain ⟨f0, f1, f2, f3, f4, f5⟩ := hf it (by simp)
    refine wpAny_pyNext_list_item st p.isList (x := u) (by simpa using hu) fun h' st' sb => ?_
    have I1 : Inv X pins σ H { s with heap := h' } := I.turned (t' := s.toks) (fun b o hb e => (sb.2 b hb).trans e) f0 f1 f3 f4 f5
    obtain ⟨o, e, c, d⟩ := id st'
    exact ⟨u, rfl, go_of (s := { s with heap := h' }) e c d (by decide) ⟨x, H, I1, ru, ⟨rfl, fun ys hy => by rw [I.list_inj hy hq]; exact hx⟩, st', fun b hb => (hf b hb).1⟩⟩
  done := by
    intro X hP hw hK i pins s σ H E x1 hot nx I hf st hg
    subst hP hw hK
    obtain ⟨xs, hq, hx⟩ := hg
    obtain ⟨its, rv, p, hz⟩ := I.list hq
    obtain ⟨f0, f1, f2, f3, f4, f5⟩ := hf it (by simp)
    have hl := rv.length
    exact pyNext_list_end_hot hot (fun z => nx (by rw [z]; simp)) st p.isList (by simp; omega) fun h' eb => ⟨rfl, I.turned (t' := s.toks) (fun b o hb e => eb b o hb e) f0 f1 f3 f4 f5⟩
def PIEH (X : Cx) (pins : List (Addr × Obj)) (σ : L2.St) (tg : Expr) (R : It → Hp → Prop) (itv : Value) (s2 : Shared) : Prop :=
  ∃ (it : Addr) (fp : List Addr) (tn : Nat → Heap → Prop) (J : It) (H' : Hp), itv = .ref it ∧ Inv X pins σ H' s2 ∧ TurnH X.prog X.w X.K tg J fp it tn ∧ tn 0 s2.heap ∧ (∀ b ∈ fp, FpOk X pins H' b) ∧ R J H'
structure PIH (X : Cx) (tg iter : Expr) (wi : TI) : Prop where
  run : ∀ (pins : List (Addr × Obj)) (s : Shared) (σ : L2.St) (H : Hp) (R : It → Hp → Prop), Inv X pins σ H s → wi σ H R →
    wpAny (model X.prog X.w) X.A (eval iter X.env) (fun v s1 => wpAny (model X.prog X.w) X.A (pyIter v) (PIEH X pins σ tg R) X.xe s1) X.xe s
theorem pi_listH {X : Cx} {tg l : Expr} {tl : TE} (hl : PE X l tl) : PIH X tg l (iList X.K tl) := by
  refine ⟨fun pins s σ H R I h => ?_⟩
  refine thn (hl.run pins s σ H _ I h) fun v s1 ⟨x, H1, I1, r1, q1⟩ => ?_
  obtain ⟨a, e, ⟨xs, hq⟩, q⟩ := q1
  subst e
  cases r1
  obtain ⟨its, rv, p, hz⟩ := I1.list hq
  refine wpAny_pyIter_list p.isList ?_
  refine ⟨s1.heap.objs.size, [s1.heap.objs.size], _, _, H1, rfl, I1.kept (t' := s1.toks) fun b o e => Heap.get?_push_of_some _ e, turnH_list a _, ⟨_, Heap.get?_push_size _ rfl, rfl, rfl⟩, fun b hb => ?_, q⟩
  have e : b = s1.heap.objs.size := by simpa using hb
  subst e
  exact I1.fpOk (Nat.le_refl _) (I1.hok.fresh (Nat.le_refl _))
theorem pi_listHK {X : Cx} {K : PySem.W.Frag} {tg l : Expr} {tl : TE} (hK : X.K = K) (hl : PE X l tl) : PIH X tg l (iList K tl) := hK ▸ pi_listH hl
/-- wherever the def stands, the handled error is there -/
def HotI (X : Cx) : Prop := ∀ (pins : List (Addr × Obj)) (σ : L2.St) (H : Hp) (s : Shared), Inv X pins σ H s → ∃ x1, HotAt X.A x1 s.heap
section
variable {X : Cx} {pos : Pos}
theorem pg_tupH {es : List Expr} {k : Nat} {t : TGs} {n : Nat} (hc : HotI X) (h : PGs X es t)
    (hn : (assignEach es X.env).length = n := by rfl) (hst : (assignEach es X.env).findIdx? (·.1) = none := by rfl) : PG X (.Tuple es k pos) (gTup X.K n t) := by
  refine ⟨fun pins s σ H v u Q I r hw => ?_⟩
  obtain ⟨a, xs, e1, hq, hl, hw⟩ := hw
  subst e1
  cases r
  obtain ⟨its, rv, ht, hz⟩ := I.tuple hq
  obtain ⟨x1, hot⟩ := hc _ _ _ _ I
  refine assign_Tuple_tuple_hot hot ht (by simp [hn, ← hl, rv.length]) hst fun h' hx => ?_
  have I1 : Inv X pins σ H { s with heap := h' } := I.kept (t' := s.toks) fun b o e => hx b o (Nat.ne_of_lt (Heap.lt_size e)) e
  exact h.run pins _ σ H xs _ Q I1 (by simpa using rv) hw
end
section
variable {X : Cx}
theorem lc_coreH {pins : List (Addr × Obj)} {s : Shared} {σ : L2.St} {H : Hp} {Q : VK} {elt tg iter : Expr} {ifs : List Expr} {scope : Scope} {own : List (Str × Nat)} {pos pos' : Pos} {wi : TI} {g : TG} {tt : TT} {te : TE} {use : Option (Value → Sem Unit)} {Qf : Value → Shared → Prop}
    (hc : HotC X) (hN : X.N.Nodup) (I : Inv X pins σ H s) (hi : PIH X tg iter wi) (ok : BlkOk X.N X.env.scope scope own)
    (hg : ∀ (s : Shared) (H : Hp) (C : Addr) (cl : List (Str × Addr)) (fp : List Addr), HotI (X.blk s H scope (compEnvC scope cl C X.env) fp) → PG (X.blk s H scope (compEnvC scope cl C X.env) fp) tg g) (ht : ∀ (s : Shared) (H : Hp) (C : Addr) (cl : List (Str × Addr)) (fp : List Addr), PTs (X.blk s H scope (compEnvC scope cl C X.env) fp) ifs tt)
    (he : ∀ (s : Shared) (H : Hp) (C : Addr) (cl : List (Str × Addr)) (fp : List Addr), PE (X.blk s H scope (compEnvC scope cl C X.env) fp) elt te) (hs : ∀ x, foldedSetIterable iter X.env x = pure x)
    (h : tLc wi g tt te (own.map (·.2)) σ H Q)
    (hRR : ∀ D C s' m H', Inv X pins σ H' s' → Q (.ref D) H' → s'.heap.Ns C m → FpOk X pins H' C → compPost (model X.prog X.w) X.A X.xe use Qf (.ref D) C (.ok .next) s') :
    wpAny (model X.prog X.w) X.A (comprehension (.ListComp elt [⟨tg, iter, ifs, 0⟩] scope pos) scope X.env pos' (newList []) false (eval iter X.env) use) Qf X.xe s := by
  have hfree : ∀ y ∈ scope.names, y.2 = .free → ∃ c, X.env.cells.lookup y.1 = some c := fun y hy e => by
    rcases ok.free y hy e with k | k
    · exact I.ok.has _ (.inl k)
    · exact I.ok.has _ (.inr k)
  refine wpAny_comprehension_free (use := use) rfl hs (closure_ok hfree) ok.kind (fun y hy e => by rw [ok.uniq y hy, e])
    (thn (hi.run pins s σ H _ I h) fun xv s1 hx => thn hx fun itv s2 h2 => ?_)
  obtain ⟨it, fp, tn, J, H2, e, I2, TH, st2, f2, q⟩ := h2
  have T := TH.T
  subst e
  obtain ⟨p1, ⟨hh1, vs1, hv1, hn1⟩, hp1⟩ := hc
  have P2 := I2.pin p1 (List.mem_append_left _ hp1)
  have p1fp : p1.1 ∉ fp := fun m => (f2 p1.1 m).2.2.2.2.2 p1 (List.mem_append_left _ hp1) rfl
  refine wpAny_newObj_type (newEnv_comp ?_) (by show 0 ≤ sizeLine; decide)
  generalize hD : s2.heap.objs.size = D
  have hDn : H2 D = none := I2.hok.fresh (Nat.le_of_eq hD)
  obtain ⟨W, ⟨m0, w0⟩, turn⟩ := q D hDn
  -- the new list
  generalize hs3 : ({ s2 with heap := s2.heap.push { cls := .type "list", data := .seq ([] : List Value).toArray } } : Shared) = s3
  have I3 : Inv X pins σ (upd H2 D (.lst [])) s3 := by
    rw [← hs3]
    refine I2.laid (t' := s2.toks) (fun b o e => Heap.get?_push_of_some _ e) (Nat.le_of_eq hD) ⟨Nat.zero_le _, [], 0, .nil, ?_⟩
    rw [← hD]
    exact Heap.get?_push_size _ rfl
  have h3 : s3.heap = s2.heap.push { cls := .type "list", data := .seq ([] : List Value).toArray } := by rw [← hs3]
  have sz : ∀ b ∈ fp, b < s2.heap.objs.size := fun b hb => by
    obtain ⟨o, e, _⟩ := T.obj _ _ st2 b hb
    exact Heap.lt_size e
  have f3 : ∀ b ∈ fp, FpOk X pins (upd H2 D (.lst [])) b ∧ b < s3.heap.objs.size := fun b hb => by
    have hlt := sz b hb
    refine ⟨⟨?_, (f2 b hb).2⟩, by rw [h3, Heap.size_push]; exact Nat.lt_succ_of_lt hlt⟩
    rw [upd_ne (by rw [← hD]; exact Nat.ne_of_lt hlt)]
    exact (f2 b hb).1
  have st3 : tn 0 s3.heap := T.keep _ _ _ st2 fun b _ o e => by rw [h3]; exact Heap.get?_push_of_some _ e
  have I4 := block_start I3 ok hN f3
  have pg := hg s3 (upd H2 D (.lst [])) s3.heap.objs.size (cellsFrom (s3.heap.objs.size + 1) scope.names (cloFrom X.env.cells scope.names [])) fp
  have pt := ht s3 (upd H2 D (.lst [])) s3.heap.objs.size (cellsFrom (s3.heap.objs.size + 1) scope.names (cloFrom X.env.cells scope.names [])) fp
  have pe := he s3 (upd H2 D (.lst [])) s3.heap.objs.size (cellsFrom (s3.heap.objs.size + 1) scope.names (cloFrom X.env.cells scope.names [])) fp
  show codeAny _ _ (.compStart (.ListComp elt [⟨tg, iter, ifs, 0⟩] scope pos) 0 (.ref it) (.ref D) (compEnvC scope (cellsFrom (s3.heap.objs.size + 1) scope.names (cloFrom X.env.cells scope.names [])) s3.heap.objs.size X.env)) (compPost (model X.prog X.w) X.A X.xe use Qf (.ref D) s3.heap.objs.size) { s3 with heap := pushCells (s3.heap.push { cls := .type "dict", data := .dict #[] }) scope.names }
  have nfp : ∀ b ∈ fp, (upd H2 D (.lst [])) b = none := fun b hb => (f3 b hb).1.1
  have P3 := I3.pin p1 (List.mem_append_left _ hp1)
  have p1st : p1.1 ∉ frs X.stack := fun hm => (List.mem_cons.mp (I3.stkSub p1.1 hm)).elim P3.2.2.1 P3.2.2.2.1
  generalize hce : compEnvC scope (cellsFrom (s3.heap.objs.size + 1) scope.names (cloFrom X.env.cells scope.names [])) s3.heap.objs.size X.env = ce at I4 pg pt pe ⊢
  have cL : ce.locals = s3.heap.objs.size := by subst hce; rfl
  generalize hH3 : upd H2 D (.lst []) = H3 at I3 I4 pg pt pe w0 nfp f3 P3
  generalize hs4 : ({ s3 with heap := pushCells (s3.heap.push { cls := .type "dict", data := .dict #[] }) scope.names } : Shared) = s4 at I4 ⊢
  have st4 : tn 0 s4.heap := T.keep _ _ _ st3 fun b _ o e => by rw [← hs4]; exact pushCells_keeps _ _ _ _ (Heap.get?_push_of_some _ e)
  have stat : ∀ {σ' : L2.St} {H' : Hp} {s' : Shared}, Inv (X.blk s3 H3 scope ce fp) [] σ' H' s' → (∀ b ∈ fp, H' b = none) → ∀ b ∈ fp, FpOk (X.blk s3 H3 scope ce fp) [] H' b := fun {σ' H' s'} I' hn b hb =>
    ⟨hn b hb, (I'.ok.exf b hb).1, I'.ok.exfs b hb, .inl hb, fun x c e => (I'.ok.exf b hb).2 x c e, fun p hp => absurd (show p ∈ ([] : List (Addr × Obj)) ++ [] from hp) (by simp)⟩
  have hotIn : ∀ {pins : List (Addr × Obj)} {σ' : L2.St} {H' : Hp} {s' : Shared}, Inv (X.blk s3 H3 scope ce fp) pins σ' H' s' → HotAt X.A p1.1 s'.heap := fun {pins σ' H' s'} I' =>
    ⟨hh1, p1.2, vs1, I'.base.keep p1.1 p1.2 P3.1 P3.2.1 p1st p1fp, hv1, hn1⟩
  have pg := pg fun _ _ _ _ I' => ⟨p1.1, hotIn I'⟩
  have loop : codeAny (model X.prog X.w) X.A (.compLoop (.ListComp elt [⟨tg, iter, ifs, 0⟩] scope pos) 0 (.ref it) (.ref D) ce) (compPost (model X.prog X.w) X.A X.xe use Qf (.ref D) s3.heap.objs.size) s4 := by
    refine compLoop_any (fun n s' => ∃ i H', Inv (X.blk s3 H3 scope ce fp) [] (wipe σ (own.map (·.2))) H' s' ∧ tn i s'.heap ∧ (∀ b ∈ fp, H' b = none) ∧ W i n H') ?_ m0 ⟨0, H3, I4, st4, nfp, w0⟩
    rintro n s5 ⟨i, H5, I5, st5, n5, w5⟩
    rcases turn i n H5 w5 with ⟨stop, qq⟩ | ⟨go, Nx, hNx, step⟩
    · have td := TH.done (X.blk s3 H3 scope ce fp) rfl rfl rfl i [] s5 _ H5 (fun _ _ => False) p1.1 (hotIn I5) p1fp I5 (stat I5 n5) st5 stop
      refine thnF td fun r s6 ⟨hr, I6⟩ => ?_
      subst hr
      -- back in the def's context
      have I7 : Inv X pins σ H5 s6 := I3.call' (ch := fp) I6.os I6.base I6.hok I6.bare fun b hb => ⟨(f3 b hb).1.2.2.2.1, (f3 b hb).1.2.1, (f3 b hb).1.2.2.2.2.1, (f3 b hb).1.2.2.2.2.2⟩
      have nC : H5 s3.heap.objs.size = none := by
        have z : H5 ce.locals = none := I6.free
        rw [cL] at z
        exact z
      obtain ⟨m, hn, _⟩ := I6.loc
      have hn : s6.heap.Ns ce.locals m := hn
      rw [cL] at hn
      exact hRR D s3.heap.objs.size s6 m H5 I7 qq hn (I3.fpOk (Nat.le_refl _) nC)
    · have ti := TH.item (X.blk s3 H3 scope ce fp) rfl rfl rfl i [] s5 _ H5 (fun _ _ => False) I5 (stat I5 n5) st5 go
      refine thnF ti fun r s6 ⟨u, hr, h6⟩ => ?_
      subst hr
      refine thnF h6 fun _ s7 ⟨x, H7, I7, r7, y7, st7, n7⟩ => ?_
      have I7' := I7.pinned (stat I7 n7) (T.obj _ _ st7)
      refine thnF (pg.run _ s7 _ H7 x u _ I7' r7 (step x H7 y7)) fun _ s8 ⟨σ8, H8, I8, hw8, q8⟩ => ?_
      refine thnF (pt.run _ s8 σ8 H8 _ I8 q8) fun b s9 ⟨H9, I9, q9⟩ => ?_
      -- the turn's end
      have fin : ∀ {s' : Shared} {H' : Hp}, Inv (X.blk s3 H3 scope ce fp) ([] ++ pinsAt fp s7.heap) σ8 H' s' → Nx H' → ∃ m, m < n ∧ ∃ i H', Inv (X.blk s3 H3 scope ce fp) [] (wipe σ (own.map (·.2))) H' s' ∧ tn i s'.heap ∧ (∀ b ∈ fp, H' b = none) ∧ W i m H' := fun {s' H'} I' nx => by
        obtain ⟨m', hm, w'⟩ := hNx H' nx
        have pin' : ∀ b ∈ fp, ∀ o, s7.heap.get? b = some o → s'.heap.get? b = some o ∧ H' b = none := fun b hb o e =>
          let z := I'.pin (b, o) (List.mem_append_right _ (List.mem_append_right _ (mem_pinsAt hb e)))
          ⟨z.1, z.2.1⟩
        have hl : (wipe σ (own.map (·.2))).length = σ8.length := by rw [← hw8, wipe_length]
        refine ⟨m', hm, i + 1, H', (I'.unpinned (pins := [])).weak hl (fun j v e => ?_), T.keep _ _ _ st7 fun b hb o e => (pin' b hb o e).1, fun b hb => ?_, w'⟩
        · rw [← hw8] at e
          exact (wipe_some e).1
        · obtain ⟨o, e, _⟩ := T.obj _ _ st7 b hb
          exact (pin' b hb o e).2
      cases b with
      | false =>
        simp only [Bool.false_eq_true, if_false] at q9 ⊢
        exact fin I9 q9
      | true =>
        simp only [if_true] at q9 ⊢
        refine thnF (pe.run _ s9 σ8 H9 _ I9 q9) fun z s10 ⟨yv, H10, I10, r10, acc, hD10, hz10, nx⟩ => ?_
        exact app_ok (X := X.blk s3 H3 scope ce fp) I10 hD10 hz10 r10 fun s11 I11 => fin I11 nx
  exact codeAny_compStart_list loop (T.self X.A 0 _ _ _ st4 loop)
theorem ps_setLcH {i : Nat} {y : Str} {py : Pos} {elt tg iter : Expr} {ifs : List Expr} {scope : Scope} {own : List (Str × Nat)} {pos spos : Pos} {wi : TI} {g : TG} {tt : TT} {te : TE} (hc : HotC X) (hN : X.N.Nodup) (hy : X.N[i]? = some y) (hyl : X.env.scope.names.lookup y = some .local)
    (hsw : swapsWith (.ListComp elt [⟨tg, iter, ifs, 0⟩] scope pos) (some (.Name y py)) spos.line X.env = pure true) (hi : PIH X tg iter wi) (ok : BlkOk X.N X.env.scope scope own)
    (hg : ∀ (s : Shared) (H : Hp) (C : Addr) (cl : List (Str × Addr)) (fp : List Addr), HotI (X.blk s H scope (compEnvC scope cl C X.env) fp) → PG (X.blk s H scope (compEnvC scope cl C X.env) fp) tg g) (ht : ∀ (s : Shared) (H : Hp) (C : Addr) (cl : List (Str × Addr)) (fp : List Addr), PTs (X.blk s H scope (compEnvC scope cl C X.env) fp) ifs tt)
    (he : ∀ (s : Shared) (H : Hp) (C : Addr) (cl : List (Str × Addr)) (fp : List Addr), PE (X.blk s H scope (compEnvC scope cl C X.env) fp) elt te) (hs : ∀ x, foldedSetIterable iter X.env x = pure x := by intro _; rfl) :
    PS X (.Assign [.Name y py] (.ListComp elt [⟨tg, iter, ifs, 0⟩] scope pos) spos) (tAsg (tLc wi g tt te (own.map (·.2))) (gName i)) := by
  refine ⟨fun pins s σ H D I h => ?_⟩
  rw [exec_Assign_Name_used _ _ _ _ hsw]
  refine wpAny_bind (wpAny_standAt (wpAny_bind ?_))
  show wpAny _ X.A (do let _ ← comprehension (.ListComp elt [⟨tg, iter, ifs, 0⟩] scope pos) scope X.env (firstIterPos [⟨tg, iter, ifs, 0⟩] pos) (newList []) false (eval iter X.env) (some (assign (.Name y py) X.env))) _ _ s
  have h : tLc wi g tt te (own.map (·.2)) σ H (fun x H1 => gName i x σ H1 D.nx) := h
  refine wpAny_bind (thn (lc_coreH (Qf := fun _ s' => SP X pins D .next s') hc hN I hi ok hg ht he hs h fun L C s' m H' I' q hn f => ?_) fun _ s' hq => wpAny_pure (wpAny_pure hq))
  show wpAny _ _ (assign (.Name y py) X.env (.ref L)) _ _ _
  refine wpAny_assign_Name (store_ok2 (v := V.ref L) I' hN hy (.inl hyl) rfl (fun s2 I2 ⟨a, sb, ha⟩ => ?_) (.inr hyl))
  obtain ⟨f0, f1, f2, f3, f4, f5⟩ := f
  have haC : C ≠ a := by
    rcases ha with z | z
    · rw [z]; exact f1
    · exact fun e => f4 y a z e.symm
  refine ⟨m, hn.sameBut sb haC, fun h3 sb3 => ?_⟩
  exact ⟨_, H', I2.turned (t' := s2.toks) (fun b o hb e => (sb3.2 b hb).trans e) f0 f1 f3 f4 f5, q⟩
end
end Lm
/-! Lm: an error leaves a loop; a try whose body hands back; defs that raise, closed at a depth. -/
namespace Lm
open PySem PySem.Spec PyProof.Rows L2
section
variable {ρ S α : Type} {Z : Bs} {D : Ends} {F : Hp} {O : Own} {σ : L2.St} {R : Rep α} {f : S → α → Option (Fw ρ S)} {s0 : S} {out : Fw ρ S} {J : S → L2.St → Hp → Own → Prop} {Ro : ρ → V → Hp → Own → Prop} {g : TG} {body : TS} {wi : TI} {as : List α} {P : α → L2.St → L2.St → Hp → Prop}
theorem lw_turnX {a : α} (acc : AccL Z D J Ro F out) {k : Nat} (ha : as[k]? = some a) {σ' : L2.St} {H' : Hp} (w : Lw Z f J out as F k σ' H') {P : Prop}
    (h : ∀ s F' O' o, Same F F' → J s σ' F' O' → At Z F' O' H' → f s a = some o → (∀ r, o = .rt r → out = .rt r) → Acc Z { D with nx := Lw Z f J out as F (k + 1), ct := Lw Z f J out as F (k + 1), bk := D.nx } J Ro F' o → P) : P := by
  refine lw_turn acc ha w fun s F' O' o e j at0 hf ac => ?_
  obtain ⟨s1, F1, O1, e1, j1, at1, hl⟩ := w
  have hk := (List.getElem?_eq_some_iff.mp ha)
  have ed : as.drop k = a :: as.drop (k + 1) := by rw [List.drop_eq_getElem_cons hk.1, hk.2]
  rw [ed] at hl
  cases hf1 : f s1 a with
  | none =>
    simp only [loop, hf1] at hl
    cases hl
  | some o1 =>
    refine h s1 F1 O1 o1 e1 j1 at1 hf1 (fun r eo => ?_) ⟨fun s' eo σ2 F2 O2 e2 j2 => ?_, fun s' eo σ2 F2 O2 e2 j2 H2 at2 => ?_, fun r eo v F2 O2 e2 r2 H2 at2 => ?_⟩
    · subst eo
      simp only [loop, hf1] at hl
      exact (Option.some.inj hl).symm
    · subst eo
      have hl' : loop f (as.drop (k + 1)) s' = some out := by
        simp only [loop, hf1] at hl
        exact hl
      exact ⟨fun H2 at2 => ⟨s', F2, O2, e1.trans e2, j2, at2, hl'⟩, fun H2 at2 => ⟨s', F2, O2, e1.trans e2, j2, at2, hl'⟩⟩
    · subst eo
      have hl' : Fw.nx s' = out := by
        simp only [loop, hf1] at hl
        exact Option.some.inj hl
      exact acc.nx s' hl'.symm σ2 F2 O2 (e1.trans e2) j2 H2 at2
    · subst eo
      have hl' : Fw.rt r = out := by
        simp only [loop, hf1] at hl
        exact Option.some.inj hl
      exact acc.rt r hl'.symm v F2 O2 (e1.trans e2) r2 H2 at2
/-- a loop that may be left by what its turns tell, be it an error -/
theorem sx_forX (hm : loop f as s0 = some out) (hi : EvI wi σ F O R as) (hg : Tg g R P) (h0 : ∀ F', Same F F' → J s0 σ F' O) (acc : AccL Z D J Ro F out)
    (turn : ∀ s a σ' σ2 F' F2 O' o D', a ∈ as → Same F F' → Same F' F2 → J s σ' F' O' → P a σ' σ2 F2 → f s a = some o → (∀ r, o = .rt r → out = .rt r) → Acc Z D' J Ro F2 o → Sx Z body D' σ2 F2 O') : Sx Z (tFor wi g body) D σ F O := fun H at0 => by
  refine hi H at0.ok _ fun J' F1 H1 g1 wk => ?_
  have acc1 : AccL Z D J Ro F1 out := ⟨fun s e σ2 F2 O2 e2 => acc.nx s e σ2 F2 O2 (g1.f.trans e2), fun r e v F2 O2 e2 => acc.rt r e v F2 O2 (g1.f.trans e2)⟩
  refine ⟨fun k m σ' H' => m = as.length - k ∧ k ≤ as.length ∧ Lw Z f J out as F1 k σ' H', ⟨as.length, by simp, Nat.zero_le _, s0, F1, O, Same.refl _, h0 F1 g1.f, at0.gr g1, hm⟩, fun k m σ' H' ⟨em, hk, w⟩ => ?_⟩
  subst em
  have w' := w
  obtain ⟨_, F', O', e, _, at', _⟩ := w'
  by_cases hlt : k < as.length
  · have ha : as[k]? = some as[k] := List.getElem?_eq_getElem hlt
    obtain ⟨hgo, hy⟩ := (wk.2 k F' H' e at'.ok.ex).1 _ ha
    refine Or.inr ⟨hgo, Lw Z f J out as F1 (k + 1), fun σ2 H2 w2 => ⟨as.length - (k + 1), by omega, rfl, hlt, w2⟩, fun x H2 y => ?_⟩
    refine lw_turnX acc1 ha w fun s F' O' o e j2 at' hf hx ac => ?_
    obtain ⟨F2, g2, r⟩ := ((wk.2 k F' H' e at'.ok.ex).1 _ ha).2 x H2 y
    refine hg _ x σ' F2 H2 _ r g2.fh fun σ2 p => ?_
    refine turn s _ σ' σ2 F' F2 O' o _ (List.mem_of_getElem? ha) (g1.f.trans e) g2.f j2 p hf hx ?_ H2 (at'.gr g2)
    exact ⟨fun s e σ3 F3 O3 e3 => ac.nx s e σ3 F3 O3 (g2.f.trans e3), fun s e σ3 F3 O3 e3 => ac.bk s e σ3 F3 O3 (g2.f.trans e3), fun r e v F3 O3 e3 => ac.rt r e v F3 O3 (g2.f.trans e3)⟩
  · have e2 : k = as.length := by omega
    exact Or.inl ⟨(wk.2 k F' H' e at'.ok.ex).2 (by omega), lw_end e2 acc1 w⟩
end
theorem calX_void {P : Program} {w : World} {K : PySem.W.Frag} {mg : Str → Option Value} {base : Heap} {k : Nat} {x : Str} {st : Stmt} {N ps : List Str} {sp : Sp} (D : Df K mg x st) (S : FnScope N ps (defScope st))
    (hb : ∀ (kV doc pm : Value) (an : Option Addr) (cdv ct : Value) (us : List Value), us.length = ps.length → bindArgs (PySem.W.fnOf x x (defArgs st) (defBody st) (defScope st) .none kV doc pm an cdv ct) ⟨us, []⟩ = pure (ps.zip us)) (no : ∀ vs H Q E, sp vs H Q E → False) : CalX P w K mg base (k + 1) x ps sp :=
  calX_of D S hb (fun vs H Q E h => (no vs H Q E h).elim) fun f cdv A outer s H vs Q E hr h => (no vs H Q E h).elim
/-- a try whose body hands back -/
def exT {α β : Type} (r : Except Str α) (k : α → Option β) (s : Str → Option β) : Option β := match r with
  | .ok a => k a
  | .error c => s c
theorem exT_ok {α β : Type} {r : Except Str α} {k : α → Option β} {s : Str → Option β} {a : α} {x : Option β} (h : exT r k s = x) (e : r = .ok a) : k a = x := by subst e; exact h
theorem exT_er {α β : Type} {r : Except Str α} {k : α → Option β} {s : Str → Option β} {c : Str} {x : Option β} (h : exT r k s = x) (e : r = .error c) : s c = x := by subst e; exact h
end Lm
namespace Law
open PySem PySem.Spec PyProof.Rows L2 Lm
def top (i : Nat) : Stmt := PySem.Challenge.pw_lightmark_k07_parts_refused_or_made.main.body.getD i (.Pass ⟨0, 0, 0, 0⟩)
def ctab : CTab := [("Plain", ["signs"]), ("Code", ["signs"]), ("Strong", ["parts"]), ("Link", ["words", "name"]), ("Mark", ["name"])]
def is_Plain : List (Str × Bool) := [("Plain", true), ("Code", false), ("Strong", false), ("Link", false), ("Mark", false)]
def eis_BadName : List (Str × Bool) := [("BadTree", false)]
def eis_BadText : List (Str × Bool) := [("BadTree", false)]
def eis_BadTree : List (Str × Bool) := [("BadTree", true)]
def eis_BadWidth : List (Str × Bool) := [("BadTree", false)]
def eis_OutOfPlace : List (Str × Bool) := [("BadTree", false)]
def eis_ValueError : List (Str × Bool) := [("BadTree", true)]
def cat_MarkError : List (Str × Bool) := [("BadTree", true)]
structure Top (n : Nat) (K : PySem.W.Frag) (mg : Str → Option Value) : Prop where
  one : 1 ≤ n
  b_ValueError : mg "ValueError" = none
  b_all : mg "all" = none
  b_int : mg "int" = none
  b_isinstance : mg "isinstance" = none
  b_len : mg "len" = none
  b_list : mg "list" = none
  b_range : mg "range" = none
  b_str : mg "str" = none
  b_tuple : mg "tuple" = none
  b_zip : mg "zip" = none
  c_LETTERS : ∃ t, mg "LETTERS" = some (.str "abcdefghijklmnopqrstuvwxyzABCDEFGHIJKLMNOPQRSTUVWXYZ0123456789" t) ∧ t ≠ 0 ∧ t < n
  c_MOST_LETTERS : ∃ t, mg "MOST_LETTERS" = some (.int 12 t)
  ca_MarkError : CatchOk K mg "MarkError" cat_MarkError
  ct : CTabOk K ctab
  ei_BadName : EIsOk K (clsV K "BadName") eis_BadName
  ei_BadText : EIsOk K (clsV K "BadText") eis_BadText
  ei_BadTree : EIsOk K (clsV K "BadTree") eis_BadTree
  ei_BadWidth : EIsOk K (clsV K "BadWidth") eis_BadWidth
  ei_OutOfPlace : EIsOk K (clsV K "OutOfPlace") eis_OutOfPlace
  ei_ValueError : EIsOk K (.type "ValueError") eis_ValueError
  ex_BadTree : ExOk K mg "BadTree"
  gl_BadName : mg "BadName" = some (clsV K "BadName")
  gl_BadText : mg "BadText" = some (clsV K "BadText")
  gl_BadTree : mg "BadTree" = some (clsV K "BadTree")
  gl_BadWidth : mg "BadWidth" = some (clsV K "BadWidth")
  gl_OutOfPlace : mg "OutOfPlace" = some (clsV K "OutOfPlace")
  is_Plain : IsOk K mg "Plain" is_Plain
  me_Code_told : MethOk K "Code" "told"
  me_Link_told : MethOk K "Link" "told"
  me_Mark_told : MethOk K "Mark" "told"
  me_Plain_told : MethOk K "Plain" "told"
  me_Strong_told : MethOk K "Strong" "told"
  mk_Code : MkOk K mg "Code"
  mk_Link : MkOk K mg "Link"
  mk_Mark : MkOk K mg "Mark"
  mk_Plain : MkOk K mg "Plain"
  mk_Strong : MkOk K mg "Strong"
section
variable {n : Nat} {P : Program} {w : World} {K : PySem.W.Frag} {mg : Str → Option Value} {base : Heap}
/-! is_name -/
abbrev s_is_name : Stmt := top 19
abbrev N_is_name : List Str := ["thing", "sign"]
theorem sc_is_name : FnScope N_is_name ["thing"] (defScope s_is_name) := ⟨rfl, rfl, rfl, by decide +kernel, rfl, by decide +kernel, by decide +kernel⟩
def m_is_name (x_thing : PyData) : Option (Bool) := (cnd (!(isStrD x_thing)) (some true) ((asS x_thing).bind fun c10 => some (!((decide ((1 : Int) ≤ (c10.length : Int))) && (decide ((c10.length : Int) ≤ (12 : Int))))))).bind fun c11 => cnd c11 (some false) ((asS x_thing).bind fun c18 => (mapF (fun (a19 : Nat) => some (some (decide (a19 ∈ [97, 98, 99, 100, 101, 102, 103, 104, 105, 106, 107, 108, 109, 110, 111, 112, 113, 114, 115, 116, 117, 118, 119, 120, 121, 122, 65, 66, 67, 68, 69, 70, 71, 72, 73, 74, 75, 76, 77, 78, 79, 80, 81, 82, 83, 84, 85, 86, 87, 88, 89, 90, 48, 49, 50, 51, 52, 53, 54, 55, 56, 57])))) c18).bind fun y28 => some (y28.all id))
def P_is_name (As : List Ar) (C : Ar) : Prop := ∃ (x_thing : PyData) (r : Bool), As = [val rD x_thing] ∧ m_is_name x_thing = some r ∧ C = val rB r
theorem ok_is_name (T : Top n K mg) (D : Df K mg "is_name" s_is_name)  : Cal P w K mg base 1 "is_name" ["thing"] (spG (P_is_name)) := by
  have SC := sc_is_name
  obtain ⟨t_LETTERS, g_LETTERS, z_LETTERS, l_LETTERS⟩ := T.c_LETTERS
  obtain ⟨t_MOST_LETTERS, g_MOST_LETTERS⟩ := T.c_MOST_LETTERS
  have h1n := T.one
  refine cal_of (N := N_is_name) D SC (fun _ _ _ _ _ _ us hl => match us, hl with | [_], _ => rfl) (fun vs H Q E h => ?_) (fun f cdv A outer s H vs Q E hr h => ?_)
  · obtain ⟨F0, As, C, ⟨x_thing, r, rfl, h, rfl⟩, e0, ha, k⟩ := h
    exact alla_len ha
  · obtain ⟨F0, As, C, ⟨x_thing, r, rfl, h, rfl⟩, e0, ha, k⟩ := h
    obtain ⟨v_thing, rfl, f_thing⟩ := alla1 ha
    refine ⟨_, (pss_cons (ps_if (PW.pt (pw_or (pt_not (pt_val (pe_callB call_isi (by rfl) T.b_isinstance (by decide +kernel) (pa_cons (pv 0) (pa_cons (pe_bltn (v := V.ty "str") (by rfl) T.b_str (by decide +kernel) rfl) pa_nil))))) (pw_or1 (pt_not (pt_chain op_xLe op_xLe pe_int (pe_callB call_cLen (by rfl) T.b_len PySem.boot_len (pa_cons (pv 0) pa_nil)) (pe_glob (v := V.int 12) rfl g_MOST_LETTERS ⟨_, rfl⟩)))))) (pss_one (ps_ret pe_bl)) pss_nil) (pss_one (ps_ret (pe_callB (cr_all rfl) (by rfl) T.b_all (by decide +kernel) (pa_cons (pe_lc (own := [("sign", 1)]) (g := gName 1) (tt := tYes) rfl SC.nd (pi_str (pv 0)) (blkOk_by (own := [("sign", 1)]) (N := N_is_name) (sc := defScope s_is_name) (by decide +kernel)) (fun _ _ _ _ _ => (pg_name (i := 1) SC.nd rfl (Or.inl rfl))) (fun _ _ _ _ _ => pts_nil) (fun _ _ _ _ _ => (pe_cmpR op_xIn1 (pv 1) (pe_glob (v := V.str "abcdefghijklmnopqrstuvwxyzABCDEFGHIJKLMNOPQRSTUVWXYZ0123456789") rfl g_LETTERS ⟨_, rfl⟩) rfl))) pa_nil))))), ?_⟩
    refine (show Sx ⟨F0, H, none⟩ _ _ [some v_thing, none] F0 [] from ?_) H (At.start e0)
    have f_thing : (rD).rp x_thing v_thing F0 := f_thing
    obtain ⟨c11, hc11, h⟩ := bsome h
    refine sx_seq (sx_if (et_or (b := c11) (et_not (et_B (ev_cb (ea_cons (ev_v (R := rD) rfl f_thing) (ea_cons ev_ty ea_nil)) (b_isi tD k_str)))) (fun z => by
    have h' := cnd_f hc11 z
    obtain ⟨c10, hc10, h'⟩ := bsome h'
    exact et_is (et_not (et_b (ev_chainP ev_i (ev_cb (ea_cons (ev_asS hc10 (ev_v (R := rD) rfl f_thing)) ea_nil) b_lenS) o_le ev_i o_le))) (Option.some.inj h')) (fun z => (Option.some.inj (cnd_t hc11 z)).symm)) (fun z12 Fs13 s13 => ?_) (fun z12 Fs14 s14 => ?_))
    · have h := cnd_t h z12
      obtain rfl := Option.some.inj h
      refine sx_ret (R := rB) ev_b fun v15 Fs16 s16 f17 => ?_
      exact rt_val k (fun _ => f17)
    · have h := cnd_f h z12
      refine sx_next ?_
      refine nx_of ?_
      obtain ⟨c18, hc18, h⟩ := bsome h
      obtain ⟨y28, hy28, h⟩ := bsome h
      obtain rfl := Option.some.inj h
      refine sx_ret (R := rB) (ev_cb (ea_cons (ev_nspn (ev_lc (R' := rB) hy28 (ei_str (ev_asS hc18 (ev_v (R := rD) rfl (Rep.mono rD s14 f_thing)))) tg_n (fun a19 σ9 F20 F21 ob ha9 e22 e23 ⟨v24, zs, f25⟩ hb26 => by
    subst zs
    obtain rfl := Option.some.inj hb26
    exact ⟨rfl, et_yes, fun b eb => by cases eb; exact (ev_op (ev_v (R := rC) rfl f25) (ev_s (l := [97, 98, 99, 100, 101, 102, 103, 104, 105, 106, 107, 108, 109, 110, 111, 112, 113, 114, 115, 116, 117, 118, 119, 120, 121, 122, 65, 66, 67, 68, 69, 70, 71, 72, 73, 74, 75, 76, 77, 78, 79, 80, 81, 82, 83, 84, 85, 86, 87, 88, 89, 90, 48, 49, 50, 51, 52, 53, 54, 55, 56, 57]) (by decide +kernel) (by decide +kernel)) o_in1)⟩))) ea_nil) b_all) fun v29 Fs30 s30 f31 => ?_
      exact rt_val k (fun _ => f31)
/-! Plain___init__ -/
abbrev s_Plain___init__ : Stmt := (clsBody (top 10)).getD 0 (.Pass ⟨0, 0, 0, 0⟩)
abbrev N_Plain___init__ : List Str := ["self", "signs"]
theorem sc_Plain___init__ : FnScope N_Plain___init__ ["self", "signs"] (defScope s_Plain___init__) := ⟨rfl, rfl, rfl, by decide +kernel, rfl, by decide +kernel, by decide +kernel⟩
def m_Plain___init__ (x_signs : List Nat) : Option (List (Str × XD)) := some [("signs", XD.str x_signs)]
def P_Plain___init__ (As : List Ar) (r : List (Str × XD)) : Prop := ∃ (x_signs : List Nat), As = [val rS x_signs] ∧ m_Plain___init__ x_signs = some r
theorem ok_Plain___init__ (T : Top n K mg) (D : DfM K "Plain" "__init__" "Plain.__init__" s_Plain___init__)  : CalM P w K mg base 1 "Plain" "__init__" ["self", "signs"] (spI K (He.ga K "Plain") (P_Plain___init__)) := by
  have SC := sc_Plain___init__
  refine calM_of (N := N_Plain___init__) D SC (fun _ _ _ _ _ _ us hl => match us, hl with | [_, _], _ => rfl) (fun vs H Q E h => ?_) (fun cdv A outer s H vs Q E hr h => ?_)
  · obtain ⟨F0, x, dx, As, r, ⟨x_signs, rfl, h⟩, e0, hFx, hFd, hxd, hHx, hHd, ha, k⟩ := h
    exact alla_len ha
  · obtain ⟨F0, x, dx, As, r, ⟨x_signs, rfl, h⟩, e0, hFx, hFd, hxd, hHx, hHd, ha, k⟩ := h
    obtain ⟨v_self, v_signs, rfl, f_self, f_signs⟩ := alla2 ha
    have f_self : v_self = V.ref x := f_self
    subst f_self
    refine ⟨_, (pss_one (ps_fld (pv 0) (pv 1) rfl)), ?_⟩
    refine (show Sx ⟨F0, but2 x dx H, none⟩ _ _ [some (.ref x), some v_signs] F0 [(x, .ins (He.ga K "Plain") dx []), (dx, .own x)] from ?_) H (At.start2 e0 hFx hFd hxd hHx hHd)
    have f_signs : (rS).rp x_signs v_signs F0 := f_signs
    refine sx_fldI (n := 0) (R := rS) rfl rfl (ctab_cl T.ct "Plain" (by decide)) (ctab_na T.ct "Plain" "signs" (by decide)) (by show (0 : Nat) < 1000; decide) (ev_v (R := rS) rfl f_signs) fun v10 Fs11 s11 f12 => ?_
    obtain rfl := Option.some.inj h
    refine fun H9 a9 => k _ _ _ (a9.done2 (List.Mem.head _) (List.Mem.tail _ (List.Mem.head _))).1 (a9.done2 (List.Mem.head _) (List.Mem.tail _ (List.Mem.head _))).2.1 (a9.done2 (List.Mem.head _) (List.Mem.tail _ (List.Mem.head _))).2.2 ?_
    simp only [rpXf]
    exact ⟨_, _, rfl, EncX.to (K := K) xS f12, rfl⟩
/-! Code___init__ -/
abbrev s_Code___init__ : Stmt := (clsBody (top 11)).getD 0 (.Pass ⟨0, 0, 0, 0⟩)
abbrev N_Code___init__ : List Str := ["self", "signs"]
theorem sc_Code___init__ : FnScope N_Code___init__ ["self", "signs"] (defScope s_Code___init__) := ⟨rfl, rfl, rfl, by decide +kernel, rfl, by decide +kernel, by decide +kernel⟩
def m_Code___init__ (x_signs : List Nat) : Option (List (Str × XD)) := some [("signs", XD.str x_signs)]
def P_Code___init__ (As : List Ar) (r : List (Str × XD)) : Prop := ∃ (x_signs : List Nat), As = [val rS x_signs] ∧ m_Code___init__ x_signs = some r
theorem ok_Code___init__ (T : Top n K mg) (D : DfM K "Code" "__init__" "Code.__init__" s_Code___init__)  : CalM P w K mg base 1 "Code" "__init__" ["self", "signs"] (spI K (He.ga K "Code") (P_Code___init__)) := by
  have SC := sc_Code___init__
  refine calM_of (N := N_Code___init__) D SC (fun _ _ _ _ _ _ us hl => match us, hl with | [_, _], _ => rfl) (fun vs H Q E h => ?_) (fun cdv A outer s H vs Q E hr h => ?_)
  · obtain ⟨F0, x, dx, As, r, ⟨x_signs, rfl, h⟩, e0, hFx, hFd, hxd, hHx, hHd, ha, k⟩ := h
    exact alla_len ha
  · obtain ⟨F0, x, dx, As, r, ⟨x_signs, rfl, h⟩, e0, hFx, hFd, hxd, hHx, hHd, ha, k⟩ := h
    obtain ⟨v_self, v_signs, rfl, f_self, f_signs⟩ := alla2 ha
    have f_self : v_self = V.ref x := f_self
    subst f_self
    refine ⟨_, (pss_one (ps_fld (pv 0) (pv 1) rfl)), ?_⟩
    refine (show Sx ⟨F0, but2 x dx H, none⟩ _ _ [some (.ref x), some v_signs] F0 [(x, .ins (He.ga K "Code") dx []), (dx, .own x)] from ?_) H (At.start2 e0 hFx hFd hxd hHx hHd)
    have f_signs : (rS).rp x_signs v_signs F0 := f_signs
    refine sx_fldI (n := 0) (R := rS) rfl rfl (ctab_cl T.ct "Code" (by decide)) (ctab_na T.ct "Code" "signs" (by decide)) (by show (0 : Nat) < 1000; decide) (ev_v (R := rS) rfl f_signs) fun v10 Fs11 s11 f12 => ?_
    obtain rfl := Option.some.inj h
    refine fun H9 a9 => k _ _ _ (a9.done2 (List.Mem.head _) (List.Mem.tail _ (List.Mem.head _))).1 (a9.done2 (List.Mem.head _) (List.Mem.tail _ (List.Mem.head _))).2.1 (a9.done2 (List.Mem.head _) (List.Mem.tail _ (List.Mem.head _))).2.2 ?_
    simp only [rpXf]
    exact ⟨_, _, rfl, EncX.to (K := K) xS f12, rfl⟩
/-! Strong___init__ -/
abbrev s_Strong___init__ : Stmt := (clsBody (top 12)).getD 0 (.Pass ⟨0, 0, 0, 0⟩)
abbrev N_Strong___init__ : List Str := ["self", "parts"]
theorem sc_Strong___init__ : FnScope N_Strong___init__ ["self", "parts"] (defScope s_Strong___init__) := ⟨rfl, rfl, rfl, by decide +kernel, rfl, by decide +kernel, by decide +kernel⟩
def m_Strong___init__ (x_parts : List (XD)) : Option (List (Str × XD)) := some [("parts", (fun as => XD.lst (List.map id as)) x_parts)]
def P_Strong___init__ (K : PySem.W.Frag) (As : List Ar) (r : List (Str × XD)) : Prop := ∃ (x_parts : List (XD)), As = [val (rL (rX K)) x_parts] ∧ m_Strong___init__ x_parts = some r
theorem ok_Strong___init__ (T : Top n K mg) (D : DfM K "Strong" "__init__" "Strong.__init__" s_Strong___init__)  : CalM P w K mg base 1 "Strong" "__init__" ["self", "parts"] (spI K (He.ga K "Strong") (P_Strong___init__ K)) := by
  have SC := sc_Strong___init__
  refine calM_of (N := N_Strong___init__) D SC (fun _ _ _ _ _ _ us hl => match us, hl with | [_, _], _ => rfl) (fun vs H Q E h => ?_) (fun cdv A outer s H vs Q E hr h => ?_)
  · obtain ⟨F0, x, dx, As, r, ⟨x_parts, rfl, h⟩, e0, hFx, hFd, hxd, hHx, hHd, ha, k⟩ := h
    exact alla_len ha
  · obtain ⟨F0, x, dx, As, r, ⟨x_parts, rfl, h⟩, e0, hFx, hFd, hxd, hHx, hHd, ha, k⟩ := h
    obtain ⟨v_self, v_parts, rfl, f_self, f_parts⟩ := alla2 ha
    have f_self : v_self = V.ref x := f_self
    subst f_self
    refine ⟨_, (pss_one (ps_fld (pv 0) (pe_callTy call_cList (by rfl) T.b_list (by decide +kernel) (pa_cons (pv 1) pa_nil)) rfl)), ?_⟩
    refine (show Sx ⟨F0, but2 x dx H, none⟩ _ _ [some (.ref x), some v_parts] F0 [(x, .ins (He.ga K "Strong") dx []), (dx, .own x)] from ?_) H (At.start2 e0 hFx hFd hxd hHx hHd)
    have f_parts : ((rL (rX K))).rp x_parts v_parts F0 := f_parts
    refine sx_fldI (n := 0) (R := (rL (rX K))) rfl rfl (ctab_cl T.ct "Strong" (by decide)) (ctab_na T.ct "Strong" "parts" (by decide)) (by show (0 : Nat) < 1000; decide) (ev_frz (ev_cbN (ea_cons (ev_spn (ev_v (R := (rL (rX K))) rfl f_parts)) ea_nil) b_list)) fun v10 Fs11 s11 f12 => ?_
    obtain rfl := Option.some.inj h
    refine fun H9 a9 => k _ _ _ (a9.done2 (List.Mem.head _) (List.Mem.tail _ (List.Mem.head _))).1 (a9.done2 (List.Mem.head _) (List.Mem.tail _ (List.Mem.head _))).2.1 (a9.done2 (List.Mem.head _) (List.Mem.tail _ (List.Mem.head _))).2.2 ?_
    simp only [rpXf]
    exact ⟨_, _, rfl, EncX.to (K := K) (xL xX) f12, rfl⟩
/-! Link___init__ -/
abbrev s_Link___init__ : Stmt := (clsBody (top 13)).getD 0 (.Pass ⟨0, 0, 0, 0⟩)
abbrev N_Link___init__ : List Str := ["self", "words", "name"]
theorem sc_Link___init__ : FnScope N_Link___init__ ["self", "words", "name"] (defScope s_Link___init__) := ⟨rfl, rfl, rfl, by decide +kernel, rfl, by decide +kernel, by decide +kernel⟩
def m_Link___init__ (x_words : List Nat) (x_name : List Nat) : Option (List (Str × XD)) := some [("words", XD.str x_words), ("name", XD.str x_name)]
def P_Link___init__ (As : List Ar) (r : List (Str × XD)) : Prop := ∃ (x_words : List Nat) (x_name : List Nat), As = [val rS x_words, val rS x_name] ∧ m_Link___init__ x_words x_name = some r
theorem ok_Link___init__ (T : Top n K mg) (D : DfM K "Link" "__init__" "Link.__init__" s_Link___init__)  : CalM P w K mg base 1 "Link" "__init__" ["self", "words", "name"] (spI K (He.ga K "Link") (P_Link___init__)) := by
  have SC := sc_Link___init__
  refine calM_of (N := N_Link___init__) D SC (fun _ _ _ _ _ _ us hl => match us, hl with | [_, _, _], _ => rfl) (fun vs H Q E h => ?_) (fun cdv A outer s H vs Q E hr h => ?_)
  · obtain ⟨F0, x, dx, As, r, ⟨x_words, x_name, rfl, h⟩, e0, hFx, hFd, hxd, hHx, hHd, ha, k⟩ := h
    exact alla_len ha
  · obtain ⟨F0, x, dx, As, r, ⟨x_words, x_name, rfl, h⟩, e0, hFx, hFd, hxd, hHx, hHd, ha, k⟩ := h
    obtain ⟨v_self, v_words, v_name, rfl, f_self, f_words, f_name⟩ := alla3 ha
    have f_self : v_self = V.ref x := f_self
    subst f_self
    refine ⟨_, (pss_cons (ps_fld (pv 0) (pv 1) rfl) (pss_one (ps_fld (pv 0) (pv 2) rfl))), ?_⟩
    refine (show Sx ⟨F0, but2 x dx H, none⟩ _ _ [some (.ref x), some v_words, some v_name] F0 [(x, .ins (He.ga K "Link") dx []), (dx, .own x)] from ?_) H (At.start2 e0 hFx hFd hxd hHx hHd)
    have f_words : (rS).rp x_words v_words F0 := f_words
    have f_name : (rS).rp x_name v_name F0 := f_name
    refine sx_seq (sx_fldI (n := 0) (R := rS) rfl rfl (ctab_cl T.ct "Link" (by decide)) (ctab_na T.ct "Link" "words" (by decide)) (by show (0 : Nat) < 1000; decide) (ev_v (R := rS) rfl f_words) fun v10 Fs11 s11 f12 => nx_of ?_)
    refine sx_fldI (n := 0) (R := rS) rfl rfl (ctab_cl T.ct "Link" (by decide)) (ctab_na T.ct "Link" "name" (by decide)) (by show (1 : Nat) < 1000; decide) (ev_v (R := rS) rfl (Rep.mono rS s11 f_name)) fun v13 Fs14 s14 f15 => ?_
    obtain rfl := Option.some.inj h
    refine fun H9 a9 => k _ _ _ (a9.done2 (List.Mem.head _) (List.Mem.tail _ (List.Mem.head _))).1 (a9.done2 (List.Mem.head _) (List.Mem.tail _ (List.Mem.head _))).2.1 (a9.done2 (List.Mem.head _) (List.Mem.tail _ (List.Mem.head _))).2.2 ?_
    simp only [rpXf]
    exact ⟨_, _, rfl, EncX.to (K := K) xS (Rep.mono rS s14 f12), ⟨_, _, rfl, EncX.to (K := K) xS f15, rfl⟩⟩
/-! Mark___init__ -/
abbrev s_Mark___init__ : Stmt := (clsBody (top 14)).getD 0 (.Pass ⟨0, 0, 0, 0⟩)
abbrev N_Mark___init__ : List Str := ["self", "name"]
theorem sc_Mark___init__ : FnScope N_Mark___init__ ["self", "name"] (defScope s_Mark___init__) := ⟨rfl, rfl, rfl, by decide +kernel, rfl, by decide +kernel, by decide +kernel⟩
def m_Mark___init__ (x_name : List Nat) : Option (List (Str × XD)) := some [("name", XD.str x_name)]
def P_Mark___init__ (As : List Ar) (r : List (Str × XD)) : Prop := ∃ (x_name : List Nat), As = [val rS x_name] ∧ m_Mark___init__ x_name = some r
theorem ok_Mark___init__ (T : Top n K mg) (D : DfM K "Mark" "__init__" "Mark.__init__" s_Mark___init__)  : CalM P w K mg base 1 "Mark" "__init__" ["self", "name"] (spI K (He.ga K "Mark") (P_Mark___init__)) := by
  have SC := sc_Mark___init__
  refine calM_of (N := N_Mark___init__) D SC (fun _ _ _ _ _ _ us hl => match us, hl with | [_, _], _ => rfl) (fun vs H Q E h => ?_) (fun cdv A outer s H vs Q E hr h => ?_)
  · obtain ⟨F0, x, dx, As, r, ⟨x_name, rfl, h⟩, e0, hFx, hFd, hxd, hHx, hHd, ha, k⟩ := h
    exact alla_len ha
  · obtain ⟨F0, x, dx, As, r, ⟨x_name, rfl, h⟩, e0, hFx, hFd, hxd, hHx, hHd, ha, k⟩ := h
    obtain ⟨v_self, v_name, rfl, f_self, f_name⟩ := alla2 ha
    have f_self : v_self = V.ref x := f_self
    subst f_self
    refine ⟨_, (pss_one (ps_fld (pv 0) (pv 1) rfl)), ?_⟩
    refine (show Sx ⟨F0, but2 x dx H, none⟩ _ _ [some (.ref x), some v_name] F0 [(x, .ins (He.ga K "Mark") dx []), (dx, .own x)] from ?_) H (At.start2 e0 hFx hFd hxd hHx hHd)
    have f_name : (rS).rp x_name v_name F0 := f_name
    refine sx_fldI (n := 0) (R := rS) rfl rfl (ctab_cl T.ct "Mark" (by decide)) (ctab_na T.ct "Mark" "name" (by decide)) (by show (0 : Nat) < 1000; decide) (ev_v (R := rS) rfl f_name) fun v10 Fs11 s11 f12 => ?_
    obtain rfl := Option.some.inj h
    refine fun H9 a9 => k _ _ _ (a9.done2 (List.Mem.head _) (List.Mem.tail _ (List.Mem.head _))).1 (a9.done2 (List.Mem.head _) (List.Mem.tail _ (List.Mem.head _))).2.1 (a9.done2 (List.Mem.head _) (List.Mem.tail _ (List.Mem.head _))).2.2 ?_
    simp only [rpXf]
    exact ⟨_, _, rfl, EncX.to (K := K) xS f12, rfl⟩
/-! Plain_told -/
abbrev s_Plain_told : Stmt := (clsBody (top 10)).getD 1 (.Pass ⟨0, 0, 0, 0⟩)
abbrev N_Plain_told : List Str := ["self"]
theorem sc_Plain_told : FnScope N_Plain_told ["self"] (defScope s_Plain_told) := ⟨rfl, rfl, rfl, by decide +kernel, rfl, by decide +kernel, by decide +kernel⟩
def m_Plain_told (x_self : XD) : Option (PyData) := (fldX ctab "signs" x_self).bind fun c10 => (asSX c10).bind fun c11 => some (PyData.tuple [(encS [112, 108, 97, 105, 110]), (encS c11)])
def P_Plain_told (K : PySem.W.Frag) (As : List Ar) (r : PyData) : Prop := ∃ (x_self : XD), As = [val (rX K) x_self] ∧ m_Plain_told x_self = some r
theorem ok_Plain_told (T : Top n K mg) (D : DfM K "Plain" "told" "Plain.told" s_Plain_told)  : CalM P w K mg base 1 "Plain" "told" ["self"] (spF (P_Plain_told K)) := by
  have SC := sc_Plain_told
  have h1n := T.one
  refine calM_of (N := N_Plain_told) D SC (fun _ _ _ _ _ _ us hl => match us, hl with | [_], _ => rfl) (fun vs H Q E h => ?_) (fun cdv A outer s H vs Q E hr h => ?_)
  · obtain ⟨F0, As, r, ⟨x_self, rfl, h⟩, e0, ha, k⟩ := h
    exact alla_len ha
  · obtain ⟨F0, As, r, ⟨x_self, rfl, h⟩, e0, ha, k⟩ := h
    obtain ⟨v_self, rfl, f_self⟩ := alla1 ha
    refine ⟨_, (pss_one (ps_ret (pe_tup (pa_cons pe_str (pa_cons (pe_fld (pv 0) rfl) pa_nil))))), ?_⟩
    refine (show Sx ⟨F0, H, none⟩ _ _ [some v_self] F0 [] from ?_) H (At.start e0)
    have f_self : ((rX K)).rp x_self v_self F0 := f_self
    obtain ⟨c10, hc10, h⟩ := bsome h
    obtain ⟨c11, hc11, h⟩ := bsome h
    obtain rfl := Option.some.inj h
    refine sx_ret (R := (rDf F0)) (evF_tup (B := F0) (ds := [(encS [112, 108, 97, 105, 110]), (encS c11)]) (ea_cons (evF_s (B := F0) (d := (encS [112, 108, 97, 105, 110])) (by rfl) (ev_d (a := [112, 108, 97, 105, 110]) eS (ev_s (l := [112, 108, 97, 105, 110]) (by decide +kernel) (by decide +kernel)))) (ea_cons (evF_s (B := F0) (d := (encS c11)) (by rfl) (ev_d (a := c11) eS (ev_asSX hc11 (ev_fldX T.ct hc10 (ev_v (R := (rX K)) rfl f_self))))) ea_nil)) (show (2 : Nat) ≤ limL by decide)) fun v12 Fs13 s13 f14 => ?_
    exact rt_val k (fun _ => f14)
/-! Code_told -/
abbrev s_Code_told : Stmt := (clsBody (top 11)).getD 1 (.Pass ⟨0, 0, 0, 0⟩)
abbrev N_Code_told : List Str := ["self"]
theorem sc_Code_told : FnScope N_Code_told ["self"] (defScope s_Code_told) := ⟨rfl, rfl, rfl, by decide +kernel, rfl, by decide +kernel, by decide +kernel⟩
def m_Code_told (x_self : XD) : Option (PyData) := (fldX ctab "signs" x_self).bind fun c10 => (asSX c10).bind fun c11 => some (PyData.tuple [(encS [99, 111, 100, 101]), (encS c11)])
def P_Code_told (K : PySem.W.Frag) (As : List Ar) (r : PyData) : Prop := ∃ (x_self : XD), As = [val (rX K) x_self] ∧ m_Code_told x_self = some r
theorem ok_Code_told (T : Top n K mg) (D : DfM K "Code" "told" "Code.told" s_Code_told)  : CalM P w K mg base 1 "Code" "told" ["self"] (spF (P_Code_told K)) := by
  have SC := sc_Code_told
  have h1n := T.one
  refine calM_of (N := N_Code_told) D SC (fun _ _ _ _ _ _ us hl => match us, hl with | [_], _ => rfl) (fun vs H Q E h => ?_) (fun cdv A outer s H vs Q E hr h => ?_)
  · obtain ⟨F0, As, r, ⟨x_self, rfl, h⟩, e0, ha, k⟩ := h
    exact alla_len ha
  · obtain ⟨F0, As, r, ⟨x_self, rfl, h⟩, e0, ha, k⟩ := h
    obtain ⟨v_self, rfl, f_self⟩ := alla1 ha
    refine ⟨_, (pss_one (ps_ret (pe_tup (pa_cons pe_str (pa_cons (pe_fld (pv 0) rfl) pa_nil))))), ?_⟩
    refine (show Sx ⟨F0, H, none⟩ _ _ [some v_self] F0 [] from ?_) H (At.start e0)
    have f_self : ((rX K)).rp x_self v_self F0 := f_self
    obtain ⟨c10, hc10, h⟩ := bsome h
    obtain ⟨c11, hc11, h⟩ := bsome h
    obtain rfl := Option.some.inj h
    refine sx_ret (R := (rDf F0)) (evF_tup (B := F0) (ds := [(encS [99, 111, 100, 101]), (encS c11)]) (ea_cons (evF_s (B := F0) (d := (encS [99, 111, 100, 101])) (by rfl) (ev_d (a := [99, 111, 100, 101]) eS (ev_s (l := [99, 111, 100, 101]) (by decide +kernel) (by decide +kernel)))) (ea_cons (evF_s (B := F0) (d := (encS c11)) (by rfl) (ev_d (a := c11) eS (ev_asSX hc11 (ev_fldX T.ct hc10 (ev_v (R := (rX K)) rfl f_self))))) ea_nil)) (show (2 : Nat) ≤ limL by decide)) fun v12 Fs13 s13 f14 => ?_
    exact rt_val k (fun _ => f14)
/-! Link_told -/
abbrev s_Link_told : Stmt := (clsBody (top 13)).getD 1 (.Pass ⟨0, 0, 0, 0⟩)
abbrev N_Link_told : List Str := ["self"]
theorem sc_Link_told : FnScope N_Link_told ["self"] (defScope s_Link_told) := ⟨rfl, rfl, rfl, by decide +kernel, rfl, by decide +kernel, by decide +kernel⟩
def m_Link_told (x_self : XD) : Option (PyData) := (fldX ctab "words" x_self).bind fun c10 => (asSX c10).bind fun c11 => (fldX ctab "name" x_self).bind fun c12 => (asSX c12).bind fun c13 => some (PyData.tuple [(encS [108, 105, 110, 107]), (encS c11), (encS c13)])
def P_Link_told (K : PySem.W.Frag) (As : List Ar) (r : PyData) : Prop := ∃ (x_self : XD), As = [val (rX K) x_self] ∧ m_Link_told x_self = some r
theorem ok_Link_told (T : Top n K mg) (D : DfM K "Link" "told" "Link.told" s_Link_told)  : CalM P w K mg base 1 "Link" "told" ["self"] (spF (P_Link_told K)) := by
  have SC := sc_Link_told
  have h1n := T.one
  refine calM_of (N := N_Link_told) D SC (fun _ _ _ _ _ _ us hl => match us, hl with | [_], _ => rfl) (fun vs H Q E h => ?_) (fun cdv A outer s H vs Q E hr h => ?_)
  · obtain ⟨F0, As, r, ⟨x_self, rfl, h⟩, e0, ha, k⟩ := h
    exact alla_len ha
  · obtain ⟨F0, As, r, ⟨x_self, rfl, h⟩, e0, ha, k⟩ := h
    obtain ⟨v_self, rfl, f_self⟩ := alla1 ha
    refine ⟨_, (pss_one (ps_ret (pe_tup (pa_cons pe_str (pa_cons (pe_fld (pv 0) rfl) (pa_cons (pe_fld (pv 0) rfl) pa_nil)))))), ?_⟩
    refine (show Sx ⟨F0, H, none⟩ _ _ [some v_self] F0 [] from ?_) H (At.start e0)
    have f_self : ((rX K)).rp x_self v_self F0 := f_self
    obtain ⟨c10, hc10, h⟩ := bsome h
    obtain ⟨c11, hc11, h⟩ := bsome h
    obtain ⟨c12, hc12, h⟩ := bsome h
    obtain ⟨c13, hc13, h⟩ := bsome h
    obtain rfl := Option.some.inj h
    refine sx_ret (R := (rDf F0)) (evF_tup (B := F0) (ds := [(encS [108, 105, 110, 107]), (encS c11), (encS c13)]) (ea_cons (evF_s (B := F0) (d := (encS [108, 105, 110, 107])) (by rfl) (ev_d (a := [108, 105, 110, 107]) eS (ev_s (l := [108, 105, 110, 107]) (by decide +kernel) (by decide +kernel)))) (ea_cons (evF_s (B := F0) (d := (encS c11)) (by rfl) (ev_d (a := c11) eS (ev_asSX hc11 (ev_fldX T.ct hc10 (ev_v (R := (rX K)) rfl f_self))))) (ea_cons (evF_s (B := F0) (d := (encS c13)) (by rfl) (ev_d (a := c13) eS (ev_asSX hc13 (ev_fldX T.ct hc12 (ev_v (R := (rX K)) rfl f_self))))) ea_nil))) (show (3 : Nat) ≤ limL by decide)) fun v14 Fs15 s15 f16 => ?_
    exact rt_val k (fun _ => f16)
/-! Mark_told -/
abbrev s_Mark_told : Stmt := (clsBody (top 14)).getD 1 (.Pass ⟨0, 0, 0, 0⟩)
abbrev N_Mark_told : List Str := ["self"]
theorem sc_Mark_told : FnScope N_Mark_told ["self"] (defScope s_Mark_told) := ⟨rfl, rfl, rfl, by decide +kernel, rfl, by decide +kernel, by decide +kernel⟩
def m_Mark_told (x_self : XD) : Option (PyData) := (fldX ctab "name" x_self).bind fun c10 => (asSX c10).bind fun c11 => some (PyData.tuple [(encS [110, 111, 116, 101]), (encS c11)])
def P_Mark_told (K : PySem.W.Frag) (As : List Ar) (r : PyData) : Prop := ∃ (x_self : XD), As = [val (rX K) x_self] ∧ m_Mark_told x_self = some r
theorem ok_Mark_told (T : Top n K mg) (D : DfM K "Mark" "told" "Mark.told" s_Mark_told)  : CalM P w K mg base 1 "Mark" "told" ["self"] (spF (P_Mark_told K)) := by
  have SC := sc_Mark_told
  have h1n := T.one
  refine calM_of (N := N_Mark_told) D SC (fun _ _ _ _ _ _ us hl => match us, hl with | [_], _ => rfl) (fun vs H Q E h => ?_) (fun cdv A outer s H vs Q E hr h => ?_)
  · obtain ⟨F0, As, r, ⟨x_self, rfl, h⟩, e0, ha, k⟩ := h
    exact alla_len ha
  · obtain ⟨F0, As, r, ⟨x_self, rfl, h⟩, e0, ha, k⟩ := h
    obtain ⟨v_self, rfl, f_self⟩ := alla1 ha
    refine ⟨_, (pss_one (ps_ret (pe_tup (pa_cons pe_str (pa_cons (pe_fld (pv 0) rfl) pa_nil))))), ?_⟩
    refine (show Sx ⟨F0, H, none⟩ _ _ [some v_self] F0 [] from ?_) H (At.start e0)
    have f_self : ((rX K)).rp x_self v_self F0 := f_self
    obtain ⟨c10, hc10, h⟩ := bsome h
    obtain ⟨c11, hc11, h⟩ := bsome h
    obtain rfl := Option.some.inj h
    refine sx_ret (R := (rDf F0)) (evF_tup (B := F0) (ds := [(encS [110, 111, 116, 101]), (encS c11)]) (ea_cons (evF_s (B := F0) (d := (encS [110, 111, 116, 101])) (by rfl) (ev_d (a := [110, 111, 116, 101]) eS (ev_s (l := [110, 111, 116, 101]) (by decide +kernel) (by decide +kernel)))) (ea_cons (evF_s (B := F0) (d := (encS c11)) (by rfl) (ev_d (a := c11) eS (ev_asSX hc11 (ev_fldX T.ct hc10 (ev_v (R := (rX K)) rfl f_self))))) ea_nil)) (show (2 : Nat) ≤ limL by decide)) fun v12 Fs13 s13 f14 => ?_
    exact rt_val k (fun _ => f14)
def Q_told_parts (K : PySem.W.Frag) (m : (List (XD)) → Option (List (PyData))) (As : List Ar) (r : List (PyData)) : Prop := ∃ (x_parts : List (XD)), As = [val (rL (rX K)) x_parts] ∧ m x_parts = some r
abbrev J_told_parts : Nat := 1
/-! Strong_told -/
abbrev s_Strong_told : Stmt := (clsBody (top 12)).getD 1 (.Pass ⟨0, 0, 0, 0⟩)
abbrev N_Strong_told : List Str := ["self"]
theorem sc_Strong_told : FnScope N_Strong_told ["self"] (defScope s_Strong_told) := ⟨rfl, rfl, rfl, by decide +kernel, rfl, by decide +kernel, by decide +kernel⟩
def m_Strong_told (r_told_parts : (List (XD)) → Option (List (PyData))) (x_self : XD) : Option (PyData) := (fldX ctab "parts" x_self).bind fun c10 => (asLX c10).bind fun c11 => (r_told_parts (c11)).bind fun r12 => some (PyData.tuple [(encS [115, 116, 114, 111, 110, 103]), (PyData.list r12)])
def P_Strong_told (K : PySem.W.Frag) (r_told_parts : (List (XD)) → Option (List (PyData))) (As : List Ar) (r : PyData) : Prop := ∃ (x_self : XD), As = [val (rX K) x_self] ∧ m_Strong_told r_told_parts x_self = some r
theorem ok_Strong_told (T : Top n K mg) (D : DfM K "Strong" "told" "Strong.told" s_Strong_told) {r_told_parts : (List (XD)) → Option (List (PyData))} {j : Nat} (hj : J_told_parts ≤ j) (G_told_parts : Cal P w K mg base j "told_parts" ["parts"] (spFN (Q_told_parts K r_told_parts))) : CalM P w K mg base (j + 1) "Strong" "told" ["self"] (spF (P_Strong_told K r_told_parts)) := by
  have SC := sc_Strong_told
  have hj := show 1 ≤ j from hj
  have h1n := T.one
  refine calM_of (N := N_Strong_told) D SC (fun _ _ _ _ _ _ us hl => match us, hl with | [_], _ => rfl) (fun vs H Q E h => ?_) (fun cdv A outer s H vs Q E hr h => ?_)
  · obtain ⟨F0, As, r, ⟨x_self, rfl, h⟩, e0, ha, k⟩ := h
    exact alla_len ha
  · obtain ⟨F0, As, r, ⟨x_self, rfl, h⟩, e0, ha, k⟩ := h
    obtain ⟨v_self, rfl, f_self⟩ := alla1 ha
    refine ⟨_, (pss_one (ps_ret (pe_tup (pa_cons pe_str (pa_cons (pe_cal G_told_parts (hr.mono (by omega)) rfl (pa_cons (pe_fld (pv 0) rfl) pa_nil)) pa_nil))))), ?_⟩
    refine (show Sx ⟨F0, H, none⟩ _ _ [some v_self] F0 [] from ?_) H (At.start e0)
    have f_self : ((rX K)).rp x_self v_self F0 := f_self
    obtain ⟨c10, hc10, h⟩ := bsome h
    obtain ⟨c11, hc11, h⟩ := bsome h
    obtain ⟨r12, hr12, h⟩ := bsome h
    obtain rfl := Option.some.inj h
    refine sx_ret (R := (rDf F0)) (evF_tup (B := F0) (ds := [(encS [115, 116, 114, 111, 110, 103]), (PyData.list r12)]) (ea_cons (evF_s (B := F0) (d := (encS [115, 116, 114, 111, 110, 103])) (by rfl) (ev_d (a := [115, 116, 114, 111, 110, 103]) eS (ev_s (l := [115, 116, 114, 111, 110, 103]) (by decide +kernel) (by decide +kernel)))) (ea_cons (evF_newF (B := F0) (Same.refl _) (ev_callFN (P := Q_told_parts K r_told_parts) (Same.refl _) (ea_cons (ev_asLX hc11 (ev_fldX T.ct hc10 (ev_v (R := (rX K)) rfl f_self))) ea_nil) ⟨_, rfl, hr12⟩)) ea_nil)) (show (2 : Nat) ≤ limL by decide)) fun v13 Fs14 s14 f15 => ?_
    exact rt_val k (fun _ => f15)
/-! told_parts -/
abbrev s_told_parts : Stmt := top 15
abbrev N_told_parts : List Str := ["parts", "part"]
theorem sc_told_parts : FnScope N_told_parts ["parts"] (defScope s_told_parts) := ⟨rfl, rfl, rfl, by decide +kernel, rfl, by decide +kernel, by decide +kernel⟩
def m_told_parts__o (r_told_parts : (List (XD)) → Option (List (PyData))) (x_parts : List (XD)) : Option (List (PyData)) := (mapF (fun (a10 : XD) => (disX "told" a10 [("Plain", m_Plain_told (a10)), ("Code", m_Code_told (a10)), ("Strong", m_Strong_told r_told_parts (a10)), ("Link", m_Link_told (a10)), ("Mark", m_Mark_told (a10))]).bind fun r18 => some (some r18)) x_parts).bind fun y20 => some y20
def P_told_parts__o (K : PySem.W.Frag) (r_told_parts : (List (XD)) → Option (List (PyData))) (As : List Ar) (r : List (PyData)) : Prop := ∃ (x_parts : List (XD)), As = [val (rL (rX K)) x_parts] ∧ m_told_parts__o r_told_parts x_parts = some r
theorem ok_told_parts__o (T : Top n K mg) (D : Df K mg "told_parts" s_told_parts) {r_told_parts : (List (XD)) → Option (List (PyData))} {j : Nat} (hj : J_told_parts ≤ j) (G_Plain_told : CalM P w K mg base 1 "Plain" "told" ["self"] (spF (P_Plain_told K))) (G_Code_told : CalM P w K mg base 1 "Code" "told" ["self"] (spF (P_Code_told K))) (G_Strong_told : CalM P w K mg base (j + 1) "Strong" "told" ["self"] (spF (P_Strong_told K r_told_parts))) (G_Link_told : CalM P w K mg base 1 "Link" "told" ["self"] (spF (P_Link_told K))) (G_Mark_told : CalM P w K mg base 1 "Mark" "told" ["self"] (spF (P_Mark_told K))) : Cal P w K mg base (j + 2) "told_parts" ["parts"] (spFN (P_told_parts__o K r_told_parts)) := by
  have SC := sc_told_parts
  have hj := show 1 ≤ j from hj
  have h1n := T.one
  refine cal_of (N := N_told_parts) D SC (fun _ _ _ _ _ _ us hl => match us, hl with | [_], _ => rfl) (fun vs H Q E h => ?_) (fun f cdv A outer s H vs Q E hr h => ?_)
  · obtain ⟨F0, As, r, ⟨x_parts, rfl, h⟩, e0, ha, k⟩ := h
    exact alla_len ha
  · obtain ⟨F0, As, r, ⟨x_parts, rfl, h⟩, e0, ha, k⟩ := h
    obtain ⟨v_parts, rfl, f_parts⟩ := alla1 ha
    refine ⟨_, (pss_one (ps_ret (pe_lc (own := [("part", 1)]) (g := gName 1) (tt := tYes) rfl SC.nd (pi_list (pv 0)) (blkOk_by (own := [("part", 1)]) (N := N_told_parts) (sc := defScope s_told_parts) (by decide +kernel)) (fun _ _ _ _ _ => (pg_name (i := 1) SC.nd rfl (Or.inl rfl))) (fun _ _ _ _ _ => pts_nil) (fun _ _ _ _ _ => (pe_dis_cons (pe_mM0 rfl T.me_Plain_told G_Plain_told (hr.mono (by omega)) (pv 1)) (pe_dis_cons (pe_mM0 rfl T.me_Code_told G_Code_told (hr.mono (by omega)) (pv 1)) (pe_dis_cons (pe_mM0 rfl T.me_Strong_told G_Strong_told (hr.mono (by omega)) (pv 1)) (pe_dis_cons (pe_mM0 rfl T.me_Link_told G_Link_told (hr.mono (by omega)) (pv 1)) (pe_dis_cons (pe_mM0 rfl T.me_Mark_told G_Mark_told (hr.mono (by omega)) (pv 1)) pe_dis_nil))))))))), ?_⟩
    refine (show Sx ⟨F0, H, none⟩ _ _ [some v_parts, none] F0 [] from ?_) H (At.start e0)
    have f_parts : ((rL (rX K))).rp x_parts v_parts F0 := f_parts
    obtain ⟨y20, hy20, h⟩ := bsome h
    obtain rfl := Option.some.inj h
    refine sx_retN (ev_lc (R' := (rDf F0)) hy20 (ei_list (ev_v (R := (rL (rX K))) rfl f_parts)) tg_n (fun a10 σ9 F11 F12 ob ha9 e13 e14 ⟨v15, zs, f16⟩ hb17 => by
    subst zs
    obtain ⟨r18, hr18, hb17⟩ := bsome hb17
    obtain rfl := Option.some.inj hb17
    exact ⟨rfl, et_yes, fun b eb => by cases eb; exact (ev_disG (K := K) (m := "told") (ws := [⟨"Plain", m_Plain_told (a10), (spF (P_Plain_told K))⟩, ⟨"Code", m_Code_told (a10), (spF (P_Code_told K))⟩, ⟨"Strong", m_Strong_told r_told_parts (a10), (spF (P_Strong_told K r_told_parts))⟩, ⟨"Link", m_Link_told (a10), (spF (P_Link_told K))⟩, ⟨"Mark", m_Mark_told (a10), (spF (P_Mark_told K))⟩]) rfl hr18 (ev_v (R := (rX K)) rfl f16) ea_nil (List.forall_mem_cons.mpr ⟨fun h8 => (gives_F ⟨_, rfl, h8⟩ (e13.trans e14)), (List.forall_mem_cons.mpr ⟨fun h8 => (gives_F ⟨_, rfl, h8⟩ (e13.trans e14)), (List.forall_mem_cons.mpr ⟨fun h8 => (gives_F ⟨_, rfl, h8⟩ (e13.trans e14)), (List.forall_mem_cons.mpr ⟨fun h8 => (gives_F ⟨_, rfl, h8⟩ (e13.trans e14)), (List.forall_mem_cons.mpr ⟨fun h8 => (gives_F ⟨_, rfl, h8⟩ (e13.trans e14)), (List.forall_mem_nil _)⟩)⟩)⟩)⟩)⟩))⟩)) fun p21 xs22 Fs23 s23 f24 => ?_
    exact rt_own k (List.Mem.head _) f24
def M_told_parts : Nat → (List (XD)) → Option (List (PyData))
  | 0 => fun _ => none
  | n + 1 => m_told_parts__o (M_told_parts n)
def m_told_parts (x_parts : List (XD)) : Option (List (PyData)) := M_told_parts 3 x_parts
def P_told_parts (K : PySem.W.Frag) := Q_told_parts K m_told_parts
theorem ok_told_parts (T : Top n K mg) (D : Df K mg "told_parts" s_told_parts) (D_Strong_told : DfM K "Strong" "told" "Strong.told" s_Strong_told) (G_Plain_told : CalM P w K mg base 1 "Plain" "told" ["self"] (spF (P_Plain_told K))) (G_Code_told : CalM P w K mg base 1 "Code" "told" ["self"] (spF (P_Code_told K))) (G_Link_told : CalM P w K mg base 1 "Link" "told" ["self"] (spF (P_Link_told K))) (G_Mark_told : CalM P w K mg base 1 "Mark" "told" ["self"] (spF (P_Mark_told K))) : Cal P w K mg base 7 "told_parts" ["parts"] (spFN (P_told_parts K)) := by
  have C0 : Cal P w K mg base 1 "told_parts" ["parts"] (spFN (Q_told_parts K (M_told_parts 0))) := cal_void (N := N_told_parts) (k := 0) D sc_told_parts (fun _ _ _ _ _ _ us hl => match us, hl with | [_], _ => rfl) (fun vs H Q E h => by obtain ⟨_, _, _, ⟨_, _, h⟩, _⟩ := h; cases h)
  have S_Strong_told_0 := ok_Strong_told (j := 1) (r_told_parts := M_told_parts 0) T D_Strong_told (by decide) C0
  have C1 : Cal P w K mg base 3 "told_parts" ["parts"] (spFN (Q_told_parts K (M_told_parts 1))) := ok_told_parts__o (j := 1) (r_told_parts := M_told_parts 0) T D (by decide) G_Plain_told G_Code_told S_Strong_told_0 G_Link_told G_Mark_told
  have S_Strong_told_1 := ok_Strong_told (j := 3) (r_told_parts := M_told_parts 1) T D_Strong_told (by decide) C1
  have C2 : Cal P w K mg base 5 "told_parts" ["parts"] (spFN (Q_told_parts K (M_told_parts 2))) := ok_told_parts__o (j := 3) (r_told_parts := M_told_parts 1) T D (by decide) G_Plain_told G_Code_told S_Strong_told_1 G_Link_told G_Mark_told
  have S_Strong_told_2 := ok_Strong_told (j := 5) (r_told_parts := M_told_parts 2) T D_Strong_told (by decide) C2
  have C3 : Cal P w K mg base 7 "told_parts" ["parts"] (spFN (Q_told_parts K (M_told_parts 3))) := ok_told_parts__o (j := 5) (r_told_parts := M_told_parts 2) T D (by decide) G_Plain_told G_Code_told S_Strong_told_2 G_Link_told G_Mark_told
  exact C3
theorem okc_Strong_told (T : Top n K mg) (D : DfM K "Strong" "told" "Strong.told" s_Strong_told) (G_told_parts : Cal P w K mg base 7 "told_parts" ["parts"] (spFN (P_told_parts K))) : CalM P w K mg base 8 "Strong" "told" ["self"] (spF (P_Strong_told K m_told_parts)) := ok_Strong_told (j := 7) (r_told_parts := m_told_parts) T D (by decide) G_told_parts
/-! is_signs -/
abbrev s_is_signs : Stmt := top 21
abbrev N_is_signs : List Str := ["thing"]
theorem sc_is_signs : FnScope N_is_signs ["thing"] (defScope s_is_signs) := ⟨rfl, rfl, rfl, by decide +kernel, rfl, by decide +kernel, by decide +kernel⟩
def m_is_signs (x_thing : PyData) : Option (Bool) := (cnd (!(isStrD x_thing)) (some true) ((eqO (id x_thing) (encS [])).bind fun c10 => some c10)).bind fun c11 => cnd c11 (some false) ((asS x_thing).bind fun c18 => (cnd (!inS [32, 32] c18) ((asS x_thing).bind fun c19 => (cnd (!decide (10 ∈ c19)) ((asS x_thing).bind fun c20 => some (!decide (9 ∈ c20))) (some false)).bind fun c21 => some c21) (some false)).bind fun c22 => some c22)
def P_is_signs (As : List Ar) (C : Ar) : Prop := ∃ (x_thing : PyData) (r : Bool), As = [val rD x_thing] ∧ m_is_signs x_thing = some r ∧ C = val rB r
theorem ok_is_signs (T : Top n K mg) (D : Df K mg "is_signs" s_is_signs)  : Cal P w K mg base 1 "is_signs" ["thing"] (spG (P_is_signs)) := by
  have SC := sc_is_signs
  have h1n := T.one
  refine cal_of (N := N_is_signs) D SC (fun _ _ _ _ _ _ us hl => match us, hl with | [_], _ => rfl) (fun vs H Q E h => ?_) (fun f cdv A outer s H vs Q E hr h => ?_)
  · obtain ⟨F0, As, C, ⟨x_thing, r, rfl, h, rfl⟩, e0, ha, k⟩ := h
    exact alla_len ha
  · obtain ⟨F0, As, C, ⟨x_thing, r, rfl, h, rfl⟩, e0, ha, k⟩ := h
    obtain ⟨v_thing, rfl, f_thing⟩ := alla1 ha
    refine ⟨_, (pss_cons (ps_if (PW.pt (pw_or (pt_not (pt_val (pe_callB call_isi (by rfl) T.b_isinstance (by decide +kernel) (pa_cons (pv 0) (pa_cons (pe_bltn (v := V.ty "str") (by rfl) T.b_str (by decide +kernel) rfl) pa_nil))))) (pw_or1 (pt_cmpR (op_eqD hr.units) (pv 0) pe_str (nomark _))))) (pss_one (ps_ret pe_bl)) pss_nil) (pss_one (ps_ret (pe_and (pe_cmpR op_xNinS pe_str (pv 0) rfl) (pe_and (pe_cmpR op_xNin1 pe_str (pv 0) rfl) (pe_one (pe_cmpR op_xNin1 pe_str (pv 0) rfl))))))), ?_⟩
    refine (show Sx ⟨F0, H, none⟩ _ _ [some v_thing] F0 [] from ?_) H (At.start e0)
    have f_thing : (rD).rp x_thing v_thing F0 := f_thing
    obtain ⟨c11, hc11, h⟩ := bsome h
    refine sx_seq (sx_if (et_or (b := c11) (et_not (et_B (ev_cb (ea_cons (ev_v (R := rD) rfl f_thing) (ea_cons ev_ty ea_nil)) (b_isi tD k_str)))) (fun z => by
    have h' := cnd_f hc11 z
    obtain ⟨c10, hc10, h'⟩ := bsome h'
    exact et_is (et_b (ev_op (ev_v (R := rD) rfl f_thing) (ev_s (l := []) (by decide +kernel) (by decide +kernel)) (by have z := eqO_e hc10; have z1 := dt_v eD (K := K) (R := rD) z.1; have z2 := dt_v eS (K := K) (R := rS) z.2.1; have z3 := o_eqD z1 z2; rw [z.2.2] at z3; exact z3))) (Option.some.inj h')) (fun z => (Option.some.inj (cnd_t hc11 z)).symm)) (fun z12 Fs13 s13 => ?_) (fun z12 Fs14 s14 => ?_))
    · have h := cnd_t h z12
      obtain rfl := Option.some.inj h
      refine sx_ret (R := rB) ev_b fun v15 Fs16 s16 f17 => ?_
      exact rt_val k (fun _ => f17)
    · have h := cnd_f h z12
      refine sx_next ?_
      refine nx_of ?_
      obtain ⟨c18, hc18, h⟩ := bsome h
      obtain ⟨c22, hc22, h⟩ := bsome h
      obtain rfl := Option.some.inj h
      refine sx_ret (R := rB) (ev_and (b := c22) (ev_op (ev_s (l := [32, 32]) (by decide +kernel) (by decide +kernel)) (ev_asS hc18 (ev_v (R := rD) rfl (Rep.mono rD s14 f_thing))) o_ninS) (fun z => by
    have h' := cnd_t hc22 z
    obtain ⟨c19, hc19, h'⟩ := bsome h'
    obtain ⟨c21, hc21, h'⟩ := bsome h'
    exact ev_is (ev_and (b := c21) (ev_op (ev_ch (c := 10) (by decide +kernel) (by decide)) (ev_asS hc19 (ev_v (R := rD) rfl (Rep.mono rD s14 f_thing))) o_nin1) (fun z => by
      have h'' := cnd_t hc21 z
      obtain ⟨c20, hc20, h''⟩ := bsome h''
      exact ev_is (ev_op (ev_ch (c := 9) (by decide +kernel) (by decide)) (ev_asS hc20 (ev_v (R := rD) rfl (Rep.mono rD s14 f_thing))) o_nin1) (Option.some.inj h'')) (fun z => (Option.some.inj (cnd_f hc21 z)).symm)) (Option.some.inj h')) (fun z => (Option.some.inj (cnd_f hc22 z)).symm)) fun v23 Fs24 s24 f25 => ?_
      exact rt_val k (fun _ => f25)
/-! is_small -/
abbrev s_is_small : Stmt := top 22
abbrev N_is_small : List Str := ["thing"]
theorem sc_is_small : FnScope N_is_small ["thing"] (defScope s_is_small) := ⟨rfl, rfl, rfl, by decide +kernel, rfl, by decide +kernel, by decide +kernel⟩
def m_is_small (x_thing : PyData) : Option (Bool) := (m_is_name (x_thing)).bind fun r10 => (cnd r10 ((asS x_thing).bind fun c11 => (eqO (id x_thing) (encS (lowerS c11))).bind fun c12 => some c12) (some false)).bind fun c13 => some c13
def P_is_small (As : List Ar) (C : Ar) : Prop := ∃ (x_thing : PyData) (r : Bool), As = [val rD x_thing] ∧ m_is_small x_thing = some r ∧ C = val rB r
theorem ok_is_small (T : Top n K mg) (D : Df K mg "is_small" s_is_small) (G_is_name : Cal P w K mg base 1 "is_name" ["thing"] (spG (P_is_name))) : Cal P w K mg base 2 "is_small" ["thing"] (spG (P_is_small)) := by
  have SC := sc_is_small
  have h1n := T.one
  refine cal_of (N := N_is_small) D SC (fun _ _ _ _ _ _ us hl => match us, hl with | [_], _ => rfl) (fun vs H Q E h => ?_) (fun f cdv A outer s H vs Q E hr h => ?_)
  · obtain ⟨F0, As, C, ⟨x_thing, r, rfl, h, rfl⟩, e0, ha, k⟩ := h
    exact alla_len ha
  · obtain ⟨F0, As, C, ⟨x_thing, r, rfl, h, rfl⟩, e0, ha, k⟩ := h
    obtain ⟨v_thing, rfl, f_thing⟩ := alla1 ha
    refine ⟨_, (pss_one (ps_ret (pe_and (pe_cal G_is_name (hr.mono (by decide)) rfl (pa_cons (pv 0) pa_nil)) (pe_one (pe_cmpR (op_eqD hr.units) (pv 0) (pe_bm0 PySem.F.plainAttrs_str PySem.F.slot_str_lower PySem.F.type_str_lower mt_mLower (pv 0)) (nomark _)))))), ?_⟩
    refine (show Sx ⟨F0, H, none⟩ _ _ [some v_thing] F0 [] from ?_) H (At.start e0)
    have f_thing : (rD).rp x_thing v_thing F0 := f_thing
    obtain ⟨r10, hr10, h⟩ := bsome h
    obtain ⟨c13, hc13, h⟩ := bsome h
    obtain rfl := Option.some.inj h
    refine sx_ret (R := rB) (ev_and (b := c13) (ev_call (P := P_is_name) (ea_cons (ev_v (R := rD) rfl f_thing) ea_nil) ⟨_, _, rfl, hr10, rfl⟩) (fun z => by
    have h' := cnd_t hc13 z
    obtain ⟨c11, hc11, h'⟩ := bsome h'
    obtain ⟨c12, hc12, h'⟩ := bsome h'
    exact ev_is (ev_op (ev_v (R := rD) rfl f_thing) (ev_m0 (ev_asS hc11 (ev_v (R := rD) rfl f_thing)) m_lower) (by have z := eqO_e hc12; have z1 := dt_v eD (K := K) (R := rD) z.1; have z2 := dt_v eS (K := K) (R := rS) z.2.1; have z3 := o_eqD z1 z2; rw [z.2.2] at z3; exact z3)) (Option.some.inj h')) (fun z => (Option.some.inj (cnd_f hc13 z)).symm)) fun v14 Fs15 s15 f16 => ?_
    exact rt_val k (fun _ => f16)
def Q_made_parts (K : PySem.W.Frag) (m : (List (PyData)) → Bool → Option (Except Str (List (XD)))) (As : List Ar) (r : Except Str (List (XD))) : Prop := ∃ (x_told : List (PyData)) (x_is_outer : Bool), As = [val (rL rD) x_told, val rB x_is_outer] ∧ m x_told x_is_outer = some r
abbrev J_made_parts : Nat := 2
/-! made_part -/
abbrev s_made_part : Stmt := top 23
abbrev N_made_part : List Str := ["told", "is_outer", "kind", "thing"]
theorem sc_made_part : FnScope N_made_part ["told", "is_outer"] (defScope s_made_part) := ⟨rfl, rfl, rfl, by decide +kernel, rfl, by decide +kernel, by decide +kernel⟩
def m_made_part (r_made_parts : (List (PyData)) → Bool → Option (Except Str (List (XD)))) (x_told : PyData) (x_is_outer : Bool) : Option (Except Str (XD)) := (cnd (!(isTupD x_told)) (some true) ((lenD x_told).bind fun c10 => (cnd (decide (c10 < (2 : Int))) (some true) ((ixD x_told (0 : Int)).bind fun c11 => some (!(isStrD c11)))).bind fun c12 => some c12)).bind fun c13 => cnd c13 (some (.error "BadTree")) ((ixD x_told (0 : Int)).bind fun c17 => (asS c17).bind fun c18 => lt c18 fun x19 => (cnd (decide (x19 = [108, 105, 110, 107])) ((lenD x_told).bind fun c23 => (cnd (decide (c23 = (3 : Int))) ((ixD x_told (1 : Int)).bind fun c24 => (m_is_signs (c24)).bind fun r25 => (cnd r25 ((ixD x_told (2 : Int)).bind fun c26 => (m_is_small (c26)).bind fun r27 => some r27) (some false)).bind fun c28 => some c28) (some false)).bind fun c29 => some c29) (some false)).bind fun c30 => cnd c30 ((ixD x_told (1 : Int)).bind fun c34 => (asS c34).bind fun c35 => (ixD x_told (2 : Int)).bind fun c36 => (asS c36).bind fun c37 => (m_Link___init__ (c35) (c37)).bind fun r38 => some (.ok (XD.obj "Link" r38))) ((lenD x_told).bind fun c42 => cnd ((!decide (c42 = (2 : Int)))) (some (.error "BadTree")) ((ixD x_told (1 : Int)).bind fun c46 => lt c46 fun x47 => (cnd (decide (x19 = [112, 108, 97, 105, 110])) ((m_is_signs (x47)).bind fun r51 => some r51) (some false)).bind fun c52 => cnd c52 ((asS x47).bind fun c56 => (m_Plain___init__ (c56)).bind fun r57 => some (.ok (XD.obj "Plain" r57))) ((cnd (decide (x19 = [99, 111, 100, 101])) ((m_is_signs (x47)).bind fun r61 => (cnd r61 ((asS x47).bind fun c62 => some (!decide (96 ∈ c62))) (some false)).bind fun c63 => some c63) (some false)).bind fun c64 => cnd c64 ((asS x47).bind fun c68 => (m_Code___init__ (c68)).bind fun r69 => some (.ok (XD.obj "Code" r69))) ((cnd (decide (x19 = [110, 111, 116, 101])) ((m_is_small (x47)).bind fun r73 => some r73) (some false)).bind fun c74 => cnd c74 ((asS x47).bind fun c78 => (m_Mark___init__ (c78)).bind fun r79 => some (.ok (XD.obj "Mark" r79))) ((cnd (decide (x19 = [115, 116, 114, 111, 110, 103])) ((cnd x_is_outer ((cnd (isListD x47) ((eqO (id x47) (PyData.list (List.map id ([] : List (PyData))))).bind fun c83 => some (!c83)) (some false)).bind fun c84 => some c84) (some false)).bind fun c85 => some c85) (some false)).bind fun c86 => cnd c86 ((asL x47).bind fun c90 => (r_made_parts (c90) (false)).bind fun r91 => exB r91 fun a92 => (m_Strong___init__ (a92)).bind fun r98 => some (.ok (XD.obj "Strong" r98))) (some (.error "BadTree"))))))))
def P_made_part (K : PySem.W.Frag) (r_made_parts : (List (PyData)) → Bool → Option (Except Str (List (XD)))) (As : List Ar) (r : Except Str (XD)) : Prop := ∃ (x_told : PyData) (x_is_outer : Bool), As = [val rD x_told, val rB x_is_outer] ∧ m_made_part r_made_parts x_told x_is_outer = some r
theorem ok_made_part (T : Top n K mg) (D : Df K mg "made_part" s_made_part) {r_made_parts : (List (PyData)) → Bool → Option (Except Str (List (XD)))} {j : Nat} (hj : J_made_parts ≤ j) (G_is_signs : Cal P w K mg base 1 "is_signs" ["thing"] (spG (P_is_signs))) (G_is_small : Cal P w K mg base 2 "is_small" ["thing"] (spG (P_is_small))) (G_Link___init__ : CalM P w K mg base 1 "Link" "__init__" ["self", "words", "name"] (spI K (He.ga K "Link") (P_Link___init__))) (G_Plain___init__ : CalM P w K mg base 1 "Plain" "__init__" ["self", "signs"] (spI K (He.ga K "Plain") (P_Plain___init__))) (G_Code___init__ : CalM P w K mg base 1 "Code" "__init__" ["self", "signs"] (spI K (He.ga K "Code") (P_Code___init__))) (G_Mark___init__ : CalM P w K mg base 1 "Mark" "__init__" ["self", "name"] (spI K (He.ga K "Mark") (P_Mark___init__))) (G_made_parts : CalX P w K mg base j "made_parts" ["told", "is_outer"] (spX K (rL (rX K)) (Q_made_parts K r_made_parts))) (G_Strong___init__ : CalM P w K mg base 1 "Strong" "__init__" ["self", "parts"] (spI K (He.ga K "Strong") (P_Strong___init__ K))) : CalX P w K mg base (j + 1) "made_part" ["told", "is_outer"] (spX K (rX K) (P_made_part K r_made_parts)) := by
  have SC := sc_made_part
  have hj := show 2 ≤ j from hj
  refine calX_of (N := N_made_part) D SC (fun _ _ _ _ _ _ us hl => match us, hl with | [_, _], _ => rfl) (fun vs H Q E h => ?_) (fun f cdv A outer s H vs Q E hr h => ?_)
  · obtain ⟨F0, As, r, ⟨x_told, x_is_outer, rfl, h⟩, e0, ha, kO, kE⟩ := h
    exact alla_len ha
  · obtain ⟨F0, As, r, ⟨x_told, x_is_outer, rfl, h⟩, e0, ha, kO, kE⟩ := h
    obtain ⟨v_told, v_is_outer, rfl, f_told, f_is_outer⟩ := alla2 ha
    refine ⟨_, (pss_cons (ps_if (PW.pt (pw_or (pt_not (pt_val (pe_callB call_isi (by rfl) T.b_isinstance (by decide +kernel) (pa_cons (pv 0) (pa_cons (pe_bltn (v := V.ty "tuple") (by rfl) T.b_tuple (by decide +kernel) rfl) pa_nil))))) (pw_or (pt_cmpR op_xLt (pe_callB call_cLen (by rfl) T.b_len PySem.boot_len (pa_cons (pv 0) pa_nil)) pe_int (nomark _)) (pw_or1 (pt_not (pt_val (pe_callB call_isi (by rfl) T.b_isinstance (by decide +kernel) (pa_cons (pe_ix ix_tup (pv 0) pe_int (fun _ _ => rfl)) (pa_cons (pe_bltn (v := V.ty "str") (by rfl) T.b_str (by decide +kernel) rfl) pa_nil))))))))) (pss_one (ps_raiseB rfl takesX rfl T.ex_BadTree rfl)) pss_nil) (pss_cons (ps_set (i := 2) SC.nd rfl (Or.inl rfl) (pe_ix ix_tup (pv 0) pe_int (fun _ _ => rfl))) (pss_cons (ps_if (PW.pt (pw_and (pt_cmpR op_eq (pv 2) pe_str (nomark _)) (pw_and (pt_cmpR op_eq (pe_callB call_cLen (by rfl) T.b_len PySem.boot_len (pa_cons (pv 0) pa_nil)) pe_int (nomark _)) (pw_and (pt_val (pe_cal G_is_signs (hr.mono (by omega)) rfl (pa_cons (pe_ix ix_tup (pv 0) pe_int (fun _ _ => rfl)) pa_nil))) (pw_and1 (pt_val (pe_cal G_is_small (hr.mono (by omega)) rfl (pa_cons (pe_ix ix_tup (pv 0) pe_int (fun _ _ => rfl)) pa_nil)))))))) (pss_one (ps_ret (pe_mkC rfl T.mk_Link G_Link___init__ (hr.mono (by omega)) rfl (pa_cons (pe_ix ix_tup (pv 0) pe_int (fun _ _ => rfl)) (pa_cons (pe_ix ix_tup (pv 0) pe_int (fun _ _ => rfl)) pa_nil))))) pss_nil) (pss_cons (ps_if (pt_cmpR op_ne (pe_callB call_cLen (by rfl) T.b_len PySem.boot_len (pa_cons (pv 0) pa_nil)) pe_int (nomark _)) (pss_one (ps_raiseB rfl takesX rfl T.ex_BadTree rfl)) pss_nil) (pss_cons (ps_set (i := 3) SC.nd rfl (Or.inl rfl) (pe_ix ix_tup (pv 0) pe_int (fun _ _ => rfl))) (pss_cons (ps_if (PW.pt (pw_and (pt_cmpR op_eq (pv 2) pe_str (nomark _)) (pw_and1 (pt_val (pe_cal G_is_signs (hr.mono (by omega)) rfl (pa_cons (pv 3) pa_nil)))))) (pss_one (ps_ret (pe_mkC rfl T.mk_Plain G_Plain___init__ (hr.mono (by omega)) rfl (pa_cons (pv 3) pa_nil)))) pss_nil) (pss_cons (ps_if (PW.pt (pw_and (pt_cmpR op_eq (pv 2) pe_str (nomark _)) (pw_and (pt_val (pe_cal G_is_signs (hr.mono (by omega)) rfl (pa_cons (pv 3) pa_nil))) (pw_and1 (pt_cmpR op_xNin1 pe_str (pv 3) rfl))))) (pss_one (ps_ret (pe_mkC rfl T.mk_Code G_Code___init__ (hr.mono (by omega)) rfl (pa_cons (pv 3) pa_nil)))) pss_nil) (pss_cons (ps_if (PW.pt (pw_and (pt_cmpR op_eq (pv 2) pe_str (nomark _)) (pw_and1 (pt_val (pe_cal G_is_small (hr.mono (by omega)) rfl (pa_cons (pv 3) pa_nil)))))) (pss_one (ps_ret (pe_mkC rfl T.mk_Mark G_Mark___init__ (hr.mono (by omega)) rfl (pa_cons (pv 3) pa_nil)))) pss_nil) (pss_cons (ps_if (PW.pt (pw_and (pt_cmpR op_eq (pv 2) pe_str (nomark _)) (pw_and (pt_val (pv 1)) (pw_and (pt_val (pe_callB call_isi (by rfl) T.b_isinstance (by decide +kernel) (pa_cons (pv 3) (pa_cons (pe_bltn (v := V.ty "list") (by rfl) T.b_list (by decide +kernel) rfl) pa_nil)))) (pw_and1 (pt_cmpR (op_neD hr.units) (pv 3) (pe_lst pa_nil) (nomark _))))))) (pss_one (ps_ret (pe_mkC rfl T.mk_Strong G_Strong___init__ (hr.mono (by omega)) rfl (pa_cons (pe_calX G_made_parts takesX (hr.mono (by omega)) rfl (pa_cons (pv 3) (pa_cons pe_bl pa_nil))) pa_nil)))) pss_nil) (pss_one (ps_raiseB rfl takesX rfl T.ex_BadTree rfl))))))))))), ?_⟩
    refine (show Sx ⟨F0, H, none⟩ _ _ [some v_told, some v_is_outer, none, none] F0 [] from ?_) H (At.start e0)
    have f_told : (rD).rp x_told v_told F0 := f_told
    have f_is_outer : (rB).rp x_is_outer v_is_outer F0 := f_is_outer
    obtain ⟨c13, hc13, h⟩ := bsome h
    refine sx_seq (sx_if (et_or (b := c13) (et_not (et_B (ev_cb (ea_cons (ev_v (R := rD) rfl f_told) (ea_cons ev_ty ea_nil)) (b_isi tD k_tup)))) (fun z => by
    have h' := cnd_f hc13 z
    obtain ⟨c10, hc10, h'⟩ := bsome h'
    obtain ⟨c12, hc12, h'⟩ := bsome h'
    exact et_is (et_or (b := c12) (et_b (ev_op (ev_cb (ea_cons (ev_v (R := rD) rfl f_told) ea_nil) (b_lenD hc10)) ev_i o_lt)) (fun z => by
      have h'' := cnd_f hc12 z
      obtain ⟨c11, hc11, h''⟩ := bsome h''
      exact et_is (et_not (et_B (ev_cb (ea_cons (ev_op (ev_v (R := rD) rfl f_told) ev_i (o_ixD hc11)) (ea_cons ev_ty ea_nil)) (b_isi tD k_str)))) (Option.some.inj h'')) (fun z => (Option.some.inj (cnd_t hc12 z)).symm)) (Option.some.inj h')) (fun z => (Option.some.inj (cnd_t hc13 z)).symm)) (fun z14 Fs15 s15 => ?_) (fun z14 Fs16 s16 => ?_))
    · have h := cnd_t h z14
      obtain rfl := Option.some.inj h
      exact sx_raise0 (K := K) (W := fun cls d _ G => E cls d G) (c := "BadTree") (fun H9 a9 => kE _ rfl H9 a9.b)
    · have h := cnd_f h z14
      refine sx_next ?_
      refine nx_of ?_
      obtain ⟨c17, hc17, h⟩ := bsome h
      obtain ⟨c18, hc18, h⟩ := bsome h
      obtain ⟨x19, hx19, h⟩ := lt_e h
      refine sx_seq (sx_asg (R := rS) (ev_is (ev_asS hc18 (ev_op (ev_v (R := rD) rfl (Rep.mono rD s16 f_told)) ev_i (o_ixD hc17))) hx19) fun v22 Fs20 s20 f21 => nx_of ?_)
      obtain ⟨c30, hc30, h⟩ := bsome h
      refine sx_seq (sx_if (et_and (b := c30) (et_b (ev_op (ev_v (R := rS) rfl f21) (ev_s (l := [108, 105, 110, 107]) (by decide +kernel) (by decide +kernel)) o_eqS)) (fun z => by
    have h' := cnd_t hc30 z
    obtain ⟨c23, hc23, h'⟩ := bsome h'
    obtain ⟨c29, hc29, h'⟩ := bsome h'
    exact et_is (et_and (b := c29) (et_b (ev_op (ev_cb (ea_cons (ev_v (R := rD) rfl (Rep.mono rD (s16.trans s20) f_told)) ea_nil) (b_lenD hc23)) ev_i o_eqI)) (fun z => by
      have h'' := cnd_t hc29 z
      obtain ⟨c24, hc24, h''⟩ := bsome h''
      obtain ⟨r25, hr25, h''⟩ := bsome h''
      obtain ⟨c28, hc28, h''⟩ := bsome h''
      exact et_is (et_and (b := c28) (et_B (ev_call (P := P_is_signs) (ea_cons (ev_op (ev_v (R := rD) rfl (Rep.mono rD (s16.trans s20) f_told)) ev_i (o_ixD hc24)) ea_nil) ⟨_, _, rfl, hr25, rfl⟩)) (fun z => by
        have h''' := cnd_t hc28 z
        obtain ⟨c26, hc26, h'''⟩ := bsome h'''
        obtain ⟨r27, hr27, h'''⟩ := bsome h'''
        exact et_is (et_B (ev_call (P := P_is_small) (ea_cons (ev_op (ev_v (R := rD) rfl (Rep.mono rD (s16.trans s20) f_told)) ev_i (o_ixD hc26)) ea_nil) ⟨_, _, rfl, hr27, rfl⟩)) (Option.some.inj h''')) (fun z => (Option.some.inj (cnd_f hc28 z)).symm)) (Option.some.inj h'')) (fun z => (Option.some.inj (cnd_f hc29 z)).symm)) (Option.some.inj h')) (fun z => (Option.some.inj (cnd_f hc30 z)).symm)) (fun z31 Fs32 s32 => ?_) (fun z31 Fs33 s33 => ?_))
      · have h := cnd_t h z31
        obtain ⟨c34, hc34, h⟩ := bsome h
        obtain ⟨c35, hc35, h⟩ := bsome h
        obtain ⟨c36, hc36, h⟩ := bsome h
        obtain ⟨c37, hc37, h⟩ := bsome h
        obtain ⟨r38, hr38, h⟩ := bsome h
        obtain rfl := Option.some.inj h
        refine sx_ret (R := (rX K)) (ev_make (P := P_Link___init__) (ea_cons (ev_asS hc35 (ev_op (ev_v (R := rD) rfl (Rep.mono rD ((s16.trans s20).trans s32) f_told)) ev_i (o_ixD hc34))) (ea_cons (ev_asS hc37 (ev_op (ev_v (R := rD) rfl (Rep.mono rD ((s16.trans s20).trans s32) f_told)) ev_i (o_ixD hc36))) ea_nil)) ⟨_, _, rfl, hr38⟩) fun v39 Fs40 s40 f41 => ?_
        have k := kO _ rfl
        exact rt_val k (fun _ => f41)
      · have h := cnd_f h z31
        refine sx_next ?_
        refine nx_of ?_
        obtain ⟨c42, hc42, h⟩ := bsome h
        refine sx_seq (sx_if (et_b (ev_op (ev_cb (ea_cons (ev_v (R := rD) rfl (Rep.mono rD ((s16.trans s20).trans s33) f_told)) ea_nil) (b_lenD hc42)) ev_i o_neI)) (fun z43 Fs44 s44 => ?_) (fun z43 Fs45 s45 => ?_))
        · have h := cnd_t h z43
          obtain rfl := Option.some.inj h
          exact sx_raise0 (K := K) (W := fun cls d _ G => E cls d G) (c := "BadTree") (fun H9 a9 => kE _ rfl H9 a9.b)
        · have h := cnd_f h z43
          refine sx_next ?_
          refine nx_of ?_
          obtain ⟨c46, hc46, h⟩ := bsome h
          obtain ⟨x47, hx47, h⟩ := lt_e h
          refine sx_seq (sx_asg (R := rD) (ev_is (ev_op (ev_v (R := rD) rfl (Rep.mono rD (((s16.trans s20).trans s33).trans s45) f_told)) ev_i (o_ixD hc46)) hx47) fun v50 Fs48 s48 f49 => nx_of ?_)
          refine sx_so (σ2 := [some v_told, some v_is_outer, some v22, some v50]) (O2 := []) rfl rfl ?_
          obtain ⟨c52, hc52, h⟩ := bsome h
          refine sx_seq (sx_if (et_and (b := c52) (et_b (ev_op (ev_v (R := rS) rfl (Rep.mono rS ((s33.trans s45).trans s48) f21)) (ev_s (l := [112, 108, 97, 105, 110]) (by decide +kernel) (by decide +kernel)) o_eqS)) (fun z => by
    have h' := cnd_t hc52 z
    obtain ⟨r51, hr51, h'⟩ := bsome h'
    exact et_is (et_B (ev_call (P := P_is_signs) (ea_cons (ev_v (R := rD) rfl f49) ea_nil) ⟨_, _, rfl, hr51, rfl⟩)) (Option.some.inj h')) (fun z => (Option.some.inj (cnd_f hc52 z)).symm)) (fun z53 Fs54 s54 => ?_) (fun z53 Fs55 s55 => ?_))
          · have h := cnd_t h z53
            obtain ⟨c56, hc56, h⟩ := bsome h
            obtain ⟨r57, hr57, h⟩ := bsome h
            obtain rfl := Option.some.inj h
            refine sx_ret (R := (rX K)) (ev_make (P := P_Plain___init__) (ea_cons (ev_asS hc56 (ev_v (R := rD) rfl (Rep.mono rD s54 f49))) ea_nil) ⟨_, rfl, hr57⟩) fun v58 Fs59 s59 f60 => ?_
            have k := kO _ rfl
            exact rt_val k (fun _ => f60)
          · have h := cnd_f h z53
            refine sx_next ?_
            refine nx_of ?_
            obtain ⟨c64, hc64, h⟩ := bsome h
            refine sx_seq (sx_if (et_and (b := c64) (et_b (ev_op (ev_v (R := rS) rfl (Rep.mono rS (((s33.trans s45).trans s48).trans s55) f21)) (ev_s (l := [99, 111, 100, 101]) (by decide +kernel) (by decide +kernel)) o_eqS)) (fun z => by
    have h' := cnd_t hc64 z
    obtain ⟨r61, hr61, h'⟩ := bsome h'
    obtain ⟨c63, hc63, h'⟩ := bsome h'
    exact et_is (et_and (b := c63) (et_B (ev_call (P := P_is_signs) (ea_cons (ev_v (R := rD) rfl (Rep.mono rD s55 f49)) ea_nil) ⟨_, _, rfl, hr61, rfl⟩)) (fun z => by
      have h'' := cnd_t hc63 z
      obtain ⟨c62, hc62, h''⟩ := bsome h''
      exact et_is (et_b (ev_op (ev_ch (c := 96) (by decide +kernel) (by decide)) (ev_asS hc62 (ev_v (R := rD) rfl (Rep.mono rD s55 f49))) o_nin1)) (Option.some.inj h'')) (fun z => (Option.some.inj (cnd_f hc63 z)).symm)) (Option.some.inj h')) (fun z => (Option.some.inj (cnd_f hc64 z)).symm)) (fun z65 Fs66 s66 => ?_) (fun z65 Fs67 s67 => ?_))
            · have h := cnd_t h z65
              obtain ⟨c68, hc68, h⟩ := bsome h
              obtain ⟨r69, hr69, h⟩ := bsome h
              obtain rfl := Option.some.inj h
              refine sx_ret (R := (rX K)) (ev_make (P := P_Code___init__) (ea_cons (ev_asS hc68 (ev_v (R := rD) rfl (Rep.mono rD (s55.trans s66) f49))) ea_nil) ⟨_, rfl, hr69⟩) fun v70 Fs71 s71 f72 => ?_
              have k := kO _ rfl
              exact rt_val k (fun _ => f72)
            · have h := cnd_f h z65
              refine sx_next ?_
              refine nx_of ?_
              obtain ⟨c74, hc74, h⟩ := bsome h
              refine sx_seq (sx_if (et_and (b := c74) (et_b (ev_op (ev_v (R := rS) rfl (Rep.mono rS ((((s33.trans s45).trans s48).trans s55).trans s67) f21)) (ev_s (l := [110, 111, 116, 101]) (by decide +kernel) (by decide +kernel)) o_eqS)) (fun z => by
    have h' := cnd_t hc74 z
    obtain ⟨r73, hr73, h'⟩ := bsome h'
    exact et_is (et_B (ev_call (P := P_is_small) (ea_cons (ev_v (R := rD) rfl (Rep.mono rD (s55.trans s67) f49)) ea_nil) ⟨_, _, rfl, hr73, rfl⟩)) (Option.some.inj h')) (fun z => (Option.some.inj (cnd_f hc74 z)).symm)) (fun z75 Fs76 s76 => ?_) (fun z75 Fs77 s77 => ?_))
              · have h := cnd_t h z75
                obtain ⟨c78, hc78, h⟩ := bsome h
                obtain ⟨r79, hr79, h⟩ := bsome h
                obtain rfl := Option.some.inj h
                refine sx_ret (R := (rX K)) (ev_make (P := P_Mark___init__) (ea_cons (ev_asS hc78 (ev_v (R := rD) rfl (Rep.mono rD ((s55.trans s67).trans s76) f49))) ea_nil) ⟨_, rfl, hr79⟩) fun v80 Fs81 s81 f82 => ?_
                have k := kO _ rfl
                exact rt_val k (fun _ => f82)
              · have h := cnd_f h z75
                refine sx_next ?_
                refine nx_of ?_
                obtain ⟨c86, hc86, h⟩ := bsome h
                refine sx_seq (sx_if (et_and (b := c86) (et_b (ev_op (ev_v (R := rS) rfl (Rep.mono rS (((((s33.trans s45).trans s48).trans s55).trans s67).trans s77) f21)) (ev_s (l := [115, 116, 114, 111, 110, 103]) (by decide +kernel) (by decide +kernel)) o_eqS)) (fun z => by
    have h' := cnd_t hc86 z
    obtain ⟨c85, hc85, h'⟩ := bsome h'
    exact et_is (et_and (b := c85) (et_B (ev_v (R := rB) rfl (Rep.mono rB (((((((s16.trans s20).trans s33).trans s45).trans s48).trans s55).trans s67).trans s77) f_is_outer))) (fun z => by
      have h'' := cnd_t hc85 z
      obtain ⟨c84, hc84, h''⟩ := bsome h''
      exact et_is (et_and (b := c84) (et_B (ev_cb (ea_cons (ev_v (R := rD) rfl (Rep.mono rD ((s55.trans s67).trans s77) f49)) (ea_cons ev_ty ea_nil)) (b_isi tD k_list))) (fun z => by
        have h''' := cnd_t hc84 z
        obtain ⟨c83, hc83, h'''⟩ := bsome h'''
        exact et_is (et_b (ev_op (ev_v (R := rD) rfl (Rep.mono rD ((s55.trans s67).trans s77) f49)) (ev_nspn (ev_lst (R := rD) (as := []) ea_nil (show (0 : Nat) ≤ limL by decide))) (by have z := eqO_e hc83; have z1 := dt_v eD (K := K) (R := rD) z.1; have z2 := dt_l eD (K := K) (R := rD) z.2.1; have z3 := o_neD z1 z2; rw [z.2.2] at z3; exact z3))) (Option.some.inj h''')) (fun z => (Option.some.inj (cnd_f hc84 z)).symm)) (Option.some.inj h'')) (fun z => (Option.some.inj (cnd_f hc85 z)).symm)) (Option.some.inj h')) (fun z => (Option.some.inj (cnd_f hc86 z)).symm)) (fun z87 Fs88 s88 => ?_) (fun z87 Fs89 s89 => ?_))
                · have h := cnd_t h z87
                  obtain ⟨c90, hc90, h⟩ := bsome h
                  obtain ⟨r91, hr91, h⟩ := bsome h
                  refine sx_hole (K := K) (tS := fun t8 => tRet (tMake _ _ [] _ (tCons t8 tNil))) (fun _ _ _ _ => rfl) (evX_call (P := Q_made_parts K r_made_parts) (ea_cons (ev_asL hc90 (ev_v (R := rD) rfl (Rep.mono rD (((s55.trans s67).trans s77).trans s88) f49))) (ea_cons ev_b ea_nil)) ⟨_, _, rfl, hr91⟩) (fun a92 ea93 t94 Fs96 s96 h95 => ?_) (fun c9 e9 Fs97 s97 => ?_)
                  · have h := exB_ok h ea93
                    obtain ⟨r98, hr98, h⟩ := bsome h
                    obtain rfl := Option.some.inj h
                    refine sx_ret (R := (rX K)) (ev_make (P := P_Strong___init__ K) (ea_cons h95 ea_nil) ⟨_, rfl, hr98⟩) fun v99 Fs100 s100 f101 => ?_
                    have k := kO _ rfl
                    exact rt_val k (fun _ => f101)
                  · have h := exB_er h e9
                    obtain rfl := Option.some.inj h
                    exact fun H9 a9 => kE _ rfl H9 a9.b
                · have h := cnd_f h z87
                  refine sx_next ?_
                  obtain rfl := Option.some.inj h
                  exact fun H9 a9 => kE _ rfl H9 a9.b
/-! made_parts -/
abbrev s_made_parts : Stmt := top 24
abbrev N_made_parts : List Str := ["told", "is_outer", "parts", "one", "other"]
theorem sc_made_parts : FnScope N_made_parts ["told", "is_outer"] (defScope s_made_parts) := ⟨rfl, rfl, rfl, by decide +kernel, rfl, by decide +kernel, by decide +kernel⟩
def m_made_parts__o (r_made_parts : (List (PyData)) → Bool → Option (Except Str (List (XD)))) (x_told : List (PyData)) (x_is_outer : Bool) : Option (Except Str (List (XD))) := (mapX (fun (a10 : PyData) => m_made_part r_made_parts (a10) (x_is_outer)) x_told).bind fun r18 => exB r18 fun x19 => fwd (loop (ρ := Except Str (List (XD))) (fun (s42 : Unit) (a43 : (XD × XD)) => (isO is_Plain a43.1).bind fun c56 => (cnd c56 ((isO is_Plain a43.2).bind fun c57 => some c57) (some false)).bind fun c58 => cnd c58 (some (Fw.rt (.error "BadTree"))) (some (Fw.nx ()))) (List.zip x19 (cutL x19 (some (1 : Int)) none)) ()) (fun (s32 : Unit) => some (.ok x19)) (fun (r : Except Str (List (XD))) => some r)
def P_made_parts__o (K : PySem.W.Frag) (r_made_parts : (List (PyData)) → Bool → Option (Except Str (List (XD)))) (As : List Ar) (r : Except Str (List (XD))) : Prop := ∃ (x_told : List (PyData)) (x_is_outer : Bool), As = [val (rL rD) x_told, val rB x_is_outer] ∧ m_made_parts__o r_made_parts x_told x_is_outer = some r
theorem ok_made_parts__o (T : Top n K mg) (D : Df K mg "made_parts" s_made_parts) {r_made_parts : (List (PyData)) → Bool → Option (Except Str (List (XD)))} {j : Nat} (hj : J_made_parts ≤ j) (G_made_part : CalX P w K mg base (j + 1) "made_part" ["told", "is_outer"] (spX K (rX K) (P_made_part K r_made_parts))) : CalX P w K mg base (j + 2) "made_parts" ["told", "is_outer"] (spX K (rL (rX K)) (P_made_parts__o K r_made_parts)) := by
  have SC := sc_made_parts
  have hj := show 2 ≤ j from hj
  refine calX_of (N := N_made_parts) D SC (fun _ _ _ _ _ _ us hl => match us, hl with | [_, _], _ => rfl) (fun vs H Q E h => ?_) (fun f cdv A outer s H vs Q E hr h => ?_)
  · obtain ⟨F0, As, r, ⟨x_told, x_is_outer, rfl, h⟩, e0, ha, kO, kE⟩ := h
    exact alla_len ha
  · obtain ⟨F0, As, r, ⟨x_told, x_is_outer, rfl, h⟩, e0, ha, kO, kE⟩ := h
    obtain ⟨v_told, v_is_outer, rfl, f_told, f_is_outer⟩ := alla2 ha
    refine ⟨_, (pss_cons (ps_setLcX (i := 2) (own := [("one", 3)]) (g := gName 3) (tt := tYes) rfl rfl rfl rfl rfl SC.nd rfl rfl (sw_true rfl rfl rfl (by decide +kernel)) (pi_list (pv 0)) (blkOk_by (own := [("one", 3)]) (N := N_made_parts) (sc := defScope s_made_parts) (by decide +kernel)) (fun _ _ _ _ _ => (pg_name (i := 3) SC.nd rfl (Or.inl rfl))) (fun _ _ _ _ _ => pts_nil) (fun _ _ _ _ _ _ pa9 => (pe_calB G_made_part pa9 (hr.mono (by omega)) rfl (pa_cons (pv 3) (pa_cons (pv 1) pa_nil))))) (pss_cons (ps_for ownX rfl (pi_zip (by rfl) T.b_zip (pa_cons (pv 2) (pa_cons (pe_slice sl_list (pv 2) (po_some pe_int) po_none) pa_nil))) (pg_tup rfl (pgs_cons (pg_name (i := 3) SC.nd rfl (Or.inl rfl)) (pgs_cons (pg_name (i := 4) SC.nd rfl (Or.inl rfl)) pgs_nil))) (pss_one (ps_if (PW.pt (pw_and (pt_val (pe_callB call_isi (by rfl) T.b_isinstance (by decide +kernel) (pa_cons (pv 3) (pa_cons (pe_glob (v := V.ref (He.ga K "Plain")) rfl T.is_Plain.gl rfl) pa_nil)))) (pw_and1 (pt_val (pe_callB call_isi (by rfl) T.b_isinstance (by decide +kernel) (pa_cons (pv 4) (pa_cons (pe_glob (v := V.ref (He.ga K "Plain")) rfl T.is_Plain.gl rfl) pa_nil))))))) (pss_one (ps_raiseB rfl takesX rfl T.ex_BadTree rfl)) pss_nil))) (pss_one (ps_ret (pv 2))))), ?_⟩
    refine (show Sx ⟨F0, H, none⟩ _ _ [some v_told, some v_is_outer, none, none, none] F0 [] from ?_) H (At.start e0)
    have f_told : ((rL rD)).rp x_told v_told F0 := f_told
    have f_is_outer : (rB).rp x_is_outer v_is_outer F0 := f_is_outer
    obtain ⟨r18, hr18, h⟩ := bsome h
    refine sx_seq (sx_asgNX (R := (rX K)) (EE := E) (evX_lc hr18 (ei_list (ev_v (R := (rL rD)) rfl f_told)) tg_n (fun a10 σ9 F11 F12 ob ha9 e13 e14 ⟨v15, zs, f16⟩ hb17 => by
    subst zs
    exact ⟨rfl, evX_call (P := P_made_part K r_made_parts) (ea_cons (ev_v (R := rD) rfl f16) (ea_cons (ev_v (R := rB) rfl (Rep.mono rB (e13.trans e14) f_is_outer)) ea_nil)) ⟨_, _, rfl, hb17⟩⟩)) (fun x19 eo20 p21 xs22 Fs23 s23 f24 => ?_) (fun c9 e9 Fs25 s25 => ?_))
    · have h := exB_ok h eo20
      refine nx_of ?_
      refine sx_frzI (n := 0) rfl fun n26 => ?_
      obtain ⟨w27, hl28, hk29, hr30⟩ := fwd_o h
      refine sx_seq (sx_forX (J := fun (s : Unit) σ F O => ∃ (w_one : Option V) (w_other : Option V), σ = [some v_told, some v_is_outer, some (.ref p21), w_one, w_other] ∧ O = [] ∧ True) (Ro := (fun (r : Except Str (List (XD))) v F (O : Own) => ∃ a, r = .ok a ∧ ((rL (rX K))).rp a v F)) hl28 (ei_zip (ea_cons (ev_v (R := (rL (rX K))) rfl (rp_frz n26 f24)) (ea_cons (ev_frz (ev_slL (ev_spn (ev_v (R := (rL (rX K))) rfl (rp_frz n26 f24))) (ep_some ev_i) ep_none)) ea_nil))) tg_2 (fun Fe31 e31 => ⟨_, _, rfl, rfl, trivial⟩) ?_ ?_)
      · refine ⟨fun s32 es33 σ9 Fe34 O9 e34 ⟨w35, w36, hs37, ho38, _⟩ => ?_, fun r9 er9 v9 F9 O9 e9 hr9 => ?_⟩
        · subst hs37 ho38
          have h := hk29 s32 es33
          refine nx_of ?_
          obtain rfl := Option.some.inj h
          refine sx_ret (R := (rL (rX K))) (ev_v (R := (rL (rX K))) rfl (Rep.mono (rL (rX K)) e34 (rp_frz n26 f24))) fun v39 Fs40 s40 f41 => ?_
          have k := kO _ rfl
          exact rt_val k (fun _ => f41)
        · have h := hr30 r9 er9
          obtain rfl := Option.some.inj h
          obtain ⟨a9, rfl, hr9⟩ := hr9
          have k := kO _ rfl
          exact rt_val k (fun _ => hr9)
      · rintro s42 a43 σ9 σ8 Fe44 Fe45 O9 o9 D9 ha9 e44 e45 ⟨w47, w48, hs49, ho50, _⟩ ⟨v51, v53, zs, f52, f54⟩ h hx55 acc46
        subst hs49 ho50
        subst zs
        obtain ⟨c56, hc56, h⟩ := bsome h
        obtain ⟨c58, hc58, h⟩ := bsome h
        refine sx_if (et_and (b := c58) (et_B (ev_cb (ea_cons (ev_v (R := (rX K)) rfl f52) (ea_cons (ev_cls (K := K)) ea_nil)) (b_isiX T.is_Plain hc56))) (fun z => by
    have h' := cnd_t hc58 z
    obtain ⟨c57, hc57, h'⟩ := bsome h'
    exact et_is (et_B (ev_cb (ea_cons (ev_v (R := (rX K)) rfl f54) (ea_cons (ev_cls (K := K)) ea_nil)) (b_isiX T.is_Plain hc57))) (Option.some.inj h')) (fun z => (Option.some.inj (cnd_f hc58 z)).symm)) (fun z59 Fs60 s60 => ?_) (fun z59 Fs61 s61 => ?_)
        · have h := cnd_t h z59
          obtain rfl := Option.some.inj h
          have h := hr30 _ (hx55 _ rfl)
          obtain rfl := Option.some.inj h
          exact sx_raise0 (K := K) (W := fun cls d _ G => E cls d G) (c := "BadTree") (fun H9 a9 => kE _ rfl H9 a9.b)
        · have h := cnd_f h z59
          refine sx_next ?_
          obtain rfl := Option.some.inj h
          exact (acc46.nx _ rfl _ _ _ s61 ⟨_, _, rfl, rfl, trivial⟩).1
    · have h := exB_er h e9
      obtain rfl := Option.some.inj h
      exact fun H9 a9 => kE _ rfl H9 a9.b
def M_made_parts : Nat → (List (PyData)) → Bool → Option (Except Str (List (XD)))
  | 0 => fun _ _ => none
  | n + 1 => m_made_parts__o (M_made_parts n)
def m_made_parts (x_told : List (PyData)) (x_is_outer : Bool) : Option (Except Str (List (XD))) := M_made_parts 3 x_told x_is_outer
def P_made_parts (K : PySem.W.Frag) := Q_made_parts K m_made_parts
theorem ok_made_parts (T : Top n K mg) (D : Df K mg "made_parts" s_made_parts) (D_made_part : Df K mg "made_part" s_made_part) (G_is_signs : Cal P w K mg base 1 "is_signs" ["thing"] (spG (P_is_signs))) (G_is_small : Cal P w K mg base 2 "is_small" ["thing"] (spG (P_is_small))) (G_Link___init__ : CalM P w K mg base 1 "Link" "__init__" ["self", "words", "name"] (spI K (He.ga K "Link") (P_Link___init__))) (G_Plain___init__ : CalM P w K mg base 1 "Plain" "__init__" ["self", "signs"] (spI K (He.ga K "Plain") (P_Plain___init__))) (G_Code___init__ : CalM P w K mg base 1 "Code" "__init__" ["self", "signs"] (spI K (He.ga K "Code") (P_Code___init__))) (G_Mark___init__ : CalM P w K mg base 1 "Mark" "__init__" ["self", "name"] (spI K (He.ga K "Mark") (P_Mark___init__))) (G_Strong___init__ : CalM P w K mg base 1 "Strong" "__init__" ["self", "parts"] (spI K (He.ga K "Strong") (P_Strong___init__ K))) : CalX P w K mg base 8 "made_parts" ["told", "is_outer"] (spX K (rL (rX K)) (P_made_parts K)) := by
  have C0 : CalX P w K mg base 2 "made_parts" ["told", "is_outer"] (spX K (rL (rX K)) (Q_made_parts K (M_made_parts 0))) := calX_void (N := N_made_parts) (k := 1) D sc_made_parts (fun _ _ _ _ _ _ us hl => match us, hl with | [_, _], _ => rfl) (fun vs H Q E h => by obtain ⟨_, _, _, ⟨_, _, _, h⟩, _⟩ := h; cases h)
  have S_made_part_0 := ok_made_part (j := 2) (r_made_parts := M_made_parts 0) T D_made_part (by decide) G_is_signs G_is_small G_Link___init__ G_Plain___init__ G_Code___init__ G_Mark___init__ C0 G_Strong___init__
  have C1 : CalX P w K mg base 4 "made_parts" ["told", "is_outer"] (spX K (rL (rX K)) (Q_made_parts K (M_made_parts 1))) := ok_made_parts__o (j := 2) (r_made_parts := M_made_parts 0) T D (by decide) S_made_part_0
  have S_made_part_1 := ok_made_part (j := 4) (r_made_parts := M_made_parts 1) T D_made_part (by decide) G_is_signs G_is_small G_Link___init__ G_Plain___init__ G_Code___init__ G_Mark___init__ C1 G_Strong___init__
  have C2 : CalX P w K mg base 6 "made_parts" ["told", "is_outer"] (spX K (rL (rX K)) (Q_made_parts K (M_made_parts 2))) := ok_made_parts__o (j := 4) (r_made_parts := M_made_parts 1) T D (by decide) S_made_part_1
  have S_made_part_2 := ok_made_part (j := 6) (r_made_parts := M_made_parts 2) T D_made_part (by decide) G_is_signs G_is_small G_Link___init__ G_Plain___init__ G_Code___init__ G_Mark___init__ C2 G_Strong___init__
  have C3 : CalX P w K mg base 8 "made_parts" ["told", "is_outer"] (spX K (rL (rX K)) (Q_made_parts K (M_made_parts 3))) := ok_made_parts__o (j := 6) (r_made_parts := M_made_parts 2) T D (by decide) S_made_part_2
  exact C3
theorem okc_made_part (T : Top n K mg) (D : Df K mg "made_part" s_made_part) (G_is_signs : Cal P w K mg base 1 "is_signs" ["thing"] (spG (P_is_signs))) (G_is_small : Cal P w K mg base 2 "is_small" ["thing"] (spG (P_is_small))) (G_Link___init__ : CalM P w K mg base 1 "Link" "__init__" ["self", "words", "name"] (spI K (He.ga K "Link") (P_Link___init__))) (G_Plain___init__ : CalM P w K mg base 1 "Plain" "__init__" ["self", "signs"] (spI K (He.ga K "Plain") (P_Plain___init__))) (G_Code___init__ : CalM P w K mg base 1 "Code" "__init__" ["self", "signs"] (spI K (He.ga K "Code") (P_Code___init__))) (G_Mark___init__ : CalM P w K mg base 1 "Mark" "__init__" ["self", "name"] (spI K (He.ga K "Mark") (P_Mark___init__))) (G_made_parts : CalX P w K mg base 8 "made_parts" ["told", "is_outer"] (spX K (rL (rX K)) (P_made_parts K))) (G_Strong___init__ : CalM P w K mg base 1 "Strong" "__init__" ["self", "parts"] (spI K (He.ga K "Strong") (P_Strong___init__ K))) : CalX P w K mg base 9 "made_part" ["told", "is_outer"] (spX K (rX K) (P_made_part K m_made_parts)) := ok_made_part (j := 8) (r_made_parts := m_made_parts) T D (by decide) G_is_signs G_is_small G_Link___init__ G_Plain___init__ G_Code___init__ G_Mark___init__ G_made_parts G_Strong___init__
/-! need_parts -/
abbrev s_need_parts : Stmt := top 25
abbrev N_need_parts : List Str := ["told", "parts"]
theorem sc_need_parts : FnScope N_need_parts ["told"] (defScope s_need_parts) := ⟨rfl, rfl, rfl, by decide +kernel, rfl, by decide +kernel, by decide +kernel⟩
def m_need_parts (x_told : PyData) : Option (Except Str (List (XD))) := cnd (!(isListD x_told)) (some (.error "BadTree")) ((asL x_told).bind fun c13 => (m_made_parts (c13) (true)).bind fun r14 => exB r14 fun a15 => lt a15 fun x21 => (cnd (!x21.isEmpty) ((ixO x21 (0 : Int)).bind fun c25 => (isO is_Plain c25).bind fun c26 => (cnd c26 ((ixO x21 (0 : Int)).bind fun c27 => (fldX ctab "signs" c27).bind fun c28 => (asSX c28).bind fun c29 => some (startsS c29 [32])) (some false)).bind fun c30 => some c30) (some false)).bind fun c31 => cnd c31 (some (.error "BadTree")) ((cnd (!x21.isEmpty) ((ixO x21 ((x21.length : Int) - (1 : Int))).bind fun c35 => (isO is_Plain c35).bind fun c36 => (cnd c36 ((ixO x21 ((x21.length : Int) - (1 : Int))).bind fun c37 => (fldX ctab "signs" c37).bind fun c38 => (asSX c38).bind fun c39 => some (endsS c39 [32])) (some false)).bind fun c40 => some c40) (some false)).bind fun c41 => cnd c41 (some (.error "BadTree")) (some (.ok x21))))
def P_need_parts (K : PySem.W.Frag) (As : List Ar) (r : Except Str (List (XD))) : Prop := ∃ (x_told : PyData), As = [val rD x_told] ∧ m_need_parts x_told = some r
theorem ok_need_parts (T : Top n K mg) (D : Df K mg "need_parts" s_need_parts) (G_made_parts : CalX P w K mg base 8 "made_parts" ["told", "is_outer"] (spX K (rL (rX K)) (P_made_parts K))) : CalX P w K mg base 9 "need_parts" ["told"] (spX K (rL (rX K)) (P_need_parts K)) := by
  have SC := sc_need_parts
  refine calX_of (N := N_need_parts) D SC (fun _ _ _ _ _ _ us hl => match us, hl with | [_], _ => rfl) (fun vs H Q E h => ?_) (fun f cdv A outer s H vs Q E hr h => ?_)
  · obtain ⟨F0, As, r, ⟨x_told, rfl, h⟩, e0, ha, kO, kE⟩ := h
    exact alla_len ha
  · obtain ⟨F0, As, r, ⟨x_told, rfl, h⟩, e0, ha, kO, kE⟩ := h
    obtain ⟨v_told, rfl, f_told⟩ := alla1 ha
    refine ⟨_, (pss_cons (ps_if (pt_not (pt_val (pe_callB call_isi (by rfl) T.b_isinstance (by decide +kernel) (pa_cons (pv 0) (pa_cons (pe_bltn (v := V.ty "list") (by rfl) T.b_list (by decide +kernel) rfl) pa_nil))))) (pss_one (ps_raiseB rfl takesX rfl T.ex_BadTree rfl)) pss_nil) (pss_cons (ps_set (i := 1) SC.nd rfl (Or.inl rfl) (pe_calX G_made_parts takesX (hr.mono (by decide)) rfl (pa_cons (pv 0) (pa_cons pe_bl pa_nil)))) (pss_cons (ps_if (PW.pt (pw_and (pt_cmpR (op_neNil hr.units) (pv 1) (pe_lst pa_nil) (nomark _)) (pw_and (pt_val (pe_callB call_isi (by rfl) T.b_isinstance (by decide +kernel) (pa_cons (pe_ix ix_list (pv 1) pe_int (fun _ _ => rfl)) (pa_cons (pe_glob (v := V.ref (He.ga K "Plain")) rfl T.is_Plain.gl rfl) pa_nil)))) (pw_and1 (pt_val (pe_bm PySem.F.plainAttrs_str PySem.F.slot_str_startswith PySem.F.type_str_startswith mt_mStarts (pe_fld (pe_ix ix_list (pv 1) pe_int (fun _ _ => rfl)) rfl) (pa_cons pe_str pa_nil))))))) (pss_one (ps_raiseB rfl takesX rfl T.ex_BadTree rfl)) pss_nil) (pss_cons (ps_if (PW.pt (pw_and (pt_cmpR (op_neNil hr.units) (pv 1) (pe_lst pa_nil) (nomark _)) (pw_and (pt_val (pe_callB call_isi (by rfl) T.b_isinstance (by decide +kernel) (pa_cons (pe_ix ix_list (pv 1) (pe_op op_xSub (pe_callB call_cLen (by rfl) T.b_len PySem.boot_len (pa_cons (pv 1) pa_nil)) pe_int) (fun _ _ => rfl)) (pa_cons (pe_glob (v := V.ref (He.ga K "Plain")) rfl T.is_Plain.gl rfl) pa_nil)))) (pw_and1 (pt_val (pe_bm PySem.F.plainAttrs_str PySem.F.slot_str_endswith PySem.F.type_str_endswith mt_mEnds (pe_fld (pe_ix ix_list (pv 1) (pe_op op_xSub (pe_callB call_cLen (by rfl) T.b_len PySem.boot_len (pa_cons (pv 1) pa_nil)) pe_int) (fun _ _ => rfl)) rfl) (pa_cons pe_str pa_nil))))))) (pss_one (ps_raiseB rfl takesX rfl T.ex_BadTree rfl)) pss_nil) (pss_one (ps_ret (pv 1))))))), ?_⟩
    refine (show Sx ⟨F0, H, none⟩ _ _ [some v_told, none] F0 [] from ?_) H (At.start e0)
    have f_told : (rD).rp x_told v_told F0 := f_told
    refine sx_seq (sx_if (et_not (et_B (ev_cb (ea_cons (ev_v (R := rD) rfl f_told) (ea_cons ev_ty ea_nil)) (b_isi tD k_list)))) (fun z10 Fs11 s11 => ?_) (fun z10 Fs12 s12 => ?_))
    · have h := cnd_t h z10
      obtain rfl := Option.some.inj h
      exact sx_raise0 (K := K) (W := fun cls d _ G => E cls d G) (c := "BadTree") (fun H9 a9 => kE _ rfl H9 a9.b)
    · have h := cnd_f h z10
      refine sx_next ?_
      refine nx_of ?_
      obtain ⟨c13, hc13, h⟩ := bsome h
      obtain ⟨r14, hr14, h⟩ := bsome h
      refine sx_hole (K := K) (tS := fun t8 => tSeq (tAsg t8 (gName 1)) _) (fun _ _ _ _ => rfl) (evX_call (P := P_made_parts K) (ea_cons (ev_asL hc13 (ev_v (R := rD) rfl (Rep.mono rD s12 f_told))) (ea_cons ev_b ea_nil)) ⟨_, _, rfl, hr14⟩) (fun a15 ea16 t17 Fs19 s19 h18 => ?_) (fun c9 e9 Fs20 s20 => ?_)
      · have h := exB_ok h ea16
        obtain ⟨x21, hx21, h⟩ := lt_e h
        refine sx_seq (sx_asg (R := (rL (rX K))) (ev_is h18 hx21) fun v24 Fs22 s22 f23 => nx_of ?_)
        obtain ⟨c31, hc31, h⟩ := bsome h
        refine sx_seq (sx_if (et_and (b := c31) (et_b (ev_op (ev_spn (ev_v (R := (rL (rX K))) rfl f23)) (ev_nspn (ev_lst (R := (rX K)) (as := []) ea_nil (show (0 : Nat) ≤ limL by decide))) o_neNil)) (fun z => by
    have h' := cnd_t hc31 z
    obtain ⟨c25, hc25, h'⟩ := bsome h'
    obtain ⟨c26, hc26, h'⟩ := bsome h'
    obtain ⟨c30, hc30, h'⟩ := bsome h'
    exact et_is (et_and (b := c30) (et_B (ev_cb (ea_cons (ev_op (ev_spn (ev_v (R := (rL (rX K))) rfl f23)) ev_i (o_ixL hc25)) (ea_cons (ev_cls (K := K)) ea_nil)) (b_isiX T.is_Plain hc26))) (fun z => by
      have h'' := cnd_t hc30 z
      obtain ⟨c27, hc27, h''⟩ := bsome h''
      obtain ⟨c28, hc28, h''⟩ := bsome h''
      obtain ⟨c29, hc29, h''⟩ := bsome h''
      exact et_is (et_B (ev_m (ev_asSX hc29 (ev_fldX T.ct hc28 (ev_op (ev_spn (ev_v (R := (rL (rX K))) rfl f23)) ev_i (o_ixL hc27)))) (ea_cons (ev_s (l := [32]) (by decide +kernel) (by decide +kernel)) ea_nil) m_starts)) (Option.some.inj h'')) (fun z => (Option.some.inj (cnd_f hc30 z)).symm)) (Option.some.inj h')) (fun z => (Option.some.inj (cnd_f hc31 z)).symm)) (fun z32 Fs33 s33 => ?_) (fun z32 Fs34 s34 => ?_))
        · have h := cnd_t h z32
          obtain rfl := Option.some.inj h
          exact sx_raise0 (K := K) (W := fun cls d _ G => E cls d G) (c := "BadTree") (fun H9 a9 => kE _ rfl H9 a9.b)
        · have h := cnd_f h z32
          refine sx_next ?_
          refine nx_of ?_
          obtain ⟨c41, hc41, h⟩ := bsome h
          refine sx_seq (sx_if (et_and (b := c41) (et_b (ev_op (ev_spn (ev_v (R := (rL (rX K))) rfl (Rep.mono (rL (rX K)) s34 f23))) (ev_nspn (ev_lst (R := (rX K)) (as := []) ea_nil (show (0 : Nat) ≤ limL by decide))) o_neNil)) (fun z => by
    have h' := cnd_t hc41 z
    obtain ⟨c35, hc35, h'⟩ := bsome h'
    obtain ⟨c36, hc36, h'⟩ := bsome h'
    obtain ⟨c40, hc40, h'⟩ := bsome h'
    exact et_is (et_and (b := c40) (et_B (ev_cb (ea_cons (ev_op (ev_spn (ev_v (R := (rL (rX K))) rfl (Rep.mono (rL (rX K)) s34 f23))) (ev_op (ev_cb (ea_cons (ev_spn (ev_v (R := (rL (rX K))) rfl (Rep.mono (rL (rX K)) s34 f23))) ea_nil) b_lenL) ev_i o_sub) (o_ixL hc35)) (ea_cons (ev_cls (K := K)) ea_nil)) (b_isiX T.is_Plain hc36))) (fun z => by
      have h'' := cnd_t hc40 z
      obtain ⟨c37, hc37, h''⟩ := bsome h''
      obtain ⟨c38, hc38, h''⟩ := bsome h''
      obtain ⟨c39, hc39, h''⟩ := bsome h''
      exact et_is (et_B (ev_m (ev_asSX hc39 (ev_fldX T.ct hc38 (ev_op (ev_spn (ev_v (R := (rL (rX K))) rfl (Rep.mono (rL (rX K)) s34 f23))) (ev_op (ev_cb (ea_cons (ev_spn (ev_v (R := (rL (rX K))) rfl (Rep.mono (rL (rX K)) s34 f23))) ea_nil) b_lenL) ev_i o_sub) (o_ixL hc37)))) (ea_cons (ev_s (l := [32]) (by decide +kernel) (by decide +kernel)) ea_nil) m_ends)) (Option.some.inj h'')) (fun z => (Option.some.inj (cnd_f hc40 z)).symm)) (Option.some.inj h')) (fun z => (Option.some.inj (cnd_f hc41 z)).symm)) (fun z42 Fs43 s43 => ?_) (fun z42 Fs44 s44 => ?_))
          · have h := cnd_t h z42
            obtain rfl := Option.some.inj h
            exact sx_raise0 (K := K) (W := fun cls d _ G => E cls d G) (c := "BadTree") (fun H9 a9 => kE _ rfl H9 a9.b)
          · have h := cnd_f h z42
            refine sx_next ?_
            refine nx_of ?_
            obtain rfl := Option.some.inj h
            refine sx_ret (R := (rL (rX K))) (ev_v (R := (rL (rX K))) rfl (Rep.mono (rL (rX K)) (s34.trans s44) f23)) fun v45 Fs46 s46 f47 => ?_
            have k := kO _ rfl
            exact rt_val k (fun _ => f47)
      · have h := exB_er h e9
        obtain rfl := Option.some.inj h
        exact fun H9 a9 => kE _ rfl H9 a9.b
/-! _law_cell -/
abbrev s__law_cell : Stmt := top 27
abbrev N__law_cell : List Str := ["_law_script", "_law_k"]
theorem sc__law_cell : FnScope N__law_cell ["_law_script", "_law_k"] (defScope s__law_cell) := ⟨rfl, rfl, rfl, by decide +kernel, rfl, by decide +kernel, by decide +kernel⟩
def m__law_cell (x__law_script : List Int) (x__law_k : Int) : Option (Int) := cnd (decide (x__law_k < (x__law_script.length : Int))) ((ixO x__law_script x__law_k).bind fun c13 => some c13) (some (0 : Int))
def P__law_cell (K : PySem.W.Frag) (As : List Ar) (C : Ar) : Prop := ∃ (x__law_script : List Int) (x__law_k : Int) (r : Int), As = [val (rScr K) x__law_script, val rInt x__law_k] ∧ m__law_cell x__law_script x__law_k = some r ∧ C = val rInt r
theorem ok__law_cell (T : Top n K mg) (D : Df K mg "_law_cell" s__law_cell)  : Cal P w K mg base 1 "_law_cell" ["_law_script", "_law_k"] (spG (P__law_cell K)) := by
  have SC := sc__law_cell
  have h1n := T.one
  refine cal_of (N := N__law_cell) D SC (fun _ _ _ _ _ _ us hl => match us, hl with | [_, _], _ => rfl) (fun vs H Q E h => ?_) (fun f cdv A outer s H vs Q E hr h => ?_)
  · obtain ⟨F0, As, C, ⟨x__law_script, x__law_k, r, rfl, h, rfl⟩, e0, ha, k⟩ := h
    exact alla_len ha
  · obtain ⟨F0, As, C, ⟨x__law_script, x__law_k, r, rfl, h, rfl⟩, e0, ha, k⟩ := h
    obtain ⟨v__law_script, v__law_k, rfl, f__law_script, f__law_k⟩ := alla2 ha
    refine ⟨_, (pss_cons (ps_if (pt_cmpR op_xLt (pv 1) (pe_callB call_cLen (by rfl) T.b_len PySem.boot_len (pa_cons (pv 0) pa_nil)) (nomark _)) (pss_one (ps_ret (pe_ix ix_list (pv 0) (pv 1) (fun _ _ => rfl)))) pss_nil) (pss_one (ps_ret pe_int))), ?_⟩
    refine (show Sx ⟨F0, H, none⟩ _ _ [some v__law_script, some v__law_k] F0 [] from ?_) H (At.start e0)
    have f__law_script : ((rScr K)).rp x__law_script v__law_script F0 := f__law_script
    have f__law_k : (rInt).rp x__law_k v__law_k F0 := f__law_k
    refine sx_seq (sx_if (et_b (ev_op (ev_v (R := rInt) rfl f__law_k) (ev_cb (ea_cons (ev_v (R := (rScr K)) rfl f__law_script) ea_nil) b_lenK) o_lt)) (fun z10 Fs11 s11 => ?_) (fun z10 Fs12 s12 => ?_))
    · have h := cnd_t h z10
      obtain ⟨c13, hc13, h⟩ := bsome h
      obtain rfl := Option.some.inj h
      refine sx_ret (R := rInt) (ev_op (ev_v (R := (rScr K)) rfl (Rep.mono (rScr K) s11 f__law_script)) (ev_v (R := rInt) rfl (Rep.mono rInt s11 f__law_k)) (o_ixK hc13)) fun v14 Fs15 s15 f16 => ?_
      exact rt_val k (fun _ => f16)
    · have h := cnd_f h z10
      refine sx_next ?_
      refine nx_of ?_
      obtain rfl := Option.some.inj h
      refine sx_ret (R := rInt) ev_i fun v17 Fs18 s18 f19 => ?_
      exact rt_val k (fun _ => f19)
/-! _law_mixed -/
abbrev s__law_mixed : Stmt := top 28
abbrev N__law_mixed : List Str := ["_law_cell_here", "_law_k", "_law_number"]
theorem sc__law_mixed : FnScope N__law_mixed ["_law_cell_here", "_law_k"] (defScope s__law_mixed) := ⟨rfl, rfl, rfl, by decide +kernel, rfl, by decide +kernel, by decide +kernel⟩
def m__law_mixed (x__law_cell_here : Int) (x__law_k : Int) : Option (Int) := (mulO (7919 : Int) x__law_k).bind fun c10 => (mulO c10 x__law_k).bind fun c11 => (mulO (13 : Int) x__law_k).bind fun c12 => lt (((x__law_cell_here + c11) + c12) + (5 : Int)) fun x13 => (mulO x13 x13).bind fun c17 => (modO c17 (1000000007 : Int)).bind fun c18 => (mulO c18 (48271 : Int)).bind fun c19 => (modO c19 (998244353 : Int)).bind fun c20 => (divO c20 (11 : Int)).bind fun c21 => some c21
def P__law_mixed (As : List Ar) (C : Ar) : Prop := ∃ (x__law_cell_here : Int) (x__law_k : Int) (r : Int), As = [val rInt x__law_cell_here, val rInt x__law_k] ∧ m__law_mixed x__law_cell_here x__law_k = some r ∧ C = val rInt r
theorem ok__law_mixed (T : Top n K mg) (D : Df K mg "_law_mixed" s__law_mixed)  : Cal P w K mg base 1 "_law_mixed" ["_law_cell_here", "_law_k"] (spG (P__law_mixed)) := by
  have SC := sc__law_mixed
  have h1n := T.one
  refine cal_of (N := N__law_mixed) D SC (fun _ _ _ _ _ _ us hl => match us, hl with | [_, _], _ => rfl) (fun vs H Q E h => ?_) (fun f cdv A outer s H vs Q E hr h => ?_)
  · obtain ⟨F0, As, C, ⟨x__law_cell_here, x__law_k, r, rfl, h, rfl⟩, e0, ha, k⟩ := h
    exact alla_len ha
  · obtain ⟨F0, As, C, ⟨x__law_cell_here, x__law_k, r, rfl, h, rfl⟩, e0, ha, k⟩ := h
    obtain ⟨v__law_cell_here, v__law_k, rfl, f__law_cell_here, f__law_k⟩ := alla2 ha
    refine ⟨_, (pss_cons (ps_set (i := 2) SC.nd rfl (Or.inl rfl) (pe_op op_xAdd (pe_op op_xAdd (pe_op op_xAdd (pv 0) (pe_op op_xMul (pe_op op_xMul pe_int (pv 1)) (pv 1))) (pe_op op_xMul pe_int (pv 1))) pe_int)) (pss_one (ps_ret (pe_op op_xDiv (pe_op op_xMod (pe_op op_xMul (pe_op op_xMod (pe_op op_xMul (pv 2) (pv 2)) pe_int) pe_int) pe_int) pe_int)))), ?_⟩
    refine (show Sx ⟨F0, H, none⟩ _ _ [some v__law_cell_here, some v__law_k, none] F0 [] from ?_) H (At.start e0)
    have f__law_cell_here : (rInt).rp x__law_cell_here v__law_cell_here F0 := f__law_cell_here
    have f__law_k : (rInt).rp x__law_k v__law_k F0 := f__law_k
    obtain ⟨c10, hc10, h⟩ := bsome h
    obtain ⟨c11, hc11, h⟩ := bsome h
    obtain ⟨c12, hc12, h⟩ := bsome h
    obtain ⟨x13, hx13, h⟩ := lt_e h
    refine sx_seq (sx_asg (R := rInt) (ev_is (ev_op (ev_op (ev_op (ev_v (R := rInt) rfl f__law_cell_here) (ev_op (ev_op ev_i (ev_v (R := rInt) rfl f__law_k) (o_mulO hc10)) (ev_v (R := rInt) rfl f__law_k) (o_mulO hc11)) o_add) (ev_op ev_i (ev_v (R := rInt) rfl f__law_k) (o_mulO hc12)) o_add) ev_i o_add) hx13) fun v16 Fs14 s14 f15 => nx_of ?_)
    obtain ⟨c17, hc17, h⟩ := bsome h
    obtain ⟨c18, hc18, h⟩ := bsome h
    obtain ⟨c19, hc19, h⟩ := bsome h
    obtain ⟨c20, hc20, h⟩ := bsome h
    obtain ⟨c21, hc21, h⟩ := bsome h
    obtain rfl := Option.some.inj h
    refine sx_ret (R := rInt) (ev_op (ev_op (ev_op (ev_op (ev_op (ev_v (R := rInt) rfl f15) (ev_v (R := rInt) rfl f15) (o_mulO hc17)) ev_i (o_modO hc18)) ev_i (o_mulO hc19)) ev_i (o_modO hc20)) ev_i (o_divO hc21)) fun v22 Fs23 s23 f24 => ?_
    exact rt_val k (fun _ => f24)
/-! _law_menu -/
abbrev s__law_menu : Stmt := top 29
abbrev N__law_menu : List Str := ["_law_kind_here", "_law_letters", "_law_marks"]
theorem sc__law_menu : FnScope N__law_menu ["_law_kind_here"] (defScope s__law_menu) := ⟨rfl, rfl, rfl, by decide +kernel, rfl, by decide +kernel, by decide +kernel⟩
def m__law_menu (x__law_kind_here : Int) : Option (List Nat) := lt ([97, 98, 99, 100, 101, 102, 103, 104, 105, 106, 107, 108, 109, 110, 111, 112, 113, 114, 115, 116, 117, 118, 119, 120, 121, 122, 65, 66, 67, 68, 69, 70, 71, 72, 73, 74, 75, 76, 77, 78, 79, 80, 81, 82, 83, 84, 85, 86, 87, 88, 89, 90, 48, 49, 50, 51, 52, 53, 54, 55, 56, 57]) fun x10 => lt ([92, 42, 96, 91, 93, 124, 45, 43, 61, 62, 126, 58, 94, 40, 41]) fun x14 => (catS x14 [97, 98]).bind fun c18 => (catS x10 x14).bind fun c19 => (catS c19 [33, 34, 35, 36, 38, 39, 44, 46, 47, 59, 60, 63, 64, 95, 123, 125]).bind fun c20 => (modO x__law_kind_here (3 : Int)).bind fun c21 => (ixO ([x10, c18, c20] : List (List Nat)) c21).bind fun c22 => some c22
def P__law_menu (As : List Ar) (C : Ar) : Prop := ∃ (x__law_kind_here : Int) (r : List Nat), As = [val rInt x__law_kind_here] ∧ m__law_menu x__law_kind_here = some r ∧ C = val rS r
theorem ok__law_menu (T : Top n K mg) (D : Df K mg "_law_menu" s__law_menu)  : Cal P w K mg base 1 "_law_menu" ["_law_kind_here"] (spG (P__law_menu)) := by
  have SC := sc__law_menu
  have h1n := T.one
  refine cal_of (N := N__law_menu) D SC (fun _ _ _ _ _ _ us hl => match us, hl with | [_], _ => rfl) (fun vs H Q E h => ?_) (fun f cdv A outer s H vs Q E hr h => ?_)
  · obtain ⟨F0, As, C, ⟨x__law_kind_here, r, rfl, h, rfl⟩, e0, ha, k⟩ := h
    exact alla_len ha
  · obtain ⟨F0, As, C, ⟨x__law_kind_here, r, rfl, h, rfl⟩, e0, ha, k⟩ := h
    obtain ⟨v__law_kind_here, rfl, f__law_kind_here⟩ := alla1 ha
    refine ⟨_, (pss_cons (ps_set (i := 1) SC.nd rfl (Or.inl rfl) pe_str) (pss_cons (ps_set (i := 2) SC.nd rfl (Or.inl rfl) pe_str) (pss_one (ps_ret (pe_ix ix_list (pe_lst (pa_cons (pv 1) (pa_cons (pe_op op_xCatS (pv 2) pe_str) (pa_cons (pe_op op_xCatS (pe_op op_xCatS (pv 1) (pv 2)) pe_str) pa_nil)))) (pe_op op_xMod (pv 0) pe_int) (fun _ _ => rfl)))))), ?_⟩
    refine (show Sx ⟨F0, H, none⟩ _ _ [some v__law_kind_here, none, none] F0 [] from ?_) H (At.start e0)
    have f__law_kind_here : (rInt).rp x__law_kind_here v__law_kind_here F0 := f__law_kind_here
    obtain ⟨x10, hx10, h⟩ := lt_e h
    refine sx_seq (sx_asg (R := rS) (ev_is (ev_s (l := [97, 98, 99, 100, 101, 102, 103, 104, 105, 106, 107, 108, 109, 110, 111, 112, 113, 114, 115, 116, 117, 118, 119, 120, 121, 122, 65, 66, 67, 68, 69, 70, 71, 72, 73, 74, 75, 76, 77, 78, 79, 80, 81, 82, 83, 84, 85, 86, 87, 88, 89, 90, 48, 49, 50, 51, 52, 53, 54, 55, 56, 57]) (by decide +kernel) (by decide +kernel)) hx10) fun v13 Fs11 s11 f12 => nx_of ?_)
    obtain ⟨x14, hx14, h⟩ := lt_e h
    refine sx_seq (sx_asg (R := rS) (ev_is (ev_s (l := [92, 42, 96, 91, 93, 124, 45, 43, 61, 62, 126, 58, 94, 40, 41]) (by decide +kernel) (by decide +kernel)) hx14) fun v17 Fs15 s15 f16 => nx_of ?_)
    refine sx_so (σ2 := [some v__law_kind_here, some v13, some v17]) (O2 := []) rfl rfl ?_
    obtain ⟨c18, hc18, h⟩ := bsome h
    obtain ⟨c19, hc19, h⟩ := bsome h
    obtain ⟨c20, hc20, h⟩ := bsome h
    obtain ⟨c21, hc21, h⟩ := bsome h
    obtain ⟨c22, hc22, h⟩ := bsome h
    obtain rfl := Option.some.inj h
    refine sx_ret (R := rS) (ev_op (ev_nspn (ev_lst (R := rS) (as := [x10, c18, c20]) (ea_cons (ev_v (R := rS) rfl (Rep.mono rS s15 f12)) (ea_cons (ev_op (ev_v (R := rS) rfl f16) (ev_s (l := [97, 98]) (by decide +kernel) (by decide +kernel)) (o_catS hc18)) (ea_cons (ev_op (ev_op (ev_v (R := rS) rfl (Rep.mono rS s15 f12)) (ev_v (R := rS) rfl f16) (o_catS hc19)) (ev_s (l := [33, 34, 35, 36, 38, 39, 44, 46, 47, 59, 60, 63, 64, 95, 123, 125]) (by decide +kernel) (by decide +kernel)) (o_catS hc20)) ea_nil))) (show (3 : Nat) ≤ limL by decide))) (ev_op (ev_v (R := rInt) rfl (Rep.mono rInt (s11.trans s15) f__law_kind_here)) ev_i (o_modO hc21)) (o_ixL hc22)) fun v23 Fs24 s24 f25 => ?_
    exact rt_val k (fun _ => f25)
/-! _law_signs -/
abbrev s__law_signs : Stmt := top 30
abbrev N__law_signs : List Str := ["_law_number", "_law_size", "_law_menu_here", "_law_found", "_law_turn"]
theorem sc__law_signs : FnScope N__law_signs ["_law_number", "_law_size", "_law_menu_here"] (defScope s__law_signs) := ⟨rfl, rfl, rfl, by decide +kernel, rfl, by decide +kernel, by decide +kernel⟩
def m__law_signs (x__law_number : Int) (x__law_size : Int) (x__law_menu_here : List Nat) : Option (List Nat) := lt [] fun x10 => (rngO 0 x__law_size).bind fun c14 => fwd (loop (ρ := Unit) (fun (s33 : Int × (List Nat)) (a34 : Int) => (mulO s33.1 (48271 : Int)).bind fun c47 => (mulO (7 : Int) a34).bind fun c48 => (mulO c48 a34).bind fun c49 => (modO ((c47 + c49) + (11 : Int)) (2147483647 : Int)).bind fun c50 => lt c50 fun x51 => (divO x51 (13 : Int)).bind fun c55 => (modO c55 (x__law_menu_here.length : Int)).bind fun c56 => (ixO x__law_menu_here c56).bind fun c57 => (catS s33.2 [c57]).bind fun c58 => lt c58 fun x59 => some (Fw.nx (x51, x59))) c14 (x__law_number, x10)) (fun (s20 : Int × (List Nat)) => some s20.2) (fun (r : Unit) => none)
def P__law_signs (As : List Ar) (C : Ar) : Prop := ∃ (x__law_number : Int) (x__law_size : Int) (x__law_menu_here : List Nat) (r : List Nat), As = [val rInt x__law_number, val rInt x__law_size, val rS x__law_menu_here] ∧ m__law_signs x__law_number x__law_size x__law_menu_here = some r ∧ C = val rS r
theorem ok__law_signs (T : Top n K mg) (D : Df K mg "_law_signs" s__law_signs)  : Cal P w K mg base 1 "_law_signs" ["_law_number", "_law_size", "_law_menu_here"] (spG (P__law_signs)) := by
  have SC := sc__law_signs
  have h1n := T.one
  refine cal_of (N := N__law_signs) D SC (fun _ _ _ _ _ _ us hl => match us, hl with | [_, _, _], _ => rfl) (fun vs H Q E h => ?_) (fun f cdv A outer s H vs Q E hr h => ?_)
  · obtain ⟨F0, As, C, ⟨x__law_number, x__law_size, x__law_menu_here, r, rfl, h, rfl⟩, e0, ha, k⟩ := h
    exact alla_len ha
  · obtain ⟨F0, As, C, ⟨x__law_number, x__law_size, x__law_menu_here, r, rfl, h, rfl⟩, e0, ha, k⟩ := h
    obtain ⟨v__law_number, v__law_size, v__law_menu_here, rfl, f__law_number, f__law_size, f__law_menu_here⟩ := alla3 ha
    refine ⟨_, (pss_cons (ps_set (i := 3) SC.nd rfl (Or.inl rfl) pe_str) (pss_cons (ps_for PassesOwn.never rfl (pi_range1 (by rfl) T.b_range (pa_cons (pv 1) pa_nil)) (pg_name (i := 4) SC.nd rfl (Or.inl rfl)) (pss_cons (ps_set (i := 0) SC.nd rfl (Or.inl rfl) (pe_op op_xMod (pe_op op_xAdd (pe_op op_xAdd (pe_op op_xMul (pv 0) pe_int) (pe_op op_xMul (pe_op op_xMul pe_int (pv 4)) (pv 4))) pe_int) pe_int)) (pss_one (ps_set (i := 3) SC.nd rfl (Or.inl rfl) (pe_op op_xCatS (pv 3) (pe_ix ix_str (pv 2) (pe_op op_xMod (pe_op op_xDiv (pv 0) pe_int) (pe_callB call_cLen (by rfl) T.b_len PySem.boot_len (pa_cons (pv 2) pa_nil))) (fun _ _ => rfl))))))) (pss_one (ps_ret (pv 3))))), ?_⟩
    refine (show Sx ⟨F0, H, none⟩ _ _ [some v__law_number, some v__law_size, some v__law_menu_here, none, none] F0 [] from ?_) H (At.start e0)
    have f__law_number : (rInt).rp x__law_number v__law_number F0 := f__law_number
    have f__law_size : (rInt).rp x__law_size v__law_size F0 := f__law_size
    have f__law_menu_here : (rS).rp x__law_menu_here v__law_menu_here F0 := f__law_menu_here
    obtain ⟨x10, hx10, h⟩ := lt_e h
    refine sx_seq (sx_asg (R := rS) (ev_is (ev_s (l := []) (by decide +kernel) (by decide +kernel)) hx10) fun v13 Fs11 s11 f12 => nx_of ?_)
    obtain ⟨c14, hc14, h⟩ := bsome h
    obtain ⟨w15, hl16, hk17, hr18⟩ := fwd_o h
    refine sx_seq (sx_for (J := fun (s : Int × (List Nat)) σ F O => ∃ (v__law_number : V) (v__law_found : V) (w__law_turn : Option V), σ = [some v__law_number, some v__law_size, some v__law_menu_here, some v__law_found, w__law_turn] ∧ O = [] ∧ (rInt).rp s.1 v__law_number F ∧ (rS).rp s.2 v__law_found F ∧ True) (Ro := (fun (r : Unit) (v : V) (F : Hp) (O : Own) => False)) hl16 (ei_rng1O (ea_cons (ev_v (R := rInt) rfl (Rep.mono rInt s11 f__law_size)) ea_nil) hc14) tg_n (fun Fe19 e19 => ⟨v__law_number, v13, _, rfl, rfl, (Rep.mono rInt (s11.trans e19) f__law_number), (Rep.mono rS e19 f12), trivial⟩) ?_ ?_)
    · refine ⟨fun s20 es21 σ9 Fe22 O9 e22 ⟨v23, v24, w25, hs26, ho27, f28, f29, _⟩ => ?_, fun r9 er9 v9 F9 O9 e9 hr9 => ?_⟩
      · subst hs26 ho27
        have h := hk17 s20 es21
        refine nx_of ?_
        obtain rfl := Option.some.inj h
        refine sx_ret (R := rS) (ev_v (R := rS) rfl f29) fun v30 Fs31 s31 f32 => ?_
        exact rt_val k (fun _ => f32)
      · exact hr9.elim
    · rintro s33 a34 σ9 σ8 Fe35 Fe36 O9 o9 D9 ha9 e35 e36 ⟨v38, v39, w40, hs41, ho42, f43, f44, _⟩ ⟨v45, zs, f46⟩ h acc37
      subst hs41 ho42
      subst zs
      obtain ⟨c47, hc47, h⟩ := bsome h
      obtain ⟨c48, hc48, h⟩ := bsome h
      obtain ⟨c49, hc49, h⟩ := bsome h
      obtain ⟨c50, hc50, h⟩ := bsome h
      obtain ⟨x51, hx51, h⟩ := lt_e h
      refine sx_seq (sx_asg (R := rInt) (ev_is (ev_op (ev_op (ev_op (ev_op (ev_v (R := rInt) rfl (Rep.mono rInt e36 f43)) ev_i (o_mulO hc47)) (ev_op (ev_op ev_i (ev_v (R := rInt) rfl f46) (o_mulO hc48)) (ev_v (R := rInt) rfl f46) (o_mulO hc49)) o_add) ev_i o_add) ev_i (o_modO hc50)) hx51) fun v54 Fs52 s52 f53 => nx_of ?_)
      obtain ⟨c55, hc55, h⟩ := bsome h
      obtain ⟨c56, hc56, h⟩ := bsome h
      obtain ⟨c57, hc57, h⟩ := bsome h
      obtain ⟨c58, hc58, h⟩ := bsome h
      obtain ⟨x59, hx59, h⟩ := lt_e h
      refine sx_asg (R := rS) (ev_is (ev_op (ev_v (R := rS) rfl (Rep.mono rS (e36.trans s52) f44)) (ev_cs (ev_op (ev_v (R := rS) rfl (Rep.mono rS (((s11.trans e35).trans e36).trans s52) f__law_menu_here)) (ev_op (ev_op (ev_v (R := rInt) rfl f53) ev_i (o_divO hc55)) (ev_cb (ea_cons (ev_v (R := rS) rfl (Rep.mono rS (((s11.trans e35).trans e36).trans s52) f__law_menu_here)) ea_nil) b_lenS) (o_modO hc56)) (o_ixS hc57))) (o_catS hc58)) hx59) fun v62 Fs60 s60 f61 => ?_
      obtain rfl := Option.some.inj h
      exact (acc37.nx _ rfl _ _ _ (s52.trans s60) ⟨v54, v62, _, rfl, rfl, (Rep.mono rInt s60 f53), f61, trivial⟩).1
/-! _law_text -/
abbrev s__law_text : Stmt := top 31
abbrev N__law_text : List Str := ["_law_number", "_law_most", "_law_words", "_law_turn", "_law_own"]
theorem sc__law_text : FnScope N__law_text ["_law_number", "_law_most"] (defScope s__law_text) := ⟨rfl, rfl, rfl, by decide +kernel, rfl, by decide +kernel, by decide +kernel⟩
def m__law_text (x__law_number : Int) (x__law_most : Int) : Option (List Nat) := lt ([] : List (List Nat)) fun x10 => (modO x__law_number x__law_most).bind fun c15 => (rngO 0 ((1 : Int) + c15)).bind fun c16 => fwd (loop (ρ := Unit) (fun (s35 : (List (List Nat))) (a36 : Int) => (mulO (3 : Int) a36).bind fun c48 => (m__law_mixed (x__law_number) ((c48 + (1 : Int)))).bind fun r49 => lt r49 fun x50 => (divO x50 (7 : Int)).bind fun c54 => (modO c54 (6 : Int)).bind fun c55 => (divO x50 (50 : Int)).bind fun c56 => (m__law_menu (c56)).bind fun r57 => (m__law_signs (x50) (((1 : Int) + c55)) (r57)).bind fun r58 => (appO s35 r58).bind fun y59 => some (Fw.nx y59)) c16 x10) (fun (s22 : (List (List Nat))) => (joinO [32] s22).bind fun c31 => some c31) (fun (r : Unit) => none)
def P__law_text (As : List Ar) (C : Ar) : Prop := ∃ (x__law_number : Int) (x__law_most : Int) (r : List Nat), As = [val rInt x__law_number, val rInt x__law_most] ∧ m__law_text x__law_number x__law_most = some r ∧ C = val rS r
theorem ok__law_text (T : Top n K mg) (D : Df K mg "_law_text" s__law_text) (G__law_mixed : Cal P w K mg base 1 "_law_mixed" ["_law_cell_here", "_law_k"] (spG (P__law_mixed))) (G__law_signs : Cal P w K mg base 1 "_law_signs" ["_law_number", "_law_size", "_law_menu_here"] (spG (P__law_signs))) (G__law_menu : Cal P w K mg base 1 "_law_menu" ["_law_kind_here"] (spG (P__law_menu))) : Cal P w K mg base 2 "_law_text" ["_law_number", "_law_most"] (spG (P__law_text)) := by
  have SC := sc__law_text
  have h1n := T.one
  refine cal_of (N := N__law_text) D SC (fun _ _ _ _ _ _ us hl => match us, hl with | [_, _], _ => rfl) (fun vs H Q E h => ?_) (fun f cdv A outer s H vs Q E hr h => ?_)
  · obtain ⟨F0, As, C, ⟨x__law_number, x__law_most, r, rfl, h, rfl⟩, e0, ha, k⟩ := h
    exact alla_len ha
  · obtain ⟨F0, As, C, ⟨x__law_number, x__law_most, r, rfl, h, rfl⟩, e0, ha, k⟩ := h
    obtain ⟨v__law_number, v__law_most, rfl, f__law_number, f__law_most⟩ := alla2 ha
    refine ⟨_, (pss_cons (ps_set (i := 2) SC.nd rfl (Or.inl rfl) (pe_lst pa_nil)) (pss_cons (ps_for PassesOwn.never rfl (pi_range1 (by rfl) T.b_range (pa_cons (pe_op op_xAdd pe_int (pe_op op_xMod (pv 0) (pv 1))) pa_nil)) (pg_name (i := 3) SC.nd rfl (Or.inl rfl)) (pss_cons (ps_set (i := 4) SC.nd rfl (Or.inl rfl) (pe_cal G__law_mixed (hr.mono (by decide)) rfl (pa_cons (pv 0) (pa_cons (pe_op op_xAdd (pe_op op_xMul pe_int (pv 3)) pe_int) pa_nil)))) (pss_one (ps_expr (pe_bm PySem.F.plainAttrs_list PySem.F.slot_list_append PySem.F.type_list_append mt_append (pv 2) (pa_cons (pe_cal G__law_signs (hr.mono (by decide)) rfl (pa_cons (pv 4) (pa_cons (pe_op op_xAdd pe_int (pe_op op_xMod (pe_op op_xDiv (pv 4) pe_int) pe_int)) (pa_cons (pe_cal G__law_menu (hr.mono (by decide)) rfl (pa_cons (pe_op op_xDiv (pv 4) pe_int) pa_nil)) pa_nil)))) pa_nil)))))) (pss_one (ps_ret (pe_bm PySem.F.plainAttrs_str PySem.F.slot_str_join PySem.F.type_str_join mt_mJoin pe_str (pa_cons (pv 2) pa_nil)))))), ?_⟩
    refine (show Sx ⟨F0, H, none⟩ _ _ [some v__law_number, some v__law_most, none, none, none] F0 [] from ?_) H (At.start e0)
    have f__law_number : (rInt).rp x__law_number v__law_number F0 := f__law_number
    have f__law_most : (rInt).rp x__law_most v__law_most F0 := f__law_most
    obtain ⟨x10, hx10, h⟩ := lt_e h
    refine sx_seq (sx_asgN (ev_isN (ev_lst (R := rS) (as := []) ea_nil (show (0 : Nat) ≤ limL by decide)) hx10) fun p13 xs14 Fs11 s11 f12 => nx_of ?_)
    obtain ⟨c15, hc15, h⟩ := bsome h
    obtain ⟨c16, hc16, h⟩ := bsome h
    obtain ⟨w17, hl18, hk19, hr20⟩ := fwd_o h
    refine sx_seq (sx_for (J := fun (s : (List (List Nat))) σ F O => ∃ (x__law_words : List V) (w__law_turn : Option V) (w__law_own : Option V), σ = [some v__law_number, some v__law_most, some (.ref p13), w__law_turn, w__law_own] ∧ O = [(p13, .lst x__law_words)] ∧ AllB rS s x__law_words F ∧ True) (Ro := (fun (r : Unit) (v : V) (F : Hp) (O : Own) => False)) hl18 (ei_rng1O (ea_cons (ev_op ev_i (ev_op (ev_v (R := rInt) rfl (Rep.mono rInt s11 f__law_number)) (ev_v (R := rInt) rfl (Rep.mono rInt s11 f__law_most)) (o_modO hc15)) o_add) ea_nil) hc16) tg_n (fun Fe21 e21 => ⟨xs14, _, _, rfl, rfl, (AllB.mono e21 f12), trivial⟩) ?_ ?_)
    · refine ⟨fun s22 es23 σ9 Fe24 O9 e24 ⟨xs25, w26, w27, hs28, ho29, f30, _⟩ => ?_, fun r9 er9 v9 F9 O9 e9 hr9 => ?_⟩
      · subst hs28 ho29
        have h := hk19 s22 es23
        refine nx_of ?_
        obtain ⟨c31, hc31, h⟩ := bsome h
        obtain rfl := Option.some.inj h
        refine sx_ret (R := rS) (ev_m (ev_cs (ev_ch (c := 32) (by decide +kernel) (by decide))) (ea_cons (ev_o (R := rS) rfl (List.Mem.head _) f30) ea_nil) (m_join hc31)) fun v32 Fs33 s33 f34 => ?_
        exact rt_val k (fun _ => f34)
      · exact hr9.elim
    · rintro s35 a36 σ9 σ8 Fe37 Fe38 O9 o9 D9 ha9 e37 e38 ⟨xs40, w41, w42, hs43, ho44, f45, _⟩ ⟨v46, zs, f47⟩ h acc39
      subst hs43 ho44
      subst zs
      obtain ⟨c48, hc48, h⟩ := bsome h
      obtain ⟨r49, hr49, h⟩ := bsome h
      obtain ⟨x50, hx50, h⟩ := lt_e h
      refine sx_seq (sx_asg (R := rInt) (ev_is (ev_call (P := P__law_mixed) (ea_cons (ev_v (R := rInt) rfl (Rep.mono rInt ((s11.trans e37).trans e38) f__law_number)) (ea_cons (ev_op (ev_op ev_i (ev_v (R := rInt) rfl f47) (o_mulO hc48)) ev_i o_add) ea_nil)) ⟨_, _, _, rfl, hr49, rfl⟩) hx50) fun v53 Fs51 s51 f52 => nx_of ?_)
      obtain ⟨c54, hc54, h⟩ := bsome h
      obtain ⟨c55, hc55, h⟩ := bsome h
      obtain ⟨c56, hc56, h⟩ := bsome h
      obtain ⟨r57, hr57, h⟩ := bsome h
      obtain ⟨r58, hr58, h⟩ := bsome h
      obtain ⟨y59, hy59, h⟩ := bsome h
      obtain ⟨hz60, he61⟩ := iteo hy59
      refine sx_app (n := 0) rfl rfl (AllB.mono (e38.trans s51) f45) (ev_call (P := P__law_signs) (ea_cons (ev_v (R := rInt) rfl f52) (ea_cons (ev_op ev_i (ev_op (ev_op (ev_v (R := rInt) rfl f52) ev_i (o_divO hc54)) ev_i (o_modO hc55)) o_add) (ea_cons (ev_call (P := P__law_menu) (ea_cons (ev_op (ev_v (R := rInt) rfl f52) ev_i (o_divO hc56)) ea_nil) ⟨_, _, rfl, hr57, rfl⟩) ea_nil))) ⟨_, _, _, _, rfl, hr58, rfl⟩) hz60 fun v62 Fs63 s63 f64 => ?_
      obtain rfl := Option.some.inj h
      exact (acc39.nx _ rfl _ _ _ (s51.trans s63) ⟨(xs40 ++ [v62]), _, _, rfl, rfl, (he61 ▸ f64), trivial⟩).1
/-! _law_name -/
abbrev s__law_name : Stmt := top 32
abbrev N__law_name : List Str := ["_law_number", "_law_size", "_law_at"]
theorem sc__law_name : FnScope N__law_name ["_law_number"] (defScope s__law_name) := ⟨rfl, rfl, rfl, by decide +kernel, rfl, by decide +kernel, by decide +kernel⟩
def m__law_name (x__law_number : Int) : Option (List Nat) := (divO x__law_number (3 : Int)).bind fun c10 => (modO c10 (12 : Int)).bind fun c11 => lt ((1 : Int) + c11) fun x12 => (modO x__law_number (3 : Int)).bind fun c16 => cnd (decide (c16 = (0 : Int))) ((divO x__law_number (40 : Int)).bind fun c20 => (m__law_menu ((0 : Int))).bind fun r21 => (m__law_signs (c20) (x12) (r21)).bind fun r22 => some r22) ((divO x__law_number (40 : Int)).bind fun c26 => (modO c26 x12).bind fun c27 => lt c27 fun x28 => (repS [110] x28).bind fun c32 => (divO x__law_number (500 : Int)).bind fun c33 => (m__law_menu ((0 : Int))).bind fun r34 => (m__law_signs (c33) ((1 : Int)) (r34)).bind fun r35 => (catS c32 r35).bind fun c36 => (repS [110] ((x12 - (1 : Int)) - x28)).bind fun c37 => (catS c36 c37).bind fun c38 => some c38)
def P__law_name (As : List Ar) (C : Ar) : Prop := ∃ (x__law_number : Int) (r : List Nat), As = [val rInt x__law_number] ∧ m__law_name x__law_number = some r ∧ C = val rS r
theorem ok__law_name (T : Top n K mg) (D : Df K mg "_law_name" s__law_name) (G__law_signs : Cal P w K mg base 1 "_law_signs" ["_law_number", "_law_size", "_law_menu_here"] (spG (P__law_signs))) (G__law_menu : Cal P w K mg base 1 "_law_menu" ["_law_kind_here"] (spG (P__law_menu))) : Cal P w K mg base 2 "_law_name" ["_law_number"] (spG (P__law_name)) := by
  have SC := sc__law_name
  have h1n := T.one
  refine cal_of (N := N__law_name) D SC (fun _ _ _ _ _ _ us hl => match us, hl with | [_], _ => rfl) (fun vs H Q E h => ?_) (fun f cdv A outer s H vs Q E hr h => ?_)
  · obtain ⟨F0, As, C, ⟨x__law_number, r, rfl, h, rfl⟩, e0, ha, k⟩ := h
    exact alla_len ha
  · obtain ⟨F0, As, C, ⟨x__law_number, r, rfl, h, rfl⟩, e0, ha, k⟩ := h
    obtain ⟨v__law_number, rfl, f__law_number⟩ := alla1 ha
    refine ⟨_, (pss_cons (ps_set (i := 1) SC.nd rfl (Or.inl rfl) (pe_op op_xAdd pe_int (pe_op op_xMod (pe_op op_xDiv (pv 0) pe_int) pe_int))) (pss_cons (ps_if (pt_cmpR op_eq (pe_op op_xMod (pv 0) pe_int) pe_int (nomark _)) (pss_one (ps_ret (pe_cal G__law_signs (hr.mono (by decide)) rfl (pa_cons (pe_op op_xDiv (pv 0) pe_int) (pa_cons (pv 1) (pa_cons (pe_cal G__law_menu (hr.mono (by decide)) rfl (pa_cons pe_int pa_nil)) pa_nil)))))) pss_nil) (pss_cons (ps_set (i := 2) SC.nd rfl (Or.inl rfl) (pe_op op_xMod (pe_op op_xDiv (pv 0) pe_int) (pv 1))) (pss_one (ps_ret (pe_op op_xCatS (pe_op op_xCatS (pe_op op_xRepS pe_str (pv 2)) (pe_cal G__law_signs (hr.mono (by decide)) rfl (pa_cons (pe_op op_xDiv (pv 0) pe_int) (pa_cons pe_int (pa_cons (pe_cal G__law_menu (hr.mono (by decide)) rfl (pa_cons pe_int pa_nil)) pa_nil))))) (pe_op op_xRepS pe_str (pe_op op_xSub (pe_op op_xSub (pv 1) pe_int) (pv 2))))))))), ?_⟩
    refine (show Sx ⟨F0, H, none⟩ _ _ [some v__law_number, none, none] F0 [] from ?_) H (At.start e0)
    have f__law_number : (rInt).rp x__law_number v__law_number F0 := f__law_number
    obtain ⟨c10, hc10, h⟩ := bsome h
    obtain ⟨c11, hc11, h⟩ := bsome h
    obtain ⟨x12, hx12, h⟩ := lt_e h
    refine sx_seq (sx_asg (R := rInt) (ev_is (ev_op ev_i (ev_op (ev_op (ev_v (R := rInt) rfl f__law_number) ev_i (o_divO hc10)) ev_i (o_modO hc11)) o_add) hx12) fun v15 Fs13 s13 f14 => nx_of ?_)
    obtain ⟨c16, hc16, h⟩ := bsome h
    refine sx_seq (sx_if (et_b (ev_op (ev_op (ev_v (R := rInt) rfl (Rep.mono rInt s13 f__law_number)) ev_i (o_modO hc16)) ev_i o_eqI)) (fun z17 Fs18 s18 => ?_) (fun z17 Fs19 s19 => ?_))
    · have h := cnd_t h z17
      obtain ⟨c20, hc20, h⟩ := bsome h
      obtain ⟨r21, hr21, h⟩ := bsome h
      obtain ⟨r22, hr22, h⟩ := bsome h
      obtain rfl := Option.some.inj h
      refine sx_ret (R := rS) (ev_call (P := P__law_signs) (ea_cons (ev_op (ev_v (R := rInt) rfl (Rep.mono rInt (s13.trans s18) f__law_number)) ev_i (o_divO hc20)) (ea_cons (ev_v (R := rInt) rfl (Rep.mono rInt s18 f14)) (ea_cons (ev_call (P := P__law_menu) (ea_cons ev_i ea_nil) ⟨_, _, rfl, hr21, rfl⟩) ea_nil))) ⟨_, _, _, _, rfl, hr22, rfl⟩) fun v23 Fs24 s24 f25 => ?_
      exact rt_val k (fun _ => f25)
    · have h := cnd_f h z17
      refine sx_next ?_
      refine nx_of ?_
      obtain ⟨c26, hc26, h⟩ := bsome h
      obtain ⟨c27, hc27, h⟩ := bsome h
      obtain ⟨x28, hx28, h⟩ := lt_e h
      refine sx_seq (sx_asg (R := rInt) (ev_is (ev_op (ev_op (ev_v (R := rInt) rfl (Rep.mono rInt (s13.trans s19) f__law_number)) ev_i (o_divO hc26)) (ev_v (R := rInt) rfl (Rep.mono rInt s19 f14)) (o_modO hc27)) hx28) fun v31 Fs29 s29 f30 => nx_of ?_)
      refine sx_so (σ2 := [some v__law_number, some v15, some v31]) (O2 := []) rfl rfl ?_
      obtain ⟨c32, hc32, h⟩ := bsome h
      obtain ⟨c33, hc33, h⟩ := bsome h
      obtain ⟨r34, hr34, h⟩ := bsome h
      obtain ⟨r35, hr35, h⟩ := bsome h
      obtain ⟨c36, hc36, h⟩ := bsome h
      obtain ⟨c37, hc37, h⟩ := bsome h
      obtain ⟨c38, hc38, h⟩ := bsome h
      obtain rfl := Option.some.inj h
      refine sx_ret (R := rS) (ev_op (ev_op (ev_op (ev_cs (ev_ch (c := 110) (by decide +kernel) (by decide))) (ev_v (R := rInt) rfl f30) (o_repS hc32)) (ev_call (P := P__law_signs) (ea_cons (ev_op (ev_v (R := rInt) rfl (Rep.mono rInt ((s13.trans s19).trans s29) f__law_number)) ev_i (o_divO hc33)) (ea_cons ev_i (ea_cons (ev_call (P := P__law_menu) (ea_cons ev_i ea_nil) ⟨_, _, rfl, hr34, rfl⟩) ea_nil))) ⟨_, _, _, _, rfl, hr35, rfl⟩) (o_catS hc36)) (ev_op (ev_cs (ev_ch (c := 110) (by decide +kernel) (by decide))) (ev_op (ev_op (ev_v (R := rInt) rfl (Rep.mono rInt (s19.trans s29) f14)) ev_i o_sub) (ev_v (R := rInt) rfl f30) o_sub) (o_repS hc37)) (o_catS hc38)) fun v39 Fs40 s40 f41 => ?_
      exact rt_val k (fun _ => f41)
/-! _law_ends -/
abbrev s__law_ends : Stmt := top 33
abbrev N__law_ends : List Str := ["_law_signs_here", "_law_number"]
theorem sc__law_ends : FnScope N__law_ends ["_law_signs_here", "_law_number"] (defScope s__law_ends) := ⟨rfl, rfl, rfl, by decide +kernel, rfl, by decide +kernel, by decide +kernel⟩
def m__law_ends (x__law_signs_here : List Nat) (x__law_number : Int) : Option (List Nat) := (modO x__law_number (4 : Int)).bind fun c10 => (repS [32] (if (decide (c10 = (1 : Int))) = true then (1 : Int) else 0)).bind fun c11 => (catS c11 x__law_signs_here).bind fun c12 => (divO x__law_number (4 : Int)).bind fun c13 => (modO c13 (4 : Int)).bind fun c14 => (repS [32] (if (decide (c14 = (1 : Int))) = true then (1 : Int) else 0)).bind fun c15 => (catS c12 c15).bind fun c16 => some c16
def P__law_ends (As : List Ar) (C : Ar) : Prop := ∃ (x__law_signs_here : List Nat) (x__law_number : Int) (r : List Nat), As = [val rS x__law_signs_here, val rInt x__law_number] ∧ m__law_ends x__law_signs_here x__law_number = some r ∧ C = val rS r
theorem ok__law_ends (T : Top n K mg) (D : Df K mg "_law_ends" s__law_ends)  : Cal P w K mg base 1 "_law_ends" ["_law_signs_here", "_law_number"] (spG (P__law_ends)) := by
  have SC := sc__law_ends
  have h1n := T.one
  refine cal_of (N := N__law_ends) D SC (fun _ _ _ _ _ _ us hl => match us, hl with | [_, _], _ => rfl) (fun vs H Q E h => ?_) (fun f cdv A outer s H vs Q E hr h => ?_)
  · obtain ⟨F0, As, C, ⟨x__law_signs_here, x__law_number, r, rfl, h, rfl⟩, e0, ha, k⟩ := h
    exact alla_len ha
  · obtain ⟨F0, As, C, ⟨x__law_signs_here, x__law_number, r, rfl, h, rfl⟩, e0, ha, k⟩ := h
    obtain ⟨v__law_signs_here, v__law_number, rfl, f__law_signs_here, f__law_number⟩ := alla2 ha
    refine ⟨_, (pss_one (ps_ret (pe_op op_xCatS (pe_op op_xCatS (pe_op op_xRepS pe_str (pe_callTy call_cInt (by rfl) T.b_int (by decide +kernel) (pa_cons (pe_cmpR op_eq (pe_op op_xMod (pv 1) pe_int) pe_int (nomark _)) pa_nil))) (pv 0)) (pe_op op_xRepS pe_str (pe_callTy call_cInt (by rfl) T.b_int (by decide +kernel) (pa_cons (pe_cmpR op_eq (pe_op op_xMod (pe_op op_xDiv (pv 1) pe_int) pe_int) pe_int (nomark _)) pa_nil)))))), ?_⟩
    refine (show Sx ⟨F0, H, none⟩ _ _ [some v__law_signs_here, some v__law_number] F0 [] from ?_) H (At.start e0)
    have f__law_signs_here : (rS).rp x__law_signs_here v__law_signs_here F0 := f__law_signs_here
    have f__law_number : (rInt).rp x__law_number v__law_number F0 := f__law_number
    obtain ⟨c10, hc10, h⟩ := bsome h
    obtain ⟨c11, hc11, h⟩ := bsome h
    obtain ⟨c12, hc12, h⟩ := bsome h
    obtain ⟨c13, hc13, h⟩ := bsome h
    obtain ⟨c14, hc14, h⟩ := bsome h
    obtain ⟨c15, hc15, h⟩ := bsome h
    obtain ⟨c16, hc16, h⟩ := bsome h
    obtain rfl := Option.some.inj h
    refine sx_ret (R := rS) (ev_op (ev_op (ev_op (ev_cs (ev_ch (c := 32) (by decide +kernel) (by decide))) (ev_cb (ea_cons (ev_op (ev_op (ev_v (R := rInt) rfl f__law_number) ev_i (o_modO hc10)) ev_i o_eqI) ea_nil) b_intB) (o_repS hc11)) (ev_v (R := rS) rfl f__law_signs_here) (o_catS hc12)) (ev_op (ev_cs (ev_ch (c := 32) (by decide +kernel) (by decide))) (ev_cb (ea_cons (ev_op (ev_op (ev_op (ev_v (R := rInt) rfl f__law_number) ev_i (o_divO hc13)) ev_i (o_modO hc14)) ev_i o_eqI) ea_nil) b_intB) (o_repS hc15)) (o_catS hc16)) fun v17 Fs18 s18 f19 => ?_
    exact rt_val k (fun _ => f19)
def Q__law_parts (m : Int → Int → Bool → Option (List (PyData))) (As : List Ar) (r : List (PyData)) : Prop := ∃ (x__law_number : Int) (x__law_size : Int) (x__law_is_inner : Bool), As = [val rInt x__law_number, val rInt x__law_size, val rB x__law_is_inner] ∧ m x__law_number x__law_size x__law_is_inner = some r
abbrev J__law_parts : Nat := 2
/-! _law_part -/
abbrev s__law_part : Stmt := top 34
abbrev N__law_part : List Str := ["_law_number", "_law_before", "_law_is_inner", "_law_kind_here", "_law_more", "_law_signs_here"]
theorem sc__law_part : FnScope N__law_part ["_law_number", "_law_before", "_law_is_inner"] (defScope s__law_part) := ⟨rfl, rfl, rfl, by decide +kernel, rfl, by decide +kernel, by decide +kernel⟩
def m__law_part (r__law_parts : Int → Int → Bool → Option (List (PyData))) (x__law_number : Int) (x__law_before : List Nat) (x__law_is_inner : Bool) : Option (PyData) := (modO x__law_number (6 : Int)).bind fun c10 => (ixO ([[112, 108, 97, 105, 110], [112, 108, 97, 105, 110], [99, 111, 100, 101], [108, 105, 110, 107], [110, 111, 116, 101], [115, 116, 114, 111, 110, 103]] : List (List Nat)) c10).bind fun c11 => lt c11 fun x12 => (divO x__law_number (6 : Int)).bind fun c16 => lt c16 fun x17 => (cnd ((x__law_is_inner && (decide (x12 = [115, 116, 114, 111, 110, 103]))) || ((decide (x__law_before = [112, 108, 97, 105, 110])) && (decide (x12 = [112, 108, 97, 105, 110])))) ((modO x17 (3 : Int)).bind fun c88 => (ixO ([[99, 111, 100, 101], [108, 105, 110, 107], [110, 111, 116, 101]] : List (List Nat)) c88).bind fun c89 => lt c89 fun x90 => some x90) (some x12)).bind fun (j21 : (List Nat)) => cnd (decide (j21 = [110, 111, 116, 101])) ((divO x17 (3 : Int)).bind fun c33 => (m__law_name (c33)).bind fun r34 => some (PyData.tuple [(encS j21), (encS (lowerS r34))])) (cnd (decide (j21 = [115, 116, 114, 111, 110, 103])) ((m__law_mixed (x17) ((70 : Int))).bind fun r41 => (modO x17 (3 : Int)).bind fun c42 => (r__law_parts (r41) (((1 : Int) + c42)) (true)).bind fun r43 => some (PyData.tuple [(encS j21), (PyData.list r43)])) ((m__law_mixed (x17) ((71 : Int))).bind fun r47 => (m__law_text (r47) ((3 : Int))).bind fun r48 => (divO x17 (3 : Int)).bind fun c49 => (m__law_ends (r48) (c49)).bind fun r50 => lt r50 fun x51 => cnd (decide (j21 = [108, 105, 110, 107])) ((modO x17 (5 : Int)).bind fun c58 => (repS [94] (if (decide (c58 = (0 : Int))) = true then (1 : Int) else 0)).bind fun c59 => (catS c59 x51).bind fun c60 => (divO x17 (7 : Int)).bind fun c61 => (m__law_name (c61)).bind fun r62 => some (PyData.tuple [(encS j21), (encS c60), (encS (lowerS r62))])) (cnd (decide (j21 = [99, 111, 100, 101])) ((rplO [96] [39] x51).bind fun c69 => some (PyData.tuple [(encS j21), (encS c69)])) ((cnd (decide (x__law_before = [110, 111, 116, 101])) ((modO x17 (2 : Int)).bind fun c73 => some (decide (c73 = (0 : Int)))) (some false)).bind fun c74 => cnd c74 ((catS [58] x51).bind fun c78 => some (PyData.tuple [(encS j21), (encS c78)])) (some (PyData.tuple [(encS j21), (encS x51)]))))))
def P__law_part (r__law_parts : Int → Int → Bool → Option (List (PyData))) (As : List Ar) (r : PyData) : Prop := ∃ (x__law_number : Int) (x__law_before : List Nat) (x__law_is_inner : Bool), As = [val rInt x__law_number, val rS x__law_before, val rB x__law_is_inner] ∧ m__law_part r__law_parts x__law_number x__law_before x__law_is_inner = some r
theorem ok__law_part (T : Top n K mg) (D : Df K mg "_law_part" s__law_part) {r__law_parts : Int → Int → Bool → Option (List (PyData))} {j : Nat} (hj : J__law_parts ≤ j) (G__law_name : Cal P w K mg base 2 "_law_name" ["_law_number"] (spG (P__law_name))) (G__law_parts : CalN n P w K mg base j "_law_parts" ["_law_number", "_law_size", "_law_is_inner"] (spFN (Q__law_parts r__law_parts))) (G__law_mixed : Cal P w K mg base 1 "_law_mixed" ["_law_cell_here", "_law_k"] (spG (P__law_mixed))) (G__law_ends : Cal P w K mg base 1 "_law_ends" ["_law_signs_here", "_law_number"] (spG (P__law_ends))) (G__law_text : Cal P w K mg base 2 "_law_text" ["_law_number", "_law_most"] (spG (P__law_text))) : CalN n P w K mg base (j + 1) "_law_part" ["_law_number", "_law_before", "_law_is_inner"] (spF (P__law_part r__law_parts)) := by
  have SC := sc__law_part
  have hj := show 2 ≤ j from hj
  have h1n := T.one
  refine calN_of (N := N__law_part) D SC (fun _ _ _ _ _ _ us hl => match us, hl with | [_, _, _], _ => rfl) (fun vs H Q E h => ?_) (fun f cdv A outer s H vs Q E hr h => ?_)
  · obtain ⟨F0, As, r, ⟨x__law_number, x__law_before, x__law_is_inner, rfl, h⟩, e0, ha, k⟩ := h
    exact alla_len ha
  · obtain ⟨F0, As, r, ⟨x__law_number, x__law_before, x__law_is_inner, rfl, h⟩, e0, ha, k⟩ := h
    obtain ⟨v__law_number, v__law_before, v__law_is_inner, rfl, f__law_number, f__law_before, f__law_is_inner⟩ := alla3 ha
    refine ⟨_, (psn_cons (tkS (ps_set (i := 3) SC.nd rfl (Or.inl rfl) (pe_ix ix_list (pe_lst (pa_cons pe_str (pa_cons pe_str (pa_cons pe_str (pa_cons pe_str (pa_cons pe_str (pa_cons pe_str pa_nil))))))) (pe_op op_xMod (pv 0) pe_int) (fun _ _ => rfl)))) (psn_cons (tkS (ps_set (i := 4) SC.nd rfl (Or.inl rfl) (pe_op op_xDiv (pv 0) pe_int))) (psn_cons (tkS (ps_if (PW.pt (pw_or (PW.pt (pw_and (pt_val (pv 2)) (pw_and1 (pt_cmpR op_eq (pv 3) pe_str (nomark _))))) (pw_or1 (PW.pt (pw_and (pt_cmpR op_eq (pv 1) pe_str (nomark _)) (pw_and1 (pt_cmpR op_eq (pv 3) pe_str (nomark _)))))))) (pss_one (ps_set (i := 3) SC.nd rfl (Or.inl rfl) (pe_ix ix_list (pe_lst (pa_cons pe_str (pa_cons pe_str (pa_cons pe_str pa_nil)))) (pe_op op_xMod (pv 4) pe_int) (fun _ _ => rfl)))) pss_nil)) (psn_cons (tkS (ps_if (pt_cmpR op_eq (pv 3) pe_str (nomark _)) (pss_one (ps_ret (pe_tup (pa_cons (pv 3) (pa_cons (pe_bm0 PySem.F.plainAttrs_str PySem.F.slot_str_lower PySem.F.type_str_lower mt_mLower (pe_cal G__law_name (hr.mono (by omega)) rfl (pa_cons (pe_op op_xDiv (pv 4) pe_int) pa_nil))) pa_nil))))) pss_nil)) (psn_cons (psn_if (tkT (pt_cmpR op_eq (pv 3) pe_str (nomark _))) (psn_one (psn_ret (pen_tup (pan_cons (tkE (pv 3)) (pan_cons (pen_cal G__law_parts (hr.mono (by omega)) rfl (tkA (pa_cons (pe_cal G__law_mixed (hr.mono (by omega)) rfl (pa_cons (pv 4) (pa_cons pe_int pa_nil))) (pa_cons (pe_op op_xAdd pe_int (pe_op op_xMod (pv 4) pe_int)) (pa_cons pe_bl pa_nil))))) (tkA pa_nil)))))) (tkSs pss_nil)) (psn_cons (tkS (ps_set (i := 5) SC.nd rfl (Or.inl rfl) (pe_cal G__law_ends (hr.mono (by omega)) rfl (pa_cons (pe_cal G__law_text (hr.mono (by omega)) rfl (pa_cons (pe_cal G__law_mixed (hr.mono (by omega)) rfl (pa_cons (pv 4) (pa_cons pe_int pa_nil))) (pa_cons pe_int pa_nil))) (pa_cons (pe_op op_xDiv (pv 4) pe_int) pa_nil))))) (psn_cons (tkS (ps_if (pt_cmpR op_eq (pv 3) pe_str (nomark _)) (pss_one (ps_ret (pe_tup (pa_cons (pv 3) (pa_cons (pe_op op_xCatS (pe_op op_xRepS pe_str (pe_callTy call_cInt (by rfl) T.b_int (by decide +kernel) (pa_cons (pe_cmpR op_eq (pe_op op_xMod (pv 4) pe_int) pe_int (nomark _)) pa_nil))) (pv 5)) (pa_cons (pe_bm0 PySem.F.plainAttrs_str PySem.F.slot_str_lower PySem.F.type_str_lower mt_mLower (pe_cal G__law_name (hr.mono (by omega)) rfl (pa_cons (pe_op op_xDiv (pv 4) pe_int) pa_nil))) pa_nil)))))) pss_nil)) (psn_cons (psn_if (tkT (pt_cmpR op_eq (pv 3) pe_str (nomark _))) (psn_one (psn_ret (pen_tup (pan_cons (tkE (pv 3)) (pan_cons (pen_repC h1n (tkE (pv 5))) (tkA pa_nil)))))) (tkSs pss_nil)) (tkSs (pss_cons (ps_if (PW.pt (pw_and (pt_cmpR op_eq (pv 1) pe_str (nomark _)) (pw_and1 (pt_cmpR op_eq (pe_op op_xMod (pv 4) pe_int) pe_int (nomark _))))) (pss_one (ps_ret (pe_tup (pa_cons (pv 3) (pa_cons (pe_op op_xCatS pe_str (pv 5)) pa_nil))))) pss_nil) (pss_one (ps_ret (pe_tup (pa_cons (pv 3) (pa_cons (pv 5) pa_nil))))))))))))))), ?_⟩
    refine (show Sx ⟨F0, H, none⟩ _ _ [some v__law_number, some v__law_before, some v__law_is_inner, none, none, none] F0 [] from ?_) H (At.start e0)
    have f__law_number : (rInt).rp x__law_number v__law_number F0 := f__law_number
    have f__law_before : (rS).rp x__law_before v__law_before F0 := f__law_before
    have f__law_is_inner : (rB).rp x__law_is_inner v__law_is_inner F0 := f__law_is_inner
    obtain ⟨c10, hc10, h⟩ := bsome h
    obtain ⟨c11, hc11, h⟩ := bsome h
    obtain ⟨x12, hx12, h⟩ := lt_e h
    refine sx_seq (sx_asg (R := rS) (ev_is (ev_op (ev_nspn (ev_lst (R := rS) (as := [[112, 108, 97, 105, 110], [112, 108, 97, 105, 110], [99, 111, 100, 101], [108, 105, 110, 107], [110, 111, 116, 101], [115, 116, 114, 111, 110, 103]]) (ea_cons (ev_s (l := [112, 108, 97, 105, 110]) (by decide +kernel) (by decide +kernel)) (ea_cons (ev_s (l := [112, 108, 97, 105, 110]) (by decide +kernel) (by decide +kernel)) (ea_cons (ev_s (l := [99, 111, 100, 101]) (by decide +kernel) (by decide +kernel)) (ea_cons (ev_s (l := [108, 105, 110, 107]) (by decide +kernel) (by decide +kernel)) (ea_cons (ev_s (l := [110, 111, 116, 101]) (by decide +kernel) (by decide +kernel)) (ea_cons (ev_s (l := [115, 116, 114, 111, 110, 103]) (by decide +kernel) (by decide +kernel)) ea_nil)))))) (show (6 : Nat) ≤ limL by decide))) (ev_op (ev_v (R := rInt) rfl f__law_number) ev_i (o_modO hc10)) (o_ixL hc11)) hx12) fun v15 Fs13 s13 f14 => nx_of ?_)
    obtain ⟨c16, hc16, h⟩ := bsome h
    obtain ⟨x17, hx17, h⟩ := lt_e h
    refine sx_seq (sx_asg (R := rInt) (ev_is (ev_op (ev_v (R := rInt) rfl (Rep.mono rInt s13 f__law_number)) ev_i (o_divO hc16)) hx17) fun v20 Fs18 s18 f19 => nx_of ?_)
    refine sx_so (σ2 := [some v__law_number, some v__law_before, some v__law_is_inner, some v15, some v20, none]) (O2 := []) rfl rfl ?_
    obtain ⟨j21, hj23, h⟩ := bsome h
    refine sx_join (fun (s : (List Nat)) σ F O => ∃ (v__law_kind_here : V) (w__law_signs_here : Option V), σ = [some v__law_number, some v__law_before, some v__law_is_inner, some v__law_kind_here, some v20, w__law_signs_here] ∧ O = [] ∧ (rS).rp s v__law_kind_here F ∧ True) j21 (fun σ9 Fs24 O9 s24 ⟨v25, w26, hs27, ho28, f29, _⟩ => ?_) (fun hJ22 => ?_)
    · subst hs27 ho28
      refine sx_seq (sx_if (et_b (ev_op (ev_v (R := rS) rfl f29) (ev_s (l := [110, 111, 116, 101]) (by decide +kernel) (by decide +kernel)) o_eqS)) (fun z30 Fs31 s31 => ?_) (fun z30 Fs32 s32 => ?_))
      · have h := cnd_t h z30
        obtain ⟨c33, hc33, h⟩ := bsome h
        obtain ⟨r34, hr34, h⟩ := bsome h
        obtain rfl := Option.some.inj h
        refine sx_ret (R := (rDf F0)) (evF_tup (B := F0) (ds := [(encS j21), (encS (lowerS r34))]) (ea_cons (evF_s (B := F0) (d := (encS j21)) (by rfl) (ev_d (a := j21) eS (ev_v (R := rS) rfl (Rep.mono rS s31 f29)))) (ea_cons (evF_s (B := F0) (d := (encS (lowerS r34))) (by rfl) (ev_d (a := (lowerS r34)) eS (ev_m0 (ev_call (P := P__law_name) (ea_cons (ev_op (ev_v (R := rInt) rfl (Rep.mono rInt (s24.trans s31) f19)) ev_i (o_divO hc33)) ea_nil) ⟨_, _, rfl, hr34, rfl⟩) m_lower))) ea_nil)) (show (2 : Nat) ≤ limL by decide)) fun v35 Fs36 s36 f37 => ?_
        exact rt_val k (fun _ => f37)
      · have h := cnd_f h z30
        refine sx_next ?_
        refine nx_of ?_
        refine sx_seq (sx_if (et_b (ev_op (ev_v (R := rS) rfl (Rep.mono rS s32 f29)) (ev_s (l := [115, 116, 114, 111, 110, 103]) (by decide +kernel) (by decide +kernel)) o_eqS)) (fun z38 Fs39 s39 => ?_) (fun z38 Fs40 s40 => ?_))
        · have h := cnd_t h z38
          obtain ⟨r41, hr41, h⟩ := bsome h
          obtain ⟨c42, hc42, h⟩ := bsome h
          obtain ⟨r43, hr43, h⟩ := bsome h
          obtain rfl := Option.some.inj h
          refine sx_ret (R := (rDf F0)) (evF_tup (B := F0) (ds := [(encS j21), (PyData.list r43)]) (ea_cons (evF_s (B := F0) (d := (encS j21)) (by rfl) (ev_d (a := j21) eS (ev_v (R := rS) rfl (Rep.mono rS (s32.trans s39) f29)))) (ea_cons (evF_newF (B := F0) ((((s13.trans s18).trans s24).trans s32).trans s39) (ev_callFN (P := Q__law_parts r__law_parts) ((((s13.trans s18).trans s24).trans s32).trans s39) (ea_cons (ev_call (P := P__law_mixed) (ea_cons (ev_v (R := rInt) rfl (Rep.mono rInt ((s24.trans s32).trans s39) f19)) (ea_cons ev_i ea_nil)) ⟨_, _, _, rfl, hr41, rfl⟩) (ea_cons (ev_op ev_i (ev_op (ev_v (R := rInt) rfl (Rep.mono rInt ((s24.trans s32).trans s39) f19)) ev_i (o_modO hc42)) o_add) (ea_cons ev_b ea_nil))) ⟨_, _, _, rfl, hr43⟩)) ea_nil)) (show (2 : Nat) ≤ limL by decide)) fun v44 Fs45 s45 f46 => ?_
          exact rt_val k (fun _ => f46)
        · have h := cnd_f h z38
          refine sx_next ?_
          refine nx_of ?_
          obtain ⟨r47, hr47, h⟩ := bsome h
          obtain ⟨r48, hr48, h⟩ := bsome h
          obtain ⟨c49, hc49, h⟩ := bsome h
          obtain ⟨r50, hr50, h⟩ := bsome h
          obtain ⟨x51, hx51, h⟩ := lt_e h
          refine sx_seq (sx_asg (R := rS) (ev_is (ev_call (P := P__law_ends) (ea_cons (ev_call (P := P__law_text) (ea_cons (ev_call (P := P__law_mixed) (ea_cons (ev_v (R := rInt) rfl (Rep.mono rInt ((s24.trans s32).trans s40) f19)) (ea_cons ev_i ea_nil)) ⟨_, _, _, rfl, hr47, rfl⟩) (ea_cons ev_i ea_nil)) ⟨_, _, _, rfl, hr48, rfl⟩) (ea_cons (ev_op (ev_v (R := rInt) rfl (Rep.mono rInt ((s24.trans s32).trans s40) f19)) ev_i (o_divO hc49)) ea_nil)) ⟨_, _, _, rfl, hr50, rfl⟩) hx51) fun v54 Fs52 s52 f53 => nx_of ?_)
          refine sx_seq (sx_if (et_b (ev_op (ev_v (R := rS) rfl (Rep.mono rS ((s32.trans s40).trans s52) f29)) (ev_s (l := [108, 105, 110, 107]) (by decide +kernel) (by decide +kernel)) o_eqS)) (fun z55 Fs56 s56 => ?_) (fun z55 Fs57 s57 => ?_))
          · have h := cnd_t h z55
            obtain ⟨c58, hc58, h⟩ := bsome h
            obtain ⟨c59, hc59, h⟩ := bsome h
            obtain ⟨c60, hc60, h⟩ := bsome h
            obtain ⟨c61, hc61, h⟩ := bsome h
            obtain ⟨r62, hr62, h⟩ := bsome h
            obtain rfl := Option.some.inj h
            refine sx_ret (R := (rDf F0)) (evF_tup (B := F0) (ds := [(encS j21), (encS c60), (encS (lowerS r62))]) (ea_cons (evF_s (B := F0) (d := (encS j21)) (by rfl) (ev_d (a := j21) eS (ev_v (R := rS) rfl (Rep.mono rS (((s32.trans s40).trans s52).trans s56) f29)))) (ea_cons (evF_s (B := F0) (d := (encS c60)) (by rfl) (ev_d (a := c60) eS (ev_op (ev_op (ev_cs (ev_ch (c := 94) (by decide +kernel) (by decide))) (ev_cb (ea_cons (ev_op (ev_op (ev_v (R := rInt) rfl (Rep.mono rInt ((((s24.trans s32).trans s40).trans s52).trans s56) f19)) ev_i (o_modO hc58)) ev_i o_eqI) ea_nil) b_intB) (o_repS hc59)) (ev_v (R := rS) rfl (Rep.mono rS s56 f53)) (o_catS hc60)))) (ea_cons (evF_s (B := F0) (d := (encS (lowerS r62))) (by rfl) (ev_d (a := (lowerS r62)) eS (ev_m0 (ev_call (P := P__law_name) (ea_cons (ev_op (ev_v (R := rInt) rfl (Rep.mono rInt ((((s24.trans s32).trans s40).trans s52).trans s56) f19)) ev_i (o_divO hc61)) ea_nil) ⟨_, _, rfl, hr62, rfl⟩) m_lower))) ea_nil))) (show (3 : Nat) ≤ limL by decide)) fun v63 Fs64 s64 f65 => ?_
            exact rt_val k (fun _ => f65)
          · have h := cnd_f h z55
            refine sx_next ?_
            refine nx_of ?_
            refine sx_seq (sx_if (et_b (ev_op (ev_v (R := rS) rfl (Rep.mono rS (((s32.trans s40).trans s52).trans s57) f29)) (ev_s (l := [99, 111, 100, 101]) (by decide +kernel) (by decide +kernel)) o_eqS)) (fun z66 Fs67 s67 => ?_) (fun z66 Fs68 s68 => ?_))
            · have h := cnd_t h z66
              obtain ⟨c69, hc69, h⟩ := bsome h
              obtain rfl := Option.some.inj h
              refine sx_ret (R := (rDf F0)) (evF_tup (B := F0) (ds := [(encS j21), (encS c69)]) (ea_cons (evF_s (B := F0) (d := (encS j21)) (by rfl) (ev_d (a := j21) eS (ev_v (R := rS) rfl (Rep.mono rS ((((s32.trans s40).trans s52).trans s57).trans s67) f29)))) (ea_cons (evF_s (B := F0) (d := (encS c69)) (by rfl) (ev_d (a := c69) eS (ev_rep (y := [96]) (z := [39]) (y' := "`") (z' := "'") (by decide +kernel) (by decide +kernel) (by decide) (by decide +kernel) hc69 (ev_v (R := rS) rfl (Rep.mono rS (s57.trans s67) f53))))) ea_nil)) (show (2 : Nat) ≤ limL by decide)) fun v70 Fs71 s71 f72 => ?_
              exact rt_val k (fun _ => f72)
            · have h := cnd_f h z66
              refine sx_next ?_
              refine nx_of ?_
              obtain ⟨c74, hc74, h⟩ := bsome h
              refine sx_seq (sx_if (et_and (b := c74) (et_b (ev_op (ev_v (R := rS) rfl (Rep.mono rS (((((((s13.trans s18).trans s24).trans s32).trans s40).trans s52).trans s57).trans s68) f__law_before)) (ev_s (l := [110, 111, 116, 101]) (by decide +kernel) (by decide +kernel)) o_eqS)) (fun z => by
    have h' := cnd_t hc74 z
    obtain ⟨c73, hc73, h'⟩ := bsome h'
    exact et_is (et_b (ev_op (ev_op (ev_v (R := rInt) rfl (Rep.mono rInt (((((s24.trans s32).trans s40).trans s52).trans s57).trans s68) f19)) ev_i (o_modO hc73)) ev_i o_eqI)) (Option.some.inj h')) (fun z => (Option.some.inj (cnd_f hc74 z)).symm)) (fun z75 Fs76 s76 => ?_) (fun z75 Fs77 s77 => ?_))
              · have h := cnd_t h z75
                obtain ⟨c78, hc78, h⟩ := bsome h
                obtain rfl := Option.some.inj h
                refine sx_ret (R := (rDf F0)) (evF_tup (B := F0) (ds := [(encS j21), (encS c78)]) (ea_cons (evF_s (B := F0) (d := (encS j21)) (by rfl) (ev_d (a := j21) eS (ev_v (R := rS) rfl (Rep.mono rS (((((s32.trans s40).trans s52).trans s57).trans s68).trans s76) f29)))) (ea_cons (evF_s (B := F0) (d := (encS c78)) (by rfl) (ev_d (a := c78) eS (ev_op (ev_cs (ev_ch (c := 58) (by decide +kernel) (by decide))) (ev_v (R := rS) rfl (Rep.mono rS ((s57.trans s68).trans s76) f53)) (o_catS hc78)))) ea_nil)) (show (2 : Nat) ≤ limL by decide)) fun v79 Fs80 s80 f81 => ?_
                exact rt_val k (fun _ => f81)
              · have h := cnd_f h z75
                refine sx_next ?_
                refine nx_of ?_
                obtain rfl := Option.some.inj h
                refine sx_ret (R := (rDf F0)) (evF_tup (B := F0) (ds := [(encS j21), (encS x51)]) (ea_cons (evF_s (B := F0) (d := (encS j21)) (by rfl) (ev_d (a := j21) eS (ev_v (R := rS) rfl (Rep.mono rS (((((s32.trans s40).trans s52).trans s57).trans s68).trans s77) f29)))) (ea_cons (evF_s (B := F0) (d := (encS x51)) (by rfl) (ev_d (a := x51) eS (ev_v (R := rS) rfl (Rep.mono rS ((s57.trans s68).trans s77) f53)))) ea_nil)) (show (2 : Nat) ≤ limL by decide)) fun v82 Fs83 s83 f84 => ?_
                exact rt_val k (fun _ => f84)
    · refine sx_if (et_orP (et_andP (et_B (ev_v (R := rB) rfl (Rep.mono rB (s13.trans s18) f__law_is_inner))) (fun _ => (et_b (ev_op (ev_v (R := rS) rfl (Rep.mono rS s18 f14)) (ev_s (l := [115, 116, 114, 111, 110, 103]) (by decide +kernel) (by decide +kernel)) o_eqS)))) (fun _ => (et_andP (et_b (ev_op (ev_v (R := rS) rfl (Rep.mono rS (s13.trans s18) f__law_before)) (ev_s (l := [112, 108, 97, 105, 110]) (by decide +kernel) (by decide +kernel)) o_eqS)) (fun _ => (et_b (ev_op (ev_v (R := rS) rfl (Rep.mono rS s18 f14)) (ev_s (l := [112, 108, 97, 105, 110]) (by decide +kernel) (by decide +kernel)) o_eqS)))))) (fun z85 Fs86 s86 => ?_) (fun z85 Fs87 s87 => ?_)
      · have hj23 := cnd_t hj23 z85
        obtain ⟨c88, hc88, hj23⟩ := bsome hj23
        obtain ⟨c89, hc89, hj23⟩ := bsome hj23
        obtain ⟨x90, hx90, hj23⟩ := lt_e hj23
        refine sx_asg (R := rS) (ev_is (ev_op (ev_nspn (ev_lst (R := rS) (as := [[99, 111, 100, 101], [108, 105, 110, 107], [110, 111, 116, 101]]) (ea_cons (ev_s (l := [99, 111, 100, 101]) (by decide +kernel) (by decide +kernel)) (ea_cons (ev_s (l := [108, 105, 110, 107]) (by decide +kernel) (by decide +kernel)) (ea_cons (ev_s (l := [110, 111, 116, 101]) (by decide +kernel) (by decide +kernel)) ea_nil))) (show (3 : Nat) ≤ limL by decide))) (ev_op (ev_v (R := rInt) rfl (Rep.mono rInt s86 f19)) ev_i (o_modO hc88)) (o_ixL hc89)) hx90) fun v93 Fs91 s91 f92 => ?_
        obtain rfl := Option.some.inj hj23
        exact hJ22 _ _ _ (s86.trans s91) ⟨v93, _, rfl, rfl, f92, trivial⟩
      · have hj23 := cnd_f hj23 z85
        refine sx_next ?_
        obtain rfl := Option.some.inj hj23
        exact hJ22 _ _ _ s87 ⟨v15, _, rfl, rfl, (Rep.mono rS (s18.trans s87) f14), trivial⟩
/-! _law_parts -/
abbrev s__law_parts : Stmt := top 35
abbrev N__law_parts : List Str := ["_law_number", "_law_size", "_law_is_inner", "_law_found", "_law_before", "_law_turn", "_law_part_here"]
theorem sc__law_parts : FnScope N__law_parts ["_law_number", "_law_size", "_law_is_inner"] (defScope s__law_parts) := ⟨rfl, rfl, rfl, by decide +kernel, rfl, by decide +kernel, by decide +kernel⟩
def m__law_parts__o (r__law_parts : Int → Int → Bool → Option (List (PyData))) (x__law_number : Int) (x__law_size : Int) (x__law_is_inner : Bool) : Option (List (PyData)) := lt ([] : List (PyData)) fun x10 => lt [] fun x15 => (rngO 0 x__law_size).bind fun c19 => fwd (loop (ρ := Unit) (fun (s86 : (List Nat) × (List (PyData))) (a87 : Int) => (m__law_mixed (x__law_number) ((a87 + (2 : Int)))).bind fun r101 => (m__law_part r__law_parts (r101) (s86.1) (x__law_is_inner)).bind fun r102 => lt r102 fun x103 => (ixD x103 (0 : Int)).bind fun c107 => (asS c107).bind fun c108 => lt c108 fun x109 => (appO s86.2 x103).bind fun y113 => some (Fw.nx (x109, y113))) c19 (x15, x10)) (fun (s25 : (List Nat) × (List (PyData))) => (cnd (!x__law_is_inner) ((ixO s25.2 (0 : Int)).bind fun c36 => (ixD c36 (0 : Int)).bind fun c37 => (eqO (id c37) (encS [112, 108, 97, 105, 110])).bind fun c38 => some c38) (some false)).bind fun c39 => (cnd c39 ((ixO s25.2 (0 : Int)).bind fun c76 => (ixD c76 (1 : Int)).bind fun c77 => (asS c77).bind fun c78 => (setO s25.2 (0 : Int) (PyData.tuple [(encS [112, 108, 97, 105, 110]), (encS (lstripS c78 [32]))])).bind fun y79 => some y79) (some s25.2)).bind fun (j40 : (List (PyData))) => (cnd (!x__law_is_inner) ((ixO j40 (x__law_size - (1 : Int))).bind fun c48 => (ixD c48 (0 : Int)).bind fun c49 => (eqO (id c49) (encS [112, 108, 97, 105, 110])).bind fun c50 => some c50) (some false)).bind fun c51 => (cnd c51 ((ixO j40 (x__law_size - (1 : Int))).bind fun c63 => (ixD c63 (1 : Int)).bind fun c64 => (asS c64).bind fun c65 => (setO j40 (x__law_size - (1 : Int)) (PyData.tuple [(encS [112, 108, 97, 105, 110]), (encS (rstripS c65 [32]))])).bind fun y66 => some y66) (some j40)).bind fun (j52 : (List (PyData))) => some j52) (fun (r : Unit) => none)
def P__law_parts__o (r__law_parts : Int → Int → Bool → Option (List (PyData))) (As : List Ar) (r : List (PyData)) : Prop := ∃ (x__law_number : Int) (x__law_size : Int) (x__law_is_inner : Bool), As = [val rInt x__law_number, val rInt x__law_size, val rB x__law_is_inner] ∧ m__law_parts__o r__law_parts x__law_number x__law_size x__law_is_inner = some r
theorem ok__law_parts__o (T : Top n K mg) (D : Df K mg "_law_parts" s__law_parts) {r__law_parts : Int → Int → Bool → Option (List (PyData))} {j : Nat} (hj : J__law_parts ≤ j) (G__law_part : CalN n P w K mg base (j + 1) "_law_part" ["_law_number", "_law_before", "_law_is_inner"] (spF (P__law_part r__law_parts))) (G__law_mixed : Cal P w K mg base 1 "_law_mixed" ["_law_cell_here", "_law_k"] (spG (P__law_mixed))) : CalN n P w K mg base (j + 2) "_law_parts" ["_law_number", "_law_size", "_law_is_inner"] (spFN (P__law_parts__o r__law_parts)) := by
  have SC := sc__law_parts
  have hj := show 2 ≤ j from hj
  have h1n := T.one
  refine calN_of (N := N__law_parts) D SC (fun _ _ _ _ _ _ us hl => match us, hl with | [_, _, _], _ => rfl) (fun vs H Q E h => ?_) (fun f cdv A outer s H vs Q E hr h => ?_)
  · obtain ⟨F0, As, r, ⟨x__law_number, x__law_size, x__law_is_inner, rfl, h⟩, e0, ha, k⟩ := h
    exact alla_len ha
  · obtain ⟨F0, As, r, ⟨x__law_number, x__law_size, x__law_is_inner, rfl, h⟩, e0, ha, k⟩ := h
    obtain ⟨v__law_number, v__law_size, v__law_is_inner, rfl, f__law_number, f__law_size, f__law_is_inner⟩ := alla3 ha
    refine ⟨_, (psn_cons (tkS (ps_set (i := 3) SC.nd rfl (Or.inl rfl) (pe_lst pa_nil))) (psn_cons (tkS (ps_set (i := 4) SC.nd rfl (Or.inl rfl) pe_str)) (psn_cons (psn_for PassesOwn.never rfl (tkI (pi_range1 (by rfl) T.b_range (pa_cons (pv 1) pa_nil))) (pg_name (i := 5) SC.nd rfl (Or.inl rfl)) (psn_cons (psn_set (i := 6) SC.nd rfl (Or.inl rfl) (pen_cal G__law_part (hr.mono (by omega)) rfl (tkA (pa_cons (pe_cal G__law_mixed (hr.mono (by omega)) rfl (pa_cons (pv 0) (pa_cons (pe_op op_xAdd (pv 5) pe_int) pa_nil))) (pa_cons (pv 4) (pa_cons (pv 2) pa_nil)))))) (tkSs (pss_cons (ps_set (i := 4) SC.nd rfl (Or.inl rfl) (pe_ix ix_tup (pv 6) pe_int (fun _ _ => rfl))) (pss_one (ps_expr (pe_bm PySem.F.plainAttrs_list PySem.F.slot_list_append PySem.F.type_list_append mt_append (pv 3) (pa_cons (pv 6) pa_nil)))))))) (tkSs (pss_cons (ps_if (PW.pt (pw_and (pt_not (pt_val (pv 2))) (pw_and1 (pt_cmpR (op_eqD hr.units) (pe_ix ix_tup (pe_ix ix_list (pv 3) pe_int (fun _ _ => rfl)) pe_int (fun _ _ => rfl)) pe_str (nomark _))))) (pss_one (ps_asg (pe_tup (pa_cons pe_str (pa_cons (pe_bm PySem.F.plainAttrs_str PySem.F.slot_str_lstrip PySem.F.type_str_lstrip mt_mLstrip (pe_ix ix_tup (pe_ix ix_list (pv 3) pe_int (fun _ _ => rfl)) pe_int (fun _ _ => rfl)) (pa_cons pe_str pa_nil)) pa_nil))) (pg_sub (pv 3) pe_int set_list))) pss_nil) (pss_cons (ps_if (PW.pt (pw_and (pt_not (pt_val (pv 2))) (pw_and1 (pt_cmpR (op_eqD hr.units) (pe_ix ix_tup (pe_ix ix_list (pv 3) (pe_op op_xSub (pv 1) pe_int) (fun _ _ => rfl)) pe_int (fun _ _ => rfl)) pe_str (nomark _))))) (pss_one (ps_asg (pe_tup (pa_cons pe_str (pa_cons (pe_bm PySem.F.plainAttrs_str PySem.F.slot_str_rstrip PySem.F.type_str_rstrip mt_mRstrip (pe_ix ix_tup (pe_ix ix_list (pv 3) (pe_op op_xSub (pv 1) pe_int) (fun _ _ => rfl)) pe_int (fun _ _ => rfl)) (pa_cons pe_str pa_nil)) pa_nil))) (pg_sub (pv 3) (pe_op op_xSub (pv 1) pe_int) set_list))) pss_nil) (pss_one (ps_ret (pv 3))))))))), ?_⟩
    refine (show Sx ⟨F0, H, none⟩ _ _ [some v__law_number, some v__law_size, some v__law_is_inner, none, none, none, none] F0 [] from ?_) H (At.start e0)
    have f__law_number : (rInt).rp x__law_number v__law_number F0 := f__law_number
    have f__law_size : (rInt).rp x__law_size v__law_size F0 := f__law_size
    have f__law_is_inner : (rB).rp x__law_is_inner v__law_is_inner F0 := f__law_is_inner
    obtain ⟨x10, hx10, h⟩ := lt_e h
    refine sx_seq (sx_asgN (ev_isN (ev_lst (R := (rDf F0)) (as := []) ea_nil (show (0 : Nat) ≤ limL by decide)) hx10) fun p13 xs14 Fs11 s11 f12 => nx_of ?_)
    obtain ⟨x15, hx15, h⟩ := lt_e h
    refine sx_seq (sx_asg (R := rS) (ev_is (ev_s (l := []) (by decide +kernel) (by decide +kernel)) hx15) fun v18 Fs16 s16 f17 => nx_of ?_)
    refine sx_so (σ2 := [some v__law_number, some v__law_size, some v__law_is_inner, some (.ref p13), some v18, none, none]) (O2 := [(p13, .lst xs14)]) rfl rfl ?_
    obtain ⟨c19, hc19, h⟩ := bsome h
    obtain ⟨w20, hl21, hk22, hr23⟩ := fwd_o h
    refine sx_seq (sx_for (J := fun (s : (List Nat) × (List (PyData))) σ F O => ∃ (x__law_found : List V) (v__law_before : V) (w__law_turn : Option V) (w__law_part_here : Option V), σ = [some v__law_number, some v__law_size, some v__law_is_inner, some (.ref p13), some v__law_before, w__law_turn, w__law_part_here] ∧ O = [(p13, .lst x__law_found)] ∧ AllB (rDf F0) s.2 x__law_found F ∧ (rS).rp s.1 v__law_before F ∧ True) (Ro := (fun (r : Unit) (v : V) (F : Hp) (O : Own) => False)) hl21 (ei_rng1O (ea_cons (ev_v (R := rInt) rfl (Rep.mono rInt (s11.trans s16) f__law_size)) ea_nil) hc19) tg_n (fun Fe24 e24 => ⟨xs14, v18, _, _, rfl, rfl, (AllB.mono (s16.trans e24) f12), (Rep.mono rS e24 f17), trivial⟩) ?_ ?_)
    · refine ⟨fun s25 es26 σ9 Fe27 O9 e27 ⟨xs28, v29, w30, w31, hs32, ho33, f34, f35, _⟩ => ?_, fun r9 er9 v9 F9 O9 e9 hr9 => ?_⟩
      · subst hs32 ho33
        have h := hk22 s25 es26
        refine nx_of ?_
        obtain ⟨c39, hc39, h⟩ := bsome h
        obtain ⟨j40, hj42, h⟩ := bsome h
        refine sx_join (fun (s : (List (PyData))) σ F O => ∃ (x__law_found : List V), σ = [some v__law_number, some v__law_size, some v__law_is_inner, some (.ref p13), some v29, w30, w31] ∧ O = [(p13, .lst x__law_found)] ∧ AllB (rDf F0) s x__law_found F ∧ True) j40 (fun σ9 Fs43 O9 s43 ⟨xs44, hs45, ho46, f47, _⟩ => ?_) (fun hJ41 => ?_)
        · subst hs45 ho46
          obtain ⟨c51, hc51, h⟩ := bsome h
          obtain ⟨j52, hj54, h⟩ := bsome h
          refine sx_join (fun (s : (List (PyData))) σ F O => ∃ (x__law_found : List V), σ = [some v__law_number, some v__law_size, some v__law_is_inner, some (.ref p13), some v29, w30, w31] ∧ O = [(p13, .lst x__law_found)] ∧ AllB (rDf F0) s x__law_found F ∧ True) j52 (fun σ9 Fs55 O9 s55 ⟨xs56, hs57, ho58, f59, _⟩ => ?_) (fun hJ53 => ?_)
          · subst hs57 ho58
            obtain rfl := Option.some.inj h
            refine sx_retO rfl ?_
            exact rt_own k (List.Mem.head _) f59
          · refine sx_if (et_and (b := c51) (et_not (et_B (ev_v (R := rB) rfl (Rep.mono rB (((s11.trans s16).trans e27).trans s43) f__law_is_inner)))) (fun z => by
    have h' := cnd_t hc51 z
    obtain ⟨c48, hc48, h'⟩ := bsome h'
    obtain ⟨c49, hc49, h'⟩ := bsome h'
    obtain ⟨c50, hc50, h'⟩ := bsome h'
    exact et_is (et_b (ev_op (ev_op (evF_D (ev_op (ev_o (R := (rDf F0)) rfl (List.Mem.head _) f47) (ev_op (ev_v (R := rInt) rfl (Rep.mono rInt (((s11.trans s16).trans e27).trans s43) f__law_size)) ev_i o_sub) (o_ixL hc48))) ev_i (o_ixD hc49)) (ev_s (l := [112, 108, 97, 105, 110]) (by decide +kernel) (by decide +kernel)) (by have z := eqO_e hc50; have z1 := dt_v eD (K := K) (R := rD) z.1; have z2 := dt_v eS (K := K) (R := rS) z.2.1; have z3 := o_eqD z1 z2; rw [z.2.2] at z3; exact z3))) (Option.some.inj h')) (fun z => (Option.some.inj (cnd_f hc51 z)).symm)) (fun z60 Fs61 s61 => ?_) (fun z60 Fs62 s62 => ?_)
            · have hj54 := cnd_t hj54 z60
              obtain ⟨c63, hc63, hj54⟩ := bsome hj54
              obtain ⟨c64, hc64, hj54⟩ := bsome hj54
              obtain ⟨c65, hc65, hj54⟩ := bsome hj54
              obtain ⟨y66, hy66, hj54⟩ := bsome hj54
              obtain ⟨m67, hm69, he68⟩ := setO_e hy66
              refine sx_setL (n := 0) rfl rfl (AllB.mono s61 f47) (evF_tup (B := F0) (ds := [(encS [112, 108, 97, 105, 110]), (encS (rstripS c65 [32]))]) (ea_cons (evF_s (B := F0) (d := (encS [112, 108, 97, 105, 110])) (by rfl) (ev_d (a := [112, 108, 97, 105, 110]) eS (ev_s (l := [112, 108, 97, 105, 110]) (by decide +kernel) (by decide +kernel)))) (ea_cons (evF_s (B := F0) (d := (encS (rstripS c65 [32]))) (by rfl) (ev_d (a := (rstripS c65 [32])) eS (ev_m (ev_asS hc65 (ev_op (evF_D (ev_op (ev_o (R := (rDf F0)) rfl (List.Mem.head _) (AllB.mono s61 f47)) (ev_op (ev_v (R := rInt) rfl (Rep.mono rInt ((((s11.trans s16).trans e27).trans s43).trans s61) f__law_size)) ev_i o_sub) (o_ixL hc63))) ev_i (o_ixD hc64))) (ea_cons (ev_s (l := [32]) (by decide +kernel) (by decide +kernel)) ea_nil) m_rstrip))) ea_nil)) (show (2 : Nat) ≤ limL by decide)) (ev_op (ev_v (R := rInt) rfl (Rep.mono rInt ((((s11.trans s16).trans e27).trans s43).trans s61) f__law_size)) ev_i o_sub) hm69 fun v70 Fs71 s71 f72 => ?_
              obtain rfl := Option.some.inj hj54
              exact hJ53 _ _ _ (s61.trans s71) ⟨(List.set xs44 m67 v70), rfl, rfl, (he68 ▸ f72), trivial⟩
            · have hj54 := cnd_f hj54 z60
              refine sx_next ?_
              obtain rfl := Option.some.inj hj54
              exact hJ53 _ _ _ s62 ⟨xs44, rfl, rfl, (AllB.mono s62 f47), trivial⟩
        · refine sx_if (et_and (b := c39) (et_not (et_B (ev_v (R := rB) rfl (Rep.mono rB ((s11.trans s16).trans e27) f__law_is_inner)))) (fun z => by
    have h' := cnd_t hc39 z
    obtain ⟨c36, hc36, h'⟩ := bsome h'
    obtain ⟨c37, hc37, h'⟩ := bsome h'
    obtain ⟨c38, hc38, h'⟩ := bsome h'
    exact et_is (et_b (ev_op (ev_op (evF_D (ev_op (ev_o (R := (rDf F0)) rfl (List.Mem.head _) f34) ev_i (o_ixL hc36))) ev_i (o_ixD hc37)) (ev_s (l := [112, 108, 97, 105, 110]) (by decide +kernel) (by decide +kernel)) (by have z := eqO_e hc38; have z1 := dt_v eD (K := K) (R := rD) z.1; have z2 := dt_v eS (K := K) (R := rS) z.2.1; have z3 := o_eqD z1 z2; rw [z.2.2] at z3; exact z3))) (Option.some.inj h')) (fun z => (Option.some.inj (cnd_f hc39 z)).symm)) (fun z73 Fs74 s74 => ?_) (fun z73 Fs75 s75 => ?_)
          · have hj42 := cnd_t hj42 z73
            obtain ⟨c76, hc76, hj42⟩ := bsome hj42
            obtain ⟨c77, hc77, hj42⟩ := bsome hj42
            obtain ⟨c78, hc78, hj42⟩ := bsome hj42
            obtain ⟨y79, hy79, hj42⟩ := bsome hj42
            obtain ⟨m80, hm82, he81⟩ := setO_e hy79
            refine sx_setL (n := 0) rfl rfl (AllB.mono s74 f34) (evF_tup (B := F0) (ds := [(encS [112, 108, 97, 105, 110]), (encS (lstripS c78 [32]))]) (ea_cons (evF_s (B := F0) (d := (encS [112, 108, 97, 105, 110])) (by rfl) (ev_d (a := [112, 108, 97, 105, 110]) eS (ev_s (l := [112, 108, 97, 105, 110]) (by decide +kernel) (by decide +kernel)))) (ea_cons (evF_s (B := F0) (d := (encS (lstripS c78 [32]))) (by rfl) (ev_d (a := (lstripS c78 [32])) eS (ev_m (ev_asS hc78 (ev_op (evF_D (ev_op (ev_o (R := (rDf F0)) rfl (List.Mem.head _) (AllB.mono s74 f34)) ev_i (o_ixL hc76))) ev_i (o_ixD hc77))) (ea_cons (ev_s (l := [32]) (by decide +kernel) (by decide +kernel)) ea_nil) m_lstrip))) ea_nil)) (show (2 : Nat) ≤ limL by decide)) ev_i hm82 fun v83 Fs84 s84 f85 => ?_
            obtain rfl := Option.some.inj hj42
            exact hJ41 _ _ _ (s74.trans s84) ⟨(List.set xs28 m80 v83), rfl, rfl, (he81 ▸ f85), trivial⟩
          · have hj42 := cnd_f hj42 z73
            refine sx_next ?_
            obtain rfl := Option.some.inj hj42
            exact hJ41 _ _ _ s75 ⟨xs28, rfl, rfl, (AllB.mono s75 f34), trivial⟩
      · exact hr9.elim
    · rintro s86 a87 σ9 σ8 Fe88 Fe89 O9 o9 D9 ha9 e88 e89 ⟨xs91, v92, w93, w94, hs95, ho96, f97, f98, _⟩ ⟨v99, zs, f100⟩ h acc90
      subst hs95 ho96
      subst zs
      obtain ⟨r101, hr101, h⟩ := bsome h
      obtain ⟨r102, hr102, h⟩ := bsome h
      obtain ⟨x103, hx103, h⟩ := lt_e h
      refine sx_seq (sx_asg (R := (rDf F0)) (ev_is (ev_callFd (P := P__law_part r__law_parts) (((s11.trans s16).trans e88).trans e89) (ea_cons (ev_call (P := P__law_mixed) (ea_cons (ev_v (R := rInt) rfl (Rep.mono rInt (((s11.trans s16).trans e88).trans e89) f__law_number)) (ea_cons (ev_op (ev_v (R := rInt) rfl f100) ev_i o_add) ea_nil)) ⟨_, _, _, rfl, hr101, rfl⟩) (ea_cons (ev_v (R := rS) rfl (Rep.mono rS e89 f98)) (ea_cons (ev_v (R := rB) rfl (Rep.mono rB (((s11.trans s16).trans e88).trans e89) f__law_is_inner)) ea_nil))) ⟨_, _, _, rfl, hr102⟩) hx103) fun v106 Fs104 s104 f105 => nx_of ?_)
      obtain ⟨c107, hc107, h⟩ := bsome h
      obtain ⟨c108, hc108, h⟩ := bsome h
      obtain ⟨x109, hx109, h⟩ := lt_e h
      refine sx_seq (sx_asg (R := rS) (ev_is (ev_asS hc108 (ev_op (evF_D (ev_v (R := (rDf F0)) rfl f105)) ev_i (o_ixD hc107))) hx109) fun v112 Fs110 s110 f111 => nx_of ?_)
      refine sx_so (σ2 := [some v__law_number, some v__law_size, some v__law_is_inner, some (.ref p13), some v112, some v99, some v106]) (O2 := [(p13, .lst xs91)]) rfl rfl ?_
      obtain ⟨y113, hy113, h⟩ := bsome h
      obtain ⟨hz114, he115⟩ := iteo hy113
      refine sx_app (n := 0) rfl rfl (AllB.mono ((e89.trans s104).trans s110) f97) (ev_v (R := (rDf F0)) rfl (Rep.mono (rDf F0) s110 f105)) hz114 fun v116 Fs117 s117 f118 => ?_
      obtain rfl := Option.some.inj h
      exact (acc90.nx _ rfl _ _ _ ((s104.trans s110).trans s117) ⟨(xs91 ++ [v116]), v112, _, _, rfl, rfl, (he115 ▸ f118), (Rep.mono rS s117 f111), trivial⟩).1
def M__law_parts : Nat → Int → Int → Bool → Option (List (PyData))
  | 0 => fun _ _ _ => none
  | n + 1 => m__law_parts__o (M__law_parts n)
def m__law_parts (x__law_number : Int) (x__law_size : Int) (x__law_is_inner : Bool) : Option (List (PyData)) := M__law_parts 3 x__law_number x__law_size x__law_is_inner
def P__law_parts := Q__law_parts m__law_parts
theorem ok__law_parts (T : Top n K mg) (D : Df K mg "_law_parts" s__law_parts) (D__law_part : Df K mg "_law_part" s__law_part) (G__law_name : Cal P w K mg base 2 "_law_name" ["_law_number"] (spG (P__law_name))) (G__law_mixed : Cal P w K mg base 1 "_law_mixed" ["_law_cell_here", "_law_k"] (spG (P__law_mixed))) (G__law_ends : Cal P w K mg base 1 "_law_ends" ["_law_signs_here", "_law_number"] (spG (P__law_ends))) (G__law_text : Cal P w K mg base 2 "_law_text" ["_law_number", "_law_most"] (spG (P__law_text))) : CalN n P w K mg base 8 "_law_parts" ["_law_number", "_law_size", "_law_is_inner"] (spFN (P__law_parts)) := by
  have C0 : CalN n P w K mg base 2 "_law_parts" ["_law_number", "_law_size", "_law_is_inner"] (spFN (Q__law_parts (M__law_parts 0))) := Cal.tk (cal_void (N := N__law_parts) (k := 1) D sc__law_parts (fun _ _ _ _ _ _ us hl => match us, hl with | [_, _, _], _ => rfl) (fun vs H Q E h => by obtain ⟨_, _, _, ⟨_, _, _, _, h⟩, _⟩ := h; cases h))
  have S__law_part_0 := ok__law_part (j := 2) (r__law_parts := M__law_parts 0) T D__law_part (by decide) G__law_name C0 G__law_mixed G__law_ends G__law_text
  have C1 : CalN n P w K mg base 4 "_law_parts" ["_law_number", "_law_size", "_law_is_inner"] (spFN (Q__law_parts (M__law_parts 1))) := ok__law_parts__o (j := 2) (r__law_parts := M__law_parts 0) T D (by decide) S__law_part_0 G__law_mixed
  have S__law_part_1 := ok__law_part (j := 4) (r__law_parts := M__law_parts 1) T D__law_part (by decide) G__law_name C1 G__law_mixed G__law_ends G__law_text
  have C2 : CalN n P w K mg base 6 "_law_parts" ["_law_number", "_law_size", "_law_is_inner"] (spFN (Q__law_parts (M__law_parts 2))) := ok__law_parts__o (j := 4) (r__law_parts := M__law_parts 1) T D (by decide) S__law_part_1 G__law_mixed
  have S__law_part_2 := ok__law_part (j := 6) (r__law_parts := M__law_parts 2) T D__law_part (by decide) G__law_name C2 G__law_mixed G__law_ends G__law_text
  have C3 : CalN n P w K mg base 8 "_law_parts" ["_law_number", "_law_size", "_law_is_inner"] (spFN (Q__law_parts (M__law_parts 3))) := ok__law_parts__o (j := 6) (r__law_parts := M__law_parts 2) T D (by decide) S__law_part_2 G__law_mixed
  exact C3
theorem okc__law_part (T : Top n K mg) (D : Df K mg "_law_part" s__law_part) (G__law_name : Cal P w K mg base 2 "_law_name" ["_law_number"] (spG (P__law_name))) (G__law_parts : CalN n P w K mg base 8 "_law_parts" ["_law_number", "_law_size", "_law_is_inner"] (spFN (P__law_parts))) (G__law_mixed : Cal P w K mg base 1 "_law_mixed" ["_law_cell_here", "_law_k"] (spG (P__law_mixed))) (G__law_ends : Cal P w K mg base 1 "_law_ends" ["_law_signs_here", "_law_number"] (spG (P__law_ends))) (G__law_text : Cal P w K mg base 2 "_law_text" ["_law_number", "_law_most"] (spG (P__law_text))) : CalN n P w K mg base 9 "_law_part" ["_law_number", "_law_before", "_law_is_inner"] (spF (P__law_part m__law_parts)) := ok__law_part (j := 8) (r__law_parts := m__law_parts) T D (by decide) G__law_name G__law_parts G__law_mixed G__law_ends G__law_text
/-! _law_kind -/
abbrev s__law_kind : Stmt := top 36
abbrev N__law_kind : List Str := ["_law_error", "_law_found", "_law_word", "_law_is_one"]
theorem sc__law_kind : FnScope N__law_kind ["_law_error"] (defScope s__law_kind) := ⟨rfl, rfl, rfl, by decide +kernel, rfl, by decide +kernel, by decide +kernel⟩
def m__law_kind (x__law_error : Str) : Option (List (List Nat)) := (eis_BadText.lookup x__law_error).bind fun c10 => (eis_BadName.lookup x__law_error).bind fun c11 => lt ([([116, 101, 120, 116], c10), ([110, 97, 109, 101], c11)] : List ((List Nat × Bool))) fun x12 => (eis_BadTree.lookup x__law_error).bind fun c17 => (eis_OutOfPlace.lookup x__law_error).bind fun c18 => (catO x12 ([([116, 114, 101, 101], c17), ([112, 108, 97, 99, 101], c18)] : List ((List Nat × Bool)))).bind fun c19 => lt c19 fun x20 => (eis_BadWidth.lookup x__law_error).bind fun c26 => (catO x20 ([([119, 105, 100, 116, 104], c26)] : List ((List Nat × Bool)))).bind fun c27 => lt c27 fun x28 => (mapF (fun (a35 : (List Nat × Bool)) => cnd a35.2 (some (some a35.1)) (some none)) x28).bind fun y46 => lt y46 fun x47 => (cnd (decide ((x47.length : Int) = (1 : Int))) ((eis_ValueError.lookup x__law_error).bind fun c52 => some c52) (some false)).bind fun c53 => (repO x47 (if c53 = true then (1 : Int) else 0)).bind fun c54 => some c54
def P__law_kind (c : Str) (r : List (List Nat)) : Prop := m__law_kind c = some r
theorem ok__law_kind (T : Top n K mg) (D : Df K mg "_law_kind" s__law_kind) : CalE P w K mg base 1 "_law_kind" ["_law_error"] (spK K rS P__law_kind) := by
  have SC := sc__law_kind
  refine calE_of (N := N__law_kind) D SC (fun _ _ _ _ _ _ us hl => match us, hl with | [_], _ => rfl) (fun C9 vs H Q E h => ?_) (fun f cdv A outer s H p9 C9 vs Q E HX9 HC9 hr h => ?_)
  · obtain ⟨c, F0, a, bs, _, _, _, _, rfl, _⟩ := h
    rfl
  · obtain ⟨x__law_error, F0, a, r, h, rfl, EC9, e0, hv, k⟩ := h
    obtain ⟨a9, o9⟩ := p9
    cases hv
    have h : m__law_kind x__law_error = some r := h
    refine ⟨_, (pss_cons (ps_set (i := 1) SC.nd rfl (Or.inl rfl) (pe_lst (pa_cons (pe_tup (pa_cons pe_str (pa_cons (pe_callB (call_isH EC9 HX9) (by rfl) T.b_isinstance (by decide +kernel) (pa_cons (pv 0) (pa_cons (pe_glob (v := V.ref (He.ga K "BadText")) rfl T.gl_BadText rfl) pa_nil))) pa_nil))) (pa_cons (pe_tup (pa_cons pe_str (pa_cons (pe_callB (call_isH EC9 HX9) (by rfl) T.b_isinstance (by decide +kernel) (pa_cons (pv 0) (pa_cons (pe_glob (v := V.ref (He.ga K "BadName")) rfl T.gl_BadName rfl) pa_nil))) pa_nil))) pa_nil)))) (pss_cons (ps_set (i := 1) SC.nd rfl (Or.inl rfl) (pe_op op_cat (pv 1) (pe_lst (pa_cons (pe_tup (pa_cons pe_str (pa_cons (pe_callB (call_isH EC9 HX9) (by rfl) T.b_isinstance (by decide +kernel) (pa_cons (pv 0) (pa_cons (pe_glob (v := V.ref (He.ga K "BadTree")) rfl T.gl_BadTree rfl) pa_nil))) pa_nil))) (pa_cons (pe_tup (pa_cons pe_str (pa_cons (pe_callB (call_isH EC9 HX9) (by rfl) T.b_isinstance (by decide +kernel) (pa_cons (pv 0) (pa_cons (pe_glob (v := V.ref (He.ga K "OutOfPlace")) rfl T.gl_OutOfPlace rfl) pa_nil))) pa_nil))) pa_nil))))) (pss_cons (ps_set (i := 1) SC.nd rfl (Or.inl rfl) (pe_op op_cat (pv 1) (pe_lst (pa_cons (pe_tup (pa_cons pe_str (pa_cons (pe_callB (call_isH EC9 HX9) (by rfl) T.b_isinstance (by decide +kernel) (pa_cons (pv 0) (pa_cons (pe_glob (v := V.ref (He.ga K "BadWidth")) rfl T.gl_BadWidth rfl) pa_nil))) pa_nil))) pa_nil)))) (pss_cons (ps_setLcH (i := 1) (own := [("_law_word", 2), ("_law_is_one", 3)]) (g := gTup K 2 (gCons (gName 2) (gCons (gName 3) gNil))) (tt := _) HC9 SC.nd rfl rfl (sw_true rfl rfl rfl (by decide +kernel)) (pi_listHK rfl (pv 1)) (blkOk_by (own := [("_law_word", 2), ("_law_is_one", 3)]) (N := N__law_kind) (sc := defScope s__law_kind) (by decide +kernel)) (fun _ _ _ _ _ hi9 => (kgTup (K := K) rfl (pg_tupH hi9 (pgs_cons (pg_name (i := 2) SC.nd rfl (Or.inl rfl)) (pgs_cons (pg_name (i := 3) SC.nd rfl (Or.inl rfl)) pgs_nil))))) (fun _ _ _ _ _ => (pts_one (pt_val (pv 3)))) (fun _ _ _ _ _ => (pv 2))) (pss_one (ps_ret (pe_op op_rep (pv 1) (pe_callTy call_cInt (by rfl) T.b_int (by decide +kernel) (pa_cons (pe_and (pe_cmpR op_eq (pe_callB call_cLen (by rfl) T.b_len PySem.boot_len (pa_cons (pv 1) pa_nil)) pe_int (nomark _)) (pe_one (pe_callB (call_isH EC9 HX9) (by rfl) T.b_isinstance (by decide +kernel) (pa_cons (pv 0) (pa_cons (pe_bltn (v := V.ty "ValueError") (by rfl) T.b_ValueError (by decide +kernel) rfl) pa_nil))))) pa_nil))))))))), ?_⟩
    refine (show Sx ⟨F0, H, none⟩ _ _ [some (.ref a9), none, none, none] F0 [] from ?_) H (At.start e0)
    obtain ⟨c10, hc10, h⟩ := bsome h
    obtain ⟨c11, hc11, h⟩ := bsome h
    obtain ⟨x12, hx12, h⟩ := lt_e h
    refine sx_seq (sx_asgN (ev_isN (ev_lst (R := (rT2 rS rB)) (as := [([116, 101, 120, 116], c10), ([110, 97, 109, 101], c11)]) (ea_cons (ev_tup2 (ea_cons (ev_s (l := [116, 101, 120, 116]) (by decide +kernel) (by decide +kernel)) (ea_cons (ev_cb (ea_cons (ev_v (R := rA a9) rfl rfl) (ea_cons (ev_cls (K := K)) ea_nil)) (cb_isE T.ei_BadText hc10 (fun u e => by cases e; rfl))) ea_nil))) (ea_cons (ev_tup2 (ea_cons (ev_s (l := [110, 97, 109, 101]) (by decide +kernel) (by decide +kernel)) (ea_cons (ev_cb (ea_cons (ev_v (R := rA a9) rfl rfl) (ea_cons (ev_cls (K := K)) ea_nil)) (cb_isE T.ei_BadName hc11 (fun u e => by cases e; rfl))) ea_nil))) ea_nil)) (show (2 : Nat) ≤ limL by decide)) hx12) fun p15 xs16 Fs13 s13 f14 => nx_of ?_)
    obtain ⟨c17, hc17, h⟩ := bsome h
    obtain ⟨c18, hc18, h⟩ := bsome h
    obtain ⟨c19, hc19, h⟩ := bsome h
    obtain ⟨x20, hx20, h⟩ := lt_e h
    refine sx_seq (sx_asgN (ev_isN (ev_opN (ev_o (R := (rT2 rS rB)) rfl (List.Mem.head _) f14) (ev_nspn (ev_lst (R := (rT2 rS rB)) (as := [([116, 114, 101, 101], c17), ([112, 108, 97, 99, 101], c18)]) (ea_cons (ev_tup2 (ea_cons (ev_s (l := [116, 114, 101, 101]) (by decide +kernel) (by decide +kernel)) (ea_cons (ev_cb (ea_cons (ev_v (R := rA a9) rfl rfl) (ea_cons (ev_cls (K := K)) ea_nil)) (cb_isE T.ei_BadTree hc17 (fun u e => by cases e; rfl))) ea_nil))) (ea_cons (ev_tup2 (ea_cons (ev_s (l := [112, 108, 97, 99, 101]) (by decide +kernel) (by decide +kernel)) (ea_cons (ev_cb (ea_cons (ev_v (R := rA a9) rfl rfl) (ea_cons (ev_cls (K := K)) ea_nil)) (cb_isE T.ei_OutOfPlace hc18 (fun u e => by cases e; rfl))) ea_nil))) ea_nil)) (show (2 : Nat) ≤ limL by decide))) (o_catLO hc19)) hx20) fun p23 xs24 Fs21 s21 f22 => nx_of ?_)
    obtain ⟨c26, hc26, h⟩ := bsome h
    obtain ⟨c27, hc27, h⟩ := bsome h
    obtain ⟨x28, hx28, h⟩ := lt_e h
    refine sx_seq (sx_asgN (ev_isN (ev_opN (ev_o (R := (rT2 rS rB)) rfl (List.Mem.head _) f22) (ev_nspn (ev_lst (R := (rT2 rS rB)) (as := [([119, 105, 100, 116, 104], c26)]) (ea_cons (ev_tup2 (ea_cons (ev_s (l := [119, 105, 100, 116, 104]) (by decide +kernel) (by decide +kernel)) (ea_cons (ev_cb (ea_cons (ev_v (R := rA a9) rfl rfl) (ea_cons (ev_cls (K := K)) ea_nil)) (cb_isE T.ei_BadWidth hc26 (fun u e => by cases e; rfl))) ea_nil))) ea_nil) (show (1 : Nat) ≤ limL by decide))) (o_catLO hc27)) hx28) fun p31 xs32 Fs29 s29 f30 => nx_of ?_)
    refine sx_frzI (n := 0) rfl fun n34 => ?_
    obtain ⟨y46, hy46, h⟩ := bsome h
    obtain ⟨x47, hx47, h⟩ := lt_e h
    refine sx_seq (sx_asgN (ev_isN (ev_lc (R' := rS) hy46 (ei_list (ev_v (R := (rL (rT2 rS rB))) rfl (rp_frz n34 f30))) tg_2 (fun a35 σ9 F36 F37 ob ha9 e38 e39 ⟨v40, v42, zs, f41, f43⟩ hb44 => by
    subst zs
    by_cases z45 : a35.2 = true
    · have hb44 := cnd_t hb44 z45
      obtain rfl := Option.some.inj hb44
      exact ⟨rfl, et_is (et_B (ev_v (R := rB) rfl f43)) z45, fun b eb => by cases eb; exact (ev_v (R := rS) rfl f41)⟩
    · have z45 := Bool.eq_false_iff.mpr z45
      have hb44 := cnd_f hb44 z45
      obtain rfl := Option.some.inj hb44
      exact ⟨rfl, et_is (et_B (ev_v (R := rB) rfl f43)) z45, fun b eb => by cases eb⟩)) hx47) fun p50 xs51 Fs48 s48 f49 => nx_of ?_)
    obtain ⟨c53, hc53, h⟩ := bsome h
    obtain ⟨c54, hc54, h⟩ := bsome h
    obtain rfl := Option.some.inj h
    refine sx_retN (ev_opN (ev_o (R := rS) rfl (List.Mem.head _) f49) (ev_cb (ea_cons (ev_and (b := c53) (ev_op (ev_cb (ea_cons (ev_o (R := rS) rfl (List.Mem.head _) f49) ea_nil) b_lenL) ev_i o_eqI) (fun z => by
    have h' := cnd_t hc53 z
    obtain ⟨c52, hc52, h'⟩ := bsome h'
    exact ev_is (ev_cb (ea_cons (ev_v (R := rA a9) rfl rfl) (ea_cons ev_ty ea_nil)) (cb_isE T.ei_ValueError hc52 (fun u e => by cases e; rfl))) (Option.some.inj h')) (fun z => (Option.some.inj (cnd_f hc53 z)).symm)) ea_nil) b_intB) (o_repLO hc54)) fun p55 xs56 Fs57 s57 f58 => ?_
    exact rt_own k (List.Mem.head _) f58
/-! _law_odd -/
abbrev s__law_odd : Stmt := top 37
abbrev N__law_odd : List Str := ["_law_number", "_law_signs_here", "_law_code", "_law_strong", "_law_link", "_law_note", "_law_other", "_law_menu_here"]
theorem sc__law_odd : FnScope N__law_odd ["_law_number"] (defScope s__law_odd) := ⟨rfl, rfl, rfl, by decide +kernel, rfl, by decide +kernel, by decide +kernel⟩
def m__law_odd (x__law_number : Int) : Option (PyData) := lt ([(PyData.tuple [(encS [112, 108, 97, 105, 110]), (encS [])]), (PyData.tuple [(encS [112, 108, 97, 105, 110]), (encS [97, 32, 32, 98])]), (PyData.tuple [(encS [112, 108, 97, 105, 110]), (encS [97, 10, 98])]), (PyData.tuple [(encS [112, 108, 97, 105, 110]), (encS [97, 9, 98])]), (PyData.tuple [(encS [112, 108, 97, 105, 110]), (PyData.int (5 : Int))]), (PyData.tuple [(encS [112, 108, 97, 105, 110])])] : List (PyData)) fun x10 => lt ([(PyData.tuple [(encS [99, 111, 100, 101]), (encS [])]), (PyData.tuple [(encS [99, 111, 100, 101]), (encS [97, 96, 98])]), (PyData.tuple [(encS [99, 111, 100, 101]), ((fun (_ : Unit) => PyData.none) ())]), (PyData.tuple [(encS [99, 111, 100, 101]), (encS [32, 32])]), (PyData.tuple [(encS [99, 111, 100, 101]), (encC 97), (encC 98)])] : List (PyData)) fun x14 => lt ([(PyData.tuple [(encS [115, 116, 114, 111, 110, 103]), ((fun as => PyData.list (List.map id as)) ([] : List (PyData)))]), (PyData.tuple [(encS [115, 116, 114, 111, 110, 103]), ((fun as => PyData.list (List.map (fun (t : (List Nat × List ((List Nat × Nat)))) => PyData.tuple [encS t.1, (fun as => PyData.list (List.map (fun (t : (List Nat × Nat)) => PyData.tuple [encS t.1, encC t.2]) as)) t.2]) as)) ([([115, 116, 114, 111, 110, 103], ([([112, 108, 97, 105, 110], 97)] : List ((List Nat × Nat))))] : List ((List Nat × List ((List Nat × Nat))))))]), (PyData.tuple [(encS [115, 116, 114, 111, 110, 103]), (PyData.tuple [(PyData.tuple [(encS [112, 108, 97, 105, 110]), (encC 97)])])])] : List (PyData)) fun x18 => (catO x18 ([(PyData.tuple [(encS [115, 116, 114, 111, 110, 103]), ((fun as => PyData.list (List.map (fun (t : (List Nat × List Nat)) => PyData.tuple [encS t.1, encS t.2]) as)) ([([112, 108, 97, 105, 110], [])] : List ((List Nat × List Nat))))]), (PyData.tuple [(encS [115, 116, 114, 111, 110, 103]), ((fun as => PyData.list (List.map (fun (t : (List Nat × Nat)) => PyData.tuple [encS t.1, encC t.2]) as)) ([([112, 108, 97, 105, 110], 97), ([112, 108, 97, 105, 110], 98)] : List ((List Nat × Nat))))]), (PyData.tuple [(encS [115, 116, 114, 111, 110, 103]), (encC 97)])] : List (PyData))).bind fun c22 => lt c22 fun x23 => lt ([(PyData.tuple [(encS [108, 105, 110, 107]), (encS []), (encC 97)]), (PyData.tuple [(encS [108, 105, 110, 107]), (encC 97), (encC 66)]), (PyData.tuple [(encS [108, 105, 110, 107]), (encC 97), (encS [97, 32, 98])]), (PyData.tuple [(encS [108, 105, 110, 107]), (encC 97)]), (PyData.tuple [(encS [108, 105, 110, 107]), (encC 97), (PyData.int (5 : Int))])] : List (PyData)) fun x27 => lt ([(PyData.tuple [(encS [110, 111, 116, 101]), (encS [])]), (PyData.tuple [(encS [110, 111, 116, 101]), (encC 65)]), (PyData.tuple [(encS [110, 111, 116, 101]), (encS [97, 98, 99, 100, 101, 102, 103, 104, 105, 106, 107, 108, 109])]), (PyData.tuple [(encS [110, 111, 116, 101]), (encC 97), (encC 98)])] : List (PyData)) fun x31 => lt ([(PyData.tuple [(encS [111, 116, 104, 101, 114]), (encC 97)]), (PyData.tuple []), ((fun as => PyData.list (List.map encS as)) ([[112, 108, 97, 105, 110], [97]] : List (List Nat))), ((fun (_ : Unit) => PyData.none) ()), (encS [112, 108, 97, 105, 110]), (PyData.bool true), (PyData.tuple [(encS []), (encC 97)])] : List (PyData)) fun x35 => (modO x__law_number (6 : Int)).bind fun c39 => (ixO ([x10, x14, x23, x27, x31, x35] : List (List (PyData))) c39).bind fun c40 => lt c40 fun x41 => (divO x__law_number (6 : Int)).bind fun c45 => (modO c45 (x41.length : Int)).bind fun c46 => (ixO x41 c46).bind fun c47 => some c47
def P__law_odd (As : List Ar) (C : Ar) : Prop := ∃ (x__law_number : Int) (r : PyData), As = [val rInt x__law_number] ∧ m__law_odd x__law_number = some r ∧ C = val rD r
theorem ok__law_odd (T : Top n K mg) (D : Df K mg "_law_odd" s__law_odd)  : Cal P w K mg base 1 "_law_odd" ["_law_number"] (spG (P__law_odd)) := by
  have SC := sc__law_odd
  have h1n := T.one
  refine cal_of (N := N__law_odd) D SC (fun _ _ _ _ _ _ us hl => match us, hl with | [_], _ => rfl) (fun vs H Q E h => ?_) (fun f cdv A outer s H vs Q E hr h => ?_)
  · obtain ⟨F0, As, C, ⟨x__law_number, r, rfl, h, rfl⟩, e0, ha, k⟩ := h
    exact alla_len ha
  · obtain ⟨F0, As, C, ⟨x__law_number, r, rfl, h, rfl⟩, e0, ha, k⟩ := h
    obtain ⟨v__law_number, rfl, f__law_number⟩ := alla1 ha
    refine ⟨_, (pss_cons (ps_set (i := 1) SC.nd rfl (Or.inl rfl) (pe_lst (pa_cons (pe_tup (pa_cons pe_str (pa_cons pe_str pa_nil))) (pa_cons (pe_tup (pa_cons pe_str (pa_cons pe_str pa_nil))) (pa_cons (pe_tup (pa_cons pe_str (pa_cons pe_str pa_nil))) (pa_cons (pe_tup (pa_cons pe_str (pa_cons pe_str pa_nil))) (pa_cons (pe_tup (pa_cons pe_str (pa_cons pe_int pa_nil))) (pa_cons (pe_tup (pa_cons pe_str pa_nil)) pa_nil)))))))) (pss_cons (ps_set (i := 2) SC.nd rfl (Or.inl rfl) (pe_lst (pa_cons (pe_tup (pa_cons pe_str (pa_cons pe_str pa_nil))) (pa_cons (pe_tup (pa_cons pe_str (pa_cons pe_str pa_nil))) (pa_cons (pe_tup (pa_cons pe_str (pa_cons pe_non pa_nil))) (pa_cons (pe_tup (pa_cons pe_str (pa_cons pe_str pa_nil))) (pa_cons (pe_tup (pa_cons pe_str (pa_cons pe_str (pa_cons pe_str pa_nil)))) pa_nil))))))) (pss_cons (ps_set (i := 3) SC.nd rfl (Or.inl rfl) (pe_lst (pa_cons (pe_tup (pa_cons pe_str (pa_cons (pe_lst pa_nil) pa_nil))) (pa_cons (pe_tup (pa_cons pe_str (pa_cons (pe_lst (pa_cons (pe_tup (pa_cons pe_str (pa_cons (pe_lst (pa_cons (pe_tup (pa_cons pe_str (pa_cons pe_str pa_nil))) pa_nil)) pa_nil))) pa_nil)) pa_nil))) (pa_cons (pe_tup (pa_cons pe_str (pa_cons (pe_tup (pa_cons (pe_tup (pa_cons pe_str (pa_cons pe_str pa_nil))) pa_nil)) pa_nil))) pa_nil))))) (pss_cons (ps_set (i := 3) SC.nd rfl (Or.inl rfl) (pe_op op_cat (pv 3) (pe_lst (pa_cons (pe_tup (pa_cons pe_str (pa_cons (pe_lst (pa_cons (pe_tup (pa_cons pe_str (pa_cons pe_str pa_nil))) pa_nil)) pa_nil))) (pa_cons (pe_tup (pa_cons pe_str (pa_cons (pe_lst (pa_cons (pe_tup (pa_cons pe_str (pa_cons pe_str pa_nil))) (pa_cons (pe_tup (pa_cons pe_str (pa_cons pe_str pa_nil))) pa_nil))) pa_nil))) (pa_cons (pe_tup (pa_cons pe_str (pa_cons pe_str pa_nil))) pa_nil)))))) (pss_cons (ps_set (i := 4) SC.nd rfl (Or.inl rfl) (pe_lst (pa_cons (pe_tup (pa_cons pe_str (pa_cons pe_str (pa_cons pe_str pa_nil)))) (pa_cons (pe_tup (pa_cons pe_str (pa_cons pe_str (pa_cons pe_str pa_nil)))) (pa_cons (pe_tup (pa_cons pe_str (pa_cons pe_str (pa_cons pe_str pa_nil)))) (pa_cons (pe_tup (pa_cons pe_str (pa_cons pe_str pa_nil))) (pa_cons (pe_tup (pa_cons pe_str (pa_cons pe_str (pa_cons pe_int pa_nil)))) pa_nil))))))) (pss_cons (ps_set (i := 5) SC.nd rfl (Or.inl rfl) (pe_lst (pa_cons (pe_tup (pa_cons pe_str (pa_cons pe_str pa_nil))) (pa_cons (pe_tup (pa_cons pe_str (pa_cons pe_str pa_nil))) (pa_cons (pe_tup (pa_cons pe_str (pa_cons pe_str pa_nil))) (pa_cons (pe_tup (pa_cons pe_str (pa_cons pe_str (pa_cons pe_str pa_nil)))) pa_nil)))))) (pss_cons (ps_set (i := 6) SC.nd rfl (Or.inl rfl) (pe_lst (pa_cons (pe_tup (pa_cons pe_str (pa_cons pe_str pa_nil))) (pa_cons (pe_tup pa_nil) (pa_cons (pe_lst (pa_cons pe_str (pa_cons pe_str pa_nil))) (pa_cons pe_non (pa_cons pe_str (pa_cons pe_bl (pa_cons (pe_tup (pa_cons pe_str (pa_cons pe_str pa_nil))) pa_nil))))))))) (pss_cons (ps_set (i := 7) SC.nd rfl (Or.inl rfl) (pe_ix ix_list (pe_lst (pa_cons (pv 1) (pa_cons (pv 2) (pa_cons (pv 3) (pa_cons (pv 4) (pa_cons (pv 5) (pa_cons (pv 6) pa_nil))))))) (pe_op op_xMod (pv 0) pe_int) (fun _ _ => rfl))) (pss_one (ps_ret (pe_ix ix_list (pv 7) (pe_op op_xMod (pe_op op_xDiv (pv 0) pe_int) (pe_callB call_cLen (by rfl) T.b_len PySem.boot_len (pa_cons (pv 7) pa_nil))) (fun _ _ => rfl)))))))))))), ?_⟩
    refine (show Sx ⟨F0, H, none⟩ _ _ [some v__law_number, none, none, none, none, none, none, none] F0 [] from ?_) H (At.start e0)
    have f__law_number : (rInt).rp x__law_number v__law_number F0 := f__law_number
    obtain ⟨x10, hx10, h⟩ := lt_e h
    refine sx_seq (sx_asg (R := (rL rD)) (ev_is (ev_frz (ev_lst (R := rD) (as := [(PyData.tuple [(encS [112, 108, 97, 105, 110]), (encS [])]), (PyData.tuple [(encS [112, 108, 97, 105, 110]), (encS [97, 32, 32, 98])]), (PyData.tuple [(encS [112, 108, 97, 105, 110]), (encS [97, 10, 98])]), (PyData.tuple [(encS [112, 108, 97, 105, 110]), (encS [97, 9, 98])]), (PyData.tuple [(encS [112, 108, 97, 105, 110]), (PyData.int (5 : Int))]), (PyData.tuple [(encS [112, 108, 97, 105, 110])])]) (ea_cons (ev_tupD (ds := [(encS [112, 108, 97, 105, 110]), (encS [])]) (ea_cons (ev_d (a := [112, 108, 97, 105, 110]) eS (ev_s (l := [112, 108, 97, 105, 110]) (by decide +kernel) (by decide +kernel))) (ea_cons (ev_d (a := []) eS (ev_s (l := []) (by decide +kernel) (by decide +kernel))) ea_nil)) (show (2 : Nat) ≤ limL by decide)) (ea_cons (ev_tupD (ds := [(encS [112, 108, 97, 105, 110]), (encS [97, 32, 32, 98])]) (ea_cons (ev_d (a := [112, 108, 97, 105, 110]) eS (ev_s (l := [112, 108, 97, 105, 110]) (by decide +kernel) (by decide +kernel))) (ea_cons (ev_d (a := [97, 32, 32, 98]) eS (ev_s (l := [97, 32, 32, 98]) (by decide +kernel) (by decide +kernel))) ea_nil)) (show (2 : Nat) ≤ limL by decide)) (ea_cons (ev_tupD (ds := [(encS [112, 108, 97, 105, 110]), (encS [97, 10, 98])]) (ea_cons (ev_d (a := [112, 108, 97, 105, 110]) eS (ev_s (l := [112, 108, 97, 105, 110]) (by decide +kernel) (by decide +kernel))) (ea_cons (ev_d (a := [97, 10, 98]) eS (ev_s (l := [97, 10, 98]) (by decide +kernel) (by decide +kernel))) ea_nil)) (show (2 : Nat) ≤ limL by decide)) (ea_cons (ev_tupD (ds := [(encS [112, 108, 97, 105, 110]), (encS [97, 9, 98])]) (ea_cons (ev_d (a := [112, 108, 97, 105, 110]) eS (ev_s (l := [112, 108, 97, 105, 110]) (by decide +kernel) (by decide +kernel))) (ea_cons (ev_d (a := [97, 9, 98]) eS (ev_s (l := [97, 9, 98]) (by decide +kernel) (by decide +kernel))) ea_nil)) (show (2 : Nat) ≤ limL by decide)) (ea_cons (ev_tupD (ds := [(encS [112, 108, 97, 105, 110]), (PyData.int (5 : Int))]) (ea_cons (ev_d (a := [112, 108, 97, 105, 110]) eS (ev_s (l := [112, 108, 97, 105, 110]) (by decide +kernel) (by decide +kernel))) (ea_cons (ev_d (a := (5 : Int)) eI ev_i) ea_nil)) (show (2 : Nat) ≤ limL by decide)) (ea_cons (ev_tupD (ds := [(encS [112, 108, 97, 105, 110])]) (ea_cons (ev_d (a := [112, 108, 97, 105, 110]) eS (ev_s (l := [112, 108, 97, 105, 110]) (by decide +kernel) (by decide +kernel))) ea_nil) (show (1 : Nat) ≤ limL by decide)) ea_nil)))))) (show (6 : Nat) ≤ limL by decide))) hx10) fun v13 Fs11 s11 f12 => nx_of ?_)
    obtain ⟨x14, hx14, h⟩ := lt_e h
    refine sx_seq (sx_asg (R := (rL rD)) (ev_is (ev_frz (ev_lst (R := rD) (as := [(PyData.tuple [(encS [99, 111, 100, 101]), (encS [])]), (PyData.tuple [(encS [99, 111, 100, 101]), (encS [97, 96, 98])]), (PyData.tuple [(encS [99, 111, 100, 101]), ((fun (_ : Unit) => PyData.none) ())]), (PyData.tuple [(encS [99, 111, 100, 101]), (encS [32, 32])]), (PyData.tuple [(encS [99, 111, 100, 101]), (encC 97), (encC 98)])]) (ea_cons (ev_tupD (ds := [(encS [99, 111, 100, 101]), (encS [])]) (ea_cons (ev_d (a := [99, 111, 100, 101]) eS (ev_s (l := [99, 111, 100, 101]) (by decide +kernel) (by decide +kernel))) (ea_cons (ev_d (a := []) eS (ev_s (l := []) (by decide +kernel) (by decide +kernel))) ea_nil)) (show (2 : Nat) ≤ limL by decide)) (ea_cons (ev_tupD (ds := [(encS [99, 111, 100, 101]), (encS [97, 96, 98])]) (ea_cons (ev_d (a := [99, 111, 100, 101]) eS (ev_s (l := [99, 111, 100, 101]) (by decide +kernel) (by decide +kernel))) (ea_cons (ev_d (a := [97, 96, 98]) eS (ev_s (l := [97, 96, 98]) (by decide +kernel) (by decide +kernel))) ea_nil)) (show (2 : Nat) ≤ limL by decide)) (ea_cons (ev_tupD (ds := [(encS [99, 111, 100, 101]), ((fun (_ : Unit) => PyData.none) ())]) (ea_cons (ev_d (a := [99, 111, 100, 101]) eS (ev_s (l := [99, 111, 100, 101]) (by decide +kernel) (by decide +kernel))) (ea_cons (ev_d (a := ()) eN ev_n) ea_nil)) (show (2 : Nat) ≤ limL by decide)) (ea_cons (ev_tupD (ds := [(encS [99, 111, 100, 101]), (encS [32, 32])]) (ea_cons (ev_d (a := [99, 111, 100, 101]) eS (ev_s (l := [99, 111, 100, 101]) (by decide +kernel) (by decide +kernel))) (ea_cons (ev_d (a := [32, 32]) eS (ev_s (l := [32, 32]) (by decide +kernel) (by decide +kernel))) ea_nil)) (show (2 : Nat) ≤ limL by decide)) (ea_cons (ev_tupD (ds := [(encS [99, 111, 100, 101]), (encC 97), (encC 98)]) (ea_cons (ev_d (a := [99, 111, 100, 101]) eS (ev_s (l := [99, 111, 100, 101]) (by decide +kernel) (by decide +kernel))) (ea_cons (ev_d (a := 97) eC (ev_ch (c := 97) (by decide +kernel) (by decide))) (ea_cons (ev_d (a := 98) eC (ev_ch (c := 98) (by decide +kernel) (by decide))) ea_nil))) (show (3 : Nat) ≤ limL by decide)) ea_nil))))) (show (5 : Nat) ≤ limL by decide))) hx14) fun v17 Fs15 s15 f16 => nx_of ?_)
    refine sx_so (σ2 := [some v__law_number, some v13, some v17, none, none, none, none, none]) (O2 := []) rfl rfl ?_
    obtain ⟨x18, hx18, h⟩ := lt_e h
    refine sx_seq (sx_asg (R := (rL rD)) (ev_is (ev_frz (ev_lst (R := rD) (as := [(PyData.tuple [(encS [115, 116, 114, 111, 110, 103]), ((fun as => PyData.list (List.map id as)) ([] : List (PyData)))]), (PyData.tuple [(encS [115, 116, 114, 111, 110, 103]), ((fun as => PyData.list (List.map (fun (t : (List Nat × List ((List Nat × Nat)))) => PyData.tuple [encS t.1, (fun as => PyData.list (List.map (fun (t : (List Nat × Nat)) => PyData.tuple [encS t.1, encC t.2]) as)) t.2]) as)) ([([115, 116, 114, 111, 110, 103], ([([112, 108, 97, 105, 110], 97)] : List ((List Nat × Nat))))] : List ((List Nat × List ((List Nat × Nat))))))]), (PyData.tuple [(encS [115, 116, 114, 111, 110, 103]), (PyData.tuple [(PyData.tuple [(encS [112, 108, 97, 105, 110]), (encC 97)])])])]) (ea_cons (ev_tupD (ds := [(encS [115, 116, 114, 111, 110, 103]), ((fun as => PyData.list (List.map id as)) ([] : List (PyData)))]) (ea_cons (ev_d (a := [115, 116, 114, 111, 110, 103]) eS (ev_s (l := [115, 116, 114, 111, 110, 103]) (by decide +kernel) (by decide +kernel))) (ea_cons (ev_d (a := ([] : List (PyData))) (f := (fun as => PyData.list (List.map id as))) (eL eD) (ev_frz (ev_lst (R := rD) (as := []) ea_nil (show (0 : Nat) ≤ limL by decide)))) ea_nil)) (show (2 : Nat) ≤ limL by decide)) (ea_cons (ev_tupD (ds := [(encS [115, 116, 114, 111, 110, 103]), ((fun as => PyData.list (List.map (fun (t : (List Nat × List ((List Nat × Nat)))) => PyData.tuple [encS t.1, (fun as => PyData.list (List.map (fun (t : (List Nat × Nat)) => PyData.tuple [encS t.1, encC t.2]) as)) t.2]) as)) ([([115, 116, 114, 111, 110, 103], ([([112, 108, 97, 105, 110], 97)] : List ((List Nat × Nat))))] : List ((List Nat × List ((List Nat × Nat))))))]) (ea_cons (ev_d (a := [115, 116, 114, 111, 110, 103]) eS (ev_s (l := [115, 116, 114, 111, 110, 103]) (by decide +kernel) (by decide +kernel))) (ea_cons (ev_d (a := ([([115, 116, 114, 111, 110, 103], ([([112, 108, 97, 105, 110], 97)] : List ((List Nat × Nat))))] : List ((List Nat × List ((List Nat × Nat)))))) (f := (fun as => PyData.list (List.map (fun (t : (List Nat × List ((List Nat × Nat)))) => PyData.tuple [encS t.1, (fun as => PyData.list (List.map (fun (t : (List Nat × Nat)) => PyData.tuple [encS t.1, encC t.2]) as)) t.2]) as))) (eL (eT2 eS (eL (eT2 eS eC)))) (ev_frz (ev_lst (R := (rT2 rS (rL (rT2 rS rC)))) (as := [([115, 116, 114, 111, 110, 103], ([([112, 108, 97, 105, 110], 97)] : List ((List Nat × Nat))))]) (ea_cons (ev_tup2 (ea_cons (ev_s (l := [115, 116, 114, 111, 110, 103]) (by decide +kernel) (by decide +kernel)) (ea_cons (ev_frz (ev_lst (R := (rT2 rS rC)) (as := [([112, 108, 97, 105, 110], 97)]) (ea_cons (ev_tup2 (ea_cons (ev_s (l := [112, 108, 97, 105, 110]) (by decide +kernel) (by decide +kernel)) (ea_cons (ev_ch (c := 97) (by decide +kernel) (by decide)) ea_nil))) ea_nil) (show (1 : Nat) ≤ limL by decide))) ea_nil))) ea_nil) (show (1 : Nat) ≤ limL by decide)))) ea_nil)) (show (2 : Nat) ≤ limL by decide)) (ea_cons (ev_tupD (ds := [(encS [115, 116, 114, 111, 110, 103]), (PyData.tuple [(PyData.tuple [(encS [112, 108, 97, 105, 110]), (encC 97)])])]) (ea_cons (ev_d (a := [115, 116, 114, 111, 110, 103]) eS (ev_s (l := [115, 116, 114, 111, 110, 103]) (by decide +kernel) (by decide +kernel))) (ea_cons (ev_tupD (ds := [(PyData.tuple [(encS [112, 108, 97, 105, 110]), (encC 97)])]) (ea_cons (ev_tupD (ds := [(encS [112, 108, 97, 105, 110]), (encC 97)]) (ea_cons (ev_d (a := [112, 108, 97, 105, 110]) eS (ev_s (l := [112, 108, 97, 105, 110]) (by decide +kernel) (by decide +kernel))) (ea_cons (ev_d (a := 97) eC (ev_ch (c := 97) (by decide +kernel) (by decide))) ea_nil)) (show (2 : Nat) ≤ limL by decide)) ea_nil) (show (1 : Nat) ≤ limL by decide)) ea_nil)) (show (2 : Nat) ≤ limL by decide)) ea_nil))) (show (3 : Nat) ≤ limL by decide))) hx18) fun v21 Fs19 s19 f20 => nx_of ?_)
    obtain ⟨c22, hc22, h⟩ := bsome h
    obtain ⟨x23, hx23, h⟩ := lt_e h
    refine sx_seq (sx_asg (R := (rL rD)) (ev_is (ev_frz (ev_opN (ev_spn (ev_v (R := (rL rD)) rfl f20)) (ev_nspn (ev_lst (R := rD) (as := [(PyData.tuple [(encS [115, 116, 114, 111, 110, 103]), ((fun as => PyData.list (List.map (fun (t : (List Nat × List Nat)) => PyData.tuple [encS t.1, encS t.2]) as)) ([([112, 108, 97, 105, 110], [])] : List ((List Nat × List Nat))))]), (PyData.tuple [(encS [115, 116, 114, 111, 110, 103]), ((fun as => PyData.list (List.map (fun (t : (List Nat × Nat)) => PyData.tuple [encS t.1, encC t.2]) as)) ([([112, 108, 97, 105, 110], 97), ([112, 108, 97, 105, 110], 98)] : List ((List Nat × Nat))))]), (PyData.tuple [(encS [115, 116, 114, 111, 110, 103]), (encC 97)])]) (ea_cons (ev_tupD (ds := [(encS [115, 116, 114, 111, 110, 103]), ((fun as => PyData.list (List.map (fun (t : (List Nat × List Nat)) => PyData.tuple [encS t.1, encS t.2]) as)) ([([112, 108, 97, 105, 110], [])] : List ((List Nat × List Nat))))]) (ea_cons (ev_d (a := [115, 116, 114, 111, 110, 103]) eS (ev_s (l := [115, 116, 114, 111, 110, 103]) (by decide +kernel) (by decide +kernel))) (ea_cons (ev_d (a := ([([112, 108, 97, 105, 110], [])] : List ((List Nat × List Nat)))) (f := (fun as => PyData.list (List.map (fun (t : (List Nat × List Nat)) => PyData.tuple [encS t.1, encS t.2]) as))) (eL (eT2 eS eS)) (ev_frz (ev_lst (R := (rT2 rS rS)) (as := [([112, 108, 97, 105, 110], [])]) (ea_cons (ev_tup2 (ea_cons (ev_s (l := [112, 108, 97, 105, 110]) (by decide +kernel) (by decide +kernel)) (ea_cons (ev_s (l := []) (by decide +kernel) (by decide +kernel)) ea_nil))) ea_nil) (show (1 : Nat) ≤ limL by decide)))) ea_nil)) (show (2 : Nat) ≤ limL by decide)) (ea_cons (ev_tupD (ds := [(encS [115, 116, 114, 111, 110, 103]), ((fun as => PyData.list (List.map (fun (t : (List Nat × Nat)) => PyData.tuple [encS t.1, encC t.2]) as)) ([([112, 108, 97, 105, 110], 97), ([112, 108, 97, 105, 110], 98)] : List ((List Nat × Nat))))]) (ea_cons (ev_d (a := [115, 116, 114, 111, 110, 103]) eS (ev_s (l := [115, 116, 114, 111, 110, 103]) (by decide +kernel) (by decide +kernel))) (ea_cons (ev_d (a := ([([112, 108, 97, 105, 110], 97), ([112, 108, 97, 105, 110], 98)] : List ((List Nat × Nat)))) (f := (fun as => PyData.list (List.map (fun (t : (List Nat × Nat)) => PyData.tuple [encS t.1, encC t.2]) as))) (eL (eT2 eS eC)) (ev_frz (ev_lst (R := (rT2 rS rC)) (as := [([112, 108, 97, 105, 110], 97), ([112, 108, 97, 105, 110], 98)]) (ea_cons (ev_tup2 (ea_cons (ev_s (l := [112, 108, 97, 105, 110]) (by decide +kernel) (by decide +kernel)) (ea_cons (ev_ch (c := 97) (by decide +kernel) (by decide)) ea_nil))) (ea_cons (ev_tup2 (ea_cons (ev_s (l := [112, 108, 97, 105, 110]) (by decide +kernel) (by decide +kernel)) (ea_cons (ev_ch (c := 98) (by decide +kernel) (by decide)) ea_nil))) ea_nil)) (show (2 : Nat) ≤ limL by decide)))) ea_nil)) (show (2 : Nat) ≤ limL by decide)) (ea_cons (ev_tupD (ds := [(encS [115, 116, 114, 111, 110, 103]), (encC 97)]) (ea_cons (ev_d (a := [115, 116, 114, 111, 110, 103]) eS (ev_s (l := [115, 116, 114, 111, 110, 103]) (by decide +kernel) (by decide +kernel))) (ea_cons (ev_d (a := 97) eC (ev_ch (c := 97) (by decide +kernel) (by decide))) ea_nil)) (show (2 : Nat) ≤ limL by decide)) ea_nil))) (show (3 : Nat) ≤ limL by decide))) (o_catLO hc22))) hx23) fun v26 Fs24 s24 f25 => nx_of ?_)
    obtain ⟨x27, hx27, h⟩ := lt_e h
    refine sx_seq (sx_asg (R := (rL rD)) (ev_is (ev_frz (ev_lst (R := rD) (as := [(PyData.tuple [(encS [108, 105, 110, 107]), (encS []), (encC 97)]), (PyData.tuple [(encS [108, 105, 110, 107]), (encC 97), (encC 66)]), (PyData.tuple [(encS [108, 105, 110, 107]), (encC 97), (encS [97, 32, 98])]), (PyData.tuple [(encS [108, 105, 110, 107]), (encC 97)]), (PyData.tuple [(encS [108, 105, 110, 107]), (encC 97), (PyData.int (5 : Int))])]) (ea_cons (ev_tupD (ds := [(encS [108, 105, 110, 107]), (encS []), (encC 97)]) (ea_cons (ev_d (a := [108, 105, 110, 107]) eS (ev_s (l := [108, 105, 110, 107]) (by decide +kernel) (by decide +kernel))) (ea_cons (ev_d (a := []) eS (ev_s (l := []) (by decide +kernel) (by decide +kernel))) (ea_cons (ev_d (a := 97) eC (ev_ch (c := 97) (by decide +kernel) (by decide))) ea_nil))) (show (3 : Nat) ≤ limL by decide)) (ea_cons (ev_tupD (ds := [(encS [108, 105, 110, 107]), (encC 97), (encC 66)]) (ea_cons (ev_d (a := [108, 105, 110, 107]) eS (ev_s (l := [108, 105, 110, 107]) (by decide +kernel) (by decide +kernel))) (ea_cons (ev_d (a := 97) eC (ev_ch (c := 97) (by decide +kernel) (by decide))) (ea_cons (ev_d (a := 66) eC (ev_ch (c := 66) (by decide +kernel) (by decide))) ea_nil))) (show (3 : Nat) ≤ limL by decide)) (ea_cons (ev_tupD (ds := [(encS [108, 105, 110, 107]), (encC 97), (encS [97, 32, 98])]) (ea_cons (ev_d (a := [108, 105, 110, 107]) eS (ev_s (l := [108, 105, 110, 107]) (by decide +kernel) (by decide +kernel))) (ea_cons (ev_d (a := 97) eC (ev_ch (c := 97) (by decide +kernel) (by decide))) (ea_cons (ev_d (a := [97, 32, 98]) eS (ev_s (l := [97, 32, 98]) (by decide +kernel) (by decide +kernel))) ea_nil))) (show (3 : Nat) ≤ limL by decide)) (ea_cons (ev_tupD (ds := [(encS [108, 105, 110, 107]), (encC 97)]) (ea_cons (ev_d (a := [108, 105, 110, 107]) eS (ev_s (l := [108, 105, 110, 107]) (by decide +kernel) (by decide +kernel))) (ea_cons (ev_d (a := 97) eC (ev_ch (c := 97) (by decide +kernel) (by decide))) ea_nil)) (show (2 : Nat) ≤ limL by decide)) (ea_cons (ev_tupD (ds := [(encS [108, 105, 110, 107]), (encC 97), (PyData.int (5 : Int))]) (ea_cons (ev_d (a := [108, 105, 110, 107]) eS (ev_s (l := [108, 105, 110, 107]) (by decide +kernel) (by decide +kernel))) (ea_cons (ev_d (a := 97) eC (ev_ch (c := 97) (by decide +kernel) (by decide))) (ea_cons (ev_d (a := (5 : Int)) eI ev_i) ea_nil))) (show (3 : Nat) ≤ limL by decide)) ea_nil))))) (show (5 : Nat) ≤ limL by decide))) hx27) fun v30 Fs28 s28 f29 => nx_of ?_)
    refine sx_so (σ2 := [some v__law_number, some v13, some v17, some v26, some v30, none, none, none]) (O2 := []) rfl rfl ?_
    obtain ⟨x31, hx31, h⟩ := lt_e h
    refine sx_seq (sx_asg (R := (rL rD)) (ev_is (ev_frz (ev_lst (R := rD) (as := [(PyData.tuple [(encS [110, 111, 116, 101]), (encS [])]), (PyData.tuple [(encS [110, 111, 116, 101]), (encC 65)]), (PyData.tuple [(encS [110, 111, 116, 101]), (encS [97, 98, 99, 100, 101, 102, 103, 104, 105, 106, 107, 108, 109])]), (PyData.tuple [(encS [110, 111, 116, 101]), (encC 97), (encC 98)])]) (ea_cons (ev_tupD (ds := [(encS [110, 111, 116, 101]), (encS [])]) (ea_cons (ev_d (a := [110, 111, 116, 101]) eS (ev_s (l := [110, 111, 116, 101]) (by decide +kernel) (by decide +kernel))) (ea_cons (ev_d (a := []) eS (ev_s (l := []) (by decide +kernel) (by decide +kernel))) ea_nil)) (show (2 : Nat) ≤ limL by decide)) (ea_cons (ev_tupD (ds := [(encS [110, 111, 116, 101]), (encC 65)]) (ea_cons (ev_d (a := [110, 111, 116, 101]) eS (ev_s (l := [110, 111, 116, 101]) (by decide +kernel) (by decide +kernel))) (ea_cons (ev_d (a := 65) eC (ev_ch (c := 65) (by decide +kernel) (by decide))) ea_nil)) (show (2 : Nat) ≤ limL by decide)) (ea_cons (ev_tupD (ds := [(encS [110, 111, 116, 101]), (encS [97, 98, 99, 100, 101, 102, 103, 104, 105, 106, 107, 108, 109])]) (ea_cons (ev_d (a := [110, 111, 116, 101]) eS (ev_s (l := [110, 111, 116, 101]) (by decide +kernel) (by decide +kernel))) (ea_cons (ev_d (a := [97, 98, 99, 100, 101, 102, 103, 104, 105, 106, 107, 108, 109]) eS (ev_s (l := [97, 98, 99, 100, 101, 102, 103, 104, 105, 106, 107, 108, 109]) (by decide +kernel) (by decide +kernel))) ea_nil)) (show (2 : Nat) ≤ limL by decide)) (ea_cons (ev_tupD (ds := [(encS [110, 111, 116, 101]), (encC 97), (encC 98)]) (ea_cons (ev_d (a := [110, 111, 116, 101]) eS (ev_s (l := [110, 111, 116, 101]) (by decide +kernel) (by decide +kernel))) (ea_cons (ev_d (a := 97) eC (ev_ch (c := 97) (by decide +kernel) (by decide))) (ea_cons (ev_d (a := 98) eC (ev_ch (c := 98) (by decide +kernel) (by decide))) ea_nil))) (show (3 : Nat) ≤ limL by decide)) ea_nil)))) (show (4 : Nat) ≤ limL by decide))) hx31) fun v34 Fs32 s32 f33 => nx_of ?_)
    obtain ⟨x35, hx35, h⟩ := lt_e h
    refine sx_seq (sx_asg (R := (rL rD)) (ev_is (ev_frz (ev_lst (R := rD) (as := [(PyData.tuple [(encS [111, 116, 104, 101, 114]), (encC 97)]), (PyData.tuple []), ((fun as => PyData.list (List.map encS as)) ([[112, 108, 97, 105, 110], [97]] : List (List Nat))), ((fun (_ : Unit) => PyData.none) ()), (encS [112, 108, 97, 105, 110]), (PyData.bool true), (PyData.tuple [(encS []), (encC 97)])]) (ea_cons (ev_tupD (ds := [(encS [111, 116, 104, 101, 114]), (encC 97)]) (ea_cons (ev_d (a := [111, 116, 104, 101, 114]) eS (ev_s (l := [111, 116, 104, 101, 114]) (by decide +kernel) (by decide +kernel))) (ea_cons (ev_d (a := 97) eC (ev_ch (c := 97) (by decide +kernel) (by decide))) ea_nil)) (show (2 : Nat) ≤ limL by decide)) (ea_cons (ev_tupD (ds := []) ea_nil (show (0 : Nat) ≤ limL by decide)) (ea_cons (ev_d (a := ([[112, 108, 97, 105, 110], [97]] : List (List Nat))) (f := (fun as => PyData.list (List.map encS as))) (eL eS) (ev_frz (ev_lst (R := rS) (as := [[112, 108, 97, 105, 110], [97]]) (ea_cons (ev_s (l := [112, 108, 97, 105, 110]) (by decide +kernel) (by decide +kernel)) (ea_cons (ev_cs (ev_ch (c := 97) (by decide +kernel) (by decide))) ea_nil)) (show (2 : Nat) ≤ limL by decide)))) (ea_cons (ev_d (a := ()) eN ev_n) (ea_cons (ev_d (a := [112, 108, 97, 105, 110]) eS (ev_s (l := [112, 108, 97, 105, 110]) (by decide +kernel) (by decide +kernel))) (ea_cons (ev_d (a := true) eB ev_b) (ea_cons (ev_tupD (ds := [(encS []), (encC 97)]) (ea_cons (ev_d (a := []) eS (ev_s (l := []) (by decide +kernel) (by decide +kernel))) (ea_cons (ev_d (a := 97) eC (ev_ch (c := 97) (by decide +kernel) (by decide))) ea_nil)) (show (2 : Nat) ≤ limL by decide)) ea_nil))))))) (show (7 : Nat) ≤ limL by decide))) hx35) fun v38 Fs36 s36 f37 => nx_of ?_)
    refine sx_so (σ2 := [some v__law_number, some v13, some v17, some v26, some v30, some v34, some v38, none]) (O2 := []) rfl rfl ?_
    obtain ⟨c39, hc39, h⟩ := bsome h
    obtain ⟨c40, hc40, h⟩ := bsome h
    obtain ⟨x41, hx41, h⟩ := lt_e h
    refine sx_seq (sx_asg (R := (rL rD)) (ev_is (ev_op (ev_nspn (ev_lst (R := (rL rD)) (as := [x10, x14, x23, x27, x31, x35]) (ea_cons (ev_v (R := (rL rD)) rfl (Rep.mono (rL rD) (((((s15.trans s19).trans s24).trans s28).trans s32).trans s36) f12)) (ea_cons (ev_v (R := (rL rD)) rfl (Rep.mono (rL rD) ((((s19.trans s24).trans s28).trans s32).trans s36) f16)) (ea_cons (ev_v (R := (rL rD)) rfl (Rep.mono (rL rD) ((s28.trans s32).trans s36) f25)) (ea_cons (ev_v (R := (rL rD)) rfl (Rep.mono (rL rD) (s32.trans s36) f29)) (ea_cons (ev_v (R := (rL rD)) rfl (Rep.mono (rL rD) s36 f33)) (ea_cons (ev_v (R := (rL rD)) rfl f37) ea_nil)))))) (show (6 : Nat) ≤ limL by decide))) (ev_op (ev_v (R := rInt) rfl (Rep.mono rInt ((((((s11.trans s15).trans s19).trans s24).trans s28).trans s32).trans s36) f__law_number)) ev_i (o_modO hc39)) (o_ixL hc40)) hx41) fun v44 Fs42 s42 f43 => nx_of ?_)
    obtain ⟨c45, hc45, h⟩ := bsome h
    obtain ⟨c46, hc46, h⟩ := bsome h
    obtain ⟨c47, hc47, h⟩ := bsome h
    obtain rfl := Option.some.inj h
    refine sx_ret (R := rD) (ev_op (ev_spn (ev_v (R := (rL rD)) rfl f43)) (ev_op (ev_op (ev_v (R := rInt) rfl (Rep.mono rInt (((((((s11.trans s15).trans s19).trans s24).trans s28).trans s32).trans s36).trans s42) f__law_number)) ev_i (o_divO hc45)) (ev_cb (ea_cons (ev_spn (ev_v (R := (rL rD)) rfl f43)) ea_nil) b_lenL) (o_modO hc46)) (o_ixL hc47)) fun v48 Fs49 s49 f50 => ?_
    exact rt_val k (fun _ => f50)
/-! _law_told -/
abbrev s__law_told : Stmt := top 38
abbrev N__law_told : List Str := ["_law_thing", "_law_error"]
theorem sc__law_told : FnScope N__law_told ["_law_thing"] (defScope s__law_told) := ⟨rfl, rfl, rfl, by decide +kernel, rfl, by decide +kernel, by decide +kernel⟩
def m__law_told (x__law_thing : PyData) : Option (PyData) := (m_need_parts (x__law_thing)).bind fun r10 => exT r10 (fun a11 => (m_told_parts (a11)).bind fun r17 => some (PyData.list r17)) (fun c9 => (cat_MarkError.lookup c9).bind fun b9 => cnd b9 ((m__law_kind c9).bind fun r21 => some (PyData.tuple [(encS [114, 101, 102, 117, 115, 101, 100]), (PyData.list (List.map encS r21))])) none)
def P__law_told (As : List Ar) (r : PyData) : Prop := ∃ (x__law_thing : PyData), As = [val rD x__law_thing] ∧ m__law_told x__law_thing = some r
theorem ok__law_told (T : Top n K mg) (D : Df K mg "_law_told" s__law_told) (G_need_parts : CalX P w K mg base 9 "need_parts" ["told"] (spX K (rL (rX K)) (P_need_parts K))) (G_told_parts : Cal P w K mg base 7 "told_parts" ["parts"] (spFN (P_told_parts K))) (G__law_kind : CalE P w K mg base 1 "_law_kind" ["_law_error"] (spK K rS P__law_kind)) : Cal P w K mg base 10 "_law_told" ["_law_thing"] (spF (P__law_told)) := by
  have SC := sc__law_told
  have h1n := T.one
  refine cal_of (N := N__law_told) D SC (fun _ _ _ _ _ _ us hl => match us, hl with | [_], _ => rfl) (fun vs H Q E h => ?_) (fun f cdv A outer s H vs Q E hr h => ?_)
  · obtain ⟨F0, As, r, ⟨x__law_thing, rfl, h⟩, e0, ha, k⟩ := h
    exact alla_len ha
  · obtain ⟨F0, As, r, ⟨x__law_thing, rfl, h⟩, e0, ha, k⟩ := h
    obtain ⟨v__law_thing, rfl, f__law_thing⟩ := alla1 ha
    refine ⟨_, (pss_one (ps_try (i := 1) rfl rfl rfl SC.nd rfl rfl T.ca_MarkError rfl (fun W9 pn9 xe9 tk9 po9 => (pss_one (ps_ret (pe_cal G_told_parts (hr.mono (by decide)) rfl (pa_cons (pe_calX G_need_parts tk9 (hr.mono (by decide)) rfl (pa_cons (pv 0) pa_nil)) pa_nil))))) (fun a9 oe9 cls9 dx9 pn9 hz9 hd9 => (pss_one (ps_ret (pe_tup (pa_cons pe_str (pa_cons (pe_kind G__law_kind (hr.mono (by decide)) rfl hz9 hd9 (pv 1)) pa_nil)))))))), ?_⟩
    refine (show Sx ⟨F0, H, none⟩ _ _ [some v__law_thing, none] F0 [] from ?_) H (At.start e0)
    have f__law_thing : (rD).rp x__law_thing v__law_thing F0 := f__law_thing
    refine sx_try ?_
    obtain ⟨r10, hr10, h⟩ := bsome h
    refine sx_hole (K := K) (tS := fun t8 => tRet ((tCall _ [] _ (tCons t8 tNil)))) (fun _ _ _ _ => rfl) (evX_call (P := P_need_parts K) (ea_cons (ev_v (R := rD) rfl f__law_thing) ea_nil) ⟨_, rfl, hr10⟩) (fun a11 ea12 t13 Fs15 s15 h14 => ?_) (fun c9 h9 Fs16 s16 => ?_)
    · have h := exT_ok h ea12
      obtain ⟨r17, hr17, h⟩ := bsome h
      obtain rfl := Option.some.inj h
      refine sx_ret (R := (rDf F0)) (evF_newF (B := F0) s15 (ev_callFN (P := P_told_parts K) s15 (ea_cons h14 ea_nil) ⟨_, rfl, hr17⟩)) fun v18 Fs19 s19 f20 => ?_
      exact rt_val k (fun _ => f20)
    · have h9 := exT_er h h9
      try dsimp only at h9
      obtain ⟨b9, hl9, h9⟩ := bsome h9
      cases b9 with
      | false => cases h9
      | true =>
        have h9 := cnd_t h9 rfl
        refine xt_as (T.ca_MarkError.to hl9) fun a9 => ?_
        refine sx_so (σ2 := [some v__law_thing, some (.ref a9)]) (O2 := []) rfl rfl ?_
        obtain ⟨r21, hr21, h9⟩ := bsome h9
        obtain rfl := Option.some.inj h9
        refine sx_ret (R := (rDf F0)) (evF_tup (B := F0) (ds := [(encS [114, 101, 102, 117, 115, 101, 100]), (PyData.list (List.map encS r21))]) (ea_cons (evF_s (B := F0) (d := (encS [114, 101, 102, 117, 115, 101, 100])) (by rfl) (ev_d (a := [114, 101, 102, 117, 115, 101, 100]) eS (ev_s (l := [114, 101, 102, 117, 115, 101, 100]) (by decide +kernel) (by decide +kernel)))) (ea_cons (evF_new (B := F0) s16 (evN_kind (P := P__law_kind) (T.ca_MarkError.ec hl9) rfl hr21)) ea_nil)) (show (2 : Nat) ≤ limL by decide)) fun v22 Fs23 s23 f24 => ?_
        exact rt_gone (rt_val k (fun _ => f24))
/-! _law_wrong -/
abbrev s__law_wrong : Stmt := top 39
abbrev N__law_wrong : List Str := ["_law_due", "_law_number", "_law_way", "_law_more", "_law_at"]
theorem sc__law_wrong : FnScope N__law_wrong ["_law_due", "_law_number"] (defScope s__law_wrong) := ⟨rfl, rfl, rfl, by decide +kernel, rfl, by decide +kernel, by decide +kernel⟩
def m__law_wrong (x__law_due : List (PyData)) (x__law_number : Int) : Option (List (PyData)) := (modO x__law_number (6 : Int)).bind fun c10 => lt c10 fun x11 => (divO x__law_number (6 : Int)).bind fun c15 => lt c15 fun x16 => (modO x16 (x__law_due.length : Int)).bind fun c20 => lt c20 fun x21 => cnd (decide (x11 < (2 : Int))) ((divO x16 (20 : Int)).bind fun c28 => (m__law_odd (c28)).bind fun r29 => (catO (cutL x__law_due none (some x21)) ([r29] : List (PyData))).bind fun c30 => (catO c30 (cutL x__law_due (some (x21 + x11)) none)).bind fun c31 => some c31) (cnd (decide (x11 = (2 : Int))) ((divO x16 (20 : Int)).bind fun c39 => (m__law_odd (c39)).bind fun r40 => (catO (cutL x__law_due none (some x21)) ([(PyData.tuple [(encS [115, 116, 114, 111, 110, 103]), ((fun as => PyData.list (List.map id as)) ([((fun (t : (List Nat × Nat)) => PyData.tuple [encS t.1, encC t.2]) ([99, 111, 100, 101], 97)), r40, ((fun (t : (List Nat × Nat)) => PyData.tuple [encS t.1, encC t.2]) ([99, 111, 100, 101], 98))] : List (PyData)))])] : List (PyData))).bind fun c41 => (catO c41 (cutL x__law_due (some x21) none)).bind fun c42 => some c42) (cnd (decide (x11 = (3 : Int))) ((catO (cutL x__law_due none (some x21)) ([(PyData.tuple [(encS [112, 108, 97, 105, 110]), (encC 97)]), (PyData.tuple [(encS [112, 108, 97, 105, 110]), (encC 98)])] : List (PyData))).bind fun c50 => (catO c50 (cutL x__law_due (some x21) none)).bind fun c51 => some c51) (cnd (decide (x11 = (4 : Int))) ((catO ([(PyData.tuple [(encS [112, 108, 97, 105, 110]), (encS [32, 97])]), (PyData.tuple [(encS [99, 111, 100, 101]), (encC 98)])] : List (PyData)) x__law_due).bind fun c59 => some c59) ((catO x__law_due ([(PyData.tuple [(encS [99, 111, 100, 101]), (encC 98)]), (PyData.tuple [(encS [112, 108, 97, 105, 110]), (encS [97, 32])])] : List (PyData))).bind fun c64 => some c64))))
def P__law_wrong (As : List Ar) (r : List (PyData)) : Prop := ∃ (x__law_due : List (PyData)) (x__law_number : Int), As = [val (rL rD) x__law_due, val rInt x__law_number] ∧ m__law_wrong x__law_due x__law_number = some r
theorem ok__law_wrong (T : Top n K mg) (D : Df K mg "_law_wrong" s__law_wrong) (G__law_odd : Cal P w K mg base 1 "_law_odd" ["_law_number"] (spG (P__law_odd))) : Cal P w K mg base 2 "_law_wrong" ["_law_due", "_law_number"] (spN rD (P__law_wrong)) := by
  have SC := sc__law_wrong
  have h1n := T.one
  refine cal_of (N := N__law_wrong) D SC (fun _ _ _ _ _ _ us hl => match us, hl with | [_, _], _ => rfl) (fun vs H Q E h => ?_) (fun f cdv A outer s H vs Q E hr h => ?_)
  · obtain ⟨F0, As, r, ⟨x__law_due, x__law_number, rfl, h⟩, e0, ha, k⟩ := h
    exact alla_len ha
  · obtain ⟨F0, As, r, ⟨x__law_due, x__law_number, rfl, h⟩, e0, ha, k⟩ := h
    obtain ⟨v__law_due, v__law_number, rfl, f__law_due, f__law_number⟩ := alla2 ha
    refine ⟨_, (pss_cons (ps_set (i := 2) SC.nd rfl (Or.inl rfl) (pe_op op_xMod (pv 1) pe_int)) (pss_cons (ps_set (i := 3) SC.nd rfl (Or.inl rfl) (pe_op op_xDiv (pv 1) pe_int)) (pss_cons (ps_set (i := 4) SC.nd rfl (Or.inl rfl) (pe_op op_xMod (pv 3) (pe_callB call_cLen (by rfl) T.b_len PySem.boot_len (pa_cons (pv 0) pa_nil)))) (pss_cons (ps_if (pt_cmpR op_xLt (pv 2) pe_int (nomark _)) (pss_one (ps_ret (pe_op op_cat (pe_op op_cat (pe_slice sl_list (pv 0) po_none (po_some (pv 4))) (pe_lst (pa_cons (pe_cal G__law_odd (hr.mono (by decide)) rfl (pa_cons (pe_op op_xDiv (pv 3) pe_int) pa_nil)) pa_nil))) (pe_slice sl_list (pv 0) (po_some (pe_op op_xAdd (pv 4) (pv 2))) po_none)))) pss_nil) (pss_cons (ps_if (pt_cmpR op_eq (pv 2) pe_int (nomark _)) (pss_one (ps_ret (pe_op op_cat (pe_op op_cat (pe_slice sl_list (pv 0) po_none (po_some (pv 4))) (pe_lst (pa_cons (pe_tup (pa_cons pe_str (pa_cons (pe_lst (pa_cons (pe_tup (pa_cons pe_str (pa_cons pe_str pa_nil))) (pa_cons (pe_cal G__law_odd (hr.mono (by decide)) rfl (pa_cons (pe_op op_xDiv (pv 3) pe_int) pa_nil)) (pa_cons (pe_tup (pa_cons pe_str (pa_cons pe_str pa_nil))) pa_nil)))) pa_nil))) pa_nil))) (pe_slice sl_list (pv 0) (po_some (pv 4)) po_none)))) pss_nil) (pss_cons (ps_if (pt_cmpR op_eq (pv 2) pe_int (nomark _)) (pss_one (ps_ret (pe_op op_cat (pe_op op_cat (pe_slice sl_list (pv 0) po_none (po_some (pv 4))) (pe_lst (pa_cons (pe_tup (pa_cons pe_str (pa_cons pe_str pa_nil))) (pa_cons (pe_tup (pa_cons pe_str (pa_cons pe_str pa_nil))) pa_nil)))) (pe_slice sl_list (pv 0) (po_some (pv 4)) po_none)))) pss_nil) (pss_cons (ps_if (pt_cmpR op_eq (pv 2) pe_int (nomark _)) (pss_one (ps_ret (pe_op op_cat (pe_lst (pa_cons (pe_tup (pa_cons pe_str (pa_cons pe_str pa_nil))) (pa_cons (pe_tup (pa_cons pe_str (pa_cons pe_str pa_nil))) pa_nil))) (pv 0)))) pss_nil) (pss_one (ps_ret (pe_op op_cat (pv 0) (pe_lst (pa_cons (pe_tup (pa_cons pe_str (pa_cons pe_str pa_nil))) (pa_cons (pe_tup (pa_cons pe_str (pa_cons pe_str pa_nil))) pa_nil))))))))))))), ?_⟩
    refine (show Sx ⟨F0, H, none⟩ _ _ [some v__law_due, some v__law_number, none, none, none] F0 [] from ?_) H (At.start e0)
    have f__law_due : ((rL rD)).rp x__law_due v__law_due F0 := f__law_due
    have f__law_number : (rInt).rp x__law_number v__law_number F0 := f__law_number
    obtain ⟨c10, hc10, h⟩ := bsome h
    obtain ⟨x11, hx11, h⟩ := lt_e h
    refine sx_seq (sx_asg (R := rInt) (ev_is (ev_op (ev_v (R := rInt) rfl f__law_number) ev_i (o_modO hc10)) hx11) fun v14 Fs12 s12 f13 => nx_of ?_)
    obtain ⟨c15, hc15, h⟩ := bsome h
    obtain ⟨x16, hx16, h⟩ := lt_e h
    refine sx_seq (sx_asg (R := rInt) (ev_is (ev_op (ev_v (R := rInt) rfl (Rep.mono rInt s12 f__law_number)) ev_i (o_divO hc15)) hx16) fun v19 Fs17 s17 f18 => nx_of ?_)
    refine sx_so (σ2 := [some v__law_due, some v__law_number, some v14, some v19, none]) (O2 := []) rfl rfl ?_
    obtain ⟨c20, hc20, h⟩ := bsome h
    obtain ⟨x21, hx21, h⟩ := lt_e h
    refine sx_seq (sx_asg (R := rInt) (ev_is (ev_op (ev_v (R := rInt) rfl f18) (ev_cb (ea_cons (ev_spn (ev_v (R := (rL rD)) rfl (Rep.mono (rL rD) (s12.trans s17) f__law_due))) ea_nil) b_lenL) (o_modO hc20)) hx21) fun v24 Fs22 s22 f23 => nx_of ?_)
    refine sx_seq (sx_if (et_b (ev_op (ev_v (R := rInt) rfl (Rep.mono rInt (s17.trans s22) f13)) ev_i o_lt)) (fun z25 Fs26 s26 => ?_) (fun z25 Fs27 s27 => ?_))
    · have h := cnd_t h z25
      obtain ⟨c28, hc28, h⟩ := bsome h
      obtain ⟨r29, hr29, h⟩ := bsome h
      obtain ⟨c30, hc30, h⟩ := bsome h
      obtain ⟨c31, hc31, h⟩ := bsome h
      obtain rfl := Option.some.inj h
      refine sx_retN (ev_opN (ev_nspn (ev_opN (ev_nspn (ev_slL (ev_spn (ev_v (R := (rL rD)) rfl (Rep.mono (rL rD) (((s12.trans s17).trans s22).trans s26) f__law_due))) ep_none (ep_some (ev_v (R := rInt) rfl (Rep.mono rInt s26 f23))))) (ev_nspn (ev_lst (R := rD) (as := [r29]) (ea_cons (ev_call (P := P__law_odd) (ea_cons (ev_op (ev_v (R := rInt) rfl (Rep.mono rInt (s22.trans s26) f18)) ev_i (o_divO hc28)) ea_nil) ⟨_, _, rfl, hr29, rfl⟩) ea_nil) (show (1 : Nat) ≤ limL by decide))) (o_catLO hc30))) (ev_nspn (ev_slL (ev_spn (ev_v (R := (rL rD)) rfl (Rep.mono (rL rD) (((s12.trans s17).trans s22).trans s26) f__law_due))) (ep_some (ev_op (ev_v (R := rInt) rfl (Rep.mono rInt s26 f23)) (ev_v (R := rInt) rfl (Rep.mono rInt ((s17.trans s22).trans s26) f13)) o_add)) ep_none)) (o_catLO hc31)) fun p32 xs33 Fs34 s34 f35 => ?_
      exact rt_own k (List.Mem.head _) f35
    · have h := cnd_f h z25
      refine sx_next ?_
      refine nx_of ?_
      refine sx_seq (sx_if (et_b (ev_op (ev_v (R := rInt) rfl (Rep.mono rInt ((s17.trans s22).trans s27) f13)) ev_i o_eqI)) (fun z36 Fs37 s37 => ?_) (fun z36 Fs38 s38 => ?_))
      · have h := cnd_t h z36
        obtain ⟨c39, hc39, h⟩ := bsome h
        obtain ⟨r40, hr40, h⟩ := bsome h
        obtain ⟨c41, hc41, h⟩ := bsome h
        obtain ⟨c42, hc42, h⟩ := bsome h
        obtain rfl := Option.some.inj h
        refine sx_retN (ev_opN (ev_nspn (ev_opN (ev_nspn (ev_slL (ev_spn (ev_v (R := (rL rD)) rfl (Rep.mono (rL rD) ((((s12.trans s17).trans s22).trans s27).trans s37) f__law_due))) ep_none (ep_some (ev_v (R := rInt) rfl (Rep.mono rInt (s27.trans s37) f23))))) (ev_nspn (ev_lst (R := rD) (as := [(PyData.tuple [(encS [115, 116, 114, 111, 110, 103]), ((fun as => PyData.list (List.map id as)) ([((fun (t : (List Nat × Nat)) => PyData.tuple [encS t.1, encC t.2]) ([99, 111, 100, 101], 97)), r40, ((fun (t : (List Nat × Nat)) => PyData.tuple [encS t.1, encC t.2]) ([99, 111, 100, 101], 98))] : List (PyData)))])]) (ea_cons (ev_tupD (ds := [(encS [115, 116, 114, 111, 110, 103]), ((fun as => PyData.list (List.map id as)) ([((fun (t : (List Nat × Nat)) => PyData.tuple [encS t.1, encC t.2]) ([99, 111, 100, 101], 97)), r40, ((fun (t : (List Nat × Nat)) => PyData.tuple [encS t.1, encC t.2]) ([99, 111, 100, 101], 98))] : List (PyData)))]) (ea_cons (ev_d (a := [115, 116, 114, 111, 110, 103]) eS (ev_s (l := [115, 116, 114, 111, 110, 103]) (by decide +kernel) (by decide +kernel))) (ea_cons (ev_d (a := ([((fun (t : (List Nat × Nat)) => PyData.tuple [encS t.1, encC t.2]) ([99, 111, 100, 101], 97)), r40, ((fun (t : (List Nat × Nat)) => PyData.tuple [encS t.1, encC t.2]) ([99, 111, 100, 101], 98))] : List (PyData))) (f := (fun as => PyData.list (List.map id as))) (eL eD) (ev_frz (ev_lst (R := rD) (as := [((fun (t : (List Nat × Nat)) => PyData.tuple [encS t.1, encC t.2]) ([99, 111, 100, 101], 97)), r40, ((fun (t : (List Nat × Nat)) => PyData.tuple [encS t.1, encC t.2]) ([99, 111, 100, 101], 98))]) (ea_cons (ev_d (a := ([99, 111, 100, 101], 97)) (f := (fun (t : (List Nat × Nat)) => PyData.tuple [encS t.1, encC t.2])) (eT2 eS eC) (ev_tup2 (ea_cons (ev_s (l := [99, 111, 100, 101]) (by decide +kernel) (by decide +kernel)) (ea_cons (ev_ch (c := 97) (by decide +kernel) (by decide)) ea_nil)))) (ea_cons (ev_call (P := P__law_odd) (ea_cons (ev_op (ev_v (R := rInt) rfl (Rep.mono rInt ((s22.trans s27).trans s37) f18)) ev_i (o_divO hc39)) ea_nil) ⟨_, _, rfl, hr40, rfl⟩) (ea_cons (ev_d (a := ([99, 111, 100, 101], 98)) (f := (fun (t : (List Nat × Nat)) => PyData.tuple [encS t.1, encC t.2])) (eT2 eS eC) (ev_tup2 (ea_cons (ev_s (l := [99, 111, 100, 101]) (by decide +kernel) (by decide +kernel)) (ea_cons (ev_ch (c := 98) (by decide +kernel) (by decide)) ea_nil)))) ea_nil))) (show (3 : Nat) ≤ limL by decide)))) ea_nil)) (show (2 : Nat) ≤ limL by decide)) ea_nil) (show (1 : Nat) ≤ limL by decide))) (o_catLO hc41))) (ev_nspn (ev_slL (ev_spn (ev_v (R := (rL rD)) rfl (Rep.mono (rL rD) ((((s12.trans s17).trans s22).trans s27).trans s37) f__law_due))) (ep_some (ev_v (R := rInt) rfl (Rep.mono rInt (s27.trans s37) f23))) ep_none)) (o_catLO hc42)) fun p43 xs44 Fs45 s45 f46 => ?_
        exact rt_own k (List.Mem.head _) f46
      · have h := cnd_f h z36
        refine sx_next ?_
        refine nx_of ?_
        refine sx_seq (sx_if (et_b (ev_op (ev_v (R := rInt) rfl (Rep.mono rInt (((s17.trans s22).trans s27).trans s38) f13)) ev_i o_eqI)) (fun z47 Fs48 s48 => ?_) (fun z47 Fs49 s49 => ?_))
        · have h := cnd_t h z47
          obtain ⟨c50, hc50, h⟩ := bsome h
          obtain ⟨c51, hc51, h⟩ := bsome h
          obtain rfl := Option.some.inj h
          refine sx_retN (ev_opN (ev_nspn (ev_opN (ev_nspn (ev_slL (ev_spn (ev_v (R := (rL rD)) rfl (Rep.mono (rL rD) (((((s12.trans s17).trans s22).trans s27).trans s38).trans s48) f__law_due))) ep_none (ep_some (ev_v (R := rInt) rfl (Rep.mono rInt ((s27.trans s38).trans s48) f23))))) (ev_nspn (ev_lst (R := rD) (as := [(PyData.tuple [(encS [112, 108, 97, 105, 110]), (encC 97)]), (PyData.tuple [(encS [112, 108, 97, 105, 110]), (encC 98)])]) (ea_cons (ev_tupD (ds := [(encS [112, 108, 97, 105, 110]), (encC 97)]) (ea_cons (ev_d (a := [112, 108, 97, 105, 110]) eS (ev_s (l := [112, 108, 97, 105, 110]) (by decide +kernel) (by decide +kernel))) (ea_cons (ev_d (a := 97) eC (ev_ch (c := 97) (by decide +kernel) (by decide))) ea_nil)) (show (2 : Nat) ≤ limL by decide)) (ea_cons (ev_tupD (ds := [(encS [112, 108, 97, 105, 110]), (encC 98)]) (ea_cons (ev_d (a := [112, 108, 97, 105, 110]) eS (ev_s (l := [112, 108, 97, 105, 110]) (by decide +kernel) (by decide +kernel))) (ea_cons (ev_d (a := 98) eC (ev_ch (c := 98) (by decide +kernel) (by decide))) ea_nil)) (show (2 : Nat) ≤ limL by decide)) ea_nil)) (show (2 : Nat) ≤ limL by decide))) (o_catLO hc50))) (ev_nspn (ev_slL (ev_spn (ev_v (R := (rL rD)) rfl (Rep.mono (rL rD) (((((s12.trans s17).trans s22).trans s27).trans s38).trans s48) f__law_due))) (ep_some (ev_v (R := rInt) rfl (Rep.mono rInt ((s27.trans s38).trans s48) f23))) ep_none)) (o_catLO hc51)) fun p52 xs53 Fs54 s54 f55 => ?_
          exact rt_own k (List.Mem.head _) f55
        · have h := cnd_f h z47
          refine sx_next ?_
          refine nx_of ?_
          refine sx_seq (sx_if (et_b (ev_op (ev_v (R := rInt) rfl (Rep.mono rInt ((((s17.trans s22).trans s27).trans s38).trans s49) f13)) ev_i o_eqI)) (fun z56 Fs57 s57 => ?_) (fun z56 Fs58 s58 => ?_))
          · have h := cnd_t h z56
            obtain ⟨c59, hc59, h⟩ := bsome h
            obtain rfl := Option.some.inj h
            refine sx_retN (ev_opN (ev_nspn (ev_lst (R := rD) (as := [(PyData.tuple [(encS [112, 108, 97, 105, 110]), (encS [32, 97])]), (PyData.tuple [(encS [99, 111, 100, 101]), (encC 98)])]) (ea_cons (ev_tupD (ds := [(encS [112, 108, 97, 105, 110]), (encS [32, 97])]) (ea_cons (ev_d (a := [112, 108, 97, 105, 110]) eS (ev_s (l := [112, 108, 97, 105, 110]) (by decide +kernel) (by decide +kernel))) (ea_cons (ev_d (a := [32, 97]) eS (ev_s (l := [32, 97]) (by decide +kernel) (by decide +kernel))) ea_nil)) (show (2 : Nat) ≤ limL by decide)) (ea_cons (ev_tupD (ds := [(encS [99, 111, 100, 101]), (encC 98)]) (ea_cons (ev_d (a := [99, 111, 100, 101]) eS (ev_s (l := [99, 111, 100, 101]) (by decide +kernel) (by decide +kernel))) (ea_cons (ev_d (a := 98) eC (ev_ch (c := 98) (by decide +kernel) (by decide))) ea_nil)) (show (2 : Nat) ≤ limL by decide)) ea_nil)) (show (2 : Nat) ≤ limL by decide))) (ev_spn (ev_v (R := (rL rD)) rfl (Rep.mono (rL rD) ((((((s12.trans s17).trans s22).trans s27).trans s38).trans s49).trans s57) f__law_due))) (o_catLO hc59)) fun p60 xs61 Fs62 s62 f63 => ?_
            exact rt_own k (List.Mem.head _) f63
          · have h := cnd_f h z56
            refine sx_next ?_
            refine nx_of ?_
            obtain ⟨c64, hc64, h⟩ := bsome h
            obtain rfl := Option.some.inj h
            refine sx_retN (ev_opN (ev_spn (ev_v (R := (rL rD)) rfl (Rep.mono (rL rD) ((((((s12.trans s17).trans s22).trans s27).trans s38).trans s49).trans s58) f__law_due))) (ev_nspn (ev_lst (R := rD) (as := [(PyData.tuple [(encS [99, 111, 100, 101]), (encC 98)]), (PyData.tuple [(encS [112, 108, 97, 105, 110]), (encS [97, 32])])]) (ea_cons (ev_tupD (ds := [(encS [99, 111, 100, 101]), (encC 98)]) (ea_cons (ev_d (a := [99, 111, 100, 101]) eS (ev_s (l := [99, 111, 100, 101]) (by decide +kernel) (by decide +kernel))) (ea_cons (ev_d (a := 98) eC (ev_ch (c := 98) (by decide +kernel) (by decide))) ea_nil)) (show (2 : Nat) ≤ limL by decide)) (ea_cons (ev_tupD (ds := [(encS [112, 108, 97, 105, 110]), (encS [97, 32])]) (ea_cons (ev_d (a := [112, 108, 97, 105, 110]) eS (ev_s (l := [112, 108, 97, 105, 110]) (by decide +kernel) (by decide +kernel))) (ea_cons (ev_d (a := [97, 32]) eS (ev_s (l := [97, 32]) (by decide +kernel) (by decide +kernel))) ea_nil)) (show (2 : Nat) ≤ limL by decide)) ea_nil)) (show (2 : Nat) ≤ limL by decide))) (o_catLO hc64)) fun p65 xs66 Fs67 s67 f68 => ?_
            exact rt_own k (List.Mem.head _) f68
/-! law -/
abbrev s_law : Stmt := top 40
abbrev N_law : List Str := ["_law_script", "_law_cell_here", "_law_number", "_law_due", "_law_same", "_law_turn", "_law_wrong_here", "_law_handed", "_law_nothing"]
theorem sc_law : FnScope N_law ["_law_script"] (defScope s_law) := ⟨rfl, rfl, rfl, by decide +kernel, rfl, by decide +kernel, by decide +kernel⟩
def m_law (x__law_script : List Int) : Option (Bool) := (m__law_cell (x__law_script) ((0 : Int))).bind fun r10 => lt r10 fun x11 => (m__law_cell (x__law_script) ((1 : Int))).bind fun r15 => (m__law_mixed (r15) ((1 : Int))).bind fun r16 => lt r16 fun x17 => (modO x11 (6 : Int)).bind fun c21 => (m__law_parts (x17) (((1 : Int) + c21)) (false)).bind fun r22 => lt r22 fun x23 => (modO x11 (6 : Int)).bind fun c28 => (m__law_parts (x17) (((1 : Int) + c28)) (false)).bind fun r29 => lt r29 fun x30 => (m__law_told (((fun as => PyData.list (List.map id as)) x30))).bind fun r37 => (eqO (id r37) ((fun as => PyData.list (List.map id as)) x23)).bind fun c38 => (cnd (!c38) (some true) ((eqO (PyData.list (List.map id x30)) (PyData.list (List.map id x23))).bind fun c39 => some (!c39))).bind fun c40 => cnd c40 (some false) ((rngO 0 (2 : Int)).bind fun c94 => fwd (loop (ρ := Bool) (fun (s124 : Unit) (a125 : Int) => (m__law_cell (x__law_script) (((2 : Int) + a125))).bind fun r137 => (m__law_mixed (r137) (((2 : Int) + a125))).bind fun r138 => (m__law_wrong (x23) (r138)).bind fun r139 => lt r139 fun x140 => lt x140 fun x144 => (m__law_told (((fun as => PyData.list (List.map id as)) x144))).bind fun r151 => (eqO (id r151) (id (PyData.tuple [(encS [114, 101, 102, 117, 115, 101, 100]), ((fun as => PyData.list (List.map encS as)) ([[116, 114, 101, 101]] : List (List Nat)))]))).bind fun c152 => (cnd (!c152) (some true) ((eqO (PyData.list (List.map id x144)) ((fun as => PyData.list (List.map id as)) x140)).bind fun c153 => some (!c153))).bind fun c154 => cnd c154 (some (Fw.rt false)) (fwd (whileN (ρ := Unit) (fun (s189 : (List (PyData))) => (eqO (PyData.list (List.map id s189)) (PyData.list (List.map id ([] : List (PyData))))).bind fun c195 => some (!c195)) (fun (s199 : (List (PyData))) => (popO s199).bind fun c204 => some (Fw.nx c204.2)) ((x144.length + 1)) x144) (fun (s165 : (List (PyData))) => (catO s165 x23).bind fun y172 => (m__law_told (((fun as => PyData.list (List.map id as)) y172))).bind fun r180 => (eqO (id r180) ((fun as => PyData.list (List.map id as)) x23)).bind fun c181 => cnd (!c181) (some (Fw.rt false)) (some (Fw.nx ()))) (fun (r : Unit) => none))) c94 ()) (fun (s100 : Unit) => (divO x11 (6 : Int)).bind fun c109 => (modO c109 (8 : Int)).bind fun c110 => (ixO ([((fun (_ : Unit) => PyData.none) ()), (PyData.int (5 : Int)), (encS [112, 108, 97, 105, 110]), (PyData.tuple []), (PyData.tuple [(encS [112, 108, 97, 105, 110]), (encC 97)]), (PyData.dict []), (PyData.bool true), (PyData.tuple [(PyData.tuple [(encS [112, 108, 97, 105, 110]), (encC 97)])])] : List (PyData)) c110).bind fun c111 => lt c111 fun x112 => (m__law_told (x112)).bind fun r116 => (eqO (id r116) (id (PyData.tuple [(encS [114, 101, 102, 117, 115, 101, 100]), ((fun as => PyData.list (List.map encS as)) ([[116, 114, 101, 101]] : List (List Nat)))]))).bind fun c117 => (cnd c117 ((m__law_told (((fun as => PyData.list (List.map id as)) x23))).bind fun r118 => (eqO (id r118) (PyData.list (List.map id x30))).bind fun c119 => some c119) (some false)).bind fun c120 => some c120) (fun (r : Bool) => some r))
def P_law (K : PySem.W.Frag) (As : List Ar) (C : Ar) : Prop := ∃ (x__law_script : List Int) (r : Bool), As = [val (rScr K) x__law_script] ∧ m_law x__law_script = some r ∧ C = val rB r
theorem ok_law (T : Top n K mg) (D : Df K mg "law" s_law) (G__law_cell : Cal P w K mg base 1 "_law_cell" ["_law_script", "_law_k"] (spG (P__law_cell K))) (G__law_mixed : Cal P w K mg base 1 "_law_mixed" ["_law_cell_here", "_law_k"] (spG (P__law_mixed))) (G__law_parts : CalN n P w K mg base 8 "_law_parts" ["_law_number", "_law_size", "_law_is_inner"] (spFN (P__law_parts))) (G__law_told : Cal P w K mg base 10 "_law_told" ["_law_thing"] (spF (P__law_told))) (G__law_wrong : Cal P w K mg base 2 "_law_wrong" ["_law_due", "_law_number"] (spN rD (P__law_wrong))) : CalN n P w K mg base 11 "law" ["_law_script"] (spG (P_law K)) := by
  have SC := sc_law
  have h1n := T.one
  refine calN_of (N := N_law) D SC (fun _ _ _ _ _ _ us hl => match us, hl with | [_], _ => rfl) (fun vs H Q E h => ?_) (fun f cdv A outer s H vs Q E hr h => ?_)
  · obtain ⟨F0, As, C, ⟨x__law_script, r, rfl, h, rfl⟩, e0, ha, k⟩ := h
    exact alla_len ha
  · obtain ⟨F0, As, C, ⟨x__law_script, r, rfl, h, rfl⟩, e0, ha, k⟩ := h
    obtain ⟨v__law_script, rfl, f__law_script⟩ := alla1 ha
    refine ⟨_, (psn_cons (tkS (ps_set (i := 1) SC.nd rfl (Or.inl rfl) (pe_cal G__law_cell (hr.mono (by decide)) rfl (pa_cons (pv 0) (pa_cons pe_int pa_nil))))) (psn_cons (tkS (ps_set (i := 2) SC.nd rfl (Or.inl rfl) (pe_cal G__law_mixed (hr.mono (by decide)) rfl (pa_cons (pe_cal G__law_cell (hr.mono (by decide)) rfl (pa_cons (pv 0) (pa_cons pe_int pa_nil))) (pa_cons pe_int pa_nil))))) (psn_cons (psn_set (i := 3) SC.nd rfl (Or.inl rfl) (pen_cal G__law_parts (hr.mono (by decide)) rfl (tkA (pa_cons (pv 2) (pa_cons (pe_op op_xAdd pe_int (pe_op op_xMod (pv 1) pe_int)) (pa_cons pe_bl pa_nil)))))) (psn_cons (psn_set (i := 4) SC.nd rfl (Or.inl rfl) (pen_cal G__law_parts (hr.mono (by decide)) rfl (tkA (pa_cons (pv 2) (pa_cons (pe_op op_xAdd pe_int (pe_op op_xMod (pv 1) pe_int)) (pa_cons pe_bl pa_nil)))))) (tkSs (pss_cons (ps_if (PW.pt (pw_or (pt_cmpR (op_neD hr.units) (pe_cal G__law_told (hr.mono (by decide)) rfl (pa_cons (pv 4) pa_nil)) (pv 3) (nomark _)) (pw_or1 (pt_cmpR (op_neD hr.units) (pv 4) (pv 3) (nomark _))))) (pss_one (ps_ret pe_bl)) pss_nil) (pss_cons (ps_for PassesOwn.never rfl (pi_range1 (by rfl) T.b_range (pa_cons pe_int pa_nil)) (pg_name (i := 5) SC.nd rfl (Or.inl rfl)) (pss_cons (ps_set (i := 6) SC.nd rfl (Or.inl rfl) (pe_cal G__law_wrong (hr.mono (by decide)) rfl (pa_cons (pv 3) (pa_cons (pe_cal G__law_mixed (hr.mono (by decide)) rfl (pa_cons (pe_cal G__law_cell (hr.mono (by decide)) rfl (pa_cons (pv 0) (pa_cons (pe_op op_xAdd pe_int (pv 5)) pa_nil))) (pa_cons (pe_op op_xAdd pe_int (pv 5)) pa_nil))) pa_nil)))) (pss_cons (ps_set (i := 7) SC.nd rfl (Or.inl rfl) (pe_callTy call_cList (by rfl) T.b_list (by decide +kernel) (pa_cons (pv 6) pa_nil))) (pss_cons (ps_if (PW.pt (pw_or (pt_cmpR (op_neD hr.units) (pe_cal G__law_told (hr.mono (by decide)) rfl (pa_cons (pv 7) pa_nil)) (pe_tup (pa_cons pe_str (pa_cons (pe_lst (pa_cons pe_str pa_nil)) pa_nil))) (nomark _)) (pw_or1 (pt_cmpR (op_neD hr.units) (pv 7) (pv 6) (nomark _))))) (pss_one (ps_ret pe_bl)) pss_nil) (pss_cons (ps_while PassesOwn.never (pt_cmpR (op_neD hr.units) (pv 7) (pe_lst pa_nil) (nomark _)) (pss_one (ps_expr (pe_bm0 PySem.F.plainAttrs_list PySem.F.slot_list_pop PySem.F.type_list_pop mt_pop (pv 7))))) (pss_cons (ps_expr (pe_bm PySem.F.plainAttrs_list PySem.F.slot_list_extend PySem.F.type_list_extend mt_extend (pv 7) (pa_cons (pv 3) pa_nil))) (pss_one (ps_if (pt_cmpR (op_neD hr.units) (pe_cal G__law_told (hr.mono (by decide)) rfl (pa_cons (pv 7) pa_nil)) (pv 3) (nomark _)) (pss_one (ps_ret pe_bl)) pss_nil)))))))) (pss_cons (ps_set (i := 8) SC.nd rfl (Or.inl rfl) (pe_ix ix_list (pe_lst (pa_cons pe_non (pa_cons pe_int (pa_cons pe_str (pa_cons (pe_tup pa_nil) (pa_cons (pe_tup (pa_cons pe_str (pa_cons pe_str pa_nil))) (pa_cons pe_dnewK (pa_cons pe_bl (pa_cons (pe_tup (pa_cons (pe_tup (pa_cons pe_str (pa_cons pe_str pa_nil))) pa_nil)) pa_nil))))))))) (pe_op op_xMod (pe_op op_xDiv (pv 1) pe_int) pe_int) (fun _ _ => rfl))) (pss_one (ps_ret (pe_and (pe_cmpR (op_eqD hr.units) (pe_cal G__law_told (hr.mono (by decide)) rfl (pa_cons (pv 8) pa_nil)) (pe_tup (pa_cons pe_str (pa_cons (pe_lst (pa_cons pe_str pa_nil)) pa_nil))) (nomark _)) (pe_one (pe_cmpR (op_eqD hr.units) (pe_cal G__law_told (hr.mono (by decide)) rfl (pa_cons (pv 3) pa_nil)) (pv 4) (nomark _)))))))))))))), ?_⟩
    refine (show Sx ⟨F0, H, none⟩ _ _ [some v__law_script, none, none, none, none, none, none, none, none] F0 [] from ?_) H (At.start e0)
    have f__law_script : ((rScr K)).rp x__law_script v__law_script F0 := f__law_script
    obtain ⟨r10, hr10, h⟩ := bsome h
    obtain ⟨x11, hx11, h⟩ := lt_e h
    refine sx_seq (sx_asg (R := rInt) (ev_is (ev_call (P := P__law_cell K) (ea_cons (ev_v (R := (rScr K)) rfl f__law_script) (ea_cons ev_i ea_nil)) ⟨_, _, _, rfl, hr10, rfl⟩) hx11) fun v14 Fs12 s12 f13 => nx_of ?_)
    obtain ⟨r15, hr15, h⟩ := bsome h
    obtain ⟨r16, hr16, h⟩ := bsome h
    obtain ⟨x17, hx17, h⟩ := lt_e h
    refine sx_seq (sx_asg (R := rInt) (ev_is (ev_call (P := P__law_mixed) (ea_cons (ev_call (P := P__law_cell K) (ea_cons (ev_v (R := (rScr K)) rfl (Rep.mono (rScr K) s12 f__law_script)) (ea_cons ev_i ea_nil)) ⟨_, _, _, rfl, hr15, rfl⟩) (ea_cons ev_i ea_nil)) ⟨_, _, _, rfl, hr16, rfl⟩) hx17) fun v20 Fs18 s18 f19 => nx_of ?_)
    refine sx_so (σ2 := [some v__law_script, some v14, some v20, none, none, none, none, none, none]) (O2 := []) rfl rfl ?_
    obtain ⟨c21, hc21, h⟩ := bsome h
    obtain ⟨r22, hr22, h⟩ := bsome h
    obtain ⟨x23, hx23, h⟩ := lt_e h
    refine sx_seq (sx_asgN (ev_isN (ev_callFN (P := P__law_parts) (Same.refl _) (ea_cons (ev_v (R := rInt) rfl f19) (ea_cons (ev_op ev_i (ev_op (ev_v (R := rInt) rfl (Rep.mono rInt s18 f13)) ev_i (o_modO hc21)) o_add) (ea_cons ev_b ea_nil))) ⟨_, _, _, rfl, hr22⟩) hx23) fun p26 xs27 Fs24 s24 f25 => nx_of ?_)
    obtain ⟨c28, hc28, h⟩ := bsome h
    obtain ⟨r29, hr29, h⟩ := bsome h
    obtain ⟨x30, hx30, h⟩ := lt_e h
    refine sx_seq (sx_asgN (ev_isN (ev_callFN (P := P__law_parts) (Same.refl _) (ea_cons (ev_v (R := rInt) rfl (Rep.mono rInt s24 f19)) (ea_cons (ev_op ev_i (ev_op (ev_v (R := rInt) rfl (Rep.mono rInt (s18.trans s24) f13)) ev_i (o_modO hc28)) o_add) (ea_cons ev_b ea_nil))) ⟨_, _, _, rfl, hr29⟩) hx30) fun p33 xs34 Fs31 s31 f32 => nx_of ?_)
    refine sx_so (σ2 := [some v__law_script, some v14, some v20, some (.ref p26), some (.ref p33), none, none, none, none]) (O2 := [(p33, .lst xs34), (p26, .lst xs27)]) rfl rfl ?_
    obtain ⟨r37, hr37, h⟩ := bsome h
    obtain ⟨c38, hc38, h⟩ := bsome h
    obtain ⟨c40, hc40, h⟩ := bsome h
    refine sx_seq (sx_if (et_or (b := c40) (et_peekP (fun e35 hP36 => (et_b (ev_op (evF_D (ev_callFd (P := P__law_told) (Same.refl _) (ea_cons (ev_d (a := x30) (eL eD) (ev_lFD (ev_v (R := (rL (rDf _))) rfl ⟨_, _, rfl, hP36 _ (List.Mem.head _), (AllB.mono e35 f32)⟩))) ea_nil) ⟨_, rfl, hr37⟩)) (ev_lFD (ev_v (R := (rL (rDf _))) rfl ⟨_, _, rfl, hP36 _ (List.Mem.tail _ (List.Mem.head _)), (AllB.mono (s31.trans e35) f25)⟩)) (by have z := eqO_e hc38; have z1 := dt_v eD (K := K) (R := rD) z.1; have z2 := dt_v (eL eD) (K := K) (R := (rL rD)) z.2.1; have z3 := o_neD z1 z2; rw [z.2.2] at z3; exact z3))))) (fun z => by
    have h' := cnd_f hc40 z
    obtain ⟨c39, hc39, h'⟩ := bsome h'
    exact et_is (et_b (ev_op (ev_spnFD (ev_o (R := (rDf _)) rfl (List.Mem.head _) f32)) (ev_spnFD (ev_o (R := (rDf _)) rfl (List.Mem.tail _ (List.Mem.head _)) (AllB.mono s31 f25))) (by have z := eqO_e hc39; have z1 := dt_l eD (K := K) (R := rD) z.1; have z2 := dt_l eD (K := K) (R := rD) z.2.1; have z3 := o_neD z1 z2; rw [z.2.2] at z3; exact z3))) (Option.some.inj h')) (fun z => (Option.some.inj (cnd_t hc40 z)).symm)) (fun z41 Fs42 s42 => ?_) (fun z41 Fs43 s43 => ?_))
    · have h := cnd_t h z41
      obtain rfl := Option.some.inj h
      refine sx_ret (R := rB) ev_b fun v44 Fs45 s45 f46 => ?_
      exact rt_val k (fun _ => f46)
    · have h := cnd_f h z41
      refine sx_next ?_
      refine nx_of ?_
      refine sx_frzI (n := 1) rfl fun n93 => ?_
      obtain ⟨c94, hc94, h⟩ := bsome h
      obtain ⟨w95, hl96, hk97, hr98⟩ := fwd_o h
      refine sx_seq (sx_for (J := fun (s : Unit) σ F O => ∃ (w__law_turn : Option V) (w__law_wrong_here : Option V) (w__law_handed : Option V) (w__law_nothing : Option V), σ = [some v__law_script, some v14, some v20, some (.ref p26), some (.ref p33), w__law_turn, w__law_wrong_here, w__law_handed, w__law_nothing] ∧ O = [(p33, .lst xs34)] ∧ True) (Ro := (fun (r : Bool) v F (O : Own) => (rB).rp r v F)) hl96 (ei_rng1O (ea_cons ev_i ea_nil) hc94) tg_n (fun Fe99 e99 => ⟨_, _, _, _, rfl, rfl, trivial⟩) ?_ ?_)
      · refine ⟨fun s100 es101 σ9 Fe102 O9 e102 ⟨w103, w104, w105, w106, hs107, ho108, _⟩ => ?_, fun r9 er9 v9 F9 O9 e9 hr9 => ?_⟩
        · subst hs107 ho108
          have h := hk97 s100 es101
          refine nx_of ?_
          obtain ⟨c109, hc109, h⟩ := bsome h
          obtain ⟨c110, hc110, h⟩ := bsome h
          obtain ⟨c111, hc111, h⟩ := bsome h
          obtain ⟨x112, hx112, h⟩ := lt_e h
          refine sx_seq (sx_asg (R := rD) (ev_is (ev_op (ev_nspn (ev_lst (R := rD) (as := [((fun (_ : Unit) => PyData.none) ()), (PyData.int (5 : Int)), (encS [112, 108, 97, 105, 110]), (PyData.tuple []), (PyData.tuple [(encS [112, 108, 97, 105, 110]), (encC 97)]), (PyData.dict []), (PyData.bool true), (PyData.tuple [(PyData.tuple [(encS [112, 108, 97, 105, 110]), (encC 97)])])]) (ea_cons (ev_d (a := ()) eN ev_n) (ea_cons (ev_d (a := (5 : Int)) eI ev_i) (ea_cons (ev_d (a := [112, 108, 97, 105, 110]) eS (ev_s (l := [112, 108, 97, 105, 110]) (by decide +kernel) (by decide +kernel))) (ea_cons (ev_tupD (ds := []) ea_nil (show (0 : Nat) ≤ limL by decide)) (ea_cons (ev_tupD (ds := [(encS [112, 108, 97, 105, 110]), (encC 97)]) (ea_cons (ev_d (a := [112, 108, 97, 105, 110]) eS (ev_s (l := [112, 108, 97, 105, 110]) (by decide +kernel) (by decide +kernel))) (ea_cons (ev_d (a := 97) eC (ev_ch (c := 97) (by decide +kernel) (by decide))) ea_nil)) (show (2 : Nat) ≤ limL by decide)) (ea_cons ev_dnew (ea_cons (ev_d (a := true) eB ev_b) (ea_cons (ev_tupD (ds := [(PyData.tuple [(encS [112, 108, 97, 105, 110]), (encC 97)])]) (ea_cons (ev_tupD (ds := [(encS [112, 108, 97, 105, 110]), (encC 97)]) (ea_cons (ev_d (a := [112, 108, 97, 105, 110]) eS (ev_s (l := [112, 108, 97, 105, 110]) (by decide +kernel) (by decide +kernel))) (ea_cons (ev_d (a := 97) eC (ev_ch (c := 97) (by decide +kernel) (by decide))) ea_nil)) (show (2 : Nat) ≤ limL by decide)) ea_nil) (show (1 : Nat) ≤ limL by decide)) ea_nil)))))))) (show (8 : Nat) ≤ limL by decide))) (ev_op (ev_op (ev_v (R := rInt) rfl (Rep.mono rInt (((((s18.trans s24).trans s31).trans s43).trans (same_new n93)).trans e102) f13)) ev_i (o_divO hc109)) ev_i (o_modO hc110)) (o_ixL hc111)) hx112) fun v115 Fs113 s113 f114 => nx_of ?_)
          obtain ⟨r116, hr116, h⟩ := bsome h
          obtain ⟨c117, hc117, h⟩ := bsome h
          obtain ⟨c120, hc120, h⟩ := bsome h
          obtain rfl := Option.some.inj h
          refine sx_ret (R := rB) (ev_and (b := c120) (ev_op (evF_D (ev_callFd (P := P__law_told) (Same.refl _) (ea_cons (ev_v (R := rD) rfl f114) ea_nil) ⟨_, rfl, hr116⟩)) (ev_tupD (ds := [(encS [114, 101, 102, 117, 115, 101, 100]), ((fun as => PyData.list (List.map encS as)) ([[116, 114, 101, 101]] : List (List Nat)))]) (ea_cons (ev_d (a := [114, 101, 102, 117, 115, 101, 100]) eS (ev_s (l := [114, 101, 102, 117, 115, 101, 100]) (by decide +kernel) (by decide +kernel))) (ea_cons (ev_d (a := ([[116, 114, 101, 101]] : List (List Nat))) (f := (fun as => PyData.list (List.map encS as))) (eL eS) (ev_frz (ev_lst (R := rS) (as := [[116, 114, 101, 101]]) (ea_cons (ev_s (l := [116, 114, 101, 101]) (by decide +kernel) (by decide +kernel)) ea_nil) (show (1 : Nat) ≤ limL by decide)))) ea_nil)) (show (2 : Nat) ≤ limL by decide)) (by have z := eqO_e hc117; have z1 := dt_v eD (K := K) (R := rD) z.1; have z2 := dt_v eD (K := K) (R := rD) z.2.1; have z3 := o_eqD z1 z2; rw [z.2.2] at z3; exact z3)) (fun z => by
    have h' := cnd_t hc120 z
    obtain ⟨r118, hr118, h'⟩ := bsome h'
    obtain ⟨c119, hc119, h'⟩ := bsome h'
    exact ev_is (ev_op (evF_D (ev_callFd (P := P__law_told) (Same.refl _) (ea_cons (ev_d (a := x23) (eL eD) (ev_lFD (ev_v (R := (rL (rDf _))) rfl (Rep.mono (rL (rDf _)) (e102.trans s113) (rp_frz n93 (AllB.mono (s31.trans s43) f25)))))) ea_nil) ⟨_, rfl, hr118⟩)) (ev_spnFD (ev_o (R := (rDf _)) rfl (List.Mem.head _) (AllB.mono (((s43.trans (same_new n93)).trans e102).trans s113) f32))) (by have z := eqO_e hc119; have z1 := dt_v eD (K := K) (R := rD) z.1; have z2 := dt_l eD (K := K) (R := rD) z.2.1; have z3 := o_eqD z1 z2; rw [z.2.2] at z3; exact z3)) (Option.some.inj h')) (fun z => (Option.some.inj (cnd_f hc120 z)).symm)) fun v121 Fs122 s122 f123 => ?_
          exact rt_val k (fun _ => f123)
        · have h := hr98 r9 er9
          obtain rfl := Option.some.inj h
          exact rt_val k (fun _ => hr9)
      · rintro s124 a125 σ9 σ8 Fe126 Fe127 O9 o9 D9 ha9 e126 e127 ⟨w129, w130, w131, w132, hs133, ho134, _⟩ ⟨v135, zs, f136⟩ h acc128
        subst hs133 ho134
        subst zs
        obtain ⟨r137, hr137, h⟩ := bsome h
        obtain ⟨r138, hr138, h⟩ := bsome h
        obtain ⟨r139, hr139, h⟩ := bsome h
        obtain ⟨x140, hx140, h⟩ := lt_e h
        refine sx_seq (sx_asg (R := (rL rD)) (ev_is (ev_frz (ev_callN (P := P__law_wrong) (ea_cons (ev_lFD (ev_v (R := (rL (rDf _))) rfl (Rep.mono (rL (rDf _)) (e126.trans e127) (rp_frz n93 (AllB.mono (s31.trans s43) f25))))) (ea_cons (ev_call (P := P__law_mixed) (ea_cons (ev_call (P := P__law_cell K) (ea_cons (ev_v (R := (rScr K)) rfl (Rep.mono (rScr K) (((((((s12.trans s18).trans s24).trans s31).trans s43).trans (same_new n93)).trans e126).trans e127) f__law_script)) (ea_cons (ev_op ev_i (ev_v (R := rInt) rfl f136) o_add) ea_nil)) ⟨_, _, _, rfl, hr137, rfl⟩) (ea_cons (ev_op ev_i (ev_v (R := rInt) rfl f136) o_add) ea_nil)) ⟨_, _, _, rfl, hr138, rfl⟩) ea_nil)) ⟨_, _, rfl, hr139⟩)) hx140) fun v143 Fs141 s141 f142 => nx_of ?_)
        obtain ⟨x144, hx144, h⟩ := lt_e h
        refine sx_seq (sx_asgN (ev_isN (ev_cbN (ea_cons (ev_spn (ev_v (R := (rL rD)) rfl f142)) ea_nil) b_list) hx144) fun p147 xs148 Fs145 s145 f146 => nx_of ?_)
        refine sx_so (σ2 := [some v__law_script, some v14, some v20, some (.ref p26), some (.ref p33), some v135, some v143, some (.ref p147), w132]) (O2 := [(p147, .lst xs148), (p33, .lst xs34)]) rfl rfl ?_
        obtain ⟨r151, hr151, h⟩ := bsome h
        obtain ⟨c152, hc152, h⟩ := bsome h
        obtain ⟨c154, hc154, h⟩ := bsome h
        refine sx_seq (sx_if (et_or (b := c154) (et_peekP (fun e149 hP150 => (et_b (ev_op (evF_D (ev_callFd (P := P__law_told) (Same.refl _) (ea_cons (ev_d (a := x144) (eL eD) (ev_v (R := (rL rD)) rfl ⟨_, _, rfl, hP150 _ (List.Mem.head _), (AllB.mono e149 f146)⟩)) ea_nil) ⟨_, rfl, hr151⟩)) (ev_tupD (ds := [(encS [114, 101, 102, 117, 115, 101, 100]), ((fun as => PyData.list (List.map encS as)) ([[116, 114, 101, 101]] : List (List Nat)))]) (ea_cons (ev_d (a := [114, 101, 102, 117, 115, 101, 100]) eS (ev_s (l := [114, 101, 102, 117, 115, 101, 100]) (by decide +kernel) (by decide +kernel))) (ea_cons (ev_d (a := ([[116, 114, 101, 101]] : List (List Nat))) (f := (fun as => PyData.list (List.map encS as))) (eL eS) (ev_frz (ev_lst (R := rS) (as := [[116, 114, 101, 101]]) (ea_cons (ev_s (l := [116, 114, 101, 101]) (by decide +kernel) (by decide +kernel)) ea_nil) (show (1 : Nat) ≤ limL by decide)))) ea_nil)) (show (2 : Nat) ≤ limL by decide)) (by have z := eqO_e hc152; have z1 := dt_v eD (K := K) (R := rD) z.1; have z2 := dt_v eD (K := K) (R := rD) z.2.1; have z3 := o_neD z1 z2; rw [z.2.2] at z3; exact z3))))) (fun z => by
    have h' := cnd_f hc154 z
    obtain ⟨c153, hc153, h'⟩ := bsome h'
    exact et_is (et_b (ev_op (ev_o (R := rD) rfl (List.Mem.head _) f146) (ev_v (R := (rL rD)) rfl (Rep.mono (rL rD) s145 f142)) (by have z := eqO_e hc153; have z1 := dt_l eD (K := K) (R := rD) z.1; have z2 := dt_v (eL eD) (K := K) (R := (rL rD)) z.2.1; have z3 := o_neD z1 z2; rw [z.2.2] at z3; exact z3))) (Option.some.inj h')) (fun z => (Option.some.inj (cnd_t hc154 z)).symm)) (fun z155 Fs156 s156 => ?_) (fun z155 Fs157 s157 => ?_))
        · have h := cnd_t h z155
          obtain rfl := Option.some.inj h
          refine sx_ret (R := rB) ev_b fun v158 Fs159 s159 f160 => ?_
          exact acc128.rt _ rfl _ _ _ (((s141.trans s145).trans s156).trans s159) f160
        · have h := cnd_f h z155
          refine sx_next ?_
          refine nx_of ?_
          obtain ⟨w161, hl162, hk163, hr164⟩ := fwd_o h
          refine sx_seq (sx_while (J := fun (s : (List (PyData))) σ F O => ∃ (x__law_handed : List V), σ = [some v__law_script, some v14, some v20, some (.ref p26), some (.ref p33), some v135, some v143, some (.ref p147), w132] ∧ O = [(p147, .lst x__law_handed), (p33, .lst xs34)] ∧ AllB rD s x__law_handed F ∧ True) (Ro := (fun (r : Unit) (v : V) (F : Hp) (O : Own) => False)) hl162 ⟨xs148, rfl, rfl, (AllB.mono s157 f146), trivial⟩ ?_ ?_ ?_ ?_)
          · refine ⟨fun s165 es166 σ9 Fe167 O9 e167 ⟨xs168, hs169, ho170, f171, _⟩ => ?_, fun r9 er9 v9 F9 O9 e9 hr9 => ?_⟩
            · subst hs169 ho170
              have h := hk163 s165 es166
              refine nx_of ?_
              obtain ⟨y172, hy172, h⟩ := bsome h
              obtain ⟨hz173, he174⟩ := iteo hy172
              refine sx_seq (sx_ext (n := 0) rfl rfl f171 (ev_spn (ev_lFD (ev_v (R := (rL (rDf _))) rfl (Rep.mono (rL (rDf _)) (((((e126.trans e127).trans s141).trans s145).trans s157).trans e167) (rp_frz n93 (AllB.mono (s31.trans s43) f25)))))) hz173 fun ys175 Fs176 s176 f177 => nx_of ?_)
              obtain ⟨r180, hr180, h⟩ := bsome h
              obtain ⟨c181, hc181, h⟩ := bsome h
              refine sx_if (et_peekP (fun e178 hP179 => (et_b (ev_op (evF_D (ev_callFd (P := P__law_told) (Same.refl _) (ea_cons (ev_d (a := y172) (eL eD) (ev_v (R := (rL rD)) rfl ⟨_, _, rfl, hP179 _ (List.Mem.head _), (AllB.mono e178 (he174 ▸ f177))⟩)) ea_nil) ⟨_, rfl, hr180⟩)) (ev_lFD (ev_v (R := (rL (rDf _))) rfl (Rep.mono (rL (rDf _)) (((((((e126.trans e127).trans s141).trans s145).trans s157).trans e167).trans s176).trans e178) (rp_frz n93 (AllB.mono (s31.trans s43) f25))))) (by have z := eqO_e hc181; have z1 := dt_v eD (K := K) (R := rD) z.1; have z2 := dt_v (eL eD) (K := K) (R := (rL rD)) z.2.1; have z3 := o_neD z1 z2; rw [z.2.2] at z3; exact z3))))) (fun z182 Fs183 s183 => ?_) (fun z182 Fs184 s184 => ?_)
              · have h := cnd_t h z182
                obtain rfl := Option.some.inj h
                refine sx_ret (R := rB) ev_b fun v185 Fs186 s186 f187 => ?_
                exact acc128.rt _ rfl _ _ _ ((((((s141.trans s145).trans s157).trans e167).trans s176).trans s183).trans s186) f187
              · have h := cnd_f h z182
                refine sx_next ?_
                obtain rfl := Option.some.inj h
                refine nx_frzI (n := 0) rfl fun n188 => ?_
                exact (acc128.nx _ rfl _ _ _ ((((((s141.trans s145).trans s157).trans e167).trans s176).trans s184).trans (same_new n188)) ⟨_, _, _, _, rfl, rfl, trivial⟩).1
            · exact hr9.elim
          · rintro s189 σ9 Fe190 O9 b9 e190 ⟨xs191, hs192, ho193, f194, _⟩ hc9
            subst hs192 ho193
            obtain ⟨c195, hc195, hc9⟩ := bsome hc9
            obtain rfl := Option.some.inj hc9
            exact (et_b (ev_op (ev_o (R := rD) rfl (List.Mem.head _) f194) (ev_nspn (ev_lst (R := rD) (as := []) ea_nil (show (0 : Nat) ≤ limL by decide))) (by have z := eqO_e hc195; have z1 := dt_l eD (K := K) (R := rD) z.1; have z2 := dt_l eD (K := K) (R := rD) z.2.1; have z3 := o_neD z1 z2; rw [z.2.2] at z3; exact z3)))
          · rintro s199 σ9 Fe196 Fe197 O9 o9 D9 e196 e197 ⟨xs200, hs201, ho202, f203, _⟩ _ h acc198
            subst hs201 ho202
            obtain ⟨c204, hc204, h⟩ := bsome h
            refine sx_dropM (evM_pop (n := 0) (x := c204) rfl rfl (AllB.mono e197 f203) hc204) fun Fs205 s205 => ?_
            obtain rfl := Option.some.inj h
            exact (acc198.nx _ rfl _ _ _ s205 ⟨(List.dropLast xs200), rfl, rfl, (AllB.mono (e197.trans s205) (pop_all (x := c204) f203 hc204)), trivial⟩).1
          · rintro s207 σ9 F8 F9 O9 ⟨xs208, hs209, ho210, f211, _⟩ e206
            subst hs209 ho210
            exact ⟨xs208, rfl, rfl, (AllB.mono e206 f211), trivial⟩
end
end Law
namespace Law
open PySem PySem.Spec Lm
/-! whole -/
/-! numbers that are drawn (k04, k05, k06, k07): drw_ok -/
theorem mulO_big {i j : Int} (h : i.natAbs.log2 + j.natAbs.log2 < 8000000) : mulO i j = some (i * j) := by unfold mulO; rw [if_pos h]
theorem log_add {a b : Nat} (ha : a.log2 ≤ 1048576) (hb : b < 2 ^ 33) : (a + b).log2 < 1048620 := by
  by_cases h0 : a + b = 0
  · rw [h0]; decide
  · rw [Nat.log2_lt h0]
    have h1 : a < 2 ^ (a.log2 + 1) := Nat.lt_log2_self
    have h2 : 2 ^ (a.log2 + 1) * 2 ^ 33 = 2 ^ (a.log2 + 34) := by rw [← Nat.pow_add]
    have h3 : 2 ^ (a.log2 + 34) ≤ 2 ^ 1048620 := Nat.pow_le_pow_right (by decide) (by omega)
    have h4 : 1 ≤ 2 ^ (a.log2 + 1) := Nat.one_le_two_pow
    generalize 2 ^ 1048620 = P at h3 ⊢
    generalize 2 ^ (a.log2 + 34) = R at h2 h3
    generalize 2 ^ (a.log2 + 1) = Q at h1 h2 h4
    have e33 : (2 : Nat) ^ 33 = 8589934592 := by decide
    rw [e33] at h2 hb
    omega
theorem mixed06 (c k : Int) (hc : c.natAbs.log2 ≤ 1048576) (hk : 0 ≤ k ∧ k ≤ 1000) : ∃ v, m__law_mixed c k = some v ∧ 0 ≤ v ∧ v < 90749487 := by
  unfold m__law_mixed
  have k2 : 0 ≤ 7919 * k * k ∧ 7919 * k * k ≤ 7919 * 1000 * 1000 := ⟨Int.mul_nonneg (by omega) hk.1, Int.mul_le_mul (by omega) hk.2 hk.1 (by omega)⟩
  generalize hK : 7919 * k * k = K at k2
  have lg : (c + K + 13 * k + 5).natAbs.log2 < 1048620 := by
    have h1 : (c + K + 13 * k + 5).natAbs ≤ c.natAbs + (K + 13 * k + 5).natAbs := by omega
    have e33 : (2 : Nat) ^ 33 = 8589934592 := by decide
    have h2 := log_add (b := (K + 13 * k + 5).natAbs) hc (by rw [e33]; omega)
    by_cases h0 : (c + K + 13 * k + 5).natAbs = 0
    · rw [h0]; decide
    · rw [Nat.log2_lt h0]
      have h3 : c.natAbs + (K + 13 * k + 5).natAbs ≠ 0 := by omega
      rw [Nat.log2_lt h3] at h2
      generalize 2 ^ 1048620 = P at h2 ⊢
      omega
  generalize hN : c + K + 13 * k + 5 = N at lg
  have n0 := Int.emod_nonneg (N * N) (b := 1000000007) (by decide)
  have n1 := Int.emod_lt_of_pos (N * N) (b := 1000000007) (by decide)
  refine ⟨N * N % 1000000007 * 48271 % 998244353 / 11, bindE (mulO_s (by decide) (by omega)) (bindE (mulO_s (by omega) (by omega)) (bindE (mulO_s (by decide) (by omega)) (ltE ?_))), ?_, ?_⟩
  · rw [hK, hN]
    exact bindE (mulO_big (by omega)) (bindE (modO_s (by decide)) (bindE (mulO_s (by omega) (by decide)) (bindE (modO_s (by decide)) (bindE (divO_s (by decide)) rfl))))
  · exact Int.ediv_nonneg (Int.emod_nonneg _ (by decide)) (by decide)
  · have := Int.emod_lt_of_pos (N * N % 1000000007 * 48271) (b := 998244353) (by decide)
    omega
theorem ixO_all {α : Type} {P : α → Prop} {as : List α} {i : Int} (h : ∀ a ∈ as, P a) (h0 : 0 ≤ i) (h1 : i < as.length) : ∃ a, ixO as i = some a ∧ P a := by
  rw [ixO_pos h0 h1]
  have h2 : i.toNat < as.length := by omega
  exact ⟨_, List.getElem?_eq_getElem h2, h _ (List.getElem_mem _)⟩
theorem mod_rng (a : Int) {n : Int} (h : 0 < n) : 0 ≤ a % n ∧ a % n < n := ⟨Int.emod_nonneg _ (by omega), Int.emod_lt_of_pos _ h⟩
/-- signs of words -/
def Ws (w : List Nat) : Prop := ∀ c ∈ w, 33 ≤ c ∧ c < 127
theorem Ws.app {a b : List Nat} (h : Ws a) (h2 : Ws b) : Ws (a ++ b) := fun c m => (List.mem_append.mp m).elim (h c) (h2 c)
def wsB (w : List Nat) : Bool := w.all fun c => decide (33 ≤ c) && decide (c < 127)
theorem ws_of {w : List Nat} (h : wsB w = true) : Ws w := fun c m => by
  have := (Bool.and_eq_true _ _).mp (List.all_eq_true.mp h c m)
  exact ⟨of_decide_eq_true this.1, of_decide_eq_true this.2⟩
theorem menu_ok (k : Int) : ∃ w, m__law_menu k = some w ∧ Ws w ∧ 1 ≤ w.length ∧ w.length ≤ 200 := by
  have r := mod_rng k (n := 3) (by decide)
  unfold m__law_menu
  obtain ⟨a, e, h⟩ := ixO_all (P := fun w => Ws w ∧ 1 ≤ w.length ∧ w.length ≤ 200) (as := [letters, [92, 42, 96, 91, 93, 124, 45, 43, 61, 62, 126, 58, 94, 40, 41] ++ [97, 98], letters ++ [92, 42, 96, 91, 93, 124, 45, 43, 61, 62, 126, 58, 94, 40, 41] ++ [33, 34, 35, 36, 38, 39, 44, 46, 47, 59, 60, 63, 64, 95, 123, 125]]) (i := k % 3) (fun a m => by
    rcases List.mem_cons.mp m with e | m
    · rw [e]; exact ⟨ws_of (by decide), by decide, by decide⟩
    · rcases List.mem_cons.mp m with e | m
      · rw [e]; exact ⟨ws_of (by decide), by decide, by decide⟩
      · rw [List.mem_singleton.mp m]; exact ⟨ws_of (by decide), by decide, by decide⟩) r.1 (by show k % 3 < 3; omega)
  exact ⟨a, ltE (ltE (bindE (catS_s (by decide)) (bindE (catS_s (by decide)) (bindE (catS_s (by decide)) (bindE (modO_s (by decide)) (bindE e rfl)))))), h⟩
theorem signs_drawn {n size : Int} {menu : List Nat} (hn : 0 ≤ n ∧ n < 2147483647) (hs : 1 ≤ size ∧ size ≤ 20) (hm : Ws menu ∧ 1 ≤ menu.length ∧ menu.length ≤ 200) : ∃ s, m__law_signs n size menu = some s ∧ Ws s ∧ (s.length : Int) = size := by
  unfold m__law_signs
  refine ltX (bindX (rngO_s (by omega) (by omega)) (fwdX ?_))
  refine (loop_all (ρ := Unit) (as := rng 0 size) (i := 0) (s := (n, ([] : List Nat))) (I := fun i s => (0 ≤ s.1 ∧ s.1 < 2147483647) ∧ Ws s.2 ∧ s.2.length = i) ⟨hn, fun c m => (by cases m), rfl⟩ ?g).elim fun s es => ⟨s, es.1, s.2, rfl, es.2.2.1, ?_⟩
  case g =>
    intro j s a ha hI
    have hj : j < (rng 0 size).length := (List.getElem?_eq_some_iff.mp ha).1
    have ra := mem_rng (List.mem_of_getElem? ha)
    rw [rng_len] at hj
    have q : 0 ≤ 7 * a * a ∧ 7 * a * a ≤ 7 * 20 * 20 := ⟨Int.mul_nonneg (by omega) (by omega), Int.mul_le_mul (by omega) (by omega) (by omega) (by omega)⟩
    have m1 := mod_rng (s.1 * 48271 + 7 * a * a + 11) (n := 2147483647) (by decide)
    have m2 := mod_rng ((s.1 * 48271 + 7 * a * a + 11) % 2147483647 / 13) (n := (menu.length : Int)) (by omega)
    obtain ⟨c, e, hc⟩ := ixO_all (P := fun c => 33 ≤ c ∧ c < 127) hm.1 m2.1 m2.2
    refine ⟨((s.1 * 48271 + 7 * a * a + 11) % 2147483647, s.2 ++ [c]), bindE (mulO_s (by omega) (by decide)) (bindE (mulO_s (by decide) (by omega)) (bindE (mulO_s (by omega) (by omega)) (bindE (modO_s (by decide)) (ltE (bindE (divO_s (by decide)) (bindE (modO_s (by omega)) (bindE e (bindE (catS_s (by rw [hI.2.2]; simp only [List.length_singleton]; omega)) (ltE rfl))))))))), m1, hI.2.1.app fun d m => by rw [List.mem_singleton.mp m]; exact hc, ?_⟩
    rw [List.length_append, hI.2.2]; rfl
  · rw [es.2.2.2, rng_len]; omega
theorem small_log {c : Int} (h : 0 ≤ c ∧ c < 100000000) : c.natAbs.log2 ≤ 1048576 := by
  by_cases h0 : c.natAbs = 0
  · rw [h0]; decide
  · have : c.natAbs.log2 < 30 := by
      rw [Nat.log2_lt h0]
      have e : (2 : Nat) ^ 30 = 1073741824 := by decide
      rw [e]; omega
    omega
theorem cell_ok (ns : List Int) (k : Nat) : m__law_cell ns (k : Int) = some (ns.getD k 0) := by
  unfold m__law_cell
  by_cases h : k < ns.length
  · refine cndT (decT (by omega)) (bindE (ixO_nat (i := k) (List.getElem?_eq_getElem h)) ?_)
    rw [List.getD_eq_getElem?_getD, List.getElem?_eq_getElem h]; rfl
  · refine cndF (decF (by omega)) ?_
    rw [List.getD_eq_getElem?_getD, List.getElem?_eq_none (by omega)]; rfl
theorem bits_log {z : Int} (h : Builtin.Int.intBits z ≤ 1048576) : z.natAbs.log2 ≤ 1048576 := by
  by_cases h0 : z = 0
  · rw [h0]; decide
  · unfold Builtin.Int.intBits at h
    rw [if_neg (by simpa using h0)] at h
    omega
theorem isn_ok (l : List Nat) : m_is_name (encS l) = some (nameB l) := by
  unfold m_is_name nameB
  have hm : ∀ p : Nat → Bool, mapF (fun (a : Nat) => some (some (p a))) l = some (l.map p) := fun p => mapF_map fun a _ => rfl
  have ea : asS (encS l) = some l := rfl
  refine bindE (a := !(decide ((1 : Int) ≤ (l.length : Int)) && decide ((l.length : Int) ≤ 12))) (cndF rfl (bindE ea rfl)) ?_
  by_cases h1 : 1 ≤ l.length
  · by_cases h2 : l.length ≤ 12
    · refine cndF ?_ (bindE ea ?_)
      · rw [decT (show (1 : Int) ≤ (l.length : Int) by omega), decT (show (l.length : Int) ≤ 12 by omega)]
        rfl
      · refine bindE (hm _) ?_
        rw [decT h1, decT h2]
        simp only [Bool.true_and, List.all_map]
        rfl
    · refine cndT ?_ ?_
      · rw [decF (show ¬(l.length : Int) ≤ 12 by omega), Bool.and_false]
        rfl
      · rw [decF h2, Bool.and_false, Bool.false_and]
  · refine cndT ?_ ?_
    · rw [decF (show ¬(1 : Int) ≤ (l.length : Int) by omega), Bool.false_and]
      rfl
    · rw [decF h1, Bool.false_and, Bool.false_and]
theorem toldP_ok (r : List XD → Option (List PyData)) (p : Pi) : (disX "told" (xP p) [("Plain", m_Plain_told (xP p)), ("Code", m_Code_told (xP p)), ("Strong", m_Strong_told r (xP p)), ("Link", m_Link_told (xP p)), ("Mark", m_Mark_told (xP p))]) = some (toldP p) := by
  cases p <;> rfl
theorem toldS_ok (r : List XD → Option (List PyData)) (ps : List Pi) {ds : List PyData} (h : r (ps.map xP) = some ds) : (disX "told" (xO (.strong ps)) [("Plain", m_Plain_told (xO (.strong ps))), ("Code", m_Code_told (xO (.strong ps))), ("Strong", m_Strong_told r (xO (.strong ps))), ("Link", m_Link_told (xO (.strong ps))), ("Mark", m_Mark_told (xO (.strong ps)))]) = some (.tuple [encS kStrong, .list ds]) := by
  show m_Strong_told r (xO (.strong ps)) = _
  unfold m_Strong_told
  refine bindE (a := .lst (ps.map xP)) rfl (bindE (a := ps.map xP) rfl (bindE h ?_))
  first
    | rfl
    | exact (congrArg (fun l => some (PyData.tuple [encS kStrong, .list l])) (List.map_id ds))
theorem tolds_in (n : Nat) (ps : List Pi) : M_told_parts (n + 1) (ps.map xP) = some (ps.map toldP) := by
  show m_told_parts__o (M_told_parts n) (ps.map xP) = _
  unfold m_told_parts__o
  have key : ∀ ps : List Pi, mapF (fun (a10 : XD) => (disX "told" a10 [("Plain", m_Plain_told (a10)), ("Code", m_Code_told (a10)), ("Strong", m_Strong_told (M_told_parts n) (a10)), ("Link", m_Link_told (a10)), ("Mark", m_Mark_told (a10))]).bind fun r18 => some (some r18)) (ps.map xP) = some (ps.map toldP) := fun ps => by
    induction ps with
    | nil => rfl
    | cons p ps ih => exact mapF_put (by rw [toldP_ok]; rfl) ih
  exact bindE (key ps) rfl
theorem tolds_ok (ps : List Po) : m_told_parts (ps.map xO) = some (ps.map toldO) := by
  show m_told_parts__o (M_told_parts 2) (ps.map xO) = _
  unfold m_told_parts__o
  have key : ∀ ps : List Po, mapF (fun (a10 : XD) => (disX "told" a10 [("Plain", m_Plain_told (a10)), ("Code", m_Code_told (a10)), ("Strong", m_Strong_told (M_told_parts 2) (a10)), ("Link", m_Link_told (a10)), ("Mark", m_Mark_told (a10))]).bind fun r18 => some (some r18)) (ps.map xO) = some (ps.map toldO) := fun ps => by
    induction ps with
    | nil => rfl
    | cons p ps ih =>
      cases p with
      | inn p => exact mapF_put (bindE (toldP_ok (M_told_parts 2) p) rfl) ih
      | strong qs => exact mapF_put (bindE (toldS_ok (M_told_parts 2) qs (tolds_in 1 qs)) rfl) ih
  exact bindE (key ps) rfl
theorem signs_ok {s : List Nat} (h : SG s) : m_is_signs (encS s) = some true := by
  have ea : asS (encS s) = some s := rfl
  unfold m_is_signs
  refine bindE (a := false) (cndF rfl (bindE (eqO_S h.ok (okS_iff.mp (by decide))) (by rw [decF h.ne]))) (cndF rfl (bindE ea (bindE (a := true) (cndT ?_ (bindE ea (bindE (a := true) (cndT (ndecT h.n10) (bindE ea (by rw [ndecT h.n9]))) rfl))) rfl)))
  rw [nodd_in h.nd]; rfl
theorem small_ok {n : List Nat} (h : Sml n) (h2 : OkS n) : m_is_small (encS n) = some true := by
  unfold m_is_small
  refine bindE (isn_ok n) (bindE (a := true) (cndT h.1 (bindE (a := n) rfl (bindE (a := true) ?_ rfl))) rfl)
  rw [h.2]
  exact eqO_same (ldS h2) (by decide)
def kdP : Pi → List Nat
  | .plain _ => kPlain
  | .code _ => kCode
  | .link _ _ => kLink
  | .mark _ => kNote
def kdO : Po → List Nat
  | .inn p => kdP p
  | .strong _ => kStrong
theorem ok_kd (p : Po) : okS (kdO p) = true := by
  cases p with
  | inn p => cases p <;> rfl
  | strong ps => rfl
theorem i0 (p : Po) : ixD (toldO p) (0 : Int) = some (encS (kdO p)) := by
  cases p with
  | inn p => cases p <;> rfl
  | strong ps => rfl
theorem kd_plain (p : Po) : decide (kdO p = kPlain) = isPO p := by
  cases p with
  | inn p => cases p <;> rfl
  | strong ps => rfl
theorem eqK {k t : List Nat} (h : okS k = true := by decide) (h2 : okS t = true := by decide) : eqO (id (encS k)) (encS t) = some (decide (k = t)) := eqO_S (okS_iff.mp h) (okS_iff.mp h2)
/-! ### set by two closures -/
theorem signs_all {P : Nat → Prop} {n size : Int} {menu : List Nat} (hn : 0 ≤ n ∧ n < 2147483647) (hs : 0 ≤ size ∧ size ≤ 20) (hm : ∀ c ∈ menu, P c) (hl : 1 ≤ menu.length ∧ menu.length ≤ 200) : ∃ s, m__law_signs n size menu = some s ∧ (∀ c ∈ s, P c) ∧ (s.length : Int) = size := by
  unfold m__law_signs
  refine ltX (bindX (rngO_s (by omega) (by omega)) (fwdX ?_))
  refine (loop_all (ρ := Unit) (as := rng 0 size) (i := 0) (s := (n, ([] : List Nat))) (I := fun i s => (0 ≤ s.1 ∧ s.1 < 2147483647) ∧ (∀ c ∈ s.2, P c) ∧ s.2.length = i) ⟨hn, fun c m => (by cases m), rfl⟩ ?g).elim fun s es => ⟨s, es.1, s.2, rfl, es.2.2.1, ?_⟩
  case g =>
    intro j s a ha hI
    have hj : j < (rng 0 size).length := (List.getElem?_eq_some_iff.mp ha).1
    have ra := mem_rng (List.mem_of_getElem? ha)
    rw [rng_len] at hj
    have q : 0 ≤ 7 * a * a ∧ 7 * a * a ≤ 7 * 20 * 20 := ⟨Int.mul_nonneg (by omega) (by omega), Int.mul_le_mul (by omega) (by omega) (by omega) (by omega)⟩
    have m1 := mod_rng (s.1 * 48271 + 7 * a * a + 11) (n := 2147483647) (by decide)
    have m2 := mod_rng ((s.1 * 48271 + 7 * a * a + 11) % 2147483647 / 13) (n := (menu.length : Int)) (by omega)
    obtain ⟨c, e, hc⟩ := ixO_all (P := P) hm m2.1 m2.2
    refine ⟨((s.1 * 48271 + 7 * a * a + 11) % 2147483647, s.2 ++ [c]), bindE (mulO_s (by omega) (by decide)) (bindE (mulO_s (by decide) (by omega)) (bindE (mulO_s (by omega) (by omega)) (bindE (modO_s (by decide)) (ltE (bindE (divO_s (by decide)) (bindE (modO_s (by omega)) (bindE e (bindE (catS_s (by rw [hI.2.2]; simp only [List.length_singleton]; omega)) (ltE rfl))))))))), m1, fun d m => (List.mem_append.mp m).elim (hI.2.1 d) (fun m => by rw [List.mem_singleton.mp m]; exact hc), ?_⟩
    rw [List.length_append, hI.2.2]; rfl
  · rw [es.2.2.2, rng_len]; omega
theorem menu_0 : m__law_menu 0 = some letters := by
  unfold m__law_menu
  exact ltE (ltE (bindE (catS_s (by decide)) (bindE (catS_s (by decide)) (bindE (catS_s (by decide)) (bindE (modO_s (by decide)) (bindE (ixO_nat (i := 0) rfl) rfl))))))
theorem name_drawn {n : Int} (hn : 0 ≤ n ∧ n < 90749487) : ∃ s, m__law_name n = some s ∧ nameB s = true := by
  have r := mod_rng (n / 3) (n := 12) (by decide)
  have r3 := mod_rng n (n := 3) (by decide)
  have nb : ∀ s : List Nat, (s.length : Int) = 1 + n / 3 % 12 → (∀ c ∈ s, c ∈ letters) → nameB s = true := fun s h1 h2 => by
    unfold nameB
    rw [Bool.and_eq_true, Bool.and_eq_true, decide_eq_true_eq, decide_eq_true_eq, List.all_eq_true]
    exact ⟨⟨by omega, by omega⟩, fun c m => decide_eq_true (h2 c m)⟩
  unfold m__law_name
  refine bindX (divO_s (by decide)) (bindX (modO_s (by decide)) (ltX (bindX (modO_s (by decide)) (cndX (fun _ => ?_) fun _ => ?_))))
  · obtain ⟨t, e3, f3, f4⟩ := signs_all (P := fun c => c ∈ letters) (n := n / 40) (size := 1 + n / 3 % 12) (by omega) (by omega) (fun c m => m) (by decide)
    exact ⟨t, bindE (divO_s (by decide)) (bindE menu_0 (bindE e3 rfl)), nb t f4 f3⟩
  · have r4 := mod_rng (n / 40) (n := 1 + n / 3 % 12) (by omega)
    obtain ⟨t, e3, f3, f4⟩ := signs_all (P := fun c => c ∈ letters) (n := n / 500) (size := 1) (by omega) (by omega) (fun c m => m) (by decide)
    have rl : ∀ k : Int, 0 ≤ k ∧ k ≤ 20 → repS [110] k = some (List.replicate k.toNat 110) := fun k hk => repS_s (by omega) (by omega)
    refine ⟨List.replicate (n / 40 % (1 + n / 3 % 12)).toNat 110 ++ t ++ List.replicate (1 + n / 3 % 12 - 1 - n / 40 % (1 + n / 3 % 12)).toNat 110, bindE (divO_s (by decide)) (bindE (modO_s (by omega)) (ltE (bindE (rl _ (by omega)) (bindE (divO_s (by decide)) (bindE menu_0 (bindE e3 (bindE (catS_s (by rw [List.length_replicate]; omega)) (bindE (rl _ (by omega)) (bindE (catS_s (by rw [List.length_append, List.length_replicate, List.length_replicate]; omega)) rfl))))))))), nb _ ?_ fun c m => ?_⟩
    · rw [List.length_append, List.length_append, List.length_replicate, List.length_replicate]
      omega
    · have h110 : (110 : Nat) ∈ letters := by decide
      rcases List.mem_append.mp m with m | m
      · rcases List.mem_append.mp m with m | m
        · rw [(List.mem_replicate.mp m).2]; exact h110
        · exact f3 c m
      · rw [(List.mem_replicate.mp m).2]; exact h110
theorem low_ok {n : List Nat} (h : nameB n = true) : OkS (lowerS n) := by
  have s := sml_low h
  exact ⟨by show (lowerS n).length ≤ 5500000; rw [lower_len]; have := name_ne h; omega, name_small s.1⟩
theorem rpl_tick {l : List Nat} (h : l.length ≤ 200000) : rplO [96] [39] l = some (l.map fun d => if d = 96 then 39 else d) := by
  have e : replS [96] [39] 0 l = l.map fun d => if d = 96 then 39 else d := by
    rw [repl_one]
    induction l with
    | nil => rfl
    | cons d l ih =>
      rw [List.flatMap_cons, List.map_cons, ih (by rw [List.length_cons] at h; omega)]
      by_cases q : d = 96
      · rw [if_pos q, if_pos q]; rfl
      · rw [if_neg q, if_neg q]; rfl
  unfold rplO
  rw [e, if_pos]
  refine ⟨by rw [List.length_map]; show l.length ≤ 5500000; omega, ?_⟩
  simp
  omega
/-! ### texts that are drawn -/
theorem last_app {α : Type} (a : List α) {b : List α} (h : b ≠ []) : (a ++ b).getLast? = b.getLast? := by
  rw [List.getLast?_append]
  cases q : b.getLast? with
  | none => exact absurd (List.getLast?_eq_none_iff.mp q) h
  | some x => rfl
theorem nodd_snoc {c : Nat} : ∀ {l : List Nat}, nodd l → l.getLast? ≠ some 32 → nodd (l ++ [c])
  | [], _, _ => nodd_cons nodd_nil fun _ => by simp
  | d :: l, h, h2 => by
    cases l with
    | nil =>
      refine nodd_cons (nodd_cons nodd_nil fun _ => by simp) fun e => absurd (by rw [e]; rfl) h2
    | cons x l =>
      have ih := nodd_snoc (c := c) (nodd_tl h) (by rw [List.getLast?_cons_cons] at h2; exact h2)
      exact nodd_cons ih fun e z => nodd_no h e (by simpa using z)
theorem nodd_pre : ∀ {w r : List Nat}, (∀ c ∈ w, c ≠ 32) → nodd r → nodd (w ++ r)
  | [], _, _, h => h
  | c :: w, r, h1, h => nodd_cons (nodd_pre (fun d m => h1 d (List.mem_cons_of_mem _ m)) h) fun e => absurd e (h1 c (List.mem_cons_self ..))
structure Cor (n : Nat) (t : List Nat) : Prop where
  ne : t ≠ []
  len : t.length ≤ n
  chr : ∀ c ∈ t, 32 ≤ c ∧ c < 127
  nd : nodd t
  hd : t.head? ≠ some 32
  lst : t.getLast? ≠ some 32
abbrev rb (n : Nat) : List Nat := List.replicate n 32
/-- a text with a blanks ahead, e behind -/
def Bl (n a e : Nat) (s : List Nat) : Prop := ∃ t, s = rb a ++ (t ++ rb e) ∧ Cor n t
theorem cor_end {n e : Nat} {t : List Nat} (h : Cor n t) (he : e ≤ 1) : nodd (t ++ rb e) := by
  have : e = 0 ∨ e = 1 := by omega
  rcases this with rfl | rfl
  · show nodd (t ++ []); rw [List.append_nil]; exact h.nd
  · exact nodd_snoc h.nd h.lst
theorem cor_hd {n : Nat} {t r : List Nat} (h : Cor n t) : (t ++ r).head? ≠ some 32 := by
  cases q : t with
  | nil => exact absurd q h.ne
  | cons c t => have := h.hd; rw [q] at this; exact this
theorem Bl.nd {n a e : Nat} {s : List Nat} (h : Bl n a e s) (ha : a ≤ 1) (he : e ≤ 1) : nodd s := by
  obtain ⟨t, rfl, h⟩ := h
  have : a = 0 ∨ a = 1 := by omega
  rcases this with rfl | rfl
  · exact cor_end h he
  · exact nodd_cons (cor_end h he) fun _ => cor_hd (t := t) h
theorem Bl.chr {n a e : Nat} {s : List Nat} (h : Bl n a e s) : ∀ c ∈ s, 32 ≤ c ∧ c < 127 := fun c m => by
  obtain ⟨t, rfl, h⟩ := h
  rcases List.mem_append.mp m with m | m
  · rw [(List.mem_replicate.mp m).2]; omega
  · rcases List.mem_append.mp m with m | m
    · exact h.chr c m
    · rw [(List.mem_replicate.mp m).2]; omega
theorem Bl.len {n a e : Nat} {s : List Nat} (h : Bl n a e s) : s.length ≤ n + a + e := by
  obtain ⟨t, rfl, h⟩ := h
  have := h.len
  simp only [List.length_append, List.length_replicate]
  omega
theorem Bl.sg {n a e : Nat} {s : List Nat} (h : Bl n a e s) (ha : a ≤ 1) (he : e ≤ 1) (hn : n ≤ 1000) : SG s := by
  have hl := h.len
  refine ⟨⟨by show s.length ≤ 5500000; omega, fun c m => by have := h.chr c m; omega⟩, ?_, h.nd ha he, fun m => by have := h.chr 10 m; omega, fun m => by have := h.chr 9 m; omega⟩
  obtain ⟨t, rfl, h⟩ := h
  intro z
  exact h.ne (List.append_eq_nil_iff.mp (List.append_eq_nil_iff.mp z).2).1
theorem Bl.cons {n a e c : Nat} {s : List Nat} (h : Bl n a e s) (ha : a ≤ 1) (hc : 33 ≤ c ∧ c < 127) : Bl (n + 2) 0 e (c :: s) := by
  have h0 := h.chr
  obtain ⟨t, rfl, h⟩ := h
  have hn : nodd (rb a ++ t) := (show Bl n a 0 (rb a ++ (t ++ rb 0)) from ⟨t, rfl, h⟩).nd ha (by omega) |> fun z => by
    have e : rb a ++ (t ++ rb 0) = rb a ++ t := by show rb a ++ (t ++ []) = _; rw [List.append_nil]
    rw [e] at z; exact z
  refine ⟨c :: (rb a ++ t), ?_, by simp, ?_, ?_, nodd_cons hn fun z => by omega, ?_, ?_⟩
  · show c :: (rb a ++ (t ++ rb e)) = [] ++ ((c :: (rb a ++ t)) ++ rb e)
    simp
  · have := h.len
    simp only [List.length_cons, List.length_append, List.length_replicate]
    omega
  · intro d m
    rcases List.mem_cons.mp m with z | m
    · rw [z]; omega
    · rcases List.mem_append.mp m with m | m
      · rw [(List.mem_replicate.mp m).2]; omega
      · exact h.chr d m
  · intro z; cases z; omega
  · have e1 : (c :: (rb a ++ t)).getLast? = t.getLast? := by
      rw [show c :: (rb a ++ t) = (c :: rb a) ++ t from rfl, last_app _ h.ne]
    rw [e1]; exact h.lst
theorem Bl.l {n a e : Nat} {s : List Nat} (h : Bl n a e s) : Bl n 0 e (lstripS s [32]) := by
  obtain ⟨t, rfl, h⟩ := h
  refine ⟨t, ?_, h⟩
  rw [lstrip_body a (t ++ rb e) fun d hd z => cor_hd h (by rw [hd, z])]
  rfl
theorem Bl.r {n a e : Nat} {s : List Nat} (h : Bl n a e s) : Bl n a 0 (rstripS s [32]) := by
  obtain ⟨t, rfl, h⟩ := h
  refine ⟨t, ?_, h⟩
  rw [rstrip_body a e t h.ne fun d hd z => h.lst (by rw [hd, z])]
  show _ = rb a ++ (t ++ [])
  rw [List.append_nil]
theorem Bl.h0 {n e : Nat} {s : List Nat} (h : Bl n 0 e s) : s.head? ≠ some 32 := by
  obtain ⟨t, rfl, h⟩ := h
  exact cor_hd (t := t) h
theorem Bl.l0 {n a : Nat} {s : List Nat} (h : Bl n a 0 s) : s.getLast? ≠ some 32 := by
  obtain ⟨t, rfl, h⟩ := h
  have e : rb a ++ (t ++ rb 0) = rb a ++ t := by show rb a ++ (t ++ []) = _; rw [List.append_nil]
  rw [e, last_app _ h.ne]
  exact h.lst
theorem nodd_map {f : Nat → Nat} (hf : ∀ c, f c = 32 ↔ c = 32) : ∀ {l : List Nat}, nodd l → nodd (l.map f)
  | [], _ => nodd_nil
  | c :: l, h => nodd_cons (nodd_map hf (nodd_tl h)) fun e z => by
    have := nodd_no h ((hf c).mp e)
    cases l with
    | nil => cases z
    | cons d l =>
      exact this (by rw [show (d :: l).head? = some d from rfl, (hf d).mp (Option.some.inj z)])
theorem Bl.map {n a e : Nat} {s : List Nat} {f : Nat → Nat} (h : Bl n a e s) (hf : ∀ c, f c = 32 ↔ c = 32) (h2 : ∀ c, 32 ≤ c ∧ c < 127 → 32 ≤ f c ∧ f c < 127) : Bl n a e (s.map f) := by
  obtain ⟨t, rfl, h⟩ := h
  have h32 : f 32 = 32 := (hf 32).mpr rfl
  refine ⟨t.map f, by simp [h32], fun z => h.ne (List.map_eq_nil_iff.mp z), by rw [List.length_map]; exact h.len, fun c m => ?_, nodd_map hf h.nd, fun z => ?_, fun z => ?_⟩
  · obtain ⟨d, md, rfl⟩ := List.mem_map.mp m
    exact h2 d (h.chr d md)
  · rw [List.head?_map] at z
    cases q : t.head? with
    | none => rw [q] at z; cases z
    | some d => rw [q] at z; exact h.hd (by rw [q, (hf d).mp (Option.some.inj z)])
  · rw [List.getLast?_map] at z
    cases q : t.getLast? with
    | none => rw [q] at z; cases z
    | some d => rw [q] at z; exact h.lst (by rw [q, (hf d).mp (Option.some.inj z)])
theorem text5 {n : Int} (hn : 0 ≤ n ∧ n < 90749487) : ∃ s, m__law_text n 3 = some s ∧ Cor 21 s := by
  have r := mod_rng n (n := 3) (by decide)
  unfold m__law_text
  refine ltX (bindX (modO_s (by omega)) (bindX (rngO_s (by omega) (by omega)) (fwdX ?_)))
  refine (loop_all (ρ := Unit) (as := rng 0 (1 + n % 3)) (i := 0) (s := ([] : List (List Nat))) (I := fun i s => s.length = i ∧ ∀ w ∈ s, w ≠ [] ∧ w.length ≤ 6 ∧ Ws w) ⟨rfl, fun c m => (by cases m)⟩ ?g).elim fun s es => ⟨s, es.1, ?_⟩
  case g =>
    intro j s a ha hI
    have hj : j < (rng 0 (1 + n % 3)).length := (List.getElem?_eq_some_iff.mp ha).1
    have ra := mem_rng (List.mem_of_getElem? ha)
    rw [rng_len] at hj
    obtain ⟨v, e, f⟩ := mixed06 n (3 * a + 1) (small_log (by omega)) (by omega)
    have r1 := mod_rng (v / 7) (n := 6) (by decide)
    obtain ⟨w, e2, f2⟩ := menu_ok (v / 50)
    obtain ⟨t, e3, f3, f4⟩ := signs_drawn (n := v) (size := 1 + v / 7 % 6) (by omega) (by omega) f2
    refine ⟨s ++ [t], bindE (mulO_s (by decide) (by omega)) (bindE e (ltE (bindE (divO_s (by decide)) (bindE (modO_s (by decide)) (bindE (divO_s (by decide)) (bindE e2 (bindE e3 (bindE (appO_s (by omega)) rfl)))))))), by rw [List.length_append, hI.1]; rfl, fun w m => ?_⟩
    rcases List.mem_append.mp m with m | m
    · exact hI.2 w m
    · rw [List.mem_singleton.mp m]
      exact ⟨fun z => by rw [z] at f4; simp at f4; omega, by omega, f3⟩
  · obtain ⟨i1, i2⟩ := es.2
    rw [rng_len] at i1
    have no : ∀ {w : List Nat}, Ws w → ∀ c ∈ w, c ≠ 32 := fun h c m z => by have := h c m; omega
    have key : ∀ ws : List (List Nat), (∀ w ∈ ws, w ≠ [] ∧ w.length ≤ 6 ∧ Ws w) → ws ≠ [] → Cor (7 * ws.length) (joinS [32] ws) := fun ws => by
      induction ws with
      | nil => exact fun _ h => absurd rfl h
      | cons w ws ih =>
        intro h _
        obtain ⟨a1, a2, a3⟩ := h w (List.mem_cons_self ..)
        have hh : ∀ r : List Nat, (w ++ r).head? ≠ some 32 := fun r z => by
          cases w with
          | nil => exact a1 rfl
          | cons c w => exact no a3 c (List.mem_cons_self ..) (Option.some.inj z)
        cases ws with
        | nil =>
          rw [joinS_one]
          refine ⟨a1, by simp; omega, fun c m => by have := a3 c m; omega, ?_, ?_, fun z => no a3 32 (List.mem_of_getLast? z) rfl⟩
          · have := nodd_pre (r := []) (no a3) nodd_nil
            rw [List.append_nil] at this; exact this
          · have := hh []
            rw [List.append_nil] at this; exact this
        | cons w2 ws =>
          have b := ih (fun x m => h x (List.mem_cons_of_mem _ m)) (by simp)
          rw [joinS_cons, List.append_assoc]
          refine ⟨fun z => a1 (List.append_eq_nil_iff.mp z).1, ?_, fun c m => ?_, nodd_pre (no a3) (nodd_cons b.nd fun _ => b.hd), hh _, ?_⟩
          · have := b.len
            simp only [List.length_append, List.length_cons, List.length_nil] at this ⊢
            omega
          · rcases List.mem_append.mp m with m | m
            · have := a3 c m; omega
            · rcases List.mem_append.mp m with m | m
              · rw [List.mem_singleton.mp m]; decide
              · exact b.chr c m
          · rw [last_app _ (by simp), last_app _ b.ne]
            exact b.lst
    have ne : s ≠ [] := fun z => by rw [z] at i1; simp at i1; omega
    have t := key s i2 ne
    have tl := t.len
    exact ⟨_, bindE (joinO_s (by omega)) rfl, ⟨t.ne, by omega, t.chr, t.nd, t.hd, t.lst⟩⟩
theorem ends_ok {n : Int} {s : List Nat} (hn : 0 ≤ n) (h : Cor 21 s) : ∃ t a e, m__law_ends s n = some t ∧ a ≤ 1 ∧ e ≤ 1 ∧ Bl 21 a e t := by
  have hl := h.len
  have rp : ∀ b : Bool, ∃ k : Nat, k ≤ 1 ∧ repS [32] (if b = true then (1 : Int) else 0) = some (rb k) := fun b => by
    cases b with
    | false => exact ⟨0, by omega, by rw [if_neg Bool.false_ne_true]; exact repS_s (by decide) (by decide)⟩
    | true => exact ⟨1, by omega, by rw [if_pos rfl]; exact repS_s (by decide) (by decide)⟩
  obtain ⟨a, ha, ea⟩ := rp (decide (n % 4 = (1 : Int)))
  obtain ⟨e, he, ee⟩ := rp (decide (n / 4 % 4 = (1 : Int)))
  unfold m__law_ends
  refine ⟨rb a ++ s ++ rb e, a, e, bindE (modO_s (by decide)) (bindE ea (bindE (catS_s (by rw [List.length_replicate]; omega)) (bindE (divO_s (by decide)) (bindE (modO_s (by decide)) (bindE ee (bindE (catS_s (by rw [List.length_append, List.length_replicate, List.length_replicate]; omega)) rfl)))))), ha, he, s, by rw [List.append_assoc], h⟩
/-! ### parts that are drawn -/
/-- what is drawn in one place -/
structure Pd (inner : Bool) (before : List Nat) (p : Po) : Prop where
  np : NPo p
  sz : szPo p ≤ 160
  pl : ∀ s, p = .inn (.plain s) → before ≠ kPlain ∧ ∃ a e, a ≤ 1 ∧ e ≤ 1 ∧ Bl 23 a e s
  inn : inner = true → ∃ q, p = .inn q ∧ szPi q ≤ 50
  ln : ∀ qs, p = .strong qs → qs.length ≤ 3
abbrev kindsL : List (List Nat) := [kPlain, kPlain, kCode, kLink, kNote, kStrong]
theorem bl_up {n m a e : Nat} {s : List Nat} (h : Bl n a e s) (hm : n ≤ m) : Bl m a e s := by
  obtain ⟨t, e, h⟩ := h
  exact ⟨t, e, h.ne, Nat.le_trans h.len hm, h.chr, h.nd, h.hd, h.lst⟩
theorem part_drawn {r : Int → Int → Bool → Option (List PyData)} {n : Int} {before : List Nat} {inner : Bool} (hn : 0 ≤ n ∧ n < 90749487)
    (hr : inner = false → ∀ m size : Int, 0 ≤ m ∧ m < 90749487 → 1 ≤ size ∧ size ≤ 3 → ∃ qs : List Pi, r m size true = some (qs.map toldP) ∧ NPs qs ∧ qs ≠ [] ∧ (qs.map szPi).sum ≤ 150 ∧ qs.length ≤ 3) :
    ∃ p, m__law_part r n before inner = some (toldO p) ∧ Pd inner before p := by
  have r6 := mod_rng n (n := 6) (by decide)
  have r3 := mod_rng (n / 6) (n := 3) (by decide)
  obtain ⟨k, ek, hk⟩ := ixO_all (P := fun k => k = kPlain ∨ k = kCode ∨ k = kLink ∨ k = kNote ∨ k = kStrong) (as := kindsL) (i := n % 6) (by
    intro a m
    simp only [kindsL, List.mem_cons, List.not_mem_nil, or_false] at m
    rcases m with rfl | rfl | rfl | rfl | rfl | rfl
    · exact Or.inl rfl
    · exact Or.inl rfl
    · exact Or.inr (Or.inl rfl)
    · exact Or.inr (Or.inr (Or.inl rfl))
    · exact Or.inr (Or.inr (Or.inr (Or.inl rfl)))
    · exact Or.inr (Or.inr (Or.inr (Or.inr rfl)))) r6.1 r6.2
  obtain ⟨k2, ek2, hk2⟩ := ixO_all (P := fun k => k = kCode ∨ k = kLink ∨ k = kNote) (as := [kCode, kLink, kNote]) (i := n / 6 % 3) (by
    intro a m
    simp only [List.mem_cons, List.not_mem_nil, or_false] at m
    exact m) r3.1 r3.2
  have hj : ∃ j, (cnd ((inner && (decide (k = kStrong))) || ((decide (before = kPlain)) && (decide (k = kPlain)))) ((modO (n / 6) (3 : Int)).bind fun c88 => (ixO ([kCode, kLink, kNote] : List (List Nat)) c88).bind fun c89 => lt c89 fun x90 => some x90) (some k)) = some j ∧ (j = kPlain ∨ j = kCode ∨ j = kLink ∨ j = kNote ∨ j = kStrong) ∧ (j = kStrong → inner = false) ∧ (j = kPlain → before ≠ kPlain) := by
    by_cases c : ((inner && (decide (k = kStrong))) || ((decide (before = kPlain)) && (decide (k = kPlain)))) = true
    · refine ⟨k2, cndT c (bindE (modO_s (by decide)) (bindE ek2 rfl)), Or.inr ?_, fun z => ?_, fun z => ?_⟩
      · rcases hk2 with h | h | h
        · exact Or.inl h
        · exact Or.inr (Or.inl h)
        · exact Or.inr (Or.inr (Or.inl h))
      · rw [z] at hk2; exact absurd hk2 (by decide)
      · rw [z] at hk2; exact absurd hk2 (by decide)
    · have c := Bool.eq_false_iff.mpr c
      refine ⟨k, cndF c rfl, hk, fun z => ?_, fun z w => ?_⟩
      · rw [z] at c
        cases inner with
        | false => rfl
        | true => simp at c
      · rw [z, w] at c
        simp at c
  obtain ⟨j, ej, hj, js, jp⟩ := hj
  unfold m__law_part
  suffices h : ∃ p, (cnd (decide (j = kNote)) ((divO (n / 6) (3 : Int)).bind fun c33 => (m__law_name (c33)).bind fun r34 => some (PyData.tuple [(encS j), (encS (lowerS r34))])) (cnd (decide (j = kStrong)) ((m__law_mixed (n / 6) ((70 : Int))).bind fun r41 => (modO (n / 6) (3 : Int)).bind fun c42 => (r (r41) (((1 : Int) + c42)) (true)).bind fun r43 => some (PyData.tuple [(encS j), (PyData.list r43)])) ((m__law_mixed (n / 6) ((71 : Int))).bind fun r47 => (m__law_text (r47) ((3 : Int))).bind fun r48 => (divO (n / 6) (3 : Int)).bind fun c49 => (m__law_ends (r48) (c49)).bind fun r50 => lt r50 fun x51 => cnd (decide (j = kLink)) ((modO (n / 6) (5 : Int)).bind fun c58 => (repS [94] (if (decide (c58 = (0 : Int))) = true then (1 : Int) else 0)).bind fun c59 => (catS c59 x51).bind fun c60 => (divO (n / 6) (7 : Int)).bind fun c61 => (m__law_name (c61)).bind fun r62 => some (PyData.tuple [(encS j), (encS c60), (encS (lowerS r62))])) (cnd (decide (j = kCode)) ((rplO [96] [39] x51).bind fun c69 => some (PyData.tuple [(encS j), (encS c69)])) ((cnd (decide (before = kNote)) ((modO (n / 6) (2 : Int)).bind fun c73 => some (decide (c73 = (0 : Int)))) (some false)).bind fun c74 => cnd c74 ((catS [58] x51).bind fun c78 => some (PyData.tuple [(encS j), (encS c78)])) (some (PyData.tuple [(encS j), (encS x51)])))))) : Option PyData) = some (toldO p) ∧ Pd inner before p by
    obtain ⟨p, h1, h2⟩ := h
    exact ⟨p, bindE (modO_s (by decide)) (bindE ek (ltE (bindE (divO_s (by decide)) (ltE (bindE ej h1))))), h2⟩
  have name : ∀ m : Int, 0 ≤ m ∧ m < 90749487 → ∃ s, m__law_name m = some s ∧ Sml (lowerS s) ∧ OkS (lowerS s) ∧ (lowerS s).length ≤ 12 := fun m hm => by
    obtain ⟨s, e, h⟩ := name_drawn hm
    have := name_ne h
    exact ⟨s, e, sml_low h, low_ok h, by rw [lower_len]; omega⟩
  obtain ⟨v, e1, f1⟩ := mixed06 (n / 6) 71 (small_log (by omega)) (by decide)
  obtain ⟨t, e2, f2⟩ := text5 f1
  obtain ⟨s, a, e, e3, ha, he, f3⟩ := ends_ok (n := n / 6 / 3) (by omega) f2
  have sl := f3.len
  have fin : ∀ p : Pi, NPi p → szPi p ≤ 50 → (∀ s, p = .plain s → before ≠ kPlain ∧ ∃ a e, a ≤ 1 ∧ e ≤ 1 ∧ Bl 23 a e s) → Pd inner before (.inn p) := fun p h1 h2 h3 =>
    ⟨h1, by show szPi p ≤ 160; omega, fun s e => h3 s (by cases e; rfl), fun _ => ⟨p, rfl, h2⟩, fun qs z => by cases z⟩
  rcases hj with rfl | rfl | rfl | rfl | rfl
  · -- plain
    have hb : ∃ c : Bool, (cnd (decide (before = kNote)) ((modO (n / 6) (2 : Int)).bind fun c73 => some (decide (c73 = (0 : Int)))) (some false)) = some c := by
      by_cases q : before = kNote
      · exact ⟨_, cndT (decT q) (bindE (modO_s (by decide)) rfl)⟩
      · exact ⟨_, cndF (decF q) rfl⟩
    obtain ⟨c, hb⟩ := hb
    cases c with
    | false =>
      have b2 : Bl 23 a e s := bl_up f3 (by decide)
      exact ⟨.inn (.plain s), cndF rfl (cndF rfl (bindE e1 (bindE e2 (bindE (divO_s (by decide)) (bindE e3 (ltE (cndF rfl (cndF rfl (bindE hb (cndF rfl rfl)))))))))), fin _ (b2.sg ha he (by decide)) (by show s.length ≤ 50; omega) fun z ez => by cases ez; exact ⟨jp rfl, a, e, ha, he, b2⟩⟩
    | true =>
      have b2 : Bl 23 0 e (58 :: s) := f3.cons ha (by decide)
      exact ⟨.inn (.plain (58 :: s)), cndF rfl (cndF rfl (bindE e1 (bindE e2 (bindE (divO_s (by decide)) (bindE e3 (ltE (cndF rfl (cndF rfl (bindE hb (cndT rfl (bindE (catS_s (by simp only [List.length_singleton]; omega)) rfl))))))))))), fin _ (b2.sg (by omega) he (by decide)) (by show (58 :: s).length ≤ 50; rw [List.length_cons]; omega) fun z ez => by cases ez; exact ⟨jp rfl, 0, e, by omega, he, b2⟩⟩
  · -- code
    have b2 : Bl 21 a e (s.map fun d => if d = 96 then 39 else d) := f3.map (fun c => by split <;> omega) (fun c h => by split <;> omega)
    refine ⟨.inn (.code (s.map fun d => if d = 96 then 39 else d)), cndF rfl (cndF rfl (bindE e1 (bindE e2 (bindE (divO_s (by decide)) (bindE e3 (ltE (cndF rfl (cndT rfl (bindE (rpl_tick (by omega)) rfl))))))))), fin _ ⟨b2.sg ha he (by decide), fun m => ?_⟩ (by show (s.map _).length + 2 ≤ 50; rw [List.length_map]; omega) fun z ez => by cases ez⟩
    obtain ⟨d, _, ed⟩ := List.mem_map.mp m
    split at ed <;> omega
  · -- link
    obtain ⟨nm, e4, g1, g2, g3⟩ := name (n / 6 / 7) (by omega)
    have hb : ∃ (u : List Nat) (a' : Nat), a' ≤ 1 ∧ Bl 23 a' e u ∧ ∃ z, repS [94] (if (decide (n / 6 % 5 = (0 : Int))) = true then (1 : Int) else 0) = some z ∧ catS z s = some u := by
      by_cases q : n / 6 % 5 = 0
      · exact ⟨94 :: s, 0, by omega, f3.cons ha (by decide), [94], by rw [if_pos (decide_eq_true q)]; exact repS_s (by decide) (by decide), catS_s (by simp only [List.length_singleton]; omega)⟩
      · exact ⟨s, a, ha, bl_up f3 (by decide), [], by rw [if_neg (by simpa using q)]; exact repS_s (by decide) (by decide), catS_s (by simp only [List.length_nil]; omega)⟩
    obtain ⟨u, a', ha', b2, z, e5, e6⟩ := hb
    have ul := b2.len
    exact ⟨.inn (.link u (lowerS nm)), cndF rfl (cndF rfl (bindE e1 (bindE e2 (bindE (divO_s (by decide)) (bindE e3 (ltE (cndT rfl (bindE (modO_s (by decide)) (bindE e5 (bindE e6 (bindE (divO_s (by decide)) (bindE e4 rfl)))))))))))), fin _ ⟨b2.sg ha' he (by decide), g1, g2⟩ (by show u.length + (lowerS nm).length + 4 ≤ 50; omega) fun z ez => by cases ez⟩
  · -- note
    obtain ⟨nm, e4, g1, g2, g3⟩ := name (n / 6 / 3) (by omega)
    exact ⟨.inn (.mark (lowerS nm)), cndT rfl (bindE (divO_s (by decide)) (bindE e4 rfl)), fin _ ⟨g1, g2⟩ (by show (lowerS nm).length + 3 ≤ 50; omega) fun z ez => by cases ez⟩
  · -- strong
    have ni := js rfl
    obtain ⟨v2, e4, f4⟩ := mixed06 (n / 6) 70 (small_log (by omega)) (by decide)
    obtain ⟨qs, e5, g1, g2, g3, g4⟩ := hr ni v2 (1 + n / 6 % 3) f4 (by omega)
    refine ⟨.strong qs, cndF rfl (cndT rfl (bindE e4 (bindE (modO_s (by decide)) (bindE e5 rfl)))), ⟨g2, g1⟩, by show (qs.map szPi).sum + 2 ≤ 160; omega, (fun z ez => by cases ez), (fun z => by rw [ni] at z; cases z), fun qs z => by cases z; exact g4⟩
theorem apart_snoc {α : Type} {p : α → Bool} {a : α} : ∀ {l : List α}, apart p l → (∀ x, l.getLast? = some x → (p x && p a) = false) → apart p (l ++ [a])
  | [], _, _ => trivial
  | [x], _, h => ⟨h x rfl, trivial⟩
  | x :: y :: r, h, h2 => ⟨h.1, apart_snoc (l := y :: r) h.2 fun z e => h2 z (by rw [List.getLast?_cons_cons]; exact e)⟩
theorem apart_same {α β : Type} {p : α → Bool} {q : β → Bool} {l : List α} {m : List β} (e : l.map p = m.map q) (h : apart p l) : apart q m := by
  induction l generalizing m with
  | nil =>
    cases m with
    | nil => trivial
    | cons y m => simp at e
  | cons x l ih =>
    cases m with
    | nil => trivial
    | cons y m =>
      simp only [List.map_cons, List.cons.injEq] at e
      cases m with
      | nil => trivial
      | cons y2 m =>
        cases l with
        | nil => simp at e
        | cons x2 l =>
          have e2 := e.2
          simp only [List.map_cons, List.cons.injEq] at e2
          exact ⟨by rw [← e.1, ← e2.1]; exact h.1, ih e.2 h.2⟩
theorem parts_loop {inner : Bool} {size : Int} {f : List Nat × List PyData → Int → Option (Fw Unit (List Nat × List PyData))} (hs : 1 ≤ size ∧ size ≤ 20)
    (hf : ∀ (s : List Nat × List PyData) (a : Int), 0 ≤ a ∧ a < 20 → ∃ p, f s a = ((appO s.2 (toldO p)).bind fun y => some (.nx (kdO p, y))) ∧ Pd inner s.1 p) :
    ∃ s, loop f (rng 0 size) (([] : List Nat), ([] : List PyData)) = some (.nx s) ∧ ∃ ps : List Po, s.2 = ps.map toldO ∧ (ps.length : Int) = size ∧ (∀ p ∈ ps, ∃ b, Pd inner b p) ∧ apart isPO ps := by
  refine (loop_all (ρ := Unit) (as := rng 0 size) (i := 0) (s := (([] : List Nat), ([] : List PyData))) (I := fun i s => ∃ ps : List Po, s.2 = ps.map toldO ∧ ps.length = i ∧ (∀ p ∈ ps, ∃ b, Pd inner b p) ∧ apart isPO ps ∧ ∀ x, ps.getLast? = some x → s.1 = kdO x) ⟨[], rfl, rfl, fun p m => (by cases m), trivial, fun x e => by cases e⟩ ?g).elim fun s es => ⟨s, es.1, ?_⟩
  case g =>
    rintro j s a ha ⟨ps, h1, h2, h3, h4, h5⟩
    have hj : j < (rng 0 size).length := (List.getElem?_eq_some_iff.mp ha).1
    have ra := mem_rng (List.mem_of_getElem? ha)
    rw [rng_len] at hj
    obtain ⟨p, e, hp⟩ := hf s a (by omega)
    refine ⟨(kdO p, s.2 ++ [toldO p]), by rw [e]; exact bindE (appO_s (by rw [h1, List.length_map]; omega)) rfl, ps ++ [p], by rw [h1]; simp, by rw [List.length_append, h2]; rfl, fun q m => ?_, apart_snoc h4 fun x ex => ?_, fun x ex => ?_⟩
    · rcases List.mem_append.mp m with m | m
      · exact h3 q m
      · rw [List.mem_singleton.mp m]; exact ⟨_, hp⟩
    · cases q : isPO p with
      | false => rw [Bool.and_false]
      | true =>
        have : ∃ t, p = .inn (.plain t) := by
          cases p with
          | strong qs => cases q
          | inn p => cases p with
            | plain t => exact ⟨t, rfl⟩
            | _ => cases q
        obtain ⟨t, rfl⟩ := this
        have := (hp.pl t rfl).1
        rw [h5 x ex] at this
        have k := kd_plain x
        rw [decF this] at k
        rw [← k]; rfl
    · rw [last_app _ (by simp)] at ex
      cases ex; rfl
  · obtain ⟨ps, h1, h2, h3, h4, _⟩ := es.2
    rw [rng_len] at h2
    exact ⟨ps, h1, by omega, h3, h4⟩
theorem inns {inner : Bool} (hi : inner = true) : ∀ {ps : List Po}, (∀ p ∈ ps, ∃ b, Pd inner b p) → ∃ qs : List Pi, ps = qs.map Po.inn ∧ (∀ q ∈ qs, NPi q) ∧ (qs.map szPi).sum ≤ 50 * qs.length
  | [], _ => ⟨[], rfl, fun q m => (by cases m), by simp⟩
  | p :: ps, h => by
    obtain ⟨qs, e, h1, h2⟩ := inns hi fun q m => h q (List.mem_cons_of_mem p m)
    obtain ⟨b, hp⟩ := h p (List.mem_cons_self ..)
    obtain ⟨q, rfl, hq⟩ := hp.inn hi
    refine ⟨q :: qs, by rw [e]; rfl, fun x m => ?_, ?_⟩
    · rcases List.mem_cons.mp m with z | m
      · rw [z]; exact hp.np
      · exact h1 x m
    · rw [List.map_cons, List.sum_cons, List.length_cons]; omega
theorem parts_in {r : Int → Int → Bool → Option (List PyData)} {n size : Int} (hn : 0 ≤ n ∧ n < 90749487) (hs : 1 ≤ size ∧ size ≤ 3) : ∃ qs : List Pi, m__law_parts__o r n size true = some (qs.map toldP) ∧ NPs qs ∧ qs ≠ [] ∧ (qs.map szPi).sum ≤ 150 ∧ qs.length ≤ 3 := by
  suffices h : ∃ z, m__law_parts__o r n size true = some z ∧ ∃ ps : List Po, z = ps.map toldO ∧ (ps.length : Int) = size ∧ (∀ p ∈ ps, ∃ b, Pd true b p) ∧ apart isPO ps by
    obtain ⟨z, e, ps, rfl, h1, h2, h3⟩ := h
    obtain ⟨qs, rfl, g1, g2⟩ := inns rfl h2
    rw [List.length_map] at h1
    refine ⟨qs, by rw [e, List.map_map]; rfl, ⟨g1, apart_same (p := isPO) (q := isP) (by rw [List.map_map]; rfl) h3⟩, fun z => by rw [z] at h1; simp at h1; omega, by omega, by omega⟩
  unfold m__law_parts__o
  refine ltX (ltX (bindX (rngO_s (by omega) (by omega)) (fwdX ?_)))
  refine (parts_loop (inner := true) (by omega) ?g).elim fun s es => ⟨s, es.1, ?_⟩
  case g =>
    intro s a ha
    obtain ⟨v, e, f⟩ := mixed06 n (a + 2) (small_log (by omega)) (by omega)
    obtain ⟨p, e2, hp⟩ := part_drawn (r := r) (before := s.1) (inner := true) f fun z => by cases z
    exact ⟨p, bindE e (bindE e2 (ltE (bindE (i0 p) (bindE (a := kdO p) rfl (ltE rfl))))), hp⟩
  · obtain ⟨ps, h1, h2⟩ := es.2
    exact ⟨_, bindE (a := false) (cndF rfl rfl) (bindE (cndF rfl rfl) (bindE (a := false) (cndF rfl rfl) (bindE (cndF rfl rfl) rfl))), ps, h1, h2⟩
/-- what stands in the end -/
structure Gd (a e : Nat) (p : Po) : Prop where
  np : NPo p
  sz : szPo p ≤ 160
  pl : ∀ s, p = .inn (.plain s) → Bl 23 a e s
  ln : ∀ qs, p = .strong qs → qs.length ≤ 3
theorem plainO {p : Po} (h : isPO p = true) : ∃ t, p = .inn (.plain t) := by
  cases p with
  | strong qs => cases h
  | inn p => cases p with
    | plain t => exact ⟨t, rfl⟩
    | _ => cases h
theorem gd_of {inner : Bool} {b : List Nat} {p : Po} (h : Pd inner b p) : ∃ a e, a ≤ 1 ∧ e ≤ 1 ∧ Gd a e p := by
  cases q : isPO p with
  | true =>
    obtain ⟨t, rfl⟩ := plainO q
    obtain ⟨_, a, e, ha, he, g⟩ := h.pl t rfl
    exact ⟨a, e, ha, he, h.np, h.sz, fun s z => by cases z; exact g, h.ln⟩
  | false => exact ⟨0, 0, by omega, by omega, h.np, h.sz, (fun s z => by rw [z] at q; cases q), h.ln⟩
theorem strip_l {a e : Nat} {p : Po} {r : List Po} (he : e ≤ 1) (g : Gd a e p) : ∃ p', (cnd (isPO p) ((ixO ((p :: r).map toldO) (0 : Int)).bind fun c76 => (ixD c76 (1 : Int)).bind fun c77 => (asS c77).bind fun c78 => (setO ((p :: r).map toldO) (0 : Int) (PyData.tuple [(encS [112, 108, 97, 105, 110]), (encS (lstripS c78 [32]))])).bind fun y79 => some y79) (some ((p :: r).map toldO))) = some ((p' :: r).map toldO) ∧ Gd 0 e p' ∧ isPO p' = isPO p := by
  cases q : isPO p with
  | true =>
    obtain ⟨t, rfl⟩ := plainO q
    have b := (g.pl t rfl).l
    have bl := b.len
    refine ⟨.inn (.plain (lstripS t [32])), cndT rfl (bindE (ixO_nat (i := 0) rfl) (bindE (a := encS t) rfl (bindE (a := t) rfl (bindE (setO_nat (i := 0) (by simp)) rfl)))), ⟨b.sg (by omega) he (by decide), by show (lstripS t [32]).length ≤ 160; omega, fun s z => by cases z; exact b, fun qs z => by cases z⟩, rfl⟩
  | false => exact ⟨p, cndF rfl rfl, ⟨g.np, g.sz, (fun s z => by rw [z] at q; cases q), g.ln⟩, q⟩
theorem strip_r {a e : Nat} {z : Po} {u : List Po} {i : Int} (hi : i = (u.length : Int)) (ha : a ≤ 1) (g : Gd a e z) : ∃ z', (cnd (isPO z) ((ixO ((u ++ [z]).map toldO) i).bind fun c63 => (ixD c63 (1 : Int)).bind fun c64 => (asS c64).bind fun c65 => (setO ((u ++ [z]).map toldO) i (PyData.tuple [(encS [112, 108, 97, 105, 110]), (encS (rstripS c65 [32]))])).bind fun y66 => some y66) (some ((u ++ [z]).map toldO))) = some ((u ++ [z']).map toldO) ∧ Gd a 0 z' ∧ isPO z' = isPO z := by
  subst hi
  cases q : isPO z with
  | true =>
    obtain ⟨t, rfl⟩ := plainO q
    have b := (g.pl t rfl).r
    have bl := b.len
    refine ⟨.inn (.plain (rstripS t [32])), cndT rfl (bindE (ixO_nat (a := toldO (.inn (.plain t))) (by simp)) (bindE (a := encS t) rfl (bindE (a := t) rfl (bindE (setO_nat (by simp)) ?_)))), ⟨b.sg ha (by omega) (by decide), by show (rstripS t [32]).length ≤ 160; omega, fun s z => by cases z; exact b, fun qs z => by cases z⟩, rfl⟩
    show some _ = some _
    rw [List.map_append, List.map_append]
    congr 1
    rw [List.set_append_right (h := by simp)]
    simp
    rfl
  | false => exact ⟨z, cndF rfl rfl, ⟨g.np, g.sz, (fun s y => by rw [y] at q; cases q), g.ln⟩, q⟩
structure Drw (ps : List Po) : Prop where
  np : NPos ps
  len : 1 ≤ ps.length ∧ ps.length ≤ 20
  sz : (ps.map szPo).sum ≤ 160 * ps.length
  inn : ∀ p ∈ ps, ∀ qs, p = .strong qs → qs.length ≤ 3
theorem sum_200 : ∀ {ps : List Po}, (∀ p ∈ ps, szPo p ≤ 160) → (ps.map szPo).sum ≤ 160 * ps.length
  | [], _ => by simp
  | p :: ps, h => by
    have := h p (List.mem_cons_self ..)
    have := sum_200 fun q m => h q (List.mem_cons_of_mem p m)
    rw [List.map_cons, List.sum_cons, List.length_cons]; omega
theorem parts_out {r : Int → Int → Bool → Option (List PyData)} {n size : Int} (hn : 0 ≤ n ∧ n < 90749487) (hs : 1 ≤ size ∧ size ≤ 20)
    (hr : ∀ m size : Int, 0 ≤ m ∧ m < 90749487 → 1 ≤ size ∧ size ≤ 3 → ∃ qs : List Pi, r m size true = some (qs.map toldP) ∧ NPs qs ∧ qs ≠ [] ∧ (qs.map szPi).sum ≤ 150 ∧ qs.length ≤ 3) : ∃ z, m__law_parts__o r n size false = some z ∧ ∃ ps : List Po, z = ps.map toldO ∧ Drw ps := by
  unfold m__law_parts__o
  refine ltX (ltX (bindX (rngO_s (by omega) (by omega)) (fwdX ?_)))
  refine (parts_loop (inner := false) hs ?g).elim fun s es => ⟨s, es.1, ?_⟩
  case g =>
    intro s a ha
    obtain ⟨v, e, f⟩ := mixed06 n (a + 2) (small_log (by omega)) (by omega)
    obtain ⟨p, e2, hp⟩ := part_drawn (r := r) (before := s.1) (inner := false) f fun _ => hr
    exact ⟨p, bindE e (bindE e2 (ltE (bindE (i0 p) (bindE (a := kdO p) rfl (ltE rfl))))), hp⟩
  · obtain ⟨ps, h1, h2, h3, h4⟩ := es.2
    rw [h1]
    cases ps with
    | nil => simp at h2; omega
    | cons p rs =>
      obtain ⟨b, hp⟩ := h3 p (List.mem_cons_self ..)
      obtain ⟨a, e, ha, he, g⟩ := gd_of hp
      obtain ⟨p', e1, g1, k1⟩ := strip_l (r := rs) he g
      have all1 : ∀ x ∈ p' :: rs, ∃ a e, a ≤ 1 ∧ e ≤ 1 ∧ Gd a e x := fun x m => by
        rcases List.mem_cons.mp m with z | m
        · rw [z]; exact ⟨0, e, by omega, he, g1⟩
        · obtain ⟨b, hx⟩ := h3 x (List.mem_cons_of_mem _ m)
          exact gd_of hx
      have ap1 : apart isPO (p' :: rs) := apart_same (p := isPO) (q := isPO) (by rw [List.map_cons, List.map_cons, k1]) h4
      -- the last
      have split : ∃ u z, p' :: rs = u ++ [z] := by
        rcases List.eq_nil_or_concat (p' :: rs) with z | ⟨u, z, e⟩
        · cases z
        · exact ⟨u, z, by rw [e, List.concat_eq_append]⟩
      obtain ⟨u, z, eu⟩ := split
      have hu : (u.length : Int) = size - 1 := by
        have := congrArg List.length eu
        simp only [List.length_cons, List.length_append, List.length_nil] at this h2
        omega
      have hz : ∃ a e, a ≤ 1 ∧ e ≤ 1 ∧ Gd a e z ∧ (u = [] → a = 0) := by
        cases u with
        | nil =>
          simp only [List.nil_append, List.cons.injEq] at eu
          rw [← eu.1]
          exact ⟨0, e, by omega, he, g1, fun _ => rfl⟩
        | cons x u =>
          obtain ⟨a, e, h5, h6, h7⟩ := all1 z (by rw [eu]; simp)
          exact ⟨a, e, h5, h6, h7, fun z => by cases z⟩
      obtain ⟨a2, e2, ha2, he2, g2, hu0⟩ := hz
      obtain ⟨z', e3, g3, k3⟩ := strip_r (i := size - 1) hu.symm ha2 g2
      have q1 : (cnd (!false) ((ixO ((p :: rs).map toldO) (0 : Int)).bind fun c36 => (ixD c36 (0 : Int)).bind fun c37 => (eqO (id c37) (encS [112, 108, 97, 105, 110])).bind fun c38 => some c38) (some false)) = some (isPO p) :=
        cndT rfl (bindE (ixO_nat (i := 0) rfl) (bindE (i0 p) (bindE (eqK (ok_kd p)) (by rw [kd_plain]))))
      have q2 : (cnd (!false) ((ixO ((u ++ [z]).map toldO) (size - (1 : Int))).bind fun c48 => (ixD c48 (0 : Int)).bind fun c49 => (eqO (id c49) (encS [112, 108, 97, 105, 110])).bind fun c50 => some c50) (some false)) = some (isPO z) :=
        cndT rfl (bindE (by rw [← hu]; exact ixO_nat (a := toldO z) (by simp)) (bindE (i0 z) (bindE (eqK (ok_kd z)) (by rw [kd_plain]))))
      refine ⟨_, bindE q1 (bindE e1 (by rw [eu]; exact bindE q2 (bindE e3 rfl))), u ++ [z'], rfl, ?_, ?_, ?_, ?_⟩
      · refine ⟨fun x m => ?_, apart_same (p := isPO) (q := isPO) (by rw [List.map_append, List.map_append, List.map_singleton, List.map_singleton, k3]) (eu ▸ ap1), fun s qs es => ?_, fun s qs es => ?_⟩
        · rcases List.mem_append.mp m with m | m
          · obtain ⟨_, _, _, _, h⟩ := all1 x (by rw [eu]; exact List.mem_append_left _ m)
            exact h.np
          · rw [List.mem_singleton.mp m]; exact g3.np
        · cases u with
          | nil =>
            have ez : z' = .inn (.plain s) := (List.cons.inj es).1
            have b := g3.pl s ez
            rw [hu0 rfl] at b
            exact b.h0
          | cons x u =>
            have ex : x = .inn (.plain s) := (List.cons.inj es).1
            have ep : p' = x := (List.cons.inj eu).1
            exact (g1.pl s (ep.trans ex)).h0
        · have : z' = .inn (.plain s) := by
            have := congrArg List.getLast? es
            rw [last_app _ (by simp), last_app _ (by simp)] at this
            simpa using this
          exact (g3.pl s this).l0
      · rw [List.length_append]; simp only [List.length_singleton]; omega
      · refine sum_200 fun x m => ?_
        rcases List.mem_append.mp m with m | m
        · obtain ⟨_, _, _, _, h⟩ := all1 x (by rw [eu]; exact List.mem_append_left _ m)
          exact h.sz
        · rw [List.mem_singleton.mp m]; exact g3.sz
      · intro x m qs ex
        rcases List.mem_append.mp m with m | m
        · obtain ⟨_, _, _, _, h⟩ := all1 x (by rw [eu]; exact List.mem_append_left _ m)
          exact h.ln qs ex
        · rw [List.mem_singleton.mp m] at ex; exact g3.ln qs ex
theorem drawn_ok {n size : Int} (hn : 0 ≤ n ∧ n < 90749487) (hs : 1 ≤ size ∧ size ≤ 20) : ∃ ps : List Po, m__law_parts n size false = some (ps.map toldO) ∧ Drw ps := by
  obtain ⟨z, e, ps, rfl, h⟩ := parts_out (r := M__law_parts 2) hn hs fun m size hm h3 => parts_in (r := M__law_parts 1) hm h3
  exact ⟨ps, e, h⟩
/-! ### the law's own writing -/
/-! ### made, or refused -/
abbrev BT : Str := "BadTree"
theorem madeP_okX (r : List PyData → Bool → Option (Except Str (List XD))) (b : Bool) {p : Pi} (h : NPi p) : m_made_part r (toldP p) b = some (.ok (xP p)) := by
  have two : ∀ k s : List Nat, (cnd (!(isTupD (.tuple [encS k, encS s]))) (some true) ((lenD (.tuple [encS k, encS s])).bind fun c10 => (cnd (decide (c10 < (2 : Int))) (some true) ((ixD (.tuple [encS k, encS s]) (0 : Int)).bind fun c11 => some (!(isStrD c11)))).bind fun c12 => some c12)) = some false := fun k s => by
    refine cndF rfl (bindE (a := (2 : Int)) rfl (bindE (a := false) (cndF (by decide) (bindE (a := encS k) rfl rfl)) rfl))
  cases p with
  | plain s =>
    unfold m_made_part
    refine bindE (two kPlain s) (cndF rfl (bindE (a := encS kPlain) rfl (bindE (a := kPlain) rfl (ltE (bindE (a := false) (cndF (by decide) rfl) (cndF rfl (bindE (a := (2 : Int)) rfl (cndF (by decide) (bindE (a := encS s) rfl (ltE ?_))))))))))
    exact bindE (a := true) (cndT (by decide) (bindE (signs_ok h) rfl)) (cndT rfl (bindE (a := s) rfl rfl))
  | code s =>
    unfold m_made_part
    refine bindE (two kCode s) (cndF rfl (bindE (a := encS kCode) rfl (bindE (a := kCode) rfl (ltE (bindE (a := false) (cndF (by decide) rfl) (cndF rfl (bindE (a := (2 : Int)) rfl (cndF (by decide) (bindE (a := encS s) rfl (ltE ?_))))))))))
    exact bindE (a := false) (cndF (by decide) rfl) (cndF rfl (bindE (a := true) (cndT (by decide) (bindE (signs_ok h.1) (bindE (a := true) (cndT rfl (bindE (a := s) rfl (by rw [ndecT h.2]))) rfl))) (cndT rfl (bindE (a := s) rfl rfl))))
  | mark n =>
    unfold m_made_part
    refine bindE (two kNote n) (cndF rfl (bindE (a := encS kNote) rfl (bindE (a := kNote) rfl (ltE (bindE (a := false) (cndF (by decide) rfl) (cndF rfl (bindE (a := (2 : Int)) rfl (cndF (by decide) (bindE (a := encS n) rfl (ltE ?_))))))))))
    exact bindE (a := false) (cndF (by decide) rfl) (cndF rfl (bindE (a := false) (cndF (by decide) rfl) (cndF rfl (bindE (a := true) (cndT (by decide) (bindE (small_ok h.1 h.2) rfl)) (cndT rfl (bindE (a := n) rfl rfl))))))
  | link w n =>
    unfold m_made_part
    refine bindE (a := false) (cndF rfl (bindE (a := (3 : Int)) rfl (bindE (a := false) (cndF (by decide) (bindE (a := encS kLink) rfl rfl)) rfl))) ?_
    refine cndF rfl (bindE (a := encS kLink) rfl (bindE (a := kLink) rfl (ltE ?_)))
    refine bindE (a := true) (cndT (by decide) (bindE (a := (3 : Int)) rfl (bindE (a := true) (cndT (by decide) (bindE (a := encS w) rfl (bindE (signs_ok h.1) ?_))) rfl))) ?_
    · exact bindE (a := true) (cndT rfl (bindE (a := encS n) rfl (bindE (small_ok h.2.1 h.2.2) rfl))) rfl
    · exact cndT rfl (bindE (a := encS w) rfl (bindE (a := w) rfl (bindE (a := encS n) rfl (bindE (a := n) rfl rfl))))
/-- a strong part, by what is made of its parts -/
theorem madeS_X {r : List PyData → Bool → Option (Except Str (List XD))} {ds : List PyData} {q : Except Str (List XD)} {n : Nat} (hd : Ld n (.list ds)) (hn : n ≤ 64) (he : ds ≠ []) (hr : r ds false = some q) :
    m_made_part r (.tuple [encS kStrong, .list ds]) true = some (match q with | .ok a => .ok (.obj "Strong" [("parts", XD.lst (a.map id))]) | .error c => .error c) := by
  unfold m_made_part
  refine bindE (a := false) (cndF rfl (bindE (a := (2 : Int)) rfl (bindE (a := false) (cndF (by decide) (bindE (a := encS kStrong) rfl rfl)) rfl))) ?_
  refine cndF rfl (bindE (a := encS kStrong) rfl (bindE (a := kStrong) rfl (ltE ?_)))
  refine bindE (a := false) (cndF (by decide) rfl) (cndF rfl (bindE (a := (2 : Int)) rfl (cndF (by decide) (bindE (a := .list ds) rfl (ltE ?_)))))
  refine bindE (a := false) (cndF (by decide) rfl) (cndF rfl ?_)
  refine bindE (a := false) (cndF (by decide) rfl) (cndF rfl ?_)
  refine bindE (a := false) (cndF (by decide) rfl) (cndF rfl ?_)
  refine bindE (a := true) (cndT (by decide) (bindE (a := true) (cndT rfl (bindE (a := true) (cndT rfl (bindE (a := false) ?_ rfl)) rfl)) rfl)) (cndT rfl (bindE (a := ds) rfl (bindE hr ?_)))
  · have := eqO_list hd hn
    rw [show ds.isEmpty = false by
      cases ds with
      | nil => exact absurd rfl he
      | cons p ps => rfl] at this
    exact this
  · cases q <;> rfl
/-- no two side by side -/
def apB {α : Type} (p : α → Bool) : List α → Bool
  | [] => true
  | [_] => true
  | a :: b :: r => !(p a && p b) && apB p (b :: r)
theorem apB_of {α : Type} {p : α → Bool} : ∀ {l : List α}, apart p l → apB p l = true
  | [], _ => rfl
  | [_], _ => rfl
  | a :: b :: r, h => by
    simp only [apB]
    rw [h.1, apB_of h.2]
    rfl
theorem apB_mid {α : Type} {p : α → Bool} {a b : α} (h : (p a && p b) = true) : ∀ (u v : List α), apB p (u ++ a :: b :: v) = false
  | [], v => by
    simp only [List.nil_append, apB, h]
    rfl
  | [x], v => by
    simp only [List.cons_append, List.nil_append, apB, h]
    simp
  | x :: y :: u, v => by
    have ih := apB_mid h (y :: u) v
    simp only [List.cons_append] at ih ⊢
    simp only [apB]
    rw [ih, Bool.and_false]
theorem ap_loopX {ρ β : Type} {X : β → XD} {p : β → Bool} {e : ρ} {f : Unit → XD × XD → Option (Fw ρ Unit)} (hf : ∀ a b, f () (X a, X b) = some (if (p a && p b) = true then .rt e else .nx ())) : ∀ ps : List β, loop f (List.zip (ps.map X) ((ps.map X).drop 1)) () = some (if apB p ps = true then .nx () else .rt e)
  | [] => rfl
  | [_] => rfl
  | a :: b :: r => by
    have ih := ap_loopX hf (b :: r)
    have h1 := hf a b
    cases q : (p a && p b) with
    | true =>
      rw [q] at h1
      have : apB p (a :: b :: r) = false := by simp only [apB, q]; rfl
      rw [this]
      show loop f ((X a, X b) :: List.zip ((b :: r).map X) (((b :: r).map X).drop 1)) () = _
      simp only [loop]
      rw [h1]
      rfl
    | false =>
      rw [q] at h1
      have : apB p (a :: b :: r) = apB p (b :: r) := by simp only [apB, q]; rfl
      rw [this]
      exact loopE h1 ih
theorem mapX_ok {α : Type} {f : PyData → Option (Except Str XD)} {T : α → PyData} {X : α → XD} : ∀ {ps : List α}, (∀ p ∈ ps, f (T p) = some (.ok (X p))) → mapX f (ps.map T) = some (.ok (ps.map X))
  | [], _ => rfl
  | p :: ps, h => by
    simp only [List.map_cons, mapX]
    rw [h p (List.mem_cons_self ..)]
    refine bindE rfl ?_
    rw [mapX_ok fun q m => h q (List.mem_cons_of_mem _ m)]
    rfl
theorem mapX_bad {α : Type} {f : PyData → Option (Except Str XD)} {T : α → PyData} {X : α → XD} {d : PyData} {c : Str} {post : List PyData} (hd : f d = some (.error c)) : ∀ {ps : List α}, (∀ p ∈ ps, f (T p) = some (.ok (X p))) → mapX f (ps.map T ++ d :: post) = some (.error c)
  | [], _ => by
    simp only [List.map_nil, List.nil_append, mapX]
    rw [hd]
    rfl
  | p :: ps, h => by
    simp only [List.map_cons, List.cons_append, mapX]
    rw [h p (List.mem_cons_self ..)]
    refine bindE rfl ?_
    rw [mapX_bad hd fun q m => h q (List.mem_cons_of_mem _ m)]
    rfl
theorem made_bad {n : Nat} {b : Bool} {ds : List PyData} (h : mapX (fun (a10 : PyData) => m_made_part (M_made_parts n) (a10) (b)) ds = some (.error BT)) : M_made_parts (n + 1) ds b = some (.error BT) := by
  show m_made_parts__o (M_made_parts n) ds b = _
  unfold m_made_parts__o
  exact bindE h rfl
theorem made_fine {α : Type} {T : α → PyData} {X : α → XD} {p : α → Bool} (ia : ∀ q : α, isO is_Plain (X q) = some (p q)) {n : Nat} {b : Bool} {ps : List α} (h : ∀ q ∈ ps, m_made_part (M_made_parts n) (T q) b = some (.ok (X q))) :
    M_made_parts (n + 1) (ps.map T) b = some (if apB p ps = true then .ok (ps.map X) else .error BT) := by
  show m_made_parts__o (M_made_parts n) (ps.map T) b = _
  unfold m_made_parts__o
  refine bindE (mapX_ok h) ?_
  show fwd _ _ _ = _
  rw [show cutL (ps.map X) (some (1 : Int)) none = (ps.map X).drop 1 from cut_drop _ 1]
  rw [ap_loopX (X := X) (p := p) (e := (.error BT : Except Str (List XD))) (fun a c => ?_) ps]
  · cases apB p ps <;> rfl
  · refine bindE (ia a) (bindE (a := p a && p c) ?_ ?_)
    · cases qa : p a with
      | false => exact cndF rfl rfl
      | true => exact cndT rfl (bindE (ia c) (by rw [Bool.true_and]))
    · cases (p a && p c) <;> rfl
theorem iaP (q : Pi) : isO is_Plain (xP q) = some (isP q) := by cases q <;> rfl
theorem iaO (q : Po) : isO is_Plain (xO q) = some (isPO q) := by
  cases q with
  | inn q => cases q <;> rfl
  | strong qs => rfl
theorem made_inX (n : Nat) {ps : List Pi} (h : NPs ps) (b : Bool) : M_made_parts (n + 1) (ps.map toldP) b = some (.ok (ps.map xP)) := by
  rw [made_fine iaP fun p m => madeP_okX _ b (h.all p m), apB_of h.ap]
  rfl
theorem madeO_okX {p : Po} (h : NPo p) : m_made_part (M_made_parts 2) (toldO p) true = some (.ok (xO p)) := by
  cases p with
  | inn p => exact madeP_okX _ true h
  | strong qs =>
    have e := madeS_X (tPs_ld (fun p m => (h.2.all p m).o)) (by decide) (fun z => h.1 (List.map_eq_nil_iff.mp z)) (made_inX 1 h.2 false)
    refine e.trans ?_
    show some (Except.ok (XD.obj "Strong" [("parts", XD.lst (List.map id (qs.map xP)))])) = _
    rw [List.map_id]
    rfl
def sB : Po → Bool
  | .inn (.plain s) => startsS s [32]
  | _ => false
def eB : Po → Bool
  | .inn (.plain s) => endsS s [32]
  | _ => false
def fB : List Po → Bool
  | [] => false
  | p :: _ => sB p
def lB (ps : List Po) : Bool := match ps.getLast? with
  | none => false
  | some p => eB p
theorem exB_go {α β : Type} {a : α} {k : α → Option (Except Str β)} {x : Option (Except Str β)} (h : k a = x) : exB (.ok a) k = x := h
theorem need_fine {ps : List Po} (h : ∀ p ∈ ps, NPo p) : m_need_parts (.list (ps.map toldO)) = some (if (apB isPO ps && !fB ps && !lB ps) = true then .ok (ps.map xO) else .error BT) := by
  have hm : m_made_parts (ps.map toldO) true = some (if apB isPO ps = true then .ok (ps.map xO) else .error BT) := made_fine iaO fun p m => madeO_okX (h p m)
  unfold m_need_parts
  refine cndF rfl (bindE (a := ps.map toldO) rfl (bindE hm ?_))
  cases apB isPO ps with
  | false => rfl
  | true =>
    rw [if_pos (rfl : true = true)]
    refine exB_go (ltE (bindE (a := fB ps) ?_ ?_))
    · cases ps with
      | nil => exact cndF rfl rfl
      | cons p ps =>
        have h0 : ixO ((p :: ps).map xO) (0 : Int) = some (xO p) := ixO_nat (i := 0) rfl
        refine cndT rfl (bindE h0 (bindE (iaO p) (bindE (a := sB p) ?_ rfl)))
        cases p with
        | strong qs => exact cndF rfl rfl
        | inn p =>
          cases p with
          | plain s => exact cndT rfl (bindE h0 (bindE (a := XD.str s) rfl (bindE (a := s) rfl rfl)))
          | _ => exact cndF rfl rfl
    · cases q : fB ps with
      | true => rfl
      | false =>
        refine cndF rfl (bindE (a := lB ps) ?_ ?_)
        · rcases List.eq_nil_or_concat ps with e | ⟨qs, p, e⟩
          · subst e
            exact cndF rfl rfl
          · rw [List.concat_eq_append] at e
            have hl : ixO (ps.map xO) (((ps.map xO).length : Int) - 1) = some (xO p) := by
              rw [e, List.map_append]
              rw [show (((qs.map xO ++ [p].map xO).length : Int) - 1) = ((qs.length : Nat) : Int) by simp]
              exact ixO_nat (by simp)
            have el : lB ps = eB p := by unfold lB; rw [e]; simp
            rw [el]
            refine cndT (by rw [e]; simp) (bindE hl (bindE (iaO p) (bindE (a := eB p) ?_ rfl)))
            cases p with
            | strong qs => exact cndF rfl rfl
            | inn p =>
              cases p with
              | plain s => exact cndT rfl (bindE hl (bindE (a := XD.str s) rfl (bindE (a := s) rfl rfl)))
              | _ => exact cndF rfl rfl
        · cases lB ps <;> rfl
theorem need_okX {ps : List Po} (h : NPos ps) : m_need_parts (.list (ps.map toldO)) = some (.ok (ps.map xO)) := by
  rw [need_fine h.all, apB_of h.ap]
  have h1 : fB ps = false := by
    cases ps with
    | nil => rfl
    | cons p ps =>
      cases p with
      | strong qs => rfl
      | inn p =>
        cases p with
        | plain s => exact starts_no (h.first s ps rfl)
        | _ => rfl
  have h2 : lB ps = false := by
    rcases List.eq_nil_or_concat ps with e | ⟨qs, p, e⟩
    · rw [e]; rfl
    · rw [List.concat_eq_append] at e
      have el : lB ps = eB p := by unfold lB; rw [e]; simp
      rw [el]
      cases p with
      | strong qs => rfl
      | inn p =>
        cases p with
        | plain s => exact ends_no (h.last s qs e)
        | _ => rfl
  rw [h1, h2]
  rfl
theorem need_bad {ds : List PyData} (h : mapX (fun (a10 : PyData) => m_made_part (M_made_parts 2) (a10) (true)) ds = some (.error BT)) : m_need_parts (.list ds) = some (.error BT) := by
  unfold m_need_parts
  refine cndF rfl (bindE (a := ds) rfl (bindE (made_bad (n := 2) h) rfl))
/-! ### odd things -/
def isBT : Option (Except Str XD) → Bool
  | some (.error c) => decide (c = BT)
  | _ => false
theorem isBT_e {o : Option (Except Str XD)} (h : isBT o = true) : o = some (.error BT) := by
  cases o with
  | none => cases h
  | some r =>
    cases r with
    | ok a => cases h
    | error c => rw [of_decide_eq_true h]
def odB (d : PyData) : Bool := isBT (m_made_part (M_made_parts 2) d true) && (isBT (m_made_part (M_made_parts 1) d false) && (d.canLay0 && decide (d.depth ≤ 8)))
structure Od (d : PyData) : Prop where
  out : m_made_part (M_made_parts 2) d true = some (.error BT)
  inn : m_made_part (M_made_parts 1) d false = some (.error BT)
  ld : Ld 8 d
theorem od_of {d : PyData} (h : odB d = true) : Od d := by
  unfold odB at h
  simp only [Bool.and_eq_true] at h
  exact ⟨isBT_e h.1, isBT_e h.2.1, h.2.2.1, of_decide_eq_true h.2.2.2⟩
theorem ods_of {l : List PyData} (h : l.all odB = true) : ∀ d ∈ l, Od d := fun d m => od_of (List.all_eq_true.mp h d m)
theorem pickX {α β : Type} {P : α → Prop} {as : List α} {i : Int} {k : α → Option β} {Q : β → Prop} (h0 : 0 ≤ i) (h1 : i < (as.length : Int)) (h : ∀ a ∈ as, P a) (hk : ∀ a, P a → ∃ r, k a = some r ∧ Q r) : ∃ r, (ixO as i).bind k = some r ∧ Q r := by
  obtain ⟨a, e, p⟩ := ixO_all h h0 h1
  exact bindX e (hk a p)
theorem odd_ok {n : Int} (hn : 0 ≤ n) : ∃ d, m__law_odd n = some d ∧ Od d := by
  unfold m__law_odd
  refine ltX (ltX (ltX (bindX (catO_s (by decide)) (ltX (ltX (ltX (ltX ?_)))))))
  have r6 := mod_rng n (n := 6) (by decide)
  refine bindX (modO_s (by decide)) (pickX (P := fun l : List PyData => l.all odB = true ∧ 1 ≤ l.length) r6.1 r6.2 (fun l m => ?_) fun l hl => ?_)
  · simp only [List.mem_cons, List.not_mem_nil, or_false] at m
    rcases m with m | m | m | m | m | m <;> subst m <;> exact ⟨by decide +kernel, by decide⟩
  · refine ltX (bindX (divO_s (by decide)) (bindX (modO_s (by omega)) ?_))
    have rl := mod_rng (n / 6) (n := (l.length : Int)) (by omega)
    exact pickX (P := Od) rl.1 rl.2 (ods_of hl.1) fun d hd => ⟨d, rfl, hd⟩
/-! ### the law itself -/
abbrev refD : PyData := PyData.tuple [encS [114, 101, 102, 117, 115, 101, 100], PyData.list (List.map encS [[116, 114, 101, 101]])]
theorem told_okX {d : PyData} {ps : List Po} (h : m_need_parts d = some (.ok (ps.map xO))) : m__law_told d = some (.list (ps.map toldO)) := by
  unfold m__law_told
  refine bindE h ?_
  show ((m_told_parts (ps.map xO)).bind fun r17 => some (PyData.list r17)) = _
  exact bindE (tolds_ok ps) rfl
theorem kind_ok : m__law_kind BT = some [[116, 114, 101, 101]] := by decide +kernel
theorem told_bad {d : PyData} (h : m_need_parts d = some (.error BT)) : m__law_told d = some refD := by
  unfold m__law_told
  refine bindE h ?_
  show ((cat_MarkError.lookup BT).bind fun b9 => cnd b9 ((m__law_kind BT).bind fun r21 => some (PyData.tuple [(encS [114, 101, 102, 117, 115, 101, 100]), (PyData.list (List.map encS r21))])) none) = _
  refine bindE (a := true) (by decide +kernel) (cndT rfl (bindE kind_ok rfl))
theorem ld_toldO {p : Po} (h : NPo p) : Ld 8 (toldO p) := by
  have := (tOs_ld (ps := [p]) fun q m => by rw [List.mem_singleton.mp m]; exact h.o)
  refine ⟨?_, ?_⟩
  · have := this.lay
    simpa [PyData.canLay0, PyData.canLayAll0] using this
  · have := this.dep
    simp [PyData.depth, PyData.depthAll] at this
    omega
/-- a list that is refused, and can be compared -/
structure Wr (l : List PyData) : Prop where
  bad : m_need_parts (.list l) = some (.error BT)
  ld : ∀ d ∈ l, Ld 12 d
  len : l.length ≤ 100
theorem wr_odd {ps : List Po} {d : PyData} {post : List PyData} (h : ∀ p ∈ ps, NPo p) (hd : m_made_part (M_made_parts 2) d true = some (.error BT)) (ld : Ld 12 d) (hp : ∀ e ∈ post, Ld 12 e) (hl : ps.length + post.length ≤ 90) : Wr (ps.map toldO ++ d :: post) :=
  ⟨need_bad (mapX_bad (X := xO) hd fun p m => madeO_okX (h p m)), fun e m => by
    rcases List.mem_append.mp m with m | m
    · obtain ⟨p, mp, rfl⟩ := List.mem_map.mp m
      exact (ld_toldO (h p mp)).mono (by decide)
    · rcases List.mem_cons.mp m with m | m
      · rw [m]; exact ld
      · exact hp e m, by simp only [List.length_append, List.length_map, List.length_cons]; omega⟩
theorem wr_fine {ps : List Po} (h : ∀ p ∈ ps, NPo p) (hb : (apB isPO ps && !fB ps && !lB ps) = false) (hl : ps.length ≤ 90) : Wr (ps.map toldO) :=
  ⟨by rw [need_fine h, hb]; rfl, fun e m => by
    obtain ⟨p, mp, rfl⟩ := List.mem_map.mp m
    exact (ld_toldO (h p mp)).mono (by decide), by rw [List.length_map]; omega⟩
abbrev pa : Po := .inn (.plain [97])
abbrev pb : Po := .inn (.plain [98])
abbrev pf : Po := .inn (.plain [32, 97])
abbrev pl : Po := .inn (.plain [97, 32])
abbrev pc : Po := .inn (.code [98])
theorem nodd1 {a : Nat} : nodd [a] := fun u v e => by
  have := congrArg List.length e
  simp only [List.length_append, List.length_cons, List.length_nil] at this
  omega
theorem nodd2 {a b : Nat} (h : a ≠ 32 ∨ b ≠ 32) : nodd [a, b] := fun u v e => by
  have l := congrArg List.length e
  simp only [List.length_append, List.length_cons, List.length_nil] at l
  have hu : u = [] := List.length_eq_zero_iff.mp (by omega)
  have hv : v = [] := List.length_eq_zero_iff.mp (by omega)
  subst hu hv
  simp at e
  omega
theorem sgB {s : List Nat} (h1 : okS s = true) (h2 : s ≠ []) (h3 : nodd s) (h4 : 10 ∉ s) (h5 : 9 ∉ s) : SG s := ⟨okS_iff.mp h1, h2, h3, h4, h5⟩
theorem npa : NPo pa := sgB (by decide) (by decide) nodd1 (by decide) (by decide)
theorem npb : NPo pb := sgB (by decide) (by decide) nodd1 (by decide) (by decide)
theorem npf : NPo pf := sgB (by decide) (by decide) (nodd2 (by decide)) (by decide) (by decide)
theorem npl : NPo pl := sgB (by decide) (by decide) (nodd2 (by decide)) (by decide) (by decide)
theorem npc : NPo pc := ⟨sgB (by decide) (by decide) nodd1 (by decide) (by decide), by decide⟩
theorem wrong_ok {ps : List Po} (h : Drw ps) {n : Int} (hn : 0 ≤ n ∧ n < 90749487) : ∃ l, m__law_wrong (ps.map toldO) n = some l ∧ Wr l := by
  have hl := h.len
  have all := h.np.all
  have lds : ∀ {u : List Po}, (∀ p ∈ u, NPo p) → ∀ e ∈ u.map toldO, Ld 12 e := fun hu e m => by
    obtain ⟨p, mp, rfl⟩ := List.mem_map.mp m
    exact (ld_toldO (hu p mp)).mono (by decide)
  unfold m__law_wrong
  have r6 := mod_rng n (n := 6) (by decide)
  have rl := mod_rng (n / 6) (n := ((ps.map toldO).length : Int)) (by rw [List.length_map]; omega)
  refine bindX (modO_s (by decide)) (ltX (bindX (divO_s (by decide)) (ltX (bindX (modO_s (by rw [List.length_map]; omega)) (ltX ?_)))))
  generalize ew : n % 6 = way at *
  generalize ea : n / 6 % ((ps.map toldO).length : Int) = at_ at *
  rw [List.length_map] at rl
  obtain ⟨k, rfl⟩ := Int.eq_ofNat_of_zero_le rl.1
  have hk : k < ps.length := by omega
  have et : cutL (ps.map toldO) none (some ((k : Nat) : Int)) = (ps.take k).map toldO := by rw [cut_take, List.map_take]
  have ed : ∀ j : Nat, cutL (ps.map toldO) (some ((j : Nat) : Int)) none = (ps.drop j).map toldO := fun j => by rw [cut_drop, List.map_drop]
  have at_ : ∀ p ∈ ps.take k, NPo p := fun p m => all p (List.mem_of_mem_take m)
  have ad : ∀ j, ∀ p ∈ ps.drop j, NPo p := fun j p m => all p (List.mem_of_mem_drop m)
  have lt_ : (ps.take k).length ≤ 20 := by rw [List.length_take]; omega
  have ld_ : ∀ j, (ps.drop j).length ≤ 20 := fun j => by rw [List.length_drop]; omega
  obtain ⟨d, eo, od⟩ := odd_ok (n := n / 6 / 20) (by omega)
  by_cases w2 : way < 2
  · refine ⟨_, cndT (decT w2) (bindE (divO_s (by decide)) (bindE eo (bindE (catO_s ?_) (bindE (catO_s ?_) rfl)))), ?_⟩
    · rw [et, List.length_map, List.length_singleton]; omega
    · obtain ⟨j, ej⟩ := Int.eq_ofNat_of_zero_le (show 0 ≤ (k : Int) + way by omega)
      rw [ej, et, ed, List.length_append, List.length_map, List.length_map, List.length_singleton]
      have := ld_ j
      omega
    · obtain ⟨j, ej⟩ := Int.eq_ofNat_of_zero_le (show 0 ≤ (k : Int) + way by omega)
      rw [ej, et, ed, List.append_assoc]
      exact (show Wr ((ps.take k).map toldO ++ d :: (ps.drop j).map toldO) from wr_odd at_ od.out (od.ld.mono (by decide)) (lds (ad j)) (by rw [List.length_map]; have := ld_ j; omega))
  · by_cases w3 : way = 2
    · refine ⟨_, cndF (decF w2) (cndT (decT w3) (bindE (divO_s (by decide)) (bindE eo (bindE (catO_s ?_) (bindE (catO_s ?_) rfl))))), ?_⟩
      · rw [et, List.length_map, List.length_singleton]; omega
      · rw [et, ed, List.length_append, List.length_map, List.length_map, List.length_singleton]
        have := ld_ k
        omega
      · rw [et, ed, List.append_assoc]
        have la : Ld 7 (PyData.tuple [encS [99, 111, 100, 101], encC 97]) := ⟨by decide +kernel, by decide +kernel⟩
        have lb : Ld 7 (PyData.tuple [encS [99, 111, 100, 101], encC 98]) := ⟨by decide +kernel, by decide +kernel⟩
        have l3 : Ld 9 (.list [PyData.tuple [encS [99, 111, 100, 101], encC 97], d, PyData.tuple [encS [99, 111, 100, 101], encC 98]]) := ldL (n := 8) fun e m => by
          simp only [List.mem_cons, List.not_mem_nil, or_false] at m
          rcases m with m | m | m <;> subst m
          · exact la.mono (by decide)
          · exact od.ld
          · exact lb.mono (by decide)
        have ci : NPi (.code [97]) := ⟨sgB (by decide) (by decide) nodd1 (by decide) (by decide), by decide⟩
        have mi : M_made_parts 2 [PyData.tuple [encS [99, 111, 100, 101], encC 97], d, PyData.tuple [encS [99, 111, 100, 101], encC 98]] false = some (.error BT) := made_bad (mapX_bad (T := toldP) (X := xP) (ps := [.code [97]]) od.inn fun p m => by rw [List.mem_singleton.mp m]; exact madeP_okX _ false ci)
        have e := madeS_X l3 (by decide) (by simp) mi
        have ls : Ld 10 (PyData.tuple [encS kStrong, .list [PyData.tuple [encS [99, 111, 100, 101], encC 97], d, PyData.tuple [encS [99, 111, 100, 101], encC 98]]]) := ldT (n := 9) fun e m => by
          simp only [List.mem_cons, List.not_mem_nil, or_false] at m
          rcases m with m | m <;> subst m
          · exact (ldS (okS_iff.mp (by decide))).mono (by decide)
          · exact l3
        exact (show Wr ((ps.take k).map toldO ++ (PyData.tuple [encS kStrong, .list [PyData.tuple [encS [99, 111, 100, 101], encC 97], d, PyData.tuple [encS [99, 111, 100, 101], encC 98]]]) :: (ps.drop k).map toldO) from wr_odd at_ e (ls.mono (by decide)) (lds (ad k)) (by rw [List.length_map]; have := ld_ k; omega))
    · by_cases w4 : way = 3
      · refine ⟨_, cndF (decF w2) (cndF (decF w3) (cndT (decT w4) (bindE (catO_s ?_) (bindE (catO_s ?_) rfl)))), ?_⟩
        · rw [et, List.length_map]; simp only [List.length_cons, List.length_nil]; omega
        · rw [et, ed, List.length_append, List.length_map, List.length_map]; simp only [List.length_cons, List.length_nil]
          have := ld_ k
          omega
        · rw [et, ed]
          have z : (ps.take k).map toldO ++ [toldO pa, toldO pb] ++ (ps.drop k).map toldO = (ps.take k ++ pa :: pb :: ps.drop k).map toldO := by simp
          refine (show Wr ((ps.take k).map toldO ++ [toldO pa, toldO pb] ++ (ps.drop k).map toldO) from z ▸ wr_fine (fun p m => ?_) ?_ ?_)
          · rcases List.mem_append.mp m with m | m
            · exact at_ p m
            · rcases List.mem_cons.mp m with m | m
              · rw [m]; exact npa
              · rcases List.mem_cons.mp m with m | m
                · rw [m]; exact npb
                · exact ad k p m
          · rw [apB_mid (by rfl)]; rfl
          · simp only [List.length_append, List.length_cons]
            have := ld_ k
            omega
      · by_cases w5 : way = 4
        · refine ⟨_, cndF (decF w2) (cndF (decF w3) (cndF (decF w4) (cndT (decT w5) (bindE (catO_s ?_) rfl)))), ?_⟩
          · rw [List.length_map]; simp only [List.length_cons, List.length_nil]; omega
          · refine (show Wr ((pf :: pc :: ps).map toldO) from wr_fine (fun p m => ?_) ?_ ?_)
            · rcases List.mem_cons.mp m with m | m
              · rw [m]; exact npf
              · rcases List.mem_cons.mp m with m | m
                · rw [m]; exact npc
                · exact all p m
            · rw [show fB (pf :: pc :: ps) = true from rfl]
              simp
            · simp only [List.length_cons]; omega
        · refine ⟨_, cndF (decF w2) (cndF (decF w3) (cndF (decF w4) (cndF (decF w5) (bindE (catO_s ?_) rfl)))), ?_⟩
          · rw [List.length_map]; simp only [List.length_cons, List.length_nil]; omega
          · have z : ps.map toldO ++ [toldO pc, toldO pl] = (ps ++ [pc, pl]).map toldO := by simp
            refine (show Wr (ps.map toldO ++ [toldO pc, toldO pl]) from z ▸ wr_fine (fun p m => ?_) ?_ ?_)
            · rcases List.mem_append.mp m with m | m
              · exact all p m
              · rcases List.mem_cons.mp m with m | m
                · rw [m]; exact npc
                · rw [List.mem_singleton.mp m]; exact npl
            · have : lB (ps ++ [pc, pl]) = true := by
                unfold lB
                rw [show ps ++ [pc, pl] = (ps ++ [pc]) ++ [pl] by simp, List.getLast?_append]
                rfl
              rw [this]
              simp
            · simp only [List.length_append, List.length_cons, List.length_nil]; omega
/-! emptied -/
theorem pops {P : PyData → Prop} (hp : ∀ d, P d → Ld 12 d) : ∀ (n : Nat) (l : List PyData), l.length < n → (∀ d ∈ l, P d) → whileN (ρ := Unit) (fun (s189 : (List (PyData))) => (eqO (PyData.list (List.map id s189)) (PyData.list (List.map id ([] : List (PyData))))).bind fun c195 => some (!c195)) (fun (s199 : (List (PyData))) => (popO s199).bind fun c204 => some (Fw.nx c204.2)) n l = some (.nx [])
  | 0, l, h, _ => absurd h (Nat.not_lt_zero _)
  | n + 1, l, h, hl => by
    have e := eqO_list (ldL fun d m => hp d (hl d m)) (show 13 ≤ 64 by decide)
    have e1 : (eqO (PyData.list (List.map id l)) (PyData.list (List.map id ([] : List (PyData))))) = some l.isEmpty := by simp only [List.map_id]; exact e
    simp only [whileN, e1]
    rcases List.eq_nil_or_concat l with q | ⟨u, d, q⟩
    · subst q; rfl
    · rw [List.concat_eq_append] at q
      subst q
      have : (u ++ [d]).isEmpty = false := by simp
      rw [this]
      have e2 : popO (u ++ [d]) = some (d, u) := by
        unfold popO
        simp
      simp only [Option.bind, Bool.not_false, e2]
      exact pops hp n u (by simp at h; omega) fun x m => hl x (List.mem_append_left _ m)
theorem eq_ref : eqO (id refD) (id refD) = some true := eqO_same (n := 12) ⟨by decide +kernel, by decide +kernel⟩ (by decide)
theorem nothing_ok : ∀ d ∈ ([PyData.none, PyData.int (5 : Int), encS [112, 108, 97, 105, 110], PyData.tuple [], PyData.tuple [encS [112, 108, 97, 105, 110], encC 97], PyData.dict [], PyData.bool true, PyData.tuple [PyData.tuple [encS [112, 108, 97, 105, 110], encC 97]]] : List PyData), m__law_told d = some refD := fun d m => by
  refine told_bad ?_
  simp only [List.mem_cons, List.not_mem_nil, or_false] at m
  rcases m with m | m | m | m | m | m | m | m <;> subst m <;> rfl
theorem pure_law (ns : List Int) (hl : ns.length ≤ 63) (hb : ∀ k ∈ ns, Builtin.Int.intBits k ≤ 1048576) : m_law ns = some true := by
  have big : ∀ k : Nat, (ns.getD k 0).natAbs.log2 ≤ 1048576 := fun k => by
    rw [List.getD_eq_getElem?_getD]
    cases q : ns[k]? with
    | none => decide
    | some z => exact bits_log (hb z (List.mem_of_getElem? q))
  have r6 := mod_rng (ns.getD 0 0) (n := 6) (by decide)
  have r8 := mod_rng (ns.getD 0 0 / 6) (n := 8) (by decide)
  obtain ⟨v1, e1, f1⟩ := mixed06 (ns.getD 1 0) 1 (big 1) (by decide)
  obtain ⟨ps, ep, dp⟩ := drawn_ok (size := 1 + ns.getD 0 0 % 6) f1 (by omega)
  have self : eqO (PyData.list (ps.map toldO)) (PyData.list (ps.map toldO)) = some true := eqO_same (tOs_ld fun p m => (dp.np.all p m).o) (by decide)
  have tld : m__law_told (.list (ps.map toldO)) = some (.list (ps.map toldO)) := told_okX (need_okX dp.np)
  unfold m_law
  refine bindE (cell_ok ns 0) (ltE (bindE (cell_ok ns 1) (bindE e1 (ltE (bindE (modO_s (by decide)) (bindE ep (ltE (bindE (modO_s (by decide)) (bindE ep (ltE ?_))))))))))
  refine bindE (a := .list (ps.map toldO)) (by simp only [List.map_id]; exact tld) (bindE (a := true) (by simp only [List.map_id]; exact self) (bindE (a := false) (cndF rfl (bindE (a := true) (by simp only [List.map_id]; exact self) rfl)) (cndF rfl ?_)))
  refine bindE (rngO_s (by decide) (by decide)) ?_
  refine fwdE (s := ()) ?_ ?_
  · refine (loop_all (ρ := Bool) (as := rng 0 2) (i := 0) (s := ()) (I := fun _ _ => True) trivial fun j s a ha _ => ⟨(), ?_, trivial⟩).elim fun s es => es.1
    have ra := mem_rng (List.mem_of_getElem? ha)
    obtain ⟨k, ek⟩ := Int.eq_ofNat_of_zero_le (show 0 ≤ 2 + a by omega)
    obtain ⟨v, ev, fv⟩ := mixed06 (ns.getD k 0) (2 + a) (big k) (by omega)
    obtain ⟨l, el, wl⟩ := wrong_ok dp fv
    refine bindE (by rw [ek]; exact cell_ok ns k) (bindE ev (bindE el (ltE (ltE ?_))))
    have sl : eqO (PyData.list l) (PyData.list l) = some true := eqO_same (ldL wl.ld) (by decide)
    refine bindE (a := refD) (by simp only [List.map_id]; exact told_bad wl.bad) (bindE (a := true) eq_ref (bindE (a := false) (cndF rfl (bindE (a := true) (by simp only [List.map_id]; exact sl) rfl)) (cndF rfl ?_)))
    refine fwdE (pops (P := fun d => Ld 12 d) (fun d h => h) _ l (Nat.lt_succ_self _) wl.ld) ?_
    have hl := dp.len
    refine bindE (catO_s (by rw [List.length_map, List.length_nil]; omega)) ?_
    rw [List.nil_append]
    exact bindE (a := .list (ps.map toldO)) (by simp only [List.map_id]; exact tld) (bindE (a := true) (by simp only [List.map_id]; exact self) (cndF rfl rfl))
  · refine bindE (divO_s (by decide)) (bindE (modO_s (by decide)) ?_)
    obtain ⟨d, e, hd⟩ := ixO_all (P := fun d => m__law_told d = some refD) nothing_ok r8.1 r8.2
    refine bindE e (ltE (bindE hd (bindE (a := true) eq_ref (bindE (a := true) (cndT rfl ?_) rfl))))
    exact bindE (a := .list (ps.map toldO)) (by simp only [List.map_id]; exact tld) (bindE (a := true) (by simp only [List.map_id]; exact self) rfl)
end Law
namespace Law
open PySem PySem.Spec PyProof.Rows L2 Lm
/-! the head -/
abbrev tf : List He.Defn := []
def d_is_name : He.DefD := ⟨("is_name", none), "is_name", "is_name", defArgs s_is_name, defBody s_is_name, defScope s_is_name, [], []⟩
def d_Plain___init__ : He.DefD := ⟨("Plain", some "__init__"), "__init__", "Plain.__init__", defArgs s_Plain___init__, defBody s_Plain___init__, defScope s_Plain___init__, [], []⟩
def d_Code___init__ : He.DefD := ⟨("Code", some "__init__"), "__init__", "Code.__init__", defArgs s_Code___init__, defBody s_Code___init__, defScope s_Code___init__, [], []⟩
def d_Strong___init__ : He.DefD := ⟨("Strong", some "__init__"), "__init__", "Strong.__init__", defArgs s_Strong___init__, defBody s_Strong___init__, defScope s_Strong___init__, [], []⟩
def d_Link___init__ : He.DefD := ⟨("Link", some "__init__"), "__init__", "Link.__init__", defArgs s_Link___init__, defBody s_Link___init__, defScope s_Link___init__, [], []⟩
def d_Mark___init__ : He.DefD := ⟨("Mark", some "__init__"), "__init__", "Mark.__init__", defArgs s_Mark___init__, defBody s_Mark___init__, defScope s_Mark___init__, [], []⟩
def d_Plain_told : He.DefD := ⟨("Plain", some "told"), "told", "Plain.told", defArgs s_Plain_told, defBody s_Plain_told, defScope s_Plain_told, [], []⟩
def d_Code_told : He.DefD := ⟨("Code", some "told"), "told", "Code.told", defArgs s_Code_told, defBody s_Code_told, defScope s_Code_told, [], []⟩
def d_Link_told : He.DefD := ⟨("Link", some "told"), "told", "Link.told", defArgs s_Link_told, defBody s_Link_told, defScope s_Link_told, [], []⟩
def d_Mark_told : He.DefD := ⟨("Mark", some "told"), "told", "Mark.told", defArgs s_Mark_told, defBody s_Mark_told, defScope s_Mark_told, [], []⟩
def d_Strong_told : He.DefD := ⟨("Strong", some "told"), "told", "Strong.told", defArgs s_Strong_told, defBody s_Strong_told, defScope s_Strong_told, [], []⟩
def d_told_parts : He.DefD := ⟨("told_parts", none), "told_parts", "told_parts", defArgs s_told_parts, defBody s_told_parts, defScope s_told_parts, [], []⟩
def d_is_signs : He.DefD := ⟨("is_signs", none), "is_signs", "is_signs", defArgs s_is_signs, defBody s_is_signs, defScope s_is_signs, [], []⟩
def d_is_small : He.DefD := ⟨("is_small", none), "is_small", "is_small", defArgs s_is_small, defBody s_is_small, defScope s_is_small, [], []⟩
def d_made_part : He.DefD := ⟨("made_part", none), "made_part", "made_part", defArgs s_made_part, defBody s_made_part, defScope s_made_part, [], []⟩
def d_made_parts : He.DefD := ⟨("made_parts", none), "made_parts", "made_parts", defArgs s_made_parts, defBody s_made_parts, defScope s_made_parts, [], []⟩
def d_need_parts : He.DefD := ⟨("need_parts", none), "need_parts", "need_parts", defArgs s_need_parts, defBody s_need_parts, defScope s_need_parts, [], []⟩
def d__law_cell : He.DefD := ⟨("_law_cell", none), "_law_cell", "_law_cell", defArgs s__law_cell, defBody s__law_cell, defScope s__law_cell, [], []⟩
def d__law_mixed : He.DefD := ⟨("_law_mixed", none), "_law_mixed", "_law_mixed", defArgs s__law_mixed, defBody s__law_mixed, defScope s__law_mixed, [], []⟩
def d__law_menu : He.DefD := ⟨("_law_menu", none), "_law_menu", "_law_menu", defArgs s__law_menu, defBody s__law_menu, defScope s__law_menu, [], []⟩
def d__law_signs : He.DefD := ⟨("_law_signs", none), "_law_signs", "_law_signs", defArgs s__law_signs, defBody s__law_signs, defScope s__law_signs, [], []⟩
def d__law_text : He.DefD := ⟨("_law_text", none), "_law_text", "_law_text", defArgs s__law_text, defBody s__law_text, defScope s__law_text, [], []⟩
def d__law_name : He.DefD := ⟨("_law_name", none), "_law_name", "_law_name", defArgs s__law_name, defBody s__law_name, defScope s__law_name, [], []⟩
def d__law_ends : He.DefD := ⟨("_law_ends", none), "_law_ends", "_law_ends", defArgs s__law_ends, defBody s__law_ends, defScope s__law_ends, [], []⟩
def d__law_part : He.DefD := ⟨("_law_part", none), "_law_part", "_law_part", defArgs s__law_part, defBody s__law_part, defScope s__law_part, [], []⟩
def d__law_parts : He.DefD := ⟨("_law_parts", none), "_law_parts", "_law_parts", defArgs s__law_parts, defBody s__law_parts, defScope s__law_parts, [], []⟩
def d__law_kind : He.DefD := ⟨("_law_kind", none), "_law_kind", "_law_kind", defArgs s__law_kind, defBody s__law_kind, defScope s__law_kind, [], []⟩
def d__law_odd : He.DefD := ⟨("_law_odd", none), "_law_odd", "_law_odd", defArgs s__law_odd, defBody s__law_odd, defScope s__law_odd, [], []⟩
def d__law_told : He.DefD := ⟨("_law_told", none), "_law_told", "_law_told", defArgs s__law_told, defBody s__law_told, defScope s__law_told, [], []⟩
def d__law_wrong : He.DefD := ⟨("_law_wrong", none), "_law_wrong", "_law_wrong", defArgs s__law_wrong, defBody s__law_wrong, defScope s__law_wrong, [], []⟩
def d_law : He.DefD := ⟨("law", none), "law", "law", defArgs s_law, defBody s_law, defScope s_law, [], []⟩
def fn : List He.DefD := [d_is_name, d_Plain___init__, d_Code___init__, d_Strong___init__, d_Link___init__, d_Mark___init__, d_Plain_told, d_Code_told, d_Link_told, d_Mark_told, d_Strong_told, d_told_parts, d_is_signs, d_is_small, d_made_part, d_made_parts, d_need_parts, d__law_cell, d__law_mixed, d__law_menu, d__law_signs, d__law_text, d__law_name, d__law_ends, d__law_part, d__law_parts, d__law_kind, d__law_odd, d__law_told, d__law_wrong, d_law]
def fa : List He.Fa := [.free "ValueError", .free "all", .free "int", .free "isinstance", .free "len", .free "list", .free "range", .free "str", .free "tuple", .free "zip", .int "MOST_LETTERS" 12, .glo "MarkError", .exm "BadTree" "MarkError" true, .cls "Plain", .cls "Code", .cls "Strong", .cls "Link", .cls "Mark", .noat "Plain" "signs", .noat "Code" "signs", .noat "Strong" "parts", .noat "Link" "words", .noat "Link" "name", .noat "Mark" "name", .glo "BadTree", .exc "BadTree", .glo "BadName", .glo "BadText", .glo "BadWidth", .glo "OutOfPlace", .glo "Plain", .meth "Code" "told", .meth "Link" "told", .meth "Mark" "told", .meth "Plain" "told", .meth "Strong" "told", .mkr "Code", .glo "Code", .mkr "Link", .glo "Link", .mkr "Mark", .glo "Mark", .mkr "Plain", .mkr "Strong", .glo "Strong", .glo "is_name", .glo "told_parts", .glo "is_signs", .glo "is_small", .glo "made_part", .glo "made_parts", .glo "need_parts", .glo "_law_cell", .glo "_law_mixed", .glo "_law_menu", .glo "_law_signs", .glo "_law_text", .glo "_law_name", .glo "_law_ends", .glo "_law_part", .glo "_law_parts", .glo "_law_kind", .glo "_law_odd", .glo "_law_told", .glo "_law_wrong", .glo "law"]
def ts : List (Str × Str) := [("LETTERS", "abcdefghijklmnopqrstuvwxyzABCDEFGHIJKLMNOPQRSTUVWXYZ0123456789")]
def chk (K : PySem.W.Frag) : Bool := tokOk ts 785 K && (chkIs K "Plain" is_Plain && (chkEIs K (clsV K "BadName") eis_BadName && (chkEIs K (clsV K "BadText") eis_BadText && (chkEIs K (clsV K "BadTree") eis_BadTree && (chkEIs K (clsV K "BadWidth") eis_BadWidth && (chkEIs K (clsV K "OutOfPlace") eis_OutOfPlace && (chkEIs K (.type "ValueError") eis_ValueError && (chkExcC K "BadTree" && (true)))))))))
abbrev R : PySem.W.OpenRow := PySem.W.OpenLaw.row PySem.Challenge.rw_lightmark_k07_parts_refused_or_made
abbrev hk : PySem.W.Hook := hookZ 5 fa fn tf chk 785
def ob (s : PySem.W.SharedT) : He.AlX × Nat := (He.obsX 5 fa fn [] tf chk (HandSHeadRun.getT s), s.abs.toks)
theorem ob_eq (s : PySem.W.SharedT) : ob s = hk.obs s.abs := by
  show (He.obsX 5 fa fn [] tf chk (HandSHeadRun.getT s), s.abs.toks) = (He.obsX 5 fa fn [] tf chk s.abs.heap.get?, s.abs.toks)
  rw [obsZ_eq (HandSHeadRun.getT_eq s)]
abbrev loose : List Str := (["_wall", "MarkError", "BadText", "BadName", "BadTree", "OutOfPlace", "BadWidth", "Part", "Plain", "Code", "Strong", "Link"] : List Str) ++ (["Mark", "told_parts", "LETTERS", "MOST_LETTERS", "is_name", "is_signs", "is_small", "made_part", "made_parts", "need_parts", "_law_cell", "_law_mixed"] : List Str) ++ (["_law_menu", "_law_signs", "_law_text", "_law_name", "_law_ends", "_law_part", "_law_parts", "_law_kind", "_law_odd", "_law_told", "_law_wrong"] : List Str)
theorem run (w : World) : HandSHeadRun.RunEq R (PySem.W.view R.prog [40]) hk ob 5120 loose w := by
  intro os
  kernel_rfl
theorem calls {P : Program} {w : World} {K : PySem.W.Frag} {h base : Heap} {mg : Str → Option Value} (X : K.In h) (G : h.Ns mainGlobals mg) (c : He.SaysD fa fn K) (tk : chk K = true) (TB : ∀ p ∈ tf, LamX.TabB base mg (He.cT K p).1 (He.cT K p).2) : CalN 785 P w K mg base 11 "law" ["_law_script"] (spG (P_law K)) := by
  have T : Top 785 K mg := ⟨by decide,
    He.free_ok X G (c.fact 0 (f := .free "ValueError") rfl),
    He.free_ok X G (c.fact 1 (f := .free "all") rfl),
    He.free_ok X G (c.fact 2 (f := .free "int") rfl),
    He.free_ok X G (c.fact 3 (f := .free "isinstance") rfl),
    He.free_ok X G (c.fact 4 (f := .free "len") rfl),
    He.free_ok X G (c.fact 5 (f := .free "list") rfl),
    He.free_ok X G (c.fact 6 (f := .free "range") rfl),
    He.free_ok X G (c.fact 7 (f := .free "str") rfl),
    He.free_ok X G (c.fact 8 (f := .free "tuple") rfl),
    He.free_ok X G (c.fact 9 (f := .free "zip") rfl),
    tok_at X G (He.ba tk).1 0 rfl,
    He.int_ok X G (c.fact 10 (f := .int "MOST_LETTERS" 12) rfl),
    ⟨(He.glo_ok X G (c.fact 11 (f := .glo "MarkError") rfl)), (List.forall_mem_cons.mpr ⟨⟨He.exm_ok (c.fact 12 (f := .exm "BadTree" "MarkError" true) rfl), excC_of (He.ba (He.ba (He.ba (He.ba (He.ba (He.ba (He.ba (He.ba (He.ba tk).2).2).2).2).2).2).2).2).1⟩, (List.forall_mem_nil _)⟩)⟩,
    ⟨(List.forall_mem_cons.mpr ⟨(He.cls_ok (c.fact 13 (f := .cls "Plain") rfl)), (List.forall_mem_cons.mpr ⟨(He.cls_ok (c.fact 14 (f := .cls "Code") rfl)), (List.forall_mem_cons.mpr ⟨(He.cls_ok (c.fact 15 (f := .cls "Strong") rfl)), (List.forall_mem_cons.mpr ⟨(He.cls_ok (c.fact 16 (f := .cls "Link") rfl)), (List.forall_mem_cons.mpr ⟨(He.cls_ok (c.fact 17 (f := .cls "Mark") rfl)), (List.forall_mem_nil _)⟩)⟩)⟩)⟩)⟩), (List.forall_mem_cons.mpr ⟨(List.forall_mem_cons.mpr ⟨(He.noat_ok (c.fact 18 (f := .noat "Plain" "signs") rfl)), (List.forall_mem_nil _)⟩), (List.forall_mem_cons.mpr ⟨(List.forall_mem_cons.mpr ⟨(He.noat_ok (c.fact 19 (f := .noat "Code" "signs") rfl)), (List.forall_mem_nil _)⟩), (List.forall_mem_cons.mpr ⟨(List.forall_mem_cons.mpr ⟨(He.noat_ok (c.fact 20 (f := .noat "Strong" "parts") rfl)), (List.forall_mem_nil _)⟩), (List.forall_mem_cons.mpr ⟨(List.forall_mem_cons.mpr ⟨(He.noat_ok (c.fact 21 (f := .noat "Link" "words") rfl)), (List.forall_mem_cons.mpr ⟨(He.noat_ok (c.fact 22 (f := .noat "Link" "name") rfl)), (List.forall_mem_nil _)⟩)⟩), (List.forall_mem_cons.mpr ⟨(List.forall_mem_cons.mpr ⟨(He.noat_ok (c.fact 23 (f := .noat "Mark" "name") rfl)), (List.forall_mem_nil _)⟩), (List.forall_mem_nil _)⟩)⟩)⟩)⟩)⟩)⟩,
    eIs_of (He.ba (He.ba (He.ba tk).2).2).1,
    eIs_of (He.ba (He.ba (He.ba (He.ba tk).2).2).2).1,
    eIs_of (He.ba (He.ba (He.ba (He.ba (He.ba tk).2).2).2).2).1,
    eIs_of (He.ba (He.ba (He.ba (He.ba (He.ba (He.ba tk).2).2).2).2).2).1,
    eIs_of (He.ba (He.ba (He.ba (He.ba (He.ba (He.ba (He.ba tk).2).2).2).2).2).2).1,
    eIs_of (He.ba (He.ba (He.ba (He.ba (He.ba (He.ba (He.ba (He.ba tk).2).2).2).2).2).2).2).1,
    exOk_of (He.glo_ok X G (c.fact 24 (f := .glo "BadTree") rfl)) (c.fact 25 (f := .exc "BadTree") rfl),
    (He.glo_ok X G (c.fact 26 (f := .glo "BadName") rfl)),
    (He.glo_ok X G (c.fact 27 (f := .glo "BadText") rfl)),
    (He.glo_ok X G (c.fact 24 (f := .glo "BadTree") rfl)),
    (He.glo_ok X G (c.fact 28 (f := .glo "BadWidth") rfl)),
    (He.glo_ok X G (c.fact 29 (f := .glo "OutOfPlace") rfl)),
    is_ok (He.ba (He.ba tk).2).1 (He.glo_ok X G (c.fact 30 (f := .glo "Plain") rfl)) (List.forall_mem_cons.mpr ⟨(He.cls_ok (c.fact 13 (f := .cls "Plain") rfl)), (List.forall_mem_cons.mpr ⟨(He.cls_ok (c.fact 14 (f := .cls "Code") rfl)), (List.forall_mem_cons.mpr ⟨(He.cls_ok (c.fact 15 (f := .cls "Strong") rfl)), (List.forall_mem_cons.mpr ⟨(He.cls_ok (c.fact 16 (f := .cls "Link") rfl)), (List.forall_mem_cons.mpr ⟨(He.cls_ok (c.fact 17 (f := .cls "Mark") rfl)), (List.forall_mem_nil _)⟩)⟩)⟩)⟩)⟩),
    ⟨(He.cls_ok (c.fact 14 (f := .cls "Code") rfl)), He.meth_ok (c.fact 31 (f := .meth "Code" "told") rfl)⟩,
    ⟨(He.cls_ok (c.fact 16 (f := .cls "Link") rfl)), He.meth_ok (c.fact 32 (f := .meth "Link" "told") rfl)⟩,
    ⟨(He.cls_ok (c.fact 17 (f := .cls "Mark") rfl)), He.meth_ok (c.fact 33 (f := .meth "Mark" "told") rfl)⟩,
    ⟨(He.cls_ok (c.fact 13 (f := .cls "Plain") rfl)), He.meth_ok (c.fact 34 (f := .meth "Plain" "told") rfl)⟩,
    ⟨(He.cls_ok (c.fact 15 (f := .cls "Strong") rfl)), He.meth_ok (c.fact 35 (f := .meth "Strong" "told") rfl)⟩,
    ⟨(He.cls_ok (c.fact 14 (f := .cls "Code") rfl)), He.mkr_ok (c.fact 36 (f := .mkr "Code") rfl), (He.glo_ok X G (c.fact 37 (f := .glo "Code") rfl))⟩,
    ⟨(He.cls_ok (c.fact 16 (f := .cls "Link") rfl)), He.mkr_ok (c.fact 38 (f := .mkr "Link") rfl), (He.glo_ok X G (c.fact 39 (f := .glo "Link") rfl))⟩,
    ⟨(He.cls_ok (c.fact 17 (f := .cls "Mark") rfl)), He.mkr_ok (c.fact 40 (f := .mkr "Mark") rfl), (He.glo_ok X G (c.fact 41 (f := .glo "Mark") rfl))⟩,
    ⟨(He.cls_ok (c.fact 13 (f := .cls "Plain") rfl)), He.mkr_ok (c.fact 42 (f := .mkr "Plain") rfl), (He.glo_ok X G (c.fact 30 (f := .glo "Plain") rfl))⟩,
    ⟨(He.cls_ok (c.fact 15 (f := .cls "Strong") rfl)), He.mkr_ok (c.fact 43 (f := .mkr "Strong") rfl), (He.glo_ok X G (c.fact 44 (f := .glo "Strong") rfl))⟩⟩
  have D_is_name : Df K mg "is_name" s_is_name := ⟨(c.def_ 0 (d := d_is_name) rfl).elim fun fd F => ⟨_, fd, F, He.glo_ok X G (c.fact 45 (f := .glo "is_name") rfl)⟩⟩
  have D_Plain___init__ : DfM K "Plain" "__init__" "Plain.__init__" s_Plain___init__ := ⟨(c.def_ 1 (d := d_Plain___init__) rfl).elim fun fd F => ⟨fd, F⟩⟩
  have D_Code___init__ : DfM K "Code" "__init__" "Code.__init__" s_Code___init__ := ⟨(c.def_ 2 (d := d_Code___init__) rfl).elim fun fd F => ⟨fd, F⟩⟩
  have D_Strong___init__ : DfM K "Strong" "__init__" "Strong.__init__" s_Strong___init__ := ⟨(c.def_ 3 (d := d_Strong___init__) rfl).elim fun fd F => ⟨fd, F⟩⟩
  have D_Link___init__ : DfM K "Link" "__init__" "Link.__init__" s_Link___init__ := ⟨(c.def_ 4 (d := d_Link___init__) rfl).elim fun fd F => ⟨fd, F⟩⟩
  have D_Mark___init__ : DfM K "Mark" "__init__" "Mark.__init__" s_Mark___init__ := ⟨(c.def_ 5 (d := d_Mark___init__) rfl).elim fun fd F => ⟨fd, F⟩⟩
  have D_Plain_told : DfM K "Plain" "told" "Plain.told" s_Plain_told := ⟨(c.def_ 6 (d := d_Plain_told) rfl).elim fun fd F => ⟨fd, F⟩⟩
  have D_Code_told : DfM K "Code" "told" "Code.told" s_Code_told := ⟨(c.def_ 7 (d := d_Code_told) rfl).elim fun fd F => ⟨fd, F⟩⟩
  have D_Link_told : DfM K "Link" "told" "Link.told" s_Link_told := ⟨(c.def_ 8 (d := d_Link_told) rfl).elim fun fd F => ⟨fd, F⟩⟩
  have D_Mark_told : DfM K "Mark" "told" "Mark.told" s_Mark_told := ⟨(c.def_ 9 (d := d_Mark_told) rfl).elim fun fd F => ⟨fd, F⟩⟩
  have D_Strong_told : DfM K "Strong" "told" "Strong.told" s_Strong_told := ⟨(c.def_ 10 (d := d_Strong_told) rfl).elim fun fd F => ⟨fd, F⟩⟩
  have D_told_parts : Df K mg "told_parts" s_told_parts := ⟨(c.def_ 11 (d := d_told_parts) rfl).elim fun fd F => ⟨_, fd, F, He.glo_ok X G (c.fact 46 (f := .glo "told_parts") rfl)⟩⟩
  have D_is_signs : Df K mg "is_signs" s_is_signs := ⟨(c.def_ 12 (d := d_is_signs) rfl).elim fun fd F => ⟨_, fd, F, He.glo_ok X G (c.fact 47 (f := .glo "is_signs") rfl)⟩⟩
  have D_is_small : Df K mg "is_small" s_is_small := ⟨(c.def_ 13 (d := d_is_small) rfl).elim fun fd F => ⟨_, fd, F, He.glo_ok X G (c.fact 48 (f := .glo "is_small") rfl)⟩⟩
  have D_made_part : Df K mg "made_part" s_made_part := ⟨(c.def_ 14 (d := d_made_part) rfl).elim fun fd F => ⟨_, fd, F, He.glo_ok X G (c.fact 49 (f := .glo "made_part") rfl)⟩⟩
  have D_made_parts : Df K mg "made_parts" s_made_parts := ⟨(c.def_ 15 (d := d_made_parts) rfl).elim fun fd F => ⟨_, fd, F, He.glo_ok X G (c.fact 50 (f := .glo "made_parts") rfl)⟩⟩
  have D_need_parts : Df K mg "need_parts" s_need_parts := ⟨(c.def_ 16 (d := d_need_parts) rfl).elim fun fd F => ⟨_, fd, F, He.glo_ok X G (c.fact 51 (f := .glo "need_parts") rfl)⟩⟩
  have D__law_cell : Df K mg "_law_cell" s__law_cell := ⟨(c.def_ 17 (d := d__law_cell) rfl).elim fun fd F => ⟨_, fd, F, He.glo_ok X G (c.fact 52 (f := .glo "_law_cell") rfl)⟩⟩
  have D__law_mixed : Df K mg "_law_mixed" s__law_mixed := ⟨(c.def_ 18 (d := d__law_mixed) rfl).elim fun fd F => ⟨_, fd, F, He.glo_ok X G (c.fact 53 (f := .glo "_law_mixed") rfl)⟩⟩
  have D__law_menu : Df K mg "_law_menu" s__law_menu := ⟨(c.def_ 19 (d := d__law_menu) rfl).elim fun fd F => ⟨_, fd, F, He.glo_ok X G (c.fact 54 (f := .glo "_law_menu") rfl)⟩⟩
  have D__law_signs : Df K mg "_law_signs" s__law_signs := ⟨(c.def_ 20 (d := d__law_signs) rfl).elim fun fd F => ⟨_, fd, F, He.glo_ok X G (c.fact 55 (f := .glo "_law_signs") rfl)⟩⟩
  have D__law_text : Df K mg "_law_text" s__law_text := ⟨(c.def_ 21 (d := d__law_text) rfl).elim fun fd F => ⟨_, fd, F, He.glo_ok X G (c.fact 56 (f := .glo "_law_text") rfl)⟩⟩
  have D__law_name : Df K mg "_law_name" s__law_name := ⟨(c.def_ 22 (d := d__law_name) rfl).elim fun fd F => ⟨_, fd, F, He.glo_ok X G (c.fact 57 (f := .glo "_law_name") rfl)⟩⟩
  have D__law_ends : Df K mg "_law_ends" s__law_ends := ⟨(c.def_ 23 (d := d__law_ends) rfl).elim fun fd F => ⟨_, fd, F, He.glo_ok X G (c.fact 58 (f := .glo "_law_ends") rfl)⟩⟩
  have D__law_part : Df K mg "_law_part" s__law_part := ⟨(c.def_ 24 (d := d__law_part) rfl).elim fun fd F => ⟨_, fd, F, He.glo_ok X G (c.fact 59 (f := .glo "_law_part") rfl)⟩⟩
  have D__law_parts : Df K mg "_law_parts" s__law_parts := ⟨(c.def_ 25 (d := d__law_parts) rfl).elim fun fd F => ⟨_, fd, F, He.glo_ok X G (c.fact 60 (f := .glo "_law_parts") rfl)⟩⟩
  have D__law_kind : Df K mg "_law_kind" s__law_kind := ⟨(c.def_ 26 (d := d__law_kind) rfl).elim fun fd F => ⟨_, fd, F, He.glo_ok X G (c.fact 61 (f := .glo "_law_kind") rfl)⟩⟩
  have D__law_odd : Df K mg "_law_odd" s__law_odd := ⟨(c.def_ 27 (d := d__law_odd) rfl).elim fun fd F => ⟨_, fd, F, He.glo_ok X G (c.fact 62 (f := .glo "_law_odd") rfl)⟩⟩
  have D__law_told : Df K mg "_law_told" s__law_told := ⟨(c.def_ 28 (d := d__law_told) rfl).elim fun fd F => ⟨_, fd, F, He.glo_ok X G (c.fact 63 (f := .glo "_law_told") rfl)⟩⟩
  have D__law_wrong : Df K mg "_law_wrong" s__law_wrong := ⟨(c.def_ 29 (d := d__law_wrong) rfl).elim fun fd F => ⟨_, fd, F, He.glo_ok X G (c.fact 64 (f := .glo "_law_wrong") rfl)⟩⟩
  have D_law : Df K mg "law" s_law := ⟨(c.def_ 30 (d := d_law) rfl).elim fun fd F => ⟨_, fd, F, He.glo_ok X G (c.fact 65 (f := .glo "law") rfl)⟩⟩
  have C_is_name : Cal P w K mg base 1 "is_name" ["thing"] (spG (P_is_name)) := ok_is_name T D_is_name 
  have C_Plain___init__ : CalM P w K mg base 1 "Plain" "__init__" ["self", "signs"] (spI K (He.ga K "Plain") (P_Plain___init__)) := ok_Plain___init__ T D_Plain___init__ 
  have C_Code___init__ : CalM P w K mg base 1 "Code" "__init__" ["self", "signs"] (spI K (He.ga K "Code") (P_Code___init__)) := ok_Code___init__ T D_Code___init__ 
  have C_Strong___init__ : CalM P w K mg base 1 "Strong" "__init__" ["self", "parts"] (spI K (He.ga K "Strong") (P_Strong___init__ K)) := ok_Strong___init__ T D_Strong___init__ 
  have C_Link___init__ : CalM P w K mg base 1 "Link" "__init__" ["self", "words", "name"] (spI K (He.ga K "Link") (P_Link___init__)) := ok_Link___init__ T D_Link___init__ 
  have C_Mark___init__ : CalM P w K mg base 1 "Mark" "__init__" ["self", "name"] (spI K (He.ga K "Mark") (P_Mark___init__)) := ok_Mark___init__ T D_Mark___init__ 
  have C_Plain_told : CalM P w K mg base 1 "Plain" "told" ["self"] (spF (P_Plain_told K)) := ok_Plain_told T D_Plain_told 
  have C_Code_told : CalM P w K mg base 1 "Code" "told" ["self"] (spF (P_Code_told K)) := ok_Code_told T D_Code_told 
  have C_Link_told : CalM P w K mg base 1 "Link" "told" ["self"] (spF (P_Link_told K)) := ok_Link_told T D_Link_told 
  have C_Mark_told : CalM P w K mg base 1 "Mark" "told" ["self"] (spF (P_Mark_told K)) := ok_Mark_told T D_Mark_told 
  have C_told_parts : Cal P w K mg base 7 "told_parts" ["parts"] (spFN (P_told_parts K)) := ok_told_parts T D_told_parts D_Strong_told C_Plain_told C_Code_told C_Link_told C_Mark_told
  have C_Strong_told : CalM P w K mg base 8 "Strong" "told" ["self"] (spF (P_Strong_told K m_told_parts)) := okc_Strong_told T D_Strong_told C_told_parts
  have C_is_signs : Cal P w K mg base 1 "is_signs" ["thing"] (spG (P_is_signs)) := ok_is_signs T D_is_signs 
  have C_is_small : Cal P w K mg base 2 "is_small" ["thing"] (spG (P_is_small)) := ok_is_small T D_is_small C_is_name
  have C_made_parts : CalX P w K mg base 8 "made_parts" ["told", "is_outer"] (spX K (rL (rX K)) (P_made_parts K)) := ok_made_parts T D_made_parts D_made_part C_is_signs C_is_small C_Link___init__ C_Plain___init__ C_Code___init__ C_Mark___init__ C_Strong___init__
  have C_made_part : CalX P w K mg base 9 "made_part" ["told", "is_outer"] (spX K (rX K) (P_made_part K m_made_parts)) := okc_made_part T D_made_part C_is_signs C_is_small C_Link___init__ C_Plain___init__ C_Code___init__ C_Mark___init__ C_made_parts C_Strong___init__
  have C_need_parts : CalX P w K mg base 9 "need_parts" ["told"] (spX K (rL (rX K)) (P_need_parts K)) := ok_need_parts T D_need_parts C_made_parts
  have C__law_cell : Cal P w K mg base 1 "_law_cell" ["_law_script", "_law_k"] (spG (P__law_cell K)) := ok__law_cell T D__law_cell 
  have C__law_mixed : Cal P w K mg base 1 "_law_mixed" ["_law_cell_here", "_law_k"] (spG (P__law_mixed)) := ok__law_mixed T D__law_mixed 
  have C__law_menu : Cal P w K mg base 1 "_law_menu" ["_law_kind_here"] (spG (P__law_menu)) := ok__law_menu T D__law_menu 
  have C__law_signs : Cal P w K mg base 1 "_law_signs" ["_law_number", "_law_size", "_law_menu_here"] (spG (P__law_signs)) := ok__law_signs T D__law_signs 
  have C__law_text : Cal P w K mg base 2 "_law_text" ["_law_number", "_law_most"] (spG (P__law_text)) := ok__law_text T D__law_text C__law_mixed C__law_signs C__law_menu
  have C__law_name : Cal P w K mg base 2 "_law_name" ["_law_number"] (spG (P__law_name)) := ok__law_name T D__law_name C__law_signs C__law_menu
  have C__law_ends : Cal P w K mg base 1 "_law_ends" ["_law_signs_here", "_law_number"] (spG (P__law_ends)) := ok__law_ends T D__law_ends 
  have C__law_parts : CalN 785 P w K mg base 8 "_law_parts" ["_law_number", "_law_size", "_law_is_inner"] (spFN (P__law_parts)) := ok__law_parts T D__law_parts D__law_part C__law_name C__law_mixed C__law_ends C__law_text
  have C__law_part : CalN 785 P w K mg base 9 "_law_part" ["_law_number", "_law_before", "_law_is_inner"] (spF (P__law_part m__law_parts)) := okc__law_part T D__law_part C__law_name C__law_parts C__law_mixed C__law_ends C__law_text
  have C__law_kind : CalE P w K mg base 1 "_law_kind" ["_law_error"] (spK K rS P__law_kind) := ok__law_kind T D__law_kind 
  have C__law_odd : Cal P w K mg base 1 "_law_odd" ["_law_number"] (spG (P__law_odd)) := ok__law_odd T D__law_odd 
  have C__law_told : Cal P w K mg base 10 "_law_told" ["_law_thing"] (spF (P__law_told)) := ok__law_told T D__law_told C_need_parts C_told_parts C__law_kind
  have C__law_wrong : Cal P w K mg base 2 "_law_wrong" ["_law_due", "_law_number"] (spN rD (P__law_wrong)) := ok__law_wrong T D__law_wrong C__law_odd
  have C_law : CalN 785 P w K mg base 11 "law" ["_law_script"] (spG (P_law K)) := ok_law T D_law C__law_cell C__law_mixed C__law_parts C__law_told C__law_wrong
  exact C_law
end Law
open PySem PySem.W PySem.Calls PyProof.Rows in
theorem PySem.Challenge.cw_lightmark_k07_parts_refused_or_made_holds : PySem.Challenge.rw_lightmark_k07_parts_refused_or_made.Holds := by
  w_on; o_law
  refine Lm.head_seen (r := OpenLaw.row PySem.Challenge.rw_lightmark_k07_parts_refused_or_made) (q := view (OpenLaw.row PySem.Challenge.rw_lightmark_k07_parts_refused_or_made).prog [40]) (H := Law.hk) (ob := Law.ob) (M := 5120) (loose := Law.loose) (d := HandSHeadRun.topDef (OpenLaw.row PySem.Challenge.rw_lightmark_k07_parts_refused_or_made).prog 40) (kwd := []) Law.ob_eq
    (by kernel_rfl) (fun s => by kernel_rfl) Law.run (by kernel_rfl) (by kernel_rfl) (by kernel_rfl) (by rfl) (by first | assumption | decide +kernel) (by decide +kernel) ⟨rfl, rfl, rfl, rfl, rfl, by decide +kernel⟩ ?hw ?hc
  case hw => w_witness2
  case hc =>
    refine Lm.walk_chkZ (l := PySem.Challenge.rw_lightmark_k07_parts_refused_or_made) (m := 63) (k := 11) (T := 785) (tf := Law.tf) (x := "_law_script") rfl (by decide) (by kernel_rfl) ⟨rfl, by decide, by decide⟩ ?F
    intro w K mg fa h KX c tk G hmg0
    have hmg : mg ("law" : PySem.Str) = some (.ref fa) := by
      have e : (HandSHeadRun.topDef (OpenLaw.row PySem.Challenge.rw_lightmark_k07_parts_refused_or_made).prog 40).name = ("law" : PySem.Str) := by kernel_rfl
      rw [← e]
      exact hmg0
    have D : Lm.Df K mg "law" Law.s_law := ⟨(c.def_ 30 (d := Law.d_law) rfl).elim fun fd F => ⟨_, fd, F, He.glo_ok KX G (c.fact 65 (f := .glo "law") rfl)⟩⟩
    obtain ⟨fd, hb, hF⟩ := Lm.fin_ofTN (n := 785) (P := (PySem.Challenge.rw_lightmark_k07_parts_refused_or_made).prog) (w := w) (tf := Law.tf) hmg D (fun _ _ _ _ _ _ us hl => match us, hl with | [_], _ => rfl) (fun base TB => Law.calls KX G c tk TB)
    exact ⟨fd, Lm.spG (Law.P_law K), hb, fun H a ns hl hbits hT hS => ⟨H, _, _, ⟨ns, true, rfl, Law.pure_law ns hl hbits, rfl⟩, L2.Same.refl H, ⟨⟨a, rfl, hS, Nat.le_trans hl (by decide)⟩, trivial⟩, fun v F' H' g e => e⟩, fun base _ _ TB => hF base TB⟩
