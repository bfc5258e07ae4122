import PyProof.Rows.All
import HandS.ForMost
import HandS.IsInst
import HandS.Wide
import HandS.Flow
import HandS.TupAny
import HandS.Conv
import HandS.Deep
import HandS.TupLe
import HandS.More
import HandS.Rev
import HandS.TryOnly
import HandS.Defaults
import HandS.HeadEnd
import HandS.HeadHook2
import HandS.HeadHook4
import HandS.Head2
import PySem.Challenge.RW_scorestead_k21_heights_judged
set_option Elab.async false
set_option linter.all false
set_option maxRecDepth 100000
/-! Sc1: plain data over the hand layer: data D, cells, the relation to the abstract heap, the judgements lifted. -/
namespace Sc
open PySem PySem.Spec PyProof.Rows L2

/-- plain data: a value without addresses -/
inductive D where
  | non | bl (b : Bool) | int (i : Int) | str (x : Str) | tup (xs : List D) | lst (xs : List D) | klst (xs : List D) | rng
/-- a list of the def's own that it changes; one that it has given up -/
inductive Cell where
  | lst (xs : List D)
  | gone
/-- a value: data, or the k-th cell -/
inductive P where
  | d (x : D) | ref (k : Nat)
abbrev Sl := List (Option P)
abbrev Hl := List Cell
structure Wd where
  /-- the def's own cells -/
  al : List (Option Addr)
  /-- states of draws -/
  rg : List (Addr × Addr)
  /-- cells of the callers -/
  fo : Addr → Prop
def Wd.own (W : Wd) (a : Addr) : Prop := (∃ k : Nat, W.al[k]? = some (some a)) ∨ (∃ p ∈ W.rg, a = p.1 ∨ a = p.2) ∨ W.fo a

section
variable (K : PySem.W.Frag)
def QT (own : Addr → Prop) (H : Hp) (a : Addr) (ys : List V) : Prop :=
  (Rd H a (.tup ys) ∧ ¬ own a) ∨
    ∃ (o : Obj) (its : Array Value) (n : Nat), K.lookup a = some o ∧ o.cls = .type "tuple" ∧ o.data = .seq its n ∧ its.size ≤ sizeLine ∧ Vals ys its.toList
def QL (own : Addr → Prop) (H : Hp) (a : Addr) (ys : List V) : Prop := H a = some (.lst ys) ∧ ¬ own a
def QK (own : Addr → Prop) (H : Hp) (a : Addr) (ys : List V) : Prop :=
  (Rd H a (.lst ys) ∧ ¬ own a) ∨
    ∃ (o : Obj) (its : Array Value) (n : Nat), K.lookup a = some o ∧ o.cls = .type "list" ∧ o.dict = none ∧ o.data = .seq its n ∧ its.size ≤ sizeLine ∧ Vals ys its.toList
mutual
/-- what stands for the data -/
def RD (own : Addr → Prop) (rg : List (Addr × Addr)) (H : Hp) : D → V → Prop
  | .non, v => v = .non
  | .bl b, v => v = .bl b
  | .int i, v => v = .int i
  | .str x, v => v = .str x
  | .tup xs, v => ∃ a ys, v = .ref a ∧ QT K own H a ys ∧ RDs own rg H xs ys
  | .lst xs, v => ∃ a ys, v = .ref a ∧ QL own H a ys ∧ RDs own rg H xs ys
  | .klst xs, v => ∃ a ys, v = .ref a ∧ QK K own H a ys ∧ RDs own rg H xs ys
  | .rng, v => ∃ a g, v = .ref a ∧ (a, g) ∈ rg
def RDs (own : Addr → Prop) (rg : List (Addr × Addr)) (H : Hp) : List D → List V → Prop
  | [], ys => ys = []
  | x :: xs, ys => ∃ y r, ys = y :: r ∧ RD own rg H x y ∧ RDs own rg H xs r
end
def RC (own : Addr → Prop) (rg : List (Addr × Addr)) (H : Hp) : Cell → Option Addr → Prop
  | .lst xs, some a => ∃ ys, H a = some (.lst ys) ∧ RDs K own rg H xs ys
  | .gone, none => True
  | _, _ => False
def RP (W : Wd) (H : Hp) : P → V → Prop
  | .d x, v => RD K W.own W.rg H x v
  | .ref k, v => ∃ a, v = .ref a ∧ W.al[k]? = some (some a)
def RngOk (H : Hp) (a g : Addr) : Prop := ∃ (s c : Int) (gs : List Int), H a = some (.lst [.int s, .int c, .ref g]) ∧ H g = some (.lst (gs.map V.int)) ∧ (∀ x ∈ gs, 0 ≤ x) ∧ gs.length ≤ 1000
/-- the world fits the heap -/
structure Pre (W : Wd) (H : Hp) (h : Hl) : Prop where
  len : W.al.length = h.length
  cel : ∀ (k : Nat) c oa, h[k]? = some c → W.al[k]? = some oa → RC K W.own W.rg H c oa
  rng : ∀ p ∈ W.rg, RngOk H p.1 p.2
  nd1 : ∀ (i j : Nat) a, W.al[i]? = some (some a) → W.al[j]? = some (some a) → i = j
  nd2 : ∀ (i : Nat) a, W.al[i]? = some (some a) → ∀ p ∈ W.rg, a ≠ p.1 ∧ a ≠ p.2
  nd3 : ∀ p ∈ W.rg, ∀ q ∈ W.rg, p.1 ≠ q.2 ∧ (p.1 = q.1 → p = q) ∧ (p.2 = q.2 → p = q)
  fo : ∀ a, W.fo a → ∃ xs, H a = some (.lst xs)
  nd4 : ∀ (i : Nat) a, W.al[i]? = some (some a) → ¬ W.fo a
  nd5 : ∀ p ∈ W.rg, ¬ W.fo p.1 ∧ ¬ W.fo p.2
structure Sg (W : Wd) (H : Hp) (σ : Sl) (τ : L2.St) : Prop where
  len : σ.length = τ.length
  val : ∀ (i : Nat) p, σ[i]? = some (some p) → ∃ v, τ[i]? = some (some v) ∧ RP K W H p v
end
structure ExS (W W' : Wd) (H H' : Hp) : Prop where
  keep : ∀ a o, H a = some o → ¬ W.own a → H' a = some o
  keepF : ∀ a o, H a = some o → W.fo a → H' a = some o
  new : ∀ a, W'.own a → W.own a ∨ H a = none
  rg : ∀ p ∈ W.rg, p ∈ W'.rg
  fo : W'.fo = W.fo
/-- data stay data -/
structure Tr (own : Addr → Prop) (rg : List (Addr × Addr)) (H : Hp) (own' : Addr → Prop) (rg' : List (Addr × Addr)) (H' : Hp) : Prop where
  keep : ∀ a o, H a = some o → ¬ own a → H' a = some o ∧ ¬ own' a
  rg : ∀ p ∈ rg, p ∈ rg'
structure Ext (W W' : Wd) (H H' : Hp) : Prop extends ExS W W' H H' where
  al : ∀ (k : Nat) a, W.al[k]? = some (some a) → W'.al[k]? = some (some a)
section
variable {K : PySem.W.Frag} {W W' W2 : Wd} {H H' H2 : Hp} {h : Hl}
theorem ExS.refl : ExS W W H H := ⟨fun _ _ e _ => e, fun _ _ e _ => e, fun _ q => .inl q, fun _ q => q, rfl⟩
theorem Ext.refl : Ext W W H H := ⟨ExS.refl, fun _ _ e => e⟩
theorem ExS.out (x : ExS W W' H H') {a : Addr} {o : HO} (e : H a = some o) (n : ¬ W.own a) : ¬ W'.own a := fun q => by
  rcases x.new a q with q | q
  · exact n q
  · rw [e] at q; cases q
theorem ExS.trans (x : ExS W W' H H') (y : ExS W' W2 H' H2) : ExS W W2 H H2 where
  keep a o e n := y.keep a o (x.keep a o e n) (x.out e n)
  keepF a o e n := y.keepF a o (x.keepF a o e n) (by rw [x.fo]; exact n)
  fo := y.fo.trans x.fo
  new a q := by
    rcases y.new a q with q | q
    · exact x.new a q
    · by_cases n : W.own a
      · exact .inl n
      · cases e : H a with
        | none => exact .inr rfl
        | some o => rw [x.keep a o e n] at q; cases q
  rg p q := y.rg p (x.rg p q)
theorem Ext.trans (x : Ext W W' H H') (y : Ext W' W2 H' H2) : Ext W W2 H H2 := ⟨x.toExS.trans y.toExS, fun k a e => y.al k a (x.al k a e)⟩
theorem ExS.tr (x : ExS W W' H H') : Tr W.own W.rg H W'.own W'.rg H' := ⟨fun a o e n => ⟨x.keep a o e n, x.out e n⟩, x.rg⟩
section
variable {own own' : Addr → Prop} {rg rg' : List (Addr × Addr)}
theorem Rd.keep {a : Addr} {o : HO} (x : Tr own rg H own' rg' H') (r : Rd H a o) (n : ¬ own a) : Rd H' a o ∧ ¬ own' a := by
  rcases r with r | ⟨ob, r⟩
  · exact ⟨.inl (x.keep _ _ r n).1, (x.keep _ _ r n).2⟩
  · exact ⟨.inr ⟨ob, (x.keep _ _ r n).1⟩, (x.keep _ _ r n).2⟩
mutual
theorem RD.tr (x : Tr own rg H own' rg' H') : ∀ (d : D) (v : V), RD K own rg H d v → RD K own' rg' H' d v
  | .non, _, r => by simpa only [RD] using r
  | .bl _, _, r => by simpa only [RD] using r
  | .int _, _, r => by simpa only [RD] using r
  | .str _, _, r => by simpa only [RD] using r
  | .tup xs, _, r => by
    simp only [RD] at r ⊢
    obtain ⟨a, ys, e, q, r⟩ := r
    refine ⟨a, ys, e, ?_, RDs.tr x xs ys r⟩
    rcases q with ⟨q, n⟩ | q
    · exact .inl (Rd.keep x q n)
    · exact .inr q
  | .lst xs, _, r => by
    simp only [RD] at r ⊢
    obtain ⟨a, ys, e, q, r⟩ := r
    exact ⟨a, ys, e, x.keep _ _ q.1 q.2, RDs.tr x xs ys r⟩
  | .klst xs, _, r => by
    simp only [RD] at r ⊢
    obtain ⟨a, ys, e, q, r⟩ := r
    refine ⟨a, ys, e, ?_, RDs.tr x xs ys r⟩
    rcases q with ⟨q, n⟩ | q
    · exact .inl (Rd.keep x q n)
    · exact .inr q
  | .rng, _, r => by
    simp only [RD] at r ⊢
    obtain ⟨a, g, e, q⟩ := r
    exact ⟨a, g, e, x.rg _ q⟩
theorem RDs.tr (x : Tr own rg H own' rg' H') : ∀ (ds : List D) (vs : List V), RDs K own rg H ds vs → RDs K own' rg' H' ds vs
  | [], _, r => by simpa only [RDs] using r
  | d :: ds, _, r => by
    simp only [RDs] at r ⊢
    obtain ⟨y, q, e, r, s⟩ := r
    exact ⟨y, q, e, RD.tr x d y r, RDs.tr x ds q s⟩
end
end
theorem RD.ext (x : ExS W W' H H') (d : D) (v : V) (r : RD K W.own W.rg H d v) : RD K W'.own W'.rg H' d v := RD.tr x.tr d v r
theorem RDs.ext (x : ExS W W' H H') (ds : List D) (vs : List V) (r : RDs K W.own W.rg H ds vs) : RDs K W'.own W'.rg H' ds vs := RDs.tr x.tr ds vs r
theorem RP.ext (x : Ext W W' H H') : ∀ (p : P) (v : V), RP K W H p v → RP K W' H' p v
  | .d d, v, r => RD.ext x.toExS d v r
  | .ref k, _, ⟨a, e, q⟩ => ⟨a, e, x.al k a q⟩
theorem Sg.ext {σ : Sl} {τ : L2.St} (x : Ext W W' H H') (g : Sg K W H σ τ) : Sg K W' H' σ τ :=
  ⟨g.len, fun i p e => by
    obtain ⟨v, e2, r⟩ := g.val i p e
    exact ⟨v, e2, RP.ext x p v r⟩⟩
theorem RDs.len : ∀ {xs : List D} {ys : List V} {own : Addr → Prop} {rg : List (Addr × Addr)}, RDs K own rg H xs ys → xs.length = ys.length
  | [], _, _, _, r => by simp only [RDs] at r; subst r; rfl
  | x :: xs, _, _, _, r => by
    simp only [RDs] at r
    obtain ⟨y, q, rfl, _, s⟩ := r
    rw [List.length_cons, List.length_cons, RDs.len s]
theorem RDs.get : ∀ {xs : List D} {ys : List V} {own : Addr → Prop} {rg : List (Addr × Addr)} {i : Nat} {x : D}, RDs K own rg H xs ys → xs[i]? = some x → ∃ y, ys[i]? = some y ∧ RD K own rg H x y
  | [], _, _, _, _, _, _, e => by simp at e
  | z :: xs, _, _, _, 0, x, r, e => by
    simp only [RDs] at r
    obtain ⟨y, q, rfl, r, s⟩ := r
    simp at e; subst e
    exact ⟨y, by simp, r⟩
  | z :: xs, _, _, _, i + 1, x, r, e => by
    simp only [RDs] at r
    obtain ⟨y, q, rfl, r, s⟩ := r
    obtain ⟨v, e1, e2⟩ := RDs.get (i := i) s (by simpa using e)
    exact ⟨v, by simpa using e1, e2⟩
theorem RDs.get' : ∀ {xs : List D} {ys : List V} {own : Addr → Prop} {rg : List (Addr × Addr)} {i : Nat} {y : V}, RDs K own rg H xs ys → ys[i]? = some y → ∃ x, xs[i]? = some x ∧ RD K own rg H x y := by
  intro xs ys own rg i y r e
  have hl := r.len
  cases q : xs[i]? with
  | none =>
    have h1 : xs.length ≤ i := List.getElem?_eq_none_iff.mp q
    have h2 : i < ys.length := by
      rcases List.getElem?_eq_some_iff.mp e with ⟨h, _⟩
      exact h
    omega
  | some x =>
    obtain ⟨v, e1, e2⟩ := r.get q
    rw [e] at e1
    cases e1
    exact ⟨x, rfl, e2⟩
theorem RDs.app : ∀ {xs zs : List D} {ys ws : List V} {own : Addr → Prop} {rg : List (Addr × Addr)}, RDs K own rg H xs ys → RDs K own rg H zs ws → RDs K own rg H (xs ++ zs) (ys ++ ws)
  | [], _, _, _, _, _, r, s => by simp only [RDs] at r; subst r; exact s
  | x :: xs, _, _, _, _, _, r, s => by
    simp only [RDs] at r
    obtain ⟨y, q, rfl, r, t⟩ := r
    show RDs K _ _ H (x :: (xs ++ _)) _
    simp only [RDs]
    exact ⟨y, q ++ _, rfl, r, RDs.app t s⟩
theorem RDs.nil {own : Addr → Prop} {rg : List (Addr × Addr)} : RDs K own rg H [] [] := by simp only [RDs]
theorem RDs.one {own : Addr → Prop} {rg : List (Addr × Addr)} {x : D} {v : V} (r : RD K own rg H x v) : RDs K own rg H [x] [v] := by
  simp only [RDs]
  exact ⟨v, [], rfl, r, rfl⟩
theorem RDs.cons {own : Addr → Prop} {rg : List (Addr × Addr)} {x : D} {v : V} {xs : List D} {vs : List V} (r : RD K own rg H x v) (s : RDs K own rg H xs vs) : RDs K own rg H (x :: xs) (v :: vs) := by
  simp only [RDs]
  exact ⟨v, vs, rfl, r, s⟩
theorem RDs.take {own : Addr → Prop} {rg : List (Addr × Addr)} : ∀ {xs : List D} {ys : List V} (n : Nat), RDs K own rg H xs ys → RDs K own rg H (xs.take n) (ys.take n)
  | _, _, 0, _ => by simp only [List.take_zero]; exact RDs.nil
  | [], _, n + 1, r => by simp only [RDs] at r; subst r; simp only [List.take_nil]; exact RDs.nil
  | x :: xs, _, n + 1, r => by
    simp only [RDs] at r
    obtain ⟨y, q, rfl, r, s⟩ := r
    simp only [List.take_succ_cons]
    exact RDs.cons r (RDs.take n s)
theorem RDs.drop {own : Addr → Prop} {rg : List (Addr × Addr)} : ∀ {xs : List D} {ys : List V} (n : Nat), RDs K own rg H xs ys → RDs K own rg H (xs.drop n) (ys.drop n)
  | _, _, 0, r => r
  | [], _, n + 1, r => by simp only [RDs] at r; subst r; simp only [List.drop_nil]; exact RDs.nil
  | x :: xs, _, n + 1, r => by
    simp only [RDs] at r
    obtain ⟨y, q, rfl, r, s⟩ := r
    simp only [List.drop_succ_cons]
    exact RDs.drop n s
theorem RDs.set {own : Addr → Prop} {rg : List (Addr × Addr)} {z : D} {v : V} (rz : RD K own rg H z v) : ∀ {xs : List D} {ys : List V} (n : Nat), RDs K own rg H xs ys → RDs K own rg H (xs.set n z) (ys.set n v)
  | [], _, n, r => by simp only [RDs] at r; subst r; simp only [List.set_nil]; exact RDs.nil
  | x :: xs, _, 0, r => by
    simp only [RDs] at r
    obtain ⟨y, q, rfl, r, s⟩ := r
    simp only [List.set_cons_zero]
    exact RDs.cons rz s
  | x :: xs, _, n + 1, r => by
    simp only [RDs] at r
    obtain ⟨y, q, rfl, r, s⟩ := r
    simp only [List.set_cons_succ]
    exact RDs.cons r (RDs.set rz n s)
theorem RDs.rev {own : Addr → Prop} {rg : List (Addr × Addr)} : ∀ {xs : List D} {ys : List V}, RDs K own rg H xs ys → RDs K own rg H xs.reverse ys.reverse
  | [], _, r => by simp only [RDs] at r; subst r; exact RDs.nil
  | x :: xs, _, r => by
    simp only [RDs] at r
    obtain ⟨y, q, rfl, r, s⟩ := r
    simp only [List.reverse_cons]
    exact RDs.app (RDs.rev s) (RDs.one r)
theorem QT.sq {own : Addr → Prop} {a : Addr} {ys : List V} (q : QT K own H a ys) : SqT K H a ys := q.elim (fun z => .inl z.1) .inr
theorem QK.sq {own : Addr → Prop} {a : Addr} {ys : List V} (q : QK K own H a ys) : SqL K H a ys := q.elim (fun z => .inl z.1) .inr
theorem QL.sq {own : Addr → Prop} {a : Addr} {ys : List V} (q : QL own H a ys) : SqL K H a ys := SqL.of q.1
theorem Pre.there (p : Pre K W H h) {a : Addr} (o : W.own a) : ∃ xs, H a = some (.lst xs) := by
  rcases o with ⟨k, e⟩ | ⟨q, m, e⟩ | e
  · have hk : k < h.length := by
      rw [← p.len]
      exact (List.getElem?_eq_some_iff.mp e).1
    have r := p.cel k _ _ (List.getElem?_eq_getElem hk) e
    cases hc : h[k] with
    | lst xs => rw [hc] at r; obtain ⟨ys, q, _⟩ := r; exact ⟨_, q⟩
    | gone => rw [hc] at r; exact r.elim
  · obtain ⟨s, c, gs, h1, h2, _⟩ := p.rng q m
    rcases e with rfl | rfl
    · exact ⟨_, h1⟩
    · exact ⟨_, h2⟩
  · exact p.fo a e
theorem Pre.free (p : Pre K W H h) {a : Addr} (e : H a = none) : ¬ W.own a := fun o => by
  obtain ⟨xs, q⟩ := p.there o
  rw [e] at q
  cases q
theorem RC.ext (x : ExS W W' H H') {c : Cell} {oa : Option Addr} (e : ∀ a ys, oa = some a → H a = some (.lst ys) → H' a = some (.lst ys)) (r : RC K W.own W.rg H c oa) : RC K W'.own W'.rg H' c oa := by
  cases c with
  | gone => cases oa with
    | none => trivial
    | some a => exact r
  | lst xs =>
    cases oa with
    | none => exact r
    | some a =>
      obtain ⟨ys, q, s⟩ := r
      exact ⟨ys, e a ys rfl q, RDs.ext x xs ys s⟩
/-- a new object that is no cell -/
theorem Ext.laid (p : Pre K W H h) {a : Addr} {o : HO} (e : H a = none) : Ext W W H (upd H a o) := by
  refine ⟨⟨fun b u q n => ?_, fun b u q n => ?_, fun b q => .inl q, fun _ q => q, rfl⟩, fun _ _ q => q⟩
  all_goals
    rw [upd_ne (ne_of_none q e)]
    exact q
theorem Pre.laid (p : Pre K W H h) {a : Addr} {o : HO} (e : H a = none) : Pre K W (upd H a o) h := by
  have x := Ext.laid (o := o) p e
  refine ⟨p.len, fun k c oa h1 h2 => RC.ext x.toExS (fun b ys _ q => ?_) (p.cel k c oa h1 h2), fun q m => ?_, p.nd1, p.nd2, p.nd3, fun b fb => ?_, p.nd4, p.nd5⟩
  · rw [upd_ne (ne_of_none q e)]; exact q
  rotate_left
  · obtain ⟨xs, q⟩ := p.fo b fb
    exact ⟨xs, by rw [upd_ne (ne_of_none q e)]; exact q⟩
  · obtain ⟨s, c, gs, h1, h2, h3⟩ := p.rng q m
    refine ⟨s, c, gs, ?_, ?_, h3⟩
    · rw [upd_ne (ne_of_none h1 e)]; exact h1
    · rw [upd_ne (ne_of_none h2 e)]; exact h2
/-- a new cell -/
def Wd.add (W : Wd) (a : Addr) : Wd := ⟨W.al ++ [some a], W.rg, W.fo⟩
theorem Wd.add_own {a b : Addr} : (W.add a).own b ↔ W.own b ∨ b = a := by
  constructor
  · rintro (⟨k, e⟩ | q)
    · have e' : (W.al ++ [some a])[k]? = some (some b) := e
      rw [List.getElem?_append] at e'
      by_cases hk : k < W.al.length
      · rw [if_pos hk] at e'
        exact .inl (.inl ⟨k, e'⟩)
      · rw [if_neg hk] at e'
        cases hz : k - W.al.length with
        | zero => rw [hz] at e'; simp at e'; exact .inr e'.symm
        | succ n => rw [hz] at e'; simp at e'
    · exact .inl (.inr q)
  · rintro ((⟨k, e⟩ | q) | rfl)
    · refine .inl ⟨k, ?_⟩
      show (W.al ++ [some a])[k]? = _
      rw [List.getElem?_append_left (List.getElem?_eq_some_iff.mp e).1]
      exact e
    · exact .inr q
    · refine .inl ⟨W.al.length, ?_⟩
      show (W.al ++ [some _])[_]? = _
      simp
theorem Ext.cell (p : Pre K W H h) {a : Addr} {o : HO} (e : H a = none) : Ext W (W.add a) H (upd H a o) := by
  refine ⟨⟨fun b u q n => ?_, fun b u q n => ?_, fun b q => ?_, fun _ q => q, rfl⟩, fun k b q => ?_⟩
  · rw [upd_ne (ne_of_none q e)]; exact q
  · rw [upd_ne (ne_of_none q e)]; exact q
  · rcases Wd.add_own.mp q with q | rfl
    · exact .inl q
    · exact .inr e
  · show (W.al ++ [some a])[k]? = _
    rw [List.getElem?_append_left (List.getElem?_eq_some_iff.mp q).1]
    exact q
theorem get_snoc {α : Type} {l : List α} {x y : α} {k : Nat} (e : (l ++ [x])[k]? = some y) : (k < l.length ∧ l[k]? = some y) ∨ (k = l.length ∧ y = x) := by
  rw [List.getElem?_append] at e
  by_cases hk : k < l.length
  · rw [if_pos hk] at e; exact .inl ⟨hk, e⟩
  · rw [if_neg hk] at e
    cases hz : k - l.length with
    | zero => rw [hz] at e; simp at e; exact .inr ⟨by omega, e.symm⟩
    | succ n => rw [hz] at e; simp at e
theorem Pre.cell (p : Pre K W H h) {a : Addr} {xs : List D} {ys : List V} (e : H a = none) (r : RDs K W.own W.rg H xs ys) : Pre K (W.add a) (upd H a (.lst ys)) (h ++ [.lst xs]) := by
  have x := Ext.cell (o := .lst ys) p e
  have na : ∀ k : Nat, W.al[k]? ≠ some (some a) := fun k q => p.free e (.inl ⟨k, q⟩)
  refine ⟨?_, fun k c oa h1 h2 => ?_, fun q m => ?_, fun i j b h1 h2 => ?_, fun i b h1 q m => ?_, p.nd3, fun b fb => ?_, fun i b h1 => ?_, p.nd5⟩
  rotate_right
  · rcases get_snoc h1 with ⟨k1, h1⟩ | ⟨k1, q1⟩
    · exact p.nd4 i b h1
    · cases q1
      exact fun z => p.free e (.inr (.inr z))
  rotate_right
  · obtain ⟨xs, q⟩ := p.fo b fb
    exact ⟨xs, by rw [upd_ne (ne_of_none q e)]; exact q⟩
  · show (W.al ++ [some a]).length = _
    rw [List.length_append, List.length_append, p.len]
    rfl
  · rcases get_snoc h1 with ⟨k1, h1⟩ | ⟨k1, rfl⟩
    · rcases get_snoc h2 with ⟨k2, h2⟩ | ⟨k2, rfl⟩
      · refine RC.ext x.toExS (fun b ys _ q => ?_) (p.cel k c oa h1 h2)
        rw [upd_ne (ne_of_none q e)]; exact q
      · rw [p.len] at k2; omega
    · rcases get_snoc h2 with ⟨k2, h2⟩ | ⟨k2, rfl⟩
      · rw [p.len] at k2; omega
      · exact ⟨ys, upd_same, RDs.ext x.toExS xs ys r⟩
  · obtain ⟨s, c, gs, h1, h2, h3⟩ := p.rng q m
    refine ⟨s, c, gs, ?_, ?_, h3⟩
    · rw [upd_ne (ne_of_none h1 e)]; exact h1
    · rw [upd_ne (ne_of_none h2 e)]; exact h2
  · rcases get_snoc h1 with ⟨k1, h1⟩ | ⟨k1, q1⟩ <;> rcases get_snoc h2 with ⟨k2, h2⟩ | ⟨k2, q2⟩
    · exact p.nd1 i j b h1 h2
    · cases q2; exact (na i h1).elim
    · cases q1; exact (na j h2).elim
    · omega
  · rcases get_snoc h1 with ⟨k1, h1⟩ | ⟨k1, q1⟩
    · exact p.nd2 i b h1 q m
    · cases q1
      exact ⟨fun z => p.free e (.inr (.inl ⟨q, m, .inl z⟩)), fun z => p.free e (.inr (.inl ⟨q, m, .inr z⟩))⟩
/-- a cell is written -/
theorem Ext.set (p : Pre K W H h) {k : Nat} {a : Addr} {o : HO} (e : W.al[k]? = some (some a)) : Ext W W H (upd H a o) := by
  refine ⟨⟨fun b u q n => ?_, fun b u q n => ?_, fun b q => .inl q, fun _ q => q, rfl⟩, fun _ _ q => q⟩
  · have hb : b ≠ a := by
      intro z
      subst z
      exact n (.inl ⟨k, e⟩)
    rw [upd_ne hb]
    exact q
  · have hb : b ≠ a := by
      intro z
      subst z
      exact p.nd4 k b e n
    rw [upd_ne hb]
    exact q
theorem Pre.set (p : Pre K W H h) {k : Nat} {a : Addr} {xs : List D} {ys : List V} (e : W.al[k]? = some (some a)) (r : RDs K W.own W.rg H xs ys) : Pre K W (upd H a (.lst ys)) (h.set k (.lst xs)) := by
  have x := Ext.set (o := .lst ys) p e
  refine ⟨by rw [List.length_set, p.len], fun j c oa h1 h2 => ?_, fun q m => ?_, p.nd1, p.nd2, p.nd3, fun b fb => ?_, p.nd4, p.nd5⟩
  rotate_right
  · obtain ⟨xs, q⟩ := p.fo b fb
    exact ⟨xs, x.keepF _ _ q fb⟩
  · rw [List.getElem?_set] at h1
    by_cases hj : k = j
    · subst hj
      rw [if_pos rfl] at h1
      by_cases hl : k < h.length
      · rw [if_pos hl] at h1
        cases h1
        rw [e] at h2
        cases h2
        exact ⟨ys, upd_same, RDs.ext x.toExS xs ys r⟩
      · rw [if_neg hl] at h1; cases h1
    · rw [if_neg hj] at h1
      refine RC.ext x.toExS (fun b ys' hb q => ?_) (p.cel j c oa h1 h2)
      subst hb
      rw [upd_ne (fun z => hj (p.nd1 k j a e (by rw [h2, z])))]
      exact q
  · obtain ⟨s, c, gs, h1, h2, h3⟩ := p.rng q m
    have n := p.nd2 k a e q m
    refine ⟨s, c, gs, ?_, ?_, h3⟩
    · rw [upd_ne (Ne.symm n.1)]; exact h1
    · rw [upd_ne (Ne.symm n.2)]; exact h2
end
end Sc

set_option Elab.async false
set_option linter.all false
set_option maxRecDepth 100000
/-! Sc2: judgements over plain data; expressions. -/
namespace Sc
open PySem PySem.Spec PyProof.Rows L2

abbrev GT := Sl → Hl → (P → Hl → Prop) → Prop
abbrev GB := Sl → Hl → (Bool → Hl → Prop) → Prop
abbrev GA := Sl → Hl → (List P → Hl → Prop) → Prop
abbrev G2 := P → P → Hl → (P → Hl → Prop) → Prop
abbrev GC := List P → Hl → (P → Hl → Prop) → Prop
structure GD where
  nx : Sl → Hl → Prop
  rt : P → Hl → Prop
  bk : Sl → Hl → Prop
  ct : Sl → Hl → Prop
abbrev GS := GD → Sl → Hl → Prop

/-- two ways -/
structure Br (b : Bool) (A B : Prop) : Prop where
  t : b = true → A
  f : b = false → B
theorem Br.ite {b : Bool} {A B : Prop} (h : Br b A B) : if b = true then A else B := by
  cases b with
  | true => exact h.t rfl
  | false => exact h.f rfl

section
variable (K : PySem.W.Frag)
def Fin (W : Wd) (H : Hp) (post : P → Hl → Prop) (Q : VK) : Prop := ∀ p h' W' H' v, post p h' → Pre K W' H' h' → Ext W W' H H' → RP K W' H' p v → Q v H'
def up (t : GT) : TE := fun τ H Q => ∃ W h σ post, Pre K W H h ∧ Sg K W H σ τ ∧ t σ h post ∧ Fin K W H post Q
def upB (t : GB) : TT := fun τ H Q => ∃ W h σ post, Pre K W H h ∧ Sg K W H σ τ ∧ t σ h post ∧ ∀ b h' W' H', post b h' → Pre K W' H' h' → Ext W W' H H' → Q b H'
def RPs (W : Wd) (H : Hp) : List P → List V → Prop
  | [], vs => vs = []
  | p :: ps, vs => ∃ v r, vs = v :: r ∧ RP K W H p v ∧ RPs W H ps r
def upA (t : GA) : TA := fun τ H Q => ∃ W h σ post, Pre K W H h ∧ Sg K W H σ τ ∧ t σ h post ∧ ∀ ps h' W' H' vs, post ps h' → Pre K W' H' h' → Ext W W' H H' → RPs K W' H' ps vs → Q vs H'
def up2 (o : G2) : R2 := fun v w H Q => ∃ W h x y post, Pre K W H h ∧ RP K W H x v ∧ RP K W H y w ∧ o x y h post ∧ Fin K W H post Q
def upC (r : GC) : List V → Hp → VK → Prop := fun vs H Q => ∃ W h ps post, Pre K W H h ∧ RPs K W H ps vs ∧ r ps h post ∧ Fin K W H post Q
end
def E (X : Cx) (e : Expr) (t : GT) : Prop := PE X e (up X.K t)
def EB (X : Cx) (e : Expr) (t : GB) : Prop := PT X e (upB X.K t)
def EW (X : Cx) (e : Expr) (t : GB) : Prop := PW X e (upB X.K t)
def EA (X : Cx) (es : List Expr) (t : GA) : Prop := PA X es (upA X.K t)
theorem PE.weak {X : Cx} {e : Expr} {t t' : TE} (h : PE X e t) (w : ∀ τ H Q, t' τ H Q → t τ H Q) : PE X e t' := ⟨fun pins s σ H Q I q => h.run pins s σ H Q I (w _ _ _ q)⟩
theorem PT.weak {X : Cx} {e : Expr} {t t' : TT} (h : PT X e t) (w : ∀ τ H Q, t' τ H Q → t τ H Q) : PT X e t' := ⟨fun pins s σ H Q I q => h.run pins s σ H Q I (w _ _ _ q)⟩
theorem PW.weak {X : Cx} {e : Expr} {t t' : TT} (h : PW X e t) (w : ∀ τ H Q, t' τ H Q → t τ H Q) : PW X e t' := ⟨fun wh pins s σ H Q I q => h.run wh pins s σ H Q I (w _ _ _ q)⟩
theorem PA.weak {X : Cx} {e : List Expr} {t t' : TA} (h : PA X e t) (w : ∀ τ H Q, t' τ H Q → t τ H Q) : PA X e t' := ⟨fun pos pins s σ H Q I q => h.run pos pins s σ H Q I (w _ _ _ q)⟩

/-! ### names, constants -/
def slotAt : Sl → Nat → Option P
  | [], _ => none
  | c :: _, 0 => c
  | _ :: r, n + 1 => slotAt r n
theorem slotAt_eq : ∀ (σ : Sl) (i : Nat) (p : P), slotAt σ i = some p → σ[i]? = some (some p)
  | [], _, _, e => by cases e
  | c :: _, 0, p, e => by simp only [slotAt] at e; subst e; rfl
  | _ :: r, n + 1, p, e => by simp only [slotAt] at e; simpa using slotAt_eq r n p e
def cellAt : Hl → Nat → Option Cell
  | [], _ => none
  | c :: _, 0 => some c
  | _ :: r, n + 1 => cellAt r n
theorem cellAt_eq : ∀ (h : Hl) (k : Nat), cellAt h k = h[k]?
  | [], _ => by simp [cellAt]
  | c :: _, 0 => by simp [cellAt]
  | _ :: r, n + 1 => by simp [cellAt, cellAt_eq r n]
def setCell : Hl → Nat → Cell → (Hl → Prop) → Prop
  | [], _, _, k => k []
  | _ :: r, 0, c, k => k (c :: r)
  | a :: r, n + 1, c, k => setCell r n c fun q => k (a :: q)
theorem setCell_eq : ∀ (h : Hl) (n : Nat) (c : Cell) (k : Hl → Prop), setCell h n c k = k (h.set n c)
  | [], _, _, k => by simp [setCell]
  | _ :: r, 0, c, k => by simp [setCell]
  | a :: r, n + 1, c, k => by simp [setCell, setCell_eq r n c]
def addCell : Hl → Cell → (Nat → Hl → Prop) → Prop
  | [], c, k => k 0 [c]
  | a :: r, c, k => addCell r c fun n q => k (n + 1) (a :: q)
theorem addCell_eq : ∀ (h : Hl) (c : Cell) (k : Nat → Hl → Prop), addCell h c k = k h.length (h ++ [c])
  | [], c, k => by simp [addCell]
  | a :: r, c, k => by simp [addCell, addCell_eq r c]
def setSlot : Sl → Nat → P → (Sl → Prop) → Prop
  | [], _, _, k => k []
  | _ :: r, 0, c, k => k (some c :: r)
  | a :: r, n + 1, c, k => setSlot r n c fun q => k (a :: q)
theorem setSlot_eq : ∀ (h : Sl) (n : Nat) (c : P) (k : Sl → Prop), setSlot h n c k = k (h.set n (some c))
  | [], _, _, k => by simp [setSlot]
  | _ :: r, 0, c, k => by simp [setSlot]
  | a :: r, n + 1, c, k => by simp [setSlot, setSlot_eq r n c]
/-- the list that a value is (tracked) -/
def vL (h : Hl) : P → Option (List D)
  | .d (.lst xs) => some xs
  | .ref k => match cellAt h k with
    | some (.lst xs) => some xs
    | _ => none
  | _ => none
/-- the list or the tuple that a value is -/
def vS (h : Hl) : P → Option (List D)
  | .d (.lst xs) => some xs
  | .d (.tup xs) => some xs
  | .d (.klst xs) => some xs
  | .ref k => match cellAt h k with
    | some (.lst xs) => some xs
    | _ => none
  | _ => none
/-- a value as data (a cell is read) -/
def vD (h : Hl) : P → Option D
  | .d x => some x
  | .ref k => match cellAt h k with
    | some (.lst xs) => some (.lst xs)
    | _ => none
section
variable {K : PySem.W.Frag} {W : Wd} {H : Hp} {h : Hl}
theorem cell_ok (p : Pre K W H h) {k : Nat} {xs : List D} {v : V} (e : cellAt h k = some (.lst xs)) (r : RP K W H (.ref k) v) : ∃ a ys, v = .ref a ∧ W.al[k]? = some (some a) ∧ H a = some (.lst ys) ∧ RDs K W.own W.rg H xs ys := by
  obtain ⟨a, rfl, q⟩ := r
  rw [cellAt_eq] at e
  obtain ⟨ys, h1, h2⟩ := p.cel k _ _ e q
  exact ⟨a, ys, rfl, q, h1, h2⟩
theorem vL_ok (p : Pre K W H h) {x : P} {xs : List D} {v : V} (e : vL h x = some xs) (r : RP K W H x v) : ∃ a ys, v = .ref a ∧ H a = some (.lst ys) ∧ RDs K W.own W.rg H xs ys := by
  cases x with
  | d x =>
    cases x with
    | lst zs =>
      simp only [vL] at e
      cases e
      simp only [RP, RD] at r
      obtain ⟨a, ys, rfl, q, s⟩ := r
      exact ⟨a, ys, rfl, q.1, s⟩
    | _ => simp [vL] at e
  | ref k =>
    simp only [vL] at e
    split at e
    · rename_i q
      cases e
      obtain ⟨a, ys, h1, _, h2, h3⟩ := cell_ok p q r
      exact ⟨a, ys, h1, h2, h3⟩
    · cases e
theorem vS_ok (p : Pre K W H h) {x : P} {xs : List D} {v : V} (e : vS h x = some xs) (r : RP K W H x v) : ∃ a ys, v = .ref a ∧ (SqL K H a ys ∨ SqT K H a ys) ∧ RDs K W.own W.rg H xs ys := by
  cases x with
  | d x =>
    cases x with
    | lst zs =>
      simp only [vS] at e
      cases e
      simp only [RP, RD] at r
      obtain ⟨a, ys, rfl, q, s⟩ := r
      exact ⟨a, ys, rfl, .inl q.sq, s⟩
    | tup zs =>
      simp only [vS] at e
      cases e
      simp only [RP, RD] at r
      obtain ⟨a, ys, rfl, q, s⟩ := r
      exact ⟨a, ys, rfl, .inr q.sq, s⟩
    | klst zs =>
      simp only [vS] at e
      cases e
      simp only [RP, RD] at r
      obtain ⟨a, ys, rfl, q, s⟩ := r
      exact ⟨a, ys, rfl, .inl q.sq, s⟩
    | _ => simp [vS] at e
  | ref k =>
    simp only [vS] at e
    split at e
    · rename_i q
      cases e
      obtain ⟨a, ys, h1, _, h2, h3⟩ := cell_ok p q r
      exact ⟨a, ys, h1, .inl (SqL.of h2), h3⟩
    · cases e
end
def gVar (i : Nat) : GT := fun σ h Q => match slotAt σ i with
  | some p => Q p h
  | none => False
def gC (x : D) : GT := fun _ h Q => Q (.d x) h
section
variable {X : Cx} {e a b c : Expr} {es rest : List Expr} {pos : Pos} {t ta tb : GT} {u : GB}
theorem E.of {t : GT} {t' : TE} (h : PE X e t') (w : ∀ τ W H h σ post Q, Pre X.K W H h → Sg X.K W H σ τ → t σ h post → Fin X.K W H post Q → t' τ H Q) : E X e t :=
  PE.weak h fun τ H Q ⟨W, h, σ, post, p, g, q, f⟩ => w τ W H h σ post Q p g q f
theorem e_var (i : Nat) {x : Str} (hN : X.N[i]? = some x := by rfl) (hv : Vis X.env.scope x := by first | exact Or.inl rfl | exact Or.inr (Or.inl rfl) | exact Or.inr (Or.inr rfl)) (hd : (x == ("__debug__" : Str)) = false := by decide)
    (hcd : (x == ("__classdict__" : Str)) = false := by decide) : E X (.Name x pos) (gVar i) := by
  refine E.of (pe_var hN hv hd hcd) fun τ W H h σ post Q p g q f => ?_
  unfold gVar at q
  split at q
  · rename_i z ez
    obtain ⟨v, h1, h2⟩ := g.val i z (slotAt_eq _ _ _ ez)
    exact ⟨v, h1, f z h W H v q p Ext.refl h2⟩
  · exact q.elim
theorem e_int {i j} : E X (.Constant (.int i) j pos) (gC (.int i)) := E.of pe_int fun τ W H h σ post Q p g q f => f _ _ W H _ q p Ext.refl (by simp only [RP, RD])
theorem e_bl {i j} : E X (.Constant (.bool i) j pos) (gC (.bl i)) := E.of pe_bl fun τ W H h σ post Q p g q f => f _ _ W H _ q p Ext.refl (by simp only [RP, RD])
theorem e_non {j} : E X (.Constant .none j pos) (gC .non) := E.of pe_non fun τ W H h σ post Q p g q f => f _ _ W H _ q p Ext.refl (by simp only [RP, RD])
theorem e_str {x j} : E X (.Constant (.str x) j pos) (gC (.str x)) := E.of pe_str fun τ W H h σ post Q p g q f => f _ _ W H _ q p Ext.refl (by simp only [RP, RD])
/-- what a name of the module holds, as data -/
def KD (K : PySem.W.Frag) (x : D) (u : Value) : Prop := ∃ v, RelV v u ∧ ∀ W H, RD K W H (rg := []) x v
theorem e_glob {x : Str} {d : D} {v : V} {w : Value} (hg : Gl X x) (hm : X.mg x = some w) (r : RelV v w) (k : ∀ own rg H, RD X.K own rg H d v) (hd : (x == ("__debug__" : Str)) = false := by decide) : E X (.Name x pos) (gC d) :=
  E.of (pe_glob hg hm r hd) fun τ W H h σ post Q p g q f => f _ _ W H _ q p Ext.refl (k _ _ _)

/-! ### operators -/
def gOp (o : G2) (ta tb : GT) : GT := fun σ h Q => ta σ h fun x h1 => tb σ h1 fun y h2 => o x y h2 Q
theorem op_up {o : G2} {τ : L2.St} {H : Hp} {Q : VK} (q : up X.K (gOp o ta tb) τ H Q) : tOp (up2 X.K o) (up X.K ta) (up X.K tb) τ H Q := by
  obtain ⟨W, h, σ, post, p, g, q, f⟩ := q
  refine ⟨W, h, σ, _, p, g, q, fun x h1 W1 H1 v q1 p1 x1 r1 => ?_⟩
  refine ⟨W1, h1, σ, _, p1, g.ext x1, q1, fun y h2 W2 H2 w q2 p2 x2 r2 => ?_⟩
  exact ⟨W2, h2, x, y, post, p2, RP.ext x2 _ _ r1, r2, q2, fun z h3 W3 H3 u q3 p3 x3 r3 => f z h3 W3 H3 u q3 p3 ((x1.trans x2).trans x3) r3⟩
theorem e_op {o : G2} {op : Operator} (ho : OpR X (binaryOp op) (up2 X.K o)) (ha : E X a ta) (hb : E X b tb) : E X (.BinOp a op b pos) (gOp o ta tb) := PE.weak (pe_op ho ha hb) fun _ _ _ => op_up
theorem e_cmp {o : G2} {op : CmpOp} (ho : OpR X (compareOp op) (up2 X.K o)) (ha : E X a ta) (hb : E X b tb) (hm : behindInMarks op b = false := by rfl) : E X (.Compare a [op] [b] pos) (gOp o ta tb) := PE.weak (pe_cmpR ho ha hb hm) fun _ _ _ => op_up
def bOf : P → Hl → (Bool → Hl → Prop) → Prop
  | .d (.bl b), h, Q => Q b h
  | _, _, _ => False
def bVal (t : GT) : GB := fun σ h Q => t σ h fun x h1 => bOf x h1 Q
theorem bOf_ok {K : PySem.W.Frag} {x : P} {v : V} {h : Hl} {Q : Bool → Hl → Prop} {W : Wd} {H : Hp} (q : bOf x h Q) (r : RP K W H x v) : ∃ b, v = .bl b ∧ Q b h := by
  unfold bOf at q
  split at q
  · simp only [RP, RD] at r
    exact ⟨_, r, q⟩
  · exact q.elim
theorem val_up {τ : L2.St} {H : Hp} {Q : Bool → Hp → Prop} (q : upB X.K (bVal t) τ H Q) : tB (up X.K t) τ H Q := by
  obtain ⟨W, h, σ, post, p, g, q, f⟩ := q
  refine ⟨W, h, σ, _, p, g, q, fun x h1 W1 H1 v q1 p1 x1 r1 => ?_⟩
  obtain ⟨b, e, q2⟩ := bOf_ok q1 r1
  exact ⟨b, e, f b h1 W1 H1 q2 p1 x1⟩
theorem eb_cmp {o : G2} {op : CmpOp} (ho : OpR X (compareOp op) (up2 X.K o)) (ha : E X a ta) (hb : E X b tb) (hm : behindInMarks op b = false := by rfl) : EB X (.Compare a [op] [b] pos) (bVal (gOp o ta tb)) :=
  PT.weak (pt_cmpR ho ha hb hm) fun τ H Q q => by
    obtain ⟨W, h, σ, post, p, g, q, f⟩ := q
    refine op_up (X := X) (ta := ta) (tb := tb) ⟨W, h, σ, _, p, g, q, fun x h1 W1 H1 v q1 p1 x1 r1 => ?_⟩
    obtain ⟨b, e, q2⟩ := bOf_ok q1 r1
    exact ⟨b, e, f b h1 W1 H1 q2 p1 x1⟩
theorem eb_val (h : E X e t) (he : ∀ whole, isTrue e X.env whole = (do let v ← whole; standAt e.pos; holding [v] (truthy v)) := by intro _; rfl) : EB X e (bVal t) := PT.weak (pt_val h he) fun _ _ _ => val_up
/-- truth of any value -/
def truD (h : Hl) : P → Option Bool
  | .d .non => some false
  | .d (.bl b) => some b
  | .d (.int i) => some (i != 0)
  | .d (.lst xs) => some (!xs.isEmpty)
  | .d (.tup xs) => some (!xs.isEmpty)
  | .ref k => match cellAt h k with
    | some (.lst xs) => some (!xs.isEmpty)
    | _ => none
  | _ => none
def bTru (t : GT) : GB := fun σ h Q => t σ h fun x h1 => match truD h1 x with
  | some b => Q b h1
  | none => False
theorem RDs.empty {K : PySem.W.Frag} {own : Addr → Prop} {rg : List (Addr × Addr)} {H : Hp} {xs : List D} {ys : List V} (r : RDs K own rg H xs ys) : xs.isEmpty = ys.isEmpty := by
  have h := r.len
  cases xs <;> cases ys <;> simp_all
theorem truD_ok {K : PySem.W.Frag} {W : Wd} {H : Hp} {h : Hl} {x : P} {v : V} {b : Bool} (p : Pre K W H h) (r : RP K W H x v) (e : truD h x = some b) : TruV K v H b := by
  cases x with
  | d x =>
    cases x with
    | non => simp only [RP, RD] at r; subst r; simp [truD] at e; first | exact e | exact e.symm
    | bl c => simp only [RP, RD] at r; subst r; simp [truD] at e; exact e.symm
    | int c => simp only [RP, RD] at r; subst r; simp only [truD, Option.some.injEq] at e; exact e.symm
    | lst xs =>
      simp only [truD, Option.some.injEq] at e
      simp only [RP, RD] at r
      obtain ⟨a, ys, rfl, q, s⟩ := r
      exact .inl ⟨ys, q.sq, by rw [← e, s.empty]⟩
    | tup xs =>
      simp only [truD, Option.some.injEq] at e
      simp only [RP, RD] at r
      obtain ⟨a, ys, rfl, q, s⟩ := r
      exact .inr (.inl ⟨ys, q.sq, by rw [← e, s.empty]⟩)
    | _ => simp [truD] at e
  | ref k =>
    simp only [truD] at e
    split at e
    · rename_i q
      simp only [Option.some.injEq] at e
      obtain ⟨a, ys, rfl, _, h2, h3⟩ := cell_ok p q r
      exact .inl ⟨ys, SqL.of h2, by rw [← e, h3.empty]⟩
    · cases e
theorem eb_tru (h : E X e t) (he : ∀ whole, isTrue e X.env whole = (do let v ← whole; standAt e.pos; holding [v] (truthy v)) := by intro _; rfl) : EB X e (bTru t) :=
  PT.weak (pt_truth h he) fun τ H Q q => by
    obtain ⟨W, h, σ, post, p, g, q, f⟩ := q
    refine ⟨W, h, σ, _, p, g, q, fun x h1 W1 H1 v q1 p1 x1 r1 => ?_⟩
    split at q1
    · rename_i b eb
      exact ⟨b, truD_ok p1 r1 eb, f b h1 W1 H1 q1 p1 x1⟩
    · exact q1.elim
def bAnd (t u : GB) : GB := fun σ h Q => t σ h fun c h1 => Br c (u σ h1 Q) (Q false h1)
def bOr (t u : GB) : GB := fun σ h Q => t σ h fun c h1 => Br c (Q true h1) (u σ h1 Q)
def bNot (t : GB) : GB := fun σ h Q => t σ h fun c h1 => Q (!c) h1
theorem EW.pt {e : Expr} (h : EW X e u) : EB X e u := PW.pt h
theorem ew_and1 (ha : EB X a u) : EW X (.BoolOp .And [a] pos) u := pw_and1 ha
theorem ew_or1 (ha : EB X a u) : EW X (.BoolOp .Or [a] pos) u := pw_or1 ha
theorem ew_and {u2 : GB} (ha : EB X a u) (hb : EW X (.BoolOp .And (b :: rest) pos) u2) : EW X (.BoolOp .And (a :: b :: rest) pos) (bAnd u u2) :=
  PW.weak (pw_and ha hb) fun τ H Q q => by
    obtain ⟨W, h, σ, post, p, g, q, f⟩ := q
    refine ⟨W, h, σ, _, p, g, q, fun c h1 W1 H1 q1 p1 x1 => ?_⟩
    cases c with
    | true => exact (if_pos rfl).mpr ⟨W1, h1, σ, post, p1, g.ext x1, q1.t rfl, fun b h2 W2 H2 q2 p2 x2 => f b h2 W2 H2 q2 p2 (x1.trans x2)⟩
    | false => exact (if_neg (by simp)).mpr (f false h1 W1 H1 (q1.f rfl) p1 x1)
theorem ew_or {u2 : GB} (ha : EB X a u) (hb : EW X (.BoolOp .Or (b :: rest) pos) u2) : EW X (.BoolOp .Or (a :: b :: rest) pos) (bOr u u2) :=
  PW.weak (pw_or ha hb) fun τ H Q q => by
    obtain ⟨W, h, σ, post, p, g, q, f⟩ := q
    refine ⟨W, h, σ, _, p, g, q, fun c h1 W1 H1 q1 p1 x1 => ?_⟩
    cases c with
    | true => exact (if_pos rfl).mpr (f true h1 W1 H1 (q1.t rfl) p1 x1)
    | false => exact (if_neg (by simp)).mpr ⟨W1, h1, σ, post, p1, g.ext x1, q1.f rfl, fun b h2 W2 H2 q2 p2 x2 => f b h2 W2 H2 q2 p2 (x1.trans x2)⟩
theorem eb_not (ha : EB X a u) : EB X (.UnaryOp .Not a pos) (bNot u) :=
  PT.weak (pt_not ha) fun τ H Q q => by
    obtain ⟨W, h, σ, post, p, g, q, f⟩ := q
    exact ⟨W, h, σ, _, p, g, q, fun c h1 W1 H1 q1 p1 x1 => f _ h1 W1 H1 q1 p1 x1⟩
def gAnd (t u : GT) : GT := fun σ h Q => t σ h fun x h1 => bOf x h1 fun c h1 => Br c (u σ h1 Q) (Q (.d (.bl false)) h1)
def gOr (t u : GT) : GT := fun σ h Q => t σ h fun x h1 => bOf x h1 fun c h1 => Br c (Q (.d (.bl true)) h1) (u σ h1 Q)
def gNot (t : GT) : GT := fun σ h Q => t σ h fun x h1 => bOf x h1 fun c h1 => Q (.d (.bl (!c))) h1
theorem e_one {op} (h : E X a t) : E X (.BoolOp op [a] pos) t := pe_one h
theorem e_and (ha : E X a ta) (hb : E X (.BoolOp .And (b :: rest) pos) tb) : E X (.BoolOp .And (a :: b :: rest) pos) (gAnd ta tb) :=
  PE.weak (pe_and ha hb) fun τ H Q q => by
    obtain ⟨W, h, σ, post, p, g, q, f⟩ := q
    refine ⟨W, h, σ, _, p, g, q, fun x h1 W1 H1 v q1 p1 x1 r1 => ?_⟩
    obtain ⟨c, e, q2⟩ := bOf_ok q1 r1
    refine ⟨c, e, ?_⟩
    cases c with
    | true => exact (if_pos rfl).mpr ⟨W1, h1, σ, post, p1, g.ext x1, q2.t rfl, fun b h2 W2 H2 v2 q2 p2 x2 r2 => f b h2 W2 H2 v2 q2 p2 (x1.trans x2) r2⟩
    | false => exact (if_neg (by simp)).mpr (f _ h1 W1 H1 _ (q2.f rfl) p1 x1 (by simp only [RP, RD]))
theorem e_or (ha : E X a ta) (hb : E X (.BoolOp .Or (b :: rest) pos) tb) : E X (.BoolOp .Or (a :: b :: rest) pos) (gOr ta tb) :=
  PE.weak (pe_or ha hb) fun τ H Q q => by
    obtain ⟨W, h, σ, post, p, g, q, f⟩ := q
    refine ⟨W, h, σ, _, p, g, q, fun x h1 W1 H1 v q1 p1 x1 r1 => ?_⟩
    obtain ⟨c, e, q2⟩ := bOf_ok q1 r1
    refine ⟨c, e, ?_⟩
    cases c with
    | true => exact (if_pos rfl).mpr (f _ h1 W1 H1 _ (q2.t rfl) p1 x1 (by simp only [RP, RD]))
    | false => exact (if_neg (by simp)).mpr ⟨W1, h1, σ, post, p1, g.ext x1, q2.f rfl, fun b h2 W2 H2 v2 q2 p2 x2 r2 => f b h2 W2 H2 v2 q2 p2 (x1.trans x2) r2⟩
theorem e_not (ha : E X a ta) : E X (.UnaryOp .Not a pos) (gNot ta) :=
  PE.weak (pe_not ha) fun τ H Q q => by
    obtain ⟨W, h, σ, post, p, g, q, f⟩ := q
    refine ⟨W, h, σ, _, p, g, q, fun x h1 W1 H1 v q1 p1 x1 r1 => ?_⟩
    obtain ⟨c, e, q2⟩ := bOf_ok q1 r1
    exact ⟨c, e, f _ h1 W1 H1 _ q2 p1 x1 (by simp only [RP, RD])⟩
def gIf (c : GB) (t u : GT) : GT := fun σ h Q => c σ h fun b h1 => Br b (t σ h1 Q) (u σ h1 Q)
theorem e_ifexp (hc : EB X c u) (ha : E X a ta) (hb : E X b tb) : E X (.IfExp c a b pos) (gIf u ta tb) :=
  PE.weak (pe_ifExp hc ha hb) fun τ H Q q => by
    obtain ⟨W, h, σ, post, p, g, q, f⟩ := q
    refine ⟨W, h, σ, _, p, g, q, fun c h1 W1 H1 q1 p1 x1 => ?_⟩
    cases c with
    | true => exact (if_pos rfl).mpr ⟨W1, h1, σ, post, p1, g.ext x1, q1.t rfl, fun b h2 W2 H2 v2 q2 p2 x2 r2 => f b h2 W2 H2 v2 q2 p2 (x1.trans x2) r2⟩
    | false => exact (if_neg (by simp)).mpr ⟨W1, h1, σ, post, p1, g.ext x1, q1.f rfl, fun b h2 W2 H2 v2 q2 p2 x2 r2 => f b h2 W2 H2 v2 q2 p2 (x1.trans x2) r2⟩
/-- a < b < c -/
def gChain (o o2 : G2) (ta tb tc : GT) : GT := fun σ h Q => ta σ h fun x h1 => tb σ h1 fun y h2 => o x y h2 fun z h3 => bOf z h3 fun k h3 => Br k (tc σ h3 fun w h4 => o2 y w h4 Q) (Q (.d (.bl false)) h3)
theorem chain_up {o o2 : G2} {tc : GT} {τ : L2.St} {H : Hp} {Q : VK} (q : up X.K (gChain o o2 ta tb tc) τ H Q) : tChain (up2 X.K o) (up2 X.K o2) (up X.K ta) (up X.K tb) (up X.K tc) τ H Q := by
  obtain ⟨W, h, σ, post, p, g, q, f⟩ := q
  refine ⟨W, h, σ, _, p, g, q, fun x h1 W1 H1 v q1 p1 x1 r1 => ?_⟩
  refine ⟨W1, h1, σ, _, p1, g.ext x1, q1, fun y h2 W2 H2 w q2 p2 x2 r2 => ?_⟩
  refine ⟨W2, h2, x, y, _, p2, RP.ext x2 _ _ r1, r2, q2, fun z h3 W3 H3 u q3 p3 x3 r3 => ?_⟩
  obtain ⟨c, e, q4⟩ := bOf_ok q3 r3
  refine ⟨c, e, ?_⟩
  cases c with
  | true =>
    refine (if_pos rfl).mpr ⟨W3, h3, σ, _, p3, ((g.ext x1).ext x2).ext x3, q4.t rfl, fun y' h4 W4 H4 v4 q5 p4 x4 r4 => ?_⟩
    exact ⟨W4, h4, y, y', post, p4, RP.ext x4 _ _ (RP.ext x3 _ _ r2), r4, q5, fun z h5 W5 H5 u5 q6 p5 x5 r5 => f z h5 W5 H5 u5 q6 p5 ((((x1.trans x2).trans x3).trans x4).trans x5) r5⟩
  | false => exact (if_neg (by simp)).mpr (f _ h3 W3 H3 _ (q4.f rfl) p3 ((x1.trans x2).trans x3) (by simp only [RP, RD]))
theorem e_chain {o o2 : G2} {op op' : CmpOp} {tc : GT} (ho : OpR X (compareOp op) (up2 X.K o)) (ho' : OpR X (compareOp op') (up2 X.K o2)) (ha : E X a ta) (hb : E X b tb) (hc : E X c tc)
    (hm : lastMarks [op, op'] [b, c] = false := by with_unfolding_all rfl) : E X (.Compare a [op, op'] [b, c] pos) (gChain o o2 ta tb tc) := PE.weak (pe_chain ho ho' ha hb hc hm) fun _ _ _ => chain_up
theorem eb_chain {o o2 : G2} {op op' : CmpOp} {tc : GT} (ho : OpR X (compareOp op) (up2 X.K o)) (ho' : OpR X (compareOp op') (up2 X.K o2)) (ha : E X a ta) (hb : E X b tb) (hc : E X c tc)
    (hm : lastMarks [op, op'] [b, c] = false := by with_unfolding_all rfl) : EB X (.Compare a [op, op'] [b, c] pos) (bVal (gChain o o2 ta tb tc)) :=
  PT.weak (pt_chain ho ho' ha hb hc hm) fun τ H Q q => by
    obtain ⟨W, h, σ, post, p, g, q, f⟩ := q
    refine chain_up (X := X) (ta := ta) (tb := tb) (tc := tc) ⟨W, h, σ, _, p, g, q, fun x h1 W1 H1 v q1 p1 x1 r1 => ?_⟩
    obtain ⟨b, e, q2⟩ := bOf_ok q1 r1
    exact ⟨b, e, f b h1 W1 H1 q2 p1 x1⟩

/-! ### arguments -/
theorem RPs.ext {K : PySem.W.Frag} {W W' : Wd} {H H' : Hp} (x : Ext W W' H H') : ∀ {ps : List P} {vs : List V}, RPs K W H ps vs → RPs K W' H' ps vs
  | [], _, r => r
  | p :: ps, _, ⟨v, r, e, h1, h2⟩ => ⟨v, r, e, RP.ext x p v h1, RPs.ext x h2⟩
def gNil : GA := fun _ h Q => Q [] h
def gCons (t : GT) (r : GA) : GA := fun σ h Q => t σ h fun x h1 => r σ h1 fun xs h2 => Q (x :: xs) h2
theorem ea_nil : EA X [] gNil := PA.weak pa_nil fun τ H Q q => by
  obtain ⟨W, h, σ, post, p, g, q, f⟩ := q
  exact f _ _ W H _ q p Ext.refl rfl
theorem ea_cons {r : GA} (ha : E X e t) (hr : EA X es r) (hs : starEach (e :: es) X.env = (false, eval e X.env) :: starEach es X.env := by rfl) : EA X (e :: es) (gCons t r) :=
  PA.weak (pa_cons ha hr hs) fun τ H Q q => by
    obtain ⟨W, h, σ, post, p, g, q, f⟩ := q
    refine ⟨W, h, σ, _, p, g, q, fun x h1 W1 H1 v q1 p1 x1 r1 => ?_⟩
    refine ⟨W1, h1, σ, _, p1, g.ext x1, q1, fun ps h2 W2 H2 vs q2 p2 x2 r2 => ?_⟩
    exact f _ h2 W2 H2 _ q2 p2 (x1.trans x2) ⟨v, vs, rfl, RP.ext x2 _ _ r1, r2⟩
/-- values that are data -/
def allD : List P → (List D → Prop) → Prop
  | [], k => k []
  | .d x :: r, k => allD r fun xs => k (x :: xs)
  | _, _ => False
theorem allD_ok {K : PySem.W.Frag} {W : Wd} {H : Hp} : ∀ {ps : List P} {vs : List V} {k : List D → Prop}, RPs K W H ps vs → allD ps k → ∃ xs, k xs ∧ RDs K W.own W.rg H xs vs
  | [], _, k, r, q => ⟨[], q, by rw [show _ = [] from r]; exact RDs.nil⟩
  | .d x :: ps, _, k, ⟨v, r, e, h1, h2⟩, q => by
    obtain ⟨xs, h3, h4⟩ := allD_ok (k := fun xs => k (x :: xs)) h2 q
    subst e
    exact ⟨x :: xs, h3, RDs.cons h1 h4⟩
  | .ref _ :: _, _, _, _, q => q.elim
/-- displays: a tuple; a list that is given away; a list of the def's own -/
def gTup (r : GA) : GT := fun σ h Q => r σ h fun ps h1 => allD ps fun xs => xs.length ≤ sizeLine ∧ Q (.d (.tup xs)) h1
def gLst (r : GA) : GT := fun σ h Q => r σ h fun ps h1 => allD ps fun xs => xs.length ≤ sizeLine ∧ Q (.d (.lst xs)) h1
def gLstM (r : GA) : GT := fun σ h Q => r σ h fun ps h1 => allD ps fun xs => xs.length ≤ sizeLine ∧ addCell h1 (.lst xs) fun k h2 => Q (.ref k) h2
theorem new_lst {K : PySem.W.Frag} {W : Wd} {H : Hp} {h : Hl} {xs : List D} {vs : List V} {a : Addr} (p : Pre K W H h) (r : RDs K W.own W.rg H xs vs) (e : H a = none) : RD K W.own W.rg (upd H a (.lst vs)) (.lst xs) (.ref a) := by
  simp only [RD]
  exact ⟨a, vs, rfl, ⟨upd_same, p.free e⟩, RDs.ext (Ext.laid p e).toExS xs vs r⟩
theorem new_tup {K : PySem.W.Frag} {W : Wd} {H : Hp} {h : Hl} {xs : List D} {vs : List V} {a : Addr} (p : Pre K W H h) (r : RDs K W.own W.rg H xs vs) (e : H a = none) : RD K W.own W.rg (upd H a (.tup vs)) (.tup xs) (.ref a) := by
  simp only [RD]
  exact ⟨a, vs, rfl, .inl ⟨.inl upd_same, p.free e⟩, RDs.ext (Ext.laid p e).toExS xs vs r⟩
/-- a new list, given away or kept -/
theorem fin_lst {K : PySem.W.Frag} {W : Wd} {H : Hp} {h : Hl} {post : P → Hl → Prop} {Q : VK} {xs : List D} {vs : List V} (p : Pre K W H h) (r : RDs K W.own W.rg H xs vs) (f : Fin K W H post Q) (q : post (.d (.lst xs)) h) :
    ∀ a, H a = none → Q (.ref a) (upd H a (.lst vs)) := fun a e => f _ h W _ _ q (p.laid e) (Ext.laid p e) (new_lst p r e)
theorem fin_tup {K : PySem.W.Frag} {W : Wd} {H : Hp} {h : Hl} {post : P → Hl → Prop} {Q : VK} {xs : List D} {vs : List V} (p : Pre K W H h) (r : RDs K W.own W.rg H xs vs) (f : Fin K W H post Q) (q : post (.d (.tup xs)) h) :
    ∀ a, H a = none → Q (.ref a) (upd H a (.tup vs)) := fun a e => f _ h W _ _ q (p.laid e) (Ext.laid p e) (new_tup p r e)
theorem fin_cell {K : PySem.W.Frag} {W : Wd} {H : Hp} {h : Hl} {post : P → Hl → Prop} {Q : VK} {xs : List D} {vs : List V} (p : Pre K W H h) (r : RDs K W.own W.rg H xs vs) (f : Fin K W H post Q) (q : addCell h (.lst xs) fun k h2 => post (.ref k) h2) :
    ∀ a, H a = none → Q (.ref a) (upd H a (.lst vs)) := fun a e => by
  rw [addCell_eq] at q
  refine f _ _ (W.add a) _ _ q (p.cell e r) (Ext.cell p e) ⟨a, rfl, ?_⟩
  show (W.al ++ [some a])[_]? = _
  rw [← p.len]
  simp
theorem e_tup {x1 : Nat} {r : GA} (h : EA X es r) : E X (.Tuple es x1 pos) (gTup r) :=
  PE.weak (pe_tup h) fun τ H Q q => by
    obtain ⟨W, h, σ, post, p, g, q, f⟩ := q
    refine ⟨W, h, σ, _, p, g, q, fun ps h1 W1 H1 vs q1 p1 x1 r1 => ?_⟩
    obtain ⟨xs, ⟨hl, q2⟩, r2⟩ := allD_ok r1 q1
    exact ⟨by rw [← r2.len]; exact hl, fin_tup p1 r2 (fun z h2 W2 H2 v q p2 x2 r => f z h2 W2 H2 v q p2 (x1.trans x2) r) q2⟩
theorem e_lst {r : GA} (h : EA X es r) : E X (.List es pos) (gLst r) :=
  PE.weak (pe_lst h) fun τ H Q q => by
    obtain ⟨W, h, σ, post, p, g, q, f⟩ := q
    refine ⟨W, h, σ, _, p, g, q, fun ps h1 W1 H1 vs q1 p1 x1 r1 => ?_⟩
    obtain ⟨xs, ⟨hl, q2⟩, r2⟩ := allD_ok r1 q1
    exact ⟨by rw [← r2.len]; exact hl, fin_lst p1 r2 (fun z h2 W2 H2 v q p2 x2 r => f z h2 W2 H2 v q p2 (x1.trans x2) r) q2⟩
theorem e_lstM {r : GA} (h : EA X es r) : E X (.List es pos) (gLstM r) :=
  PE.weak (pe_lst h) fun τ H Q q => by
    obtain ⟨W, h, σ, post, p, g, q, f⟩ := q
    refine ⟨W, h, σ, _, p, g, q, fun ps h1 W1 H1 vs q1 p1 x1 r1 => ?_⟩
    obtain ⟨xs, ⟨hl, q2⟩, r2⟩ := allD_ok r1 q1
    exact ⟨by rw [← r2.len]; exact hl, fin_cell p1 r2 (fun z h2 W2 H2 v q p2 x2 r => f z h2 W2 H2 v q p2 (x1.trans x2) r) q2⟩
end
end Sc

set_option Elab.async false
set_option linter.all false
set_option maxRecDepth 100000
/-! Sc3: operators and comparisons. -/
namespace Sc
open PySem PySem.Spec PyProof.Rows L2

theorem PL {K : PySem.W.Frag} {W : Wd} {H : Hp} {x : D} {v : V} : RP K W H (.d x) v = RD K W.own W.rg H x v := rfl
/-- a product that the machine reckons -/
def MulX (i j : Int) : Prop := CMul i j ∨ CMulW i j
def DivX (j : Int) : Prop := 0 < j ∧ j.natAbs < 2 ^ 8000
theorem log2_lt {n k : Nat} (hk : 0 < k) (h : n < 2 ^ k) : n.log2 < k := by
  by_cases h0 : n = 0
  · subst h0; simpa using hk
  · exact (Nat.log2_lt h0).mpr h
theorem DivX.ok {i j : Int} (h : DivX j) : CDivW i j := wide_div (b := 8000) h.1 h.2 (by decide) (by decide)
def oAdd : G2 := fun x y h Q => match x, y with
  | .d (.int i), .d (.int j) => Q (.d (.int (i + j))) h
  | .d (.str a), .d (.str b) => a.length + b.length ≤ sizeLine ∧ Q (.d (.str (a ++ b))) h
  | .d (.tup a), .d (.tup b) => a.length + b.length ≤ sizeLine ∧ Q (.d (.tup (a ++ b))) h
  | x, y => match vL h x, vL h y with
    | some a, some b => a.length + b.length ≤ sizeLine ∧ Q (.d (.lst (a ++ b))) h
    | _, _ => False
def oAddM : G2 := fun x y h Q => match vL h x, vL h y with
    | some a, some b => a.length + b.length ≤ sizeLine ∧ addCell h (.lst (a ++ b)) fun k h2 => Q (.ref k) h2
    | _, _ => False
def oSub : G2 := fun x y h Q => match x, y with
  | .d (.int i), .d (.int j) => Q (.d (.int (i - j))) h
  | _, _ => False
def repD (k : Nat) (xs : List D) : List D := (List.replicate k xs).flatten
def oMul : G2 := fun x y h Q => match x, y with
  | .d (.int i), .d (.int j) => MulX i j ∧ Q (.d (.int (i * j))) h
  | x, .d (.int k) => match vL h x with
    | some a => (-(2 ^ 63) ≤ k ∧ k < 2 ^ 63 ∧ a.length * k.toNat ≤ sizeLine) ∧ Q (.d (.lst (repD k.toNat a))) h
    | none => False
  | _, _ => False
def oMulM : G2 := fun x y h Q => match y with
  | .d (.int k) => match vL h x with
    | some a => (-(2 ^ 63) ≤ k ∧ k < 2 ^ 63 ∧ a.length * k.toNat ≤ sizeLine) ∧ addCell h (.lst (repD k.toNat a)) fun k h2 => Q (.ref k) h2
    | none => False
  | _ => False
def oFdiv : G2 := fun x y h Q => match x, y with
  | .d (.int i), .d (.int j) => DivX j ∧ Q (.d (.int (i / j))) h
  | _, _ => False
def oMod : G2 := fun x y h Q => match x, y with
  | .d (.int i), .d (.int j) => 0 < j ∧ Q (.d (.int (i % j))) h
  | _, _ => False
def oPow : G2 := fun x y h Q => match x, y with
  | .d (.int i), .d (.int j) => CPow i j ∧ Q (.d (.int (i ^ j.toNat))) h
  | _, _ => False
def oShl : G2 := fun x y h Q => match x, y with
  | .d (.int i), .d (.int j) => CPow i j ∧ Q (.d (.int (i * 2 ^ j.toNat))) h
  | _, _ => False
def oShr : G2 := fun x y h Q => match x, y with
  | .d (.int i), .d (.int j) => 0 ≤ j ∧ Q (.d (.int (i / 2 ^ j.toNat))) h
  | _, _ => False
def oNeg (x : P) (h : Hl) (Q : P → Hl → Prop) : Prop := match x with
  | .d (.int i) => Q (.d (.int (-i))) h
  | _ => False
section
variable {X : Cx} {e a b : Expr} {pos : Pos} {t ta tb : GT}
theorem fin0 {K : PySem.W.Frag} {W : Wd} {H : Hp} {h : Hl} {post : P → Hl → Prop} {Q : VK} {x : D} {v : V} (p : Pre K W H h) (f : Fin K W H post Q) (q : post (.d x) h) (r : RD K W.own W.rg H x v) : Q v H := f _ h W H v q p Ext.refl r
theorem OpR.sub {f : Value → Value → Sem Value} {r r' : R2} (h : OpR X f r) (w : ∀ x y H Q, r' x y H Q → r x y H Q) : OpR X f r' := fun pins s σ H x y v u Q I rx ry q => h pins s σ H x y v u Q I rx ry (w _ _ _ _ q)
theorem int_of {K : PySem.W.Frag} {W : Wd} {H : Hp} {i : Int} {v : V} (r : RP K W H (.d (.int i)) v) : v = .int i := by simpa only [RP, RD] using r
theorem str_of {K : PySem.W.Frag} {W : Wd} {H : Hp} {i : Str} {v : V} (r : RP K W H (.d (.str i)) v) : v = .str i := by simpa only [RP, RD] using r
theorem bl_of {K : PySem.W.Frag} {W : Wd} {H : Hp} {i : Bool} {v : V} (r : RP K W H (.d (.bl i)) v) : v = .bl i := by simpa only [RP, RD] using r
theorem non_of {K : PySem.W.Frag} {W : Wd} {H : Hp} {v : V} (r : RP K W H (.d .non) v) : v = .non := by simpa only [RP, RD] using r
theorem rd_int {K : PySem.W.Frag} {own : Addr → Prop} {rg : List (Addr × Addr)} {H : Hp} {i : Int} : RD K own rg H (.int i) (.int i) := by simp only [RD]
theorem rd_str {K : PySem.W.Frag} {own : Addr → Prop} {rg : List (Addr × Addr)} {H : Hp} {i : Str} : RD K own rg H (.str i) (.str i) := by simp only [RD]
theorem rd_bl {K : PySem.W.Frag} {own : Addr → Prop} {rg : List (Addr × Addr)} {H : Hp} {i : Bool} : RD K own rg H (.bl i) (.bl i) := by simp only [RD]
theorem rd_non {K : PySem.W.Frag} {own : Addr → Prop} {rg : List (Addr × Addr)} {H : Hp} : RD K own rg H .non .non := by simp only [RD]
theorem og_add : OpR X (binaryOp .Add) (up2 X.K oAdd) := by
  refine OpR.sub (((op_add.or op_add_str).or op_catA).or op_cat) ?_
  rintro v w H Q ⟨W, h, x, y, post, p, rx, ry, q, f⟩
  unfold oAdd at q
  split at q
  · rw [int_of rx, int_of ry]
    exact .inl (.inl (.inl ⟨_, _, rfl, rfl, fin0 p f q rd_int⟩))
  · rw [str_of rx, str_of ry]
    exact .inl (.inl (.inr ⟨_, _, rfl, rfl, q.1, fin0 p f q.2 rd_str⟩))
  · rw [PL] at rx ry
    have rx0 := rx
    have ry0 := ry
    simp only [RD] at rx ry
    obtain ⟨a, ys, rfl, q1, s1⟩ := rx
    obtain ⟨b, zs, rfl, q2, s2⟩ := ry
    refine .inl (.inr ⟨a, b, ys, zs, rfl, rfl, q1.sq, q2.sq, by rw [← s1.len, ← s2.len]; exact q.1, ?_⟩)
    have l1 := s1.len
    have l2 := s2.len
    rename_i as bs
    by_cases e1 : ys = []
    · have ea : as = [] := by
        subst e1
        exact List.length_eq_zero_iff.mp l1
      subst ea
      refine ⟨fun _ => ?_, fun n => (n e1).elim, fun n => (n e1).elim⟩
      exact fin0 p f q.2 ry0
    · refine ⟨fun n => (e1 n).elim, fun _ e2 => ?_, fun _ e2 => ?_⟩
      · have eb : bs = [] := by
          subst e2
          exact List.length_eq_zero_iff.mp l2
        subst eb
        rw [List.append_nil] at q
        exact fin0 p f q.2 rx0
      · exact fin_tup p (s1.app s2) f q.2
  · split at q
    · rename_i as bs e1 e2
      obtain ⟨a, ys, rfl, h1, s1⟩ := vL_ok p e1 rx
      obtain ⟨b, zs, rfl, h2, s2⟩ := vL_ok p e2 ry
      exact .inr ⟨a, b, ys, zs, rfl, rfl, h1, h2, by rw [← s1.len, ← s2.len]; exact q.1, fin_lst p (s1.app s2) f q.2⟩
    · exact q.elim
theorem og_addM : OpR X (binaryOp .Add) (up2 X.K oAddM) := by
  refine OpR.sub op_cat ?_
  rintro v w H Q ⟨W, h, x, y, post, p, rx, ry, q, f⟩
  unfold oAddM at q
  split at q
  · rename_i as bs e1 e2
    obtain ⟨a, ys, rfl, h1, s1⟩ := vL_ok p e1 rx
    obtain ⟨b, zs, rfl, h2, s2⟩ := vL_ok p e2 ry
    exact ⟨a, b, ys, zs, rfl, rfl, h1, h2, by rw [← s1.len, ← s2.len]; exact q.1, fin_cell p (s1.app s2) f q.2⟩
  · exact q.elim
theorem og_sub : OpR X (binaryOp .Sub) (up2 X.K oSub) := by
  refine OpR.sub op_sub ?_
  rintro v w H Q ⟨W, h, x, y, post, p, rx, ry, q, f⟩
  unfold oSub at q
  split at q
  · rw [int_of rx, int_of ry]
    exact ⟨_, _, rfl, rfl, fin0 p f q rd_int⟩
  · exact q.elim
theorem RDs.repl {K : PySem.W.Frag} {own : Addr → Prop} {rg : List (Addr × Addr)} {H : Hp} {xs : List D} {ys : List V} (r : RDs K own rg H xs ys) : ∀ k : Nat, RDs K own rg H (repD k xs) ((List.replicate k ys).flatten)
  | 0 => RDs.nil
  | k + 1 => by
    unfold repD
    rw [List.replicate_succ, List.replicate_succ, List.flatten_cons, List.flatten_cons]
    exact r.app (RDs.repl r k)
theorem og_mul : OpR X (binaryOp .Mult) (up2 X.K oMul) := by
  refine OpR.sub ((op_mul.or op_mulW).or op_rep) ?_
  rintro v w H Q ⟨W, h, x, y, post, p, rx, ry, q, f⟩
  unfold oMul at q
  split at q
  · rw [int_of rx, int_of ry]
    rcases q.1 with c | c
    · exact .inl (.inl ⟨_, _, rfl, rfl, c, fin0 p f q.2 rd_int⟩)
    · exact .inl (.inr ⟨_, _, rfl, rfl, c, fin0 p f q.2 rd_int⟩)
  · split at q
    · rename_i as e1
      obtain ⟨a, ys, rfl, h1, s1⟩ := vL_ok p e1 rx
      rw [int_of ry]
      exact .inr ⟨a, _, ys, rfl, rfl, h1, q.1.1, q.1.2.1, by rw [← s1.len]; exact q.1.2.2, fin_lst p (s1.repl _) f q.2⟩
    · exact q.elim
  · exact q.elim
theorem og_mulM : OpR X (binaryOp .Mult) (up2 X.K oMulM) := by
  refine OpR.sub op_rep ?_
  rintro v w H Q ⟨W, h, x, y, post, p, rx, ry, q, f⟩
  unfold oMulM at q
  split at q
  · split at q
    · rename_i as e1
      obtain ⟨a, ys, rfl, h1, s1⟩ := vL_ok p e1 rx
      rw [int_of ry]
      exact ⟨a, _, ys, rfl, rfl, h1, q.1.1, q.1.2.1, by rw [← s1.len]; exact q.1.2.2, fin_cell p (s1.repl _) f q.2⟩
    · exact q.elim
  · exact q.elim
theorem og_fdiv : OpR X (binaryOp .FloorDiv) (up2 X.K oFdiv) := by
  refine OpR.sub op_fdivW ?_
  rintro v w H Q ⟨W, h, x, y, post, p, rx, ry, q, f⟩
  unfold oFdiv at q
  split at q
  · rw [int_of rx, int_of ry]
    exact ⟨_, _, rfl, rfl, q.1.ok, fin0 p f q.2 rd_int⟩
  · exact q.elim
theorem og_mod : OpR X (binaryOp .Mod) (up2 X.K oMod) := by
  refine OpR.sub op_mod ?_
  rintro v w H Q ⟨W, h, x, y, post, p, rx, ry, q, f⟩
  unfold oMod at q
  split at q
  · rw [int_of rx, int_of ry]
    exact ⟨_, _, rfl, rfl, q.1, fin0 p f q.2 rd_int⟩
  · exact q.elim
theorem og_pow : OpR X (binaryOp .Pow) (up2 X.K oPow) := by
  refine OpR.sub op_pow ?_
  rintro v w H Q ⟨W, h, x, y, post, p, rx, ry, q, f⟩
  unfold oPow at q
  split at q
  · rw [int_of rx, int_of ry]
    exact ⟨_, _, rfl, rfl, q.1, fin0 p f q.2 rd_int⟩
  · exact q.elim
theorem og_shl : OpR X (binaryOp .LShift) (up2 X.K oShl) := by
  refine OpR.sub op_shl ?_
  rintro v w H Q ⟨W, h, x, y, post, p, rx, ry, q, f⟩
  unfold oShl at q
  split at q
  · rw [int_of rx, int_of ry]
    exact ⟨_, _, rfl, rfl, q.1, fin0 p f q.2 rd_int⟩
  · exact q.elim
theorem og_shr : OpR X (binaryOp .RShift) (up2 X.K oShr) := by
  refine OpR.sub op_shr ?_
  rintro v w H Q ⟨W, h, x, y, post, p, rx, ry, q, f⟩
  unfold oShr at q
  split at q
  · rw [int_of rx, int_of ry]
    exact ⟨_, _, rfl, rfl, q.1, fin0 p f q.2 rd_int⟩
  · exact q.elim
def gUn (o : P → Hl → (P → Hl → Prop) → Prop) (t : GT) : GT := fun σ h Q => t σ h fun x h1 => o x h1 Q
theorem e_neg (ha : E X a t) : E X (.UnaryOp .USub a pos) (gUn oNeg t) :=
  PE.weak (pe_un un_neg ha) fun τ H Q q => by
    obtain ⟨W, h, σ, post, p, g, q, f⟩ := q
    refine ⟨W, h, σ, _, p, g, q, fun x h1 W1 H1 v q1 p1 x1 r1 => ?_⟩
    unfold oNeg at q1
    split at q1
    · rw [int_of r1]
      exact ⟨_, rfl, f _ h1 W1 H1 _ q1 p1 x1 (rd_int : RD X.K W1.own W1.rg H1 _ _)⟩
    · exact q1.elim

/-! ### comparisons -/
mutual
def D.py : D → PyData
  | .non => .none
  | .bl b => .bool b
  | .int i => .int i
  | .str x => .str x
  | .tup xs => .tuple (D.pys xs)
  | .lst xs => .list (D.pys xs)
  | .klst xs => .list (D.pys xs)
  | .rng => .none
def D.pys : List D → List PyData
  | [] => []
  | x :: xs => x.py :: D.pys xs
end
mutual
/-- no state of draws in it, and not deeper than n -/
def D.flat : Nat → D → Bool
  | _, .non => true
  | _, .bl _ => true
  | _, .int _ => true
  | _, .str _ => true
  | n, .tup xs => n != 0 && D.flats (n - 1) xs
  | n, .lst xs => n != 0 && D.flats (n - 1) xs
  | n, .klst xs => n != 0 && D.flats (n - 1) xs
  | _, .rng => false
def D.flats : Nat → List D → Bool
  | _, [] => true
  | n, x :: xs => D.flat n x && D.flats n xs
end
def D.eqv (x y : D) : Bool := PyData.eqv x.py y.py
end
end Sc

set_option Elab.async false
set_option linter.all false
set_option maxRecDepth 100000
/-! Sc4: comparisons, subscripts, slices, built-in calls, methods of lists. -/
namespace Sc
open PySem PySem.Spec PyProof.Rows L2

mutual
/-- every text in it is a text of code points -/
def D.okS : D → Bool
  | .str x => PyData.strOk x
  | .tup xs => D.okSs xs
  | .lst xs => D.okSs xs
  | .klst xs => D.okSs xs
  | _ => true
def D.okSs : List D → Bool
  | [] => true
  | x :: xs => D.okS x && D.okSs xs
end
mutual
theorem py_lay : ∀ (n : Nat) (x : D), x.flat n = true → x.okS = true → x.py.canLay0 = true ∧ x.py.depth ≤ n
  | n, .non, _, _ => ⟨rfl, Nat.zero_le _⟩
  | n, .bl _, _, _ => ⟨rfl, Nat.zero_le _⟩
  | n, .int _, _, _ => ⟨rfl, Nat.zero_le _⟩
  | n, .str x, _, h => ⟨by simpa [D.py, PyData.canLay0, D.okS] using h, Nat.zero_le _⟩
  | n, .tup xs, h, k => by
    simp only [D.flat, Bool.and_eq_true, bne_iff_ne, ne_eq, D.okS] at h k
    obtain ⟨a, b⟩ := pys_lay (n - 1) xs h.2 k
    simp only [D.py, PyData.canLay0, PyData.depth]
    exact ⟨a, by omega⟩
  | n, .lst xs, h, k => by
    simp only [D.flat, Bool.and_eq_true, bne_iff_ne, ne_eq, D.okS] at h k
    obtain ⟨a, b⟩ := pys_lay (n - 1) xs h.2 k
    simp only [D.py, PyData.canLay0, PyData.depth]
    exact ⟨a, by omega⟩
  | n, .klst xs, h, k => by
    simp only [D.flat, Bool.and_eq_true, bne_iff_ne, ne_eq, D.okS] at h k
    obtain ⟨a, b⟩ := pys_lay (n - 1) xs h.2 k
    simp only [D.py, PyData.canLay0, PyData.depth]
    exact ⟨a, by omega⟩
  | n, .rng, h, _ => by simp [D.flat] at h
theorem pys_lay : ∀ (n : Nat) (xs : List D), D.flats n xs = true → D.okSs xs = true → PyData.canLayAll0 (D.pys xs) = true ∧ PyData.depthAll (D.pys xs) ≤ n
  | n, [], _, _ => ⟨rfl, Nat.zero_le _⟩
  | n, x :: xs, h, k => by
    simp only [D.flats, D.okSs, Bool.and_eq_true] at h k
    obtain ⟨a, b⟩ := py_lay n x h.1 k.1
    obtain ⟨c, d⟩ := pys_lay n xs h.2 k.2
    simp only [D.pys, PyData.canLayAll0, PyData.depthAll, Bool.and_eq_true]
    exact ⟨⟨a, c⟩, by omega⟩
end
/-- data that the machine compares -/
structure Cmp (x : D) : Prop where
  f : x.flat 60 = true
  s : x.okS = true
theorem Cmp.shaped {x : D} (c : Cmp x) : SeqAt.shaped x.py = true := by
  obtain ⟨a, b⟩ := py_lay 60 x c.f c.s
  unfold SeqAt.shaped
  rw [a]
  simp only [Bool.true_and, decide_eq_true_eq]
  omega
mutual
theorem RD.dp {K : PySem.W.Frag} {own : Addr → Prop} {rg : List (Addr × Addr)} {H : Hp} : ∀ (n : Nat) (x : D) (v : V), RD K own rg H x v → x.flat n = true → Dp K H v x.py
  | _, .non, _, r, _ => by simp only [RD] at r; subst r; exact .non
  | _, .bl b, _, r, _ => by simp only [RD] at r; subst r; exact .bl b
  | _, .int b, _, r, _ => by simp only [RD] at r; subst r; exact .int b
  | _, .str b, _, r, _ => by simp only [RD] at r; subst r; exact .str b
  | n, .tup xs, _, r, f => by
    simp only [RD] at r
    simp only [D.flat, Bool.and_eq_true] at f
    obtain ⟨a, ys, rfl, q, s⟩ := r
    simp only [D.py]
    exact .tup q.sq (RDs.dp (n - 1) xs ys s f.2)
  | n, .lst xs, _, r, f => by
    simp only [RD] at r
    simp only [D.flat, Bool.and_eq_true] at f
    obtain ⟨a, ys, rfl, q, s⟩ := r
    simp only [D.py]
    exact .lst q.sq (RDs.dp (n - 1) xs ys s f.2)
  | n, .klst xs, _, r, f => by
    simp only [RD] at r
    simp only [D.flat, Bool.and_eq_true] at f
    obtain ⟨a, ys, rfl, q, s⟩ := r
    simp only [D.py]
    exact .lst q.sq (RDs.dp (n - 1) xs ys s f.2)
  | _, .rng, _, _, f => by simp [D.flat] at f
theorem RDs.dp {K : PySem.W.Frag} {own : Addr → Prop} {rg : List (Addr × Addr)} {H : Hp} : ∀ (n : Nat) (xs : List D) (vs : List V), RDs K own rg H xs vs → D.flats n xs = true → DpAll K H vs (D.pys xs)
  | _, [], _, r, _ => by simp only [RDs] at r; subst r; exact .nil
  | n, x :: xs, _, r, f => by
    simp only [RDs] at r
    simp only [D.flats, Bool.and_eq_true] at f
    obtain ⟨y, q, rfl, r, s⟩ := r
    simp only [D.pys]
    exact .cons (RD.dp n x y r f.1) (RDs.dp n xs q s f.2)
end
theorem vD_dp {K : PySem.W.Frag} {W : Wd} {H : Hp} {h : Hl} (p : Pre K W H h) {x : P} {d : D} {v : V} (e : vD h x = some d) (r : RP K W H x v) (c : Cmp d) : Dp K H v d.py := by
  cases x with
  | d x =>
    simp only [vD, Option.some.injEq] at e
    subst e
    exact RD.dp _ _ _ r c.f
  | ref k =>
    simp only [vD] at e
    split at e
    · rename_i xs q
      simp only [Option.some.injEq] at e
      subst e
      obtain ⟨a, ys, rfl, _, h2, h3⟩ := cell_ok p q r
      have f := c.f
      simp only [D.flat, Bool.and_eq_true] at f
      simp only [D.py]
      exact .lst (SqL.of h2) (RDs.dp _ _ _ h3 f.2)
    · cases e
def oEq : G2 := fun x y h Q => match x, y with
  | .d (.int i), .d (.int j) => Q (.d (.bl (decide (i = j)))) h
  | .d (.str i), .d (.str j) => Q (.d (.bl (decide (i = j)))) h
  | .d (.bl i), .d (.bl j) => Q (.d (.bl (decide (i = j)))) h
  | x, y => match vD h x, vD h y with
    | some a, some b => (Cmp a ∧ Cmp b) ∧ Q (.d (.bl (D.eqv a b))) h
    | _, _ => False
def oNe : G2 := fun x y h Q => match x, y with
  | .d (.int i), .d (.int j) => Q (.d (.bl (!decide (i = j)))) h
  | .d (.str i), .d (.str j) => Q (.d (.bl (!decide (i = j)))) h
  | .d (.bl i), .d (.bl j) => Q (.d (.bl (!decide (i = j)))) h
  | x, y => match vD h x, vD h y with
    | some a, some b => (Cmp a ∧ Cmp b) ∧ Q (.d (.bl (!D.eqv a b))) h
    | _, _ => False
def oLt : G2 := fun x y h Q => match x, y with
  | .d (.int i), .d (.int j) => Q (.d (.bl (decide (i < j)))) h
  | _, _ => False
def oLe : G2 := fun x y h Q => match x, y with
  | .d (.int i), .d (.int j) => Q (.d (.bl (decide (i ≤ j)))) h
  | _, _ => False
def oGt : G2 := fun x y h Q => match x, y with
  | .d (.int i), .d (.int j) => Q (.d (.bl (decide (j < i)))) h
  | _, _ => False
def oGe : G2 := fun x y h Q => match x, y with
  | .d (.int i), .d (.int j) => Q (.d (.bl (decide (j ≤ i)))) h
  | _, _ => False
def isNon : P → Bool
  | .d .non => true
  | _ => false
def oIs : G2 := fun x y h Q => match y with
  | .d .non => Q (.d (.bl (isNon x))) h
  | _ => False
def oIsNot : G2 := fun x y h Q => match y with
  | .d .non => Q (.d (.bl (!isNon x))) h
  | _ => False
def strIn (a b : Str) : Bool := !(Builtin.Str.occurrences b a 0 b.length 1).isEmpty
def D.scal : D → Bool
  | .non => true
  | .bl _ => true
  | .int _ => true
  | .str _ => true
  | _ => false
def inD (x : D) (xs : List D) : Bool := xs.any fun y => D.eqv y x
/-- x in xs: of flat things over any sequence; of any data over a list -/
def InOk (x : D) (y : P) (xs : List D) : Prop := (x.scal = true ∧ xs.all D.scal = true) ∨ (Cmp x ∧ Cmp (.lst xs) ∧ ∀ zs, y ≠ .d (.tup zs))
def oIn : G2 := fun x y h Q => match x, y with
  | .d (.str a), .d (.str b) => Q (.d (.bl (strIn a b))) h
  | .d x, y => match vS h y with
    | some xs => InOk x y xs ∧ Q (.d (.bl (inD x xs))) h
    | none => False
  | _, _ => False
def oNotIn : G2 := fun x y h Q => match x, y with
  | .d (.str a), .d (.str b) => Q (.d (.bl (!strIn a b))) h
  | .d x, y => match vS h y with
    | some xs => InOk x y xs ∧ Q (.d (.bl (!inD x xs))) h
    | none => False
  | _, _ => False
section
variable {X : Cx}
theorem og_eq (hu : X.A.units + 64 < cLine) : OpR X (compareOp .Eq) (up2 X.K oEq) := by
  refine OpR.sub (op_eq.or (op_eqD hu)) ?_
  rintro v w H Q ⟨W, h, x, y, post, p, rx, ry, q, f⟩
  unfold oEq at q
  split at q
  · rw [int_of rx, int_of ry]
    refine .inl ⟨rfl, ?_⟩
    rw [dec_int]
    exact fin0 p f (by simpa [beq_iff_eq, Bool.beq_eq_decide_eq] using q) rd_bl
  · rw [str_of rx, str_of ry]
    refine .inl ⟨rfl, ?_⟩
    rw [dec_str]
    exact fin0 p f (by simpa [beq_iff_eq, Bool.beq_eq_decide_eq] using q) rd_bl
  · rw [bl_of rx, bl_of ry]
    refine .inl ⟨rfl, ?_⟩
    rw [dec_bl]
    exact fin0 p f (by simpa [beq_iff_eq, Bool.beq_eq_decide_eq] using q) rd_bl
  · split at q
    · rename_i a b e1 e2
      exact .inr ⟨_, _, vD_dp p e1 rx q.1.1, vD_dp p e2 ry q.1.2, q.1.1.shaped, q.1.2.shaped, fin0 p f q.2 rd_bl⟩
    · exact q.elim
theorem og_ne (hu : X.A.units + 64 < cLine) : OpR X (compareOp .NotEq) (up2 X.K oNe) := by
  refine OpR.sub (op_ne.or (op_neD hu)) ?_
  rintro v w H Q ⟨W, h, x, y, post, p, rx, ry, q, f⟩
  unfold oNe at q
  split at q
  · rw [int_of rx, int_of ry]
    refine .inl ⟨rfl, ?_⟩
    rw [dec_int]
    exact fin0 p f (by simpa [beq_iff_eq, Bool.beq_eq_decide_eq] using q) rd_bl
  · rw [str_of rx, str_of ry]
    refine .inl ⟨rfl, ?_⟩
    rw [dec_str]
    exact fin0 p f (by simpa [beq_iff_eq, Bool.beq_eq_decide_eq] using q) rd_bl
  · rw [bl_of rx, bl_of ry]
    refine .inl ⟨rfl, ?_⟩
    rw [dec_bl]
    exact fin0 p f (by simpa [beq_iff_eq, Bool.beq_eq_decide_eq] using q) rd_bl
  · split at q
    · rename_i a b e1 e2
      exact .inr ⟨_, _, vD_dp p e1 rx q.1.1, vD_dp p e2 ry q.1.2, q.1.1.shaped, q.1.2.shaped, fin0 p f q.2 rd_bl⟩
    · exact q.elim
theorem og_lt : OpR X (compareOp .Lt) (up2 X.K oLt) := by
  refine OpR.sub op_lt ?_
  rintro v w H Q ⟨W, h, x, y, post, p, rx, ry, q, f⟩
  unfold oLt at q
  split at q
  · rw [int_of rx, int_of ry]
    exact ⟨_, _, rfl, rfl, fin0 p f q rd_bl⟩
  · exact q.elim
theorem og_le : OpR X (compareOp .LtE) (up2 X.K oLe) := by
  refine OpR.sub op_le ?_
  rintro v w H Q ⟨W, h, x, y, post, p, rx, ry, q, f⟩
  unfold oLe at q
  split at q
  · rw [int_of rx, int_of ry]
    exact ⟨_, _, rfl, rfl, fin0 p f q rd_bl⟩
  · exact q.elim
theorem og_gt : OpR X (compareOp .Gt) (up2 X.K oGt) := by
  refine OpR.sub op_gt ?_
  rintro v w H Q ⟨W, h, x, y, post, p, rx, ry, q, f⟩
  unfold oGt at q
  split at q
  · rw [int_of rx, int_of ry]
    exact ⟨_, _, rfl, rfl, fin0 p f q rd_bl⟩
  · exact q.elim
theorem og_ge : OpR X (compareOp .GtE) (up2 X.K oGe) := by
  refine OpR.sub op_ge ?_
  rintro v w H Q ⟨W, h, x, y, post, p, rx, ry, q, f⟩
  unfold oGe at q
  split at q
  · rw [int_of rx, int_of ry]
    exact ⟨_, _, rfl, rfl, fin0 p f q rd_bl⟩
  · exact q.elim
theorem isNon_ok {K : PySem.W.Frag} {W : Wd} {H : Hp} {x : P} {v : V} (r : RP K W H x v) : decide (v = .non) = isNon x := by
  cases x with
  | d x =>
    cases x with
    | non => rw [non_of r]; rfl
    | bl b => rw [bl_of r]; rfl
    | int b => rw [int_of r]; rfl
    | str b => rw [str_of r]; rfl
    | rng => simp only [RP, RD] at r; obtain ⟨a, g, rfl, _⟩ := r; rfl
    | _ => simp only [RP, RD] at r; obtain ⟨a, ys, rfl, _⟩ := r; rfl
  | ref k => obtain ⟨a, rfl, _⟩ := r; rfl
theorem og_is : OpR X (compareOp .Is) (up2 X.K oIs) := by
  refine OpR.sub op_isN ?_
  rintro v w H Q ⟨W, h, x, y, post, p, rx, ry, q, f⟩
  unfold oIs at q
  split at q
  · refine ⟨non_of ry, ?_⟩
    rw [isNon_ok rx]
    exact fin0 p f q rd_bl
  · exact q.elim
theorem og_isnot : OpR X (compareOp .IsNot) (up2 X.K oIsNot) := by
  refine OpR.sub op_notN ?_
  rintro v w H Q ⟨W, h, x, y, post, p, rx, ry, q, f⟩
  unfold oIsNot at q
  split at q
  · refine ⟨non_of ry, ?_⟩
    rw [isNon_ok rx]
    exact fin0 p f q rd_bl
  · exact q.elim
theorem scal_flat {K : PySem.W.Frag} {own : Addr → Prop} {rg : List (Addr × Addr)} {H : Hp} {x : D} {v : V} (r : RD K own rg H x v) (s : x.scal = true) : flatV v = true := by
  cases x <;> simp only [RD] at r <;> first | (subst r; rfl) | (simp [D.scal] at s)
theorem eqv_V {K : PySem.W.Frag} {own : Addr → Prop} {rg : List (Addr × Addr)} {H : Hp} {x y : D} {v w : V} (r : RD K own rg H x v) (s : x.scal = true) (r2 : RD K own rg H y w) (s2 : y.scal = true) : eqV v w = D.eqv x y := by
  cases x <;> simp only [RD] at r <;> first | (simp [D.scal] at s; done) | (subst r; cases y <;> simp only [RD] at r2 <;> first | (simp [D.scal] at s2; done) | (subst r2; simp [eqV, D.eqv, D.py, PyData.eqv]))
theorem scals_flat {K : PySem.W.Frag} {own : Addr → Prop} {rg : List (Addr × Addr)} {H : Hp} : ∀ {xs : List D} {vs : List V}, RDs K own rg H xs vs → xs.all D.scal = true → vs.all flatV = true
  | [], _, r, _ => by simp only [RDs] at r; subst r; rfl
  | x :: xs, _, r, s => by
    simp only [RDs] at r
    obtain ⟨y, q, rfl, r, t⟩ := r
    simp only [List.all_cons, Bool.and_eq_true] at s ⊢
    exact ⟨scal_flat r s.1, scals_flat t s.2⟩
theorem inD_V {K : PySem.W.Frag} {own : Addr → Prop} {rg : List (Addr × Addr)} {H : Hp} {x : D} {v : V} (rx : RD K own rg H x v) (sx : x.scal = true) : ∀ {xs : List D} {vs : List V}, RDs K own rg H xs vs → xs.all D.scal = true → inV v vs = inD x xs
  | [], _, r, _ => by simp only [RDs] at r; subst r; rfl
  | z :: xs, _, r, s => by
    simp only [RDs] at r
    obtain ⟨y, q, rfl, r, t⟩ := r
    simp only [List.all_cons, Bool.and_eq_true] at s
    have h1 := eqv_V r s.1 rx sx
    have h2 := inD_V rx sx t s.2
    unfold inV inD at h2 ⊢
    rw [List.any_cons, List.any_cons, h1, h2]
theorem pys_any (x : D) : ∀ xs : List D, ((D.pys xs).any fun z => PyData.eqv z x.py) = inD x xs
  | [] => rfl
  | y :: ys => by
    have := pys_any x ys
    unfold inD at this ⊢
    simp only [D.pys, List.any_cons, this]
    rfl
theorem in_dp {K : PySem.W.Frag} {W : Wd} {H : Hp} {h : Hl} (p : Pre K W H h) {y : P} {xs : List D} {w : V} (e : vS h y = some xs) (r : RP K W H y w) (c : Cmp (.lst xs)) (n : ∀ zs, y ≠ .d (.tup zs)) : Dp K H w (D.lst xs).py := by
  have f := c.f
  simp only [D.flat, Bool.and_eq_true] at f
  obtain ⟨a, ys, rfl, q, s⟩ := vS_ok p e r
  simp only [D.py]
  cases y with
  | d y =>
    cases y with
    | lst zs =>
      simp only [vS, Option.some.injEq] at e
      subst e
      simp only [RP, RD] at r
      obtain ⟨a', ys', e', q', s'⟩ := r
      cases e'
      exact .lst q'.sq (RDs.dp _ _ _ s' f.2)
    | klst zs =>
      simp only [vS, Option.some.injEq] at e
      subst e
      simp only [RP, RD] at r
      obtain ⟨a', ys', e', q', s'⟩ := r
      cases e'
      exact .lst q'.sq (RDs.dp _ _ _ s' f.2)
    | tup zs => exact (n zs rfl).elim
    | _ => simp [vS] at e
  | ref k =>
    simp only [vS] at e
    split at e
    · rename_i q2
      cases e
      obtain ⟨a', ys', e', _, h2, h3⟩ := cell_ok p q2 r
      cases e'
      exact .lst (SqL.of h2) (RDs.dp _ _ _ h3 f.2)
    · cases e
theorem og_in (hu : X.A.units + 65 < cLine) : OpR X (compareOp .In) (up2 X.K oIn) := by
  refine OpR.sub ((op_in_str.or op_in_seq).or (op_inD hu)) ?_
  rintro v w H Q ⟨W, h, x, y, post, p, rx, ry, q, f⟩
  unfold oIn at q
  split at q
  · rw [str_of rx, str_of ry]
    exact .inl (.inl ⟨_, _, rfl, rfl, fin0 p f q rd_bl⟩)
  · split at q
    · rename_i xs e1
      rcases q.1 with ⟨s1, s2⟩ | ⟨c1, c2, n⟩
      · obtain ⟨a, ys, rfl, q2, s⟩ := vS_ok p e1 ry
        refine .inl (.inr ⟨a, ys, rfl, q2, scal_flat rx s1, scals_flat s s2, ?_⟩)
        rw [if_neg (by simp), inD_V rx s1 s s2]
        exact fin0 p f q.2 rd_bl
      · refine .inr ⟨_, _, RD.dp _ _ _ rx c1.f, in_dp p e1 ry c2 n, c1.shaped, c2.shaped, ?_⟩
        rw [pys_any]
        exact fin0 p f q.2 rd_bl
    · exact q.elim
  · exact q.elim
theorem og_notin (hu : X.A.units + 65 < cLine) : OpR X (compareOp .NotIn) (up2 X.K oNotIn) := by
  refine OpR.sub ((op_notin_str.or op_notIn_seq).or (op_notInD hu)) ?_
  rintro v w H Q ⟨W, h, x, y, post, p, rx, ry, q, f⟩
  unfold oNotIn at q
  split at q
  · rw [str_of rx, str_of ry]
    exact .inl (.inl ⟨_, _, rfl, rfl, fin0 p f q rd_bl⟩)
  · split at q
    · rename_i xs e1
      rcases q.1 with ⟨s1, s2⟩ | ⟨c1, c2, n⟩
      · obtain ⟨a, ys, rfl, q2, s⟩ := vS_ok p e1 ry
        refine .inl (.inr ⟨a, ys, rfl, q2, scal_flat rx s1, scals_flat s s2, ?_⟩)
        rw [if_pos rfl, inD_V rx s1 s s2]
        exact fin0 p f q.2 rd_bl
      · refine .inr ⟨_, _, RD.dp _ _ _ rx c1.f, in_dp p e1 ry c2 n, c1.shaped, c2.shaped, ?_⟩
        rw [pys_any]
        exact fin0 p f q.2 rd_bl
    · exact q.elim
  · exact q.elim

/-! ### subscripts, slices -/
def getD? (xs : List D) (i : Int) : Option D := atI xs i
/-- the item at an int -/
structure At (xs : List D) (i : Int) (k : D → Prop) : Prop where
  ex : ∃ x, atI xs i = some x ∧ k x
def oIx : G2 := fun x y h Q => match x, y with
  | .d (.str z), .d (.int i) => z.length ≤ sizeLine ∧ ∃ c, atI z.cps.toList i = some c ∧ Q (.d (.str ⟨#[c]⟩)) h
  | x, .d (.int i) => match vS h x with
    | some xs => At xs i fun z => Q (.d z) h
    | none => False
  | _, _ => False
theorem RDs.atI {K : PySem.W.Frag} {own : Addr → Prop} {rg : List (Addr × Addr)} {H : Hp} {xs : List D} {vs : List V} {i : Int} {x : D} (r : RDs K own rg H xs vs) (e : L2.atI xs i = some x) : ∃ v, L2.atI vs i = some v ∧ RD K own rg H x v := by
  unfold L2.atI at e ⊢
  rw [← r.len]
  cases hi : ixN xs.length i with
  | none => rw [hi] at e; cases e
  | some j =>
    rw [hi] at e
    exact r.get (show xs[j]? = some x from e)
theorem IxR.sub {r r' : R2} (h : IxR X r) (w : ∀ x y H Q, r' x y H Q → r x y H Q) : IxR X r' := fun va sl pins s σ H x y v u Q I rx ry q e => h va sl pins s σ H x y v u Q I rx ry (w _ _ _ _ q) e
theorem og_ix : IxR X (up2 X.K oIx) := by
  refine IxR.sub ix_seq ?_
  rintro v w H Q ⟨W, h, x, y, post, p, rx, ry, q, f⟩
  unfold oIx at q
  split at q
  · obtain ⟨hz, c, e, q⟩ := q
    rw [str_of rx, int_of ry]
    exact .inr (.inr ⟨_, _, _, rfl, rfl, hz, e, fin0 p f q rd_str⟩)
  · split at q
    · rename_i xs e1
      obtain ⟨z, e2, q⟩ := q
      obtain ⟨a, ys, rfl, q2, s⟩ := vS_ok p e1 rx
      obtain ⟨v, e3, r3⟩ := s.atI e2
      rw [int_of ry]
      rcases q2 with q2 | q2
      · exact .inl ⟨a, ys, _, v, rfl, rfl, q2, e3, fin0 p f q r3⟩
      · exact .inr (.inl ⟨a, ys, _, v, rfl, rfl, q2, e3, fin0 p f q r3⟩)
    · exact q.elim
  · exact q.elim
theorem e_ix {a b : Expr} {ta tb : GT} {pos : Pos} (ha : E X a ta) (hb : E X b tb) (hs : PlainIx b := by exact fun _ _ => rfl) : E X (.Subscript a b pos) (gOp oIx ta tb) := PE.weak (pe_ix og_ix ha hb hs) fun _ _ _ => op_up
abbrev GO := Sl → Hl → (Option Int → Hl → Prop) → Prop
def upO (K : PySem.W.Frag) (t : GO) : TO := fun τ H Q => ∃ W h σ post, Pre K W H h ∧ Sg K W H σ τ ∧ t σ h post ∧ ∀ o h' W' H', post o h' → Pre K W' H' h' → Ext W W' H H' → Q o H'
def EO (X : Cx) (e : Option Expr) (t : GO) : Prop := PO X e (upO X.K t)
def gNoPart : GO := fun _ h Q => Q none h
def gPart (t : GT) : GO := fun σ h Q => t σ h fun x h1 => match x with
  | .d (.int i) => Q (some i) h1
  | _ => False
theorem PO.weak {e : Option Expr} {t t' : TO} (h : PO X e t) (w : ∀ τ H Q, t' τ H Q → t τ H Q) : PO X e t' := ⟨fun pins s σ H Q I q => h.run pins s σ H Q I (w _ _ _ q)⟩
theorem eo_none : EO X none gNoPart := PO.weak po_none fun τ H Q q => by
  obtain ⟨W, h, σ, post, p, g, q, f⟩ := q
  exact f _ _ W H q p Ext.refl
theorem eo_some {e : Expr} {t : GT} (h : E X e t) : EO X (some e) (gPart t) := PO.weak (po_some h) fun τ H Q q => by
  obtain ⟨W, h, σ, post, p, g, q, f⟩ := q
  refine ⟨W, h, σ, _, p, g, q, fun x h1 W1 H1 v q1 p1 x1 r1 => ?_⟩
  split at q1
  · exact ⟨_, int_of r1, f _ h1 W1 H1 q1 p1 x1⟩
  · exact q1.elim
def cutD {α : Type} (xs : List α) (lo hi : Option Int) : List α := (xs.drop (HT.sIx xs.length 0 lo)).take (HT.sIx xs.length xs.length hi - HT.sIx xs.length 0 lo)
abbrev G3 := P → Option Int → Option Int → Hl → (P → Hl → Prop) → Prop
def oSl : G3 := fun x lo hi h Q => match x with
  | .d (.str z) => z.length ≤ sizeLine ∧ Q (.d (.str (cutS z lo hi))) h
  | .d (.tup xs) => Q (.d (.tup (cutD xs lo hi))) h
  | .d (.klst xs) => Q (.d (.lst (cutD xs lo hi))) h
  | x => match vL h x with
    | some xs => Q (.d (.lst (cutD xs lo hi))) h
    | none => False
def oSlM : G3 := fun x lo hi h Q => match vL h x with
    | some xs => addCell h (.lst (cutD xs lo hi)) fun k h2 => Q (.ref k) h2
    | none => False
def up3 (K : PySem.W.Frag) (o : G3) : V → Option Int → Option Int → Hp → VK → Prop := fun v lo hi H Q => ∃ W h x post, Pre K W H h ∧ RP K W H x v ∧ o x lo hi h post ∧ Fin K W H post Q
theorem RDs.cut {K : PySem.W.Frag} {own : Addr → Prop} {rg : List (Addr × Addr)} {H : Hp} {xs : List D} {vs : List V} (r : RDs K own rg H xs vs) (lo hi : Option Int) : RDs K own rg H (cutD xs lo hi) (cutV vs lo hi) := by
  unfold cutD cutV
  rw [r.len]
  exact (r.drop _).take _
theorem SlR.sub {r r' : V → Option Int → Option Int → Hp → VK → Prop} (h : SlR X r) (w : ∀ x lo hi H Q, r' x lo hi H Q → r x lo hi H Q) : SlR X r' := fun pins s σ H x v vl vu lo hi sl Q I rx hs pl pu q => h pins s σ H x v vl vu lo hi sl Q I rx hs pl pu (w _ _ _ _ _ q)
theorem whole_cut {α : Type} {xs : List α} {lo hi : Option Int} (c : HT.sIx xs.length 0 lo = 0 ∧ HT.sIx xs.length xs.length hi = xs.length) : cutD xs lo hi = xs := by
  unfold cutD
  rw [c.1, c.2]
  simp
theorem sg_sl : SlR X (up3 X.K oSl) := by
  refine SlR.sub ((sl_str.or sl_tupA).or sl_list) ?_
  rintro v lo hi H Q ⟨W, h, x, post, p, rx, q, f⟩
  unfold oSl at q
  split at q
  · rw [str_of rx]
    exact .inl (.inl ⟨_, rfl, q.1, fin0 p f q.2 rd_str⟩)
  · rename_i xs
    have rx0 := rx
    rw [PL] at rx0
    simp only [RP, RD] at rx
    obtain ⟨a, ys, rfl, q2, s⟩ := rx
    refine .inl (.inr ⟨a, ys, rfl, q2.sq, fun c => ?_, fun n => ?_⟩)
    · rw [← s.len] at c
      rw [whole_cut c] at q
      exact fin0 p f q rx0
    · exact fin_tup p (s.cut lo hi) f q
  · simp only [RP, RD] at rx
    obtain ⟨a, ys, rfl, q2, s⟩ := rx
    exact .inr ⟨a, ys, rfl, q2.sq, fin_lst p (s.cut lo hi) f q⟩
  · split at q
    · rename_i xs e1
      obtain ⟨a, ys, rfl, h1, s⟩ := vL_ok p e1 rx
      exact .inr ⟨a, ys, rfl, SqL.of h1, fin_lst p (s.cut lo hi) f q⟩
    · exact q.elim
theorem sg_slM : SlR X (up3 X.K oSlM) := by
  refine SlR.sub sl_list ?_
  rintro v lo hi H Q ⟨W, h, x, post, p, rx, q, f⟩
  unfold oSlM at q
  split at q
  · rename_i xs e1
    obtain ⟨a, ys, rfl, h1, s⟩ := vL_ok p e1 rx
    exact ⟨a, ys, rfl, SqL.of h1, fin_cell p (s.cut lo hi) f q⟩
  · exact q.elim
def gSl (o : G3) (t : GT) (lo hi : GO) : GT := fun σ h Q => t σ h fun x h1 => lo σ h1 fun l h2 => hi σ h2 fun u h3 => o x l u h3 Q
theorem e_slice {o : G3} {e : Expr} {lo hi : Option Expr} {t : GT} {tl th : GO} {p2 pos : Pos} (hr : SlR X (up3 X.K o)) (he : E X e t) (hl : EO X lo tl) (hu : EO X hi th) : E X (.Subscript e (.Slice lo hi none p2) pos) (gSl o t tl th) :=
  PE.weak (pe_slice hr he hl hu) fun τ H Q q => by
    obtain ⟨W, h, σ, post, p, g, q, f⟩ := q
    refine ⟨W, h, σ, _, p, g, q, fun x h1 W1 H1 v q1 p1 x1 r1 => ?_⟩
    refine ⟨W1, h1, σ, _, p1, g.ext x1, q1, fun l h2 W2 H2 q2 p2 x2 => ?_⟩
    refine ⟨W2, h2, σ, _, p2, (g.ext x1).ext x2, q2, fun u h3 W3 H3 q3 p3 x3 => ?_⟩
    exact ⟨W3, h3, x, post, p3, RP.ext x3 _ _ (RP.ext x2 _ _ r1), q3, fun z h4 W4 H4 v4 q4 p4 x4 r4 => f z h4 W4 H4 v4 q4 p4 (((x1.trans x2).trans x3).trans x4) r4⟩

/-! ### built-in calls -/
theorem CallR.sub {f : Value} {r r' : List V → Hp → VK → Prop} (h : CallR X f r) (w : ∀ xs H Q, r' xs H Q → r xs H Q) : CallR X f r' := fun pins s σ H xs us Q I rv q => h pins s σ H xs us Q I rv (w _ _ _ q)
def gCB (r : GC) (t : GA) : GT := fun σ h Q => t σ h fun ps h1 => r ps h1 Q
theorem cb_up {r : GC} {t : GA} {τ : L2.St} {H : Hp} {Q : VK} (q : up X.K (gCB r t) τ H Q) : tCB (upC X.K r) (upA X.K t) τ H Q := by
  obtain ⟨W, h, σ, post, p, g, q, f⟩ := q
  refine ⟨W, h, σ, _, p, g, q, fun ps h1 W1 H1 vs q1 p1 x1 r1 => ?_⟩
  exact ⟨W1, h1, ps, post, p1, r1, q1, fun z h2 W2 H2 v q p2 x2 r => f z h2 W2 H2 v q p2 (x1.trans x2) r⟩
section
variable {x : Str} {p pos : Pos} {e : Expr} {es : List Expr} {t : GA} {id T : String} {r : GC}
theorem e_cb (hc : CallR X (.builtin id) (upC X.K r)) (hg : Gl X x) (hm : X.mg x = none) (hv : bootBuiltins x = some (.builtin id)) (ha : EA X (e :: es) t) (hn : x ≠ "__name__" := by decide) (hdb : (x == ("__debug__" : Str)) = false := by decide)
    (he : starEach (e :: es) X.env = (false, eval e X.env) :: starEach es X.env := by rfl) (hpl : (backTo pos (starEach es X.env)).any (·.1) = false := by rfl) : E X (.Call (.Name x p) (e :: es) [] pos) (gCB r t) :=
  PE.weak (pe_callB hc hg hm hv ha hn hdb he hpl) fun _ _ _ => cb_up
theorem e_ct (hc : CallR X (.type T) (upC X.K r)) (hg : Gl X x) (hm : X.mg x = none) (hv : bootBuiltins x = some (.type T)) (ha : EA X (e :: es) t) (hn : x ≠ "__name__" := by decide) (hdb : (x == ("__debug__" : Str)) = false := by decide)
    (he : starEach (e :: es) X.env = (false, eval e X.env) :: starEach es X.env := by rfl) (hpl : (backTo pos (starEach es X.env)).any (·.1) = false := by rfl) : E X (.Call (.Name x p) (e :: es) [] pos) (gCB r t) :=
  PE.weak (pe_callTy hc hg hm hv ha hn hdb he hpl) fun _ _ _ => cb_up
end
theorem RPs.one {K : PySem.W.Frag} {W : Wd} {H : Hp} {x : P} {vs : List V} (r : RPs K W H [x] vs) : ∃ v, vs = [v] ∧ RP K W H x v := by
  obtain ⟨v, q, rfl, h1, h2⟩ := r
  rw [show q = [] from h2]
  exact ⟨v, rfl, h1⟩
theorem RPs.two {K : PySem.W.Frag} {W : Wd} {H : Hp} {x y : P} {vs : List V} (r : RPs K W H [x, y] vs) : ∃ v w, vs = [v, w] ∧ RP K W H x v ∧ RP K W H y w := by
  obtain ⟨v, q, rfl, h1, h2⟩ := r
  obtain ⟨w, rfl, h3⟩ := RPs.one h2
  exact ⟨v, w, rfl, h1, h3⟩
def cLen : GC := fun ps h Q => match ps with
  | [.d (.str z)] => z.length ≤ sizeLine ∧ Q (.d (.int z.length)) h
  | [x] => match vS h x with
    | some xs => xs.length ≤ 16777216 → Q (.d (.int xs.length)) h
    | none => False
  | _ => False
theorem cg_len : CallR X (.builtin "len") (upC X.K cLen) := by
  rintro pins s σ H vs us Q J rv ⟨W, h, ps, post, p, rr, q, f⟩
  unfold cLen at q
  split at q
  · obtain ⟨v, rfl, r⟩ := rr.one
    rw [str_of r] at rv
    exact call_len_str pins s σ H _ us Q J rv ⟨_, rfl, q.1, fin0 p f q.2 rd_int⟩
  · split at q
    · rename_i xs e1
      obtain ⟨v, rfl, r⟩ := rr.one
      obtain ⟨a, ys, rfl, q2, s2⟩ := vS_ok p e1 r
      have hl : ys.length ≤ sizeLine := by
        rcases q2 with q3 | q3
        · exact (J.list q3).choose_spec.2.2
        · exact (J.tuple q3).choose_spec.2.2
      refine call_len_seq pins s σ H _ us Q J rv ⟨a, ys, rfl, q2, ?_⟩
      rw [← s2.len] at hl ⊢
      exact fin0 p f (q (by rw [sizeLine_eq] at hl; exact hl)) rd_int
    · exact q.elim
  · exact q.elim
def iabs (i : Int) : Int := if i < 0 then -i else i
def imax (i j : Int) : Int := if j > i then j else i
def imin (i j : Int) : Int := if j < i then j else i
def cAbs : GC := fun ps h Q => match ps with
  | [.d (.int i)] => Q (.d (.int (iabs i))) h
  | _ => False
theorem cg_abs : CallR X (.builtin "abs") (upC X.K cAbs) := by
  refine CallR.sub call_abs ?_
  rintro vs H Q ⟨W, h, ps, post, p, rr, q, f⟩
  unfold cAbs at q
  split at q
  · obtain ⟨v, rfl, r⟩ := rr.one
    rw [int_of r]
    exact ⟨_, rfl, fin0 p f q rd_int⟩
  · exact q.elim
def cMax2 : GC := fun ps h Q => match ps with
  | [.d (.int i), .d (.int j)] => Q (.d (.int (imax i j))) h
  | _ => False
theorem cg_max2 (hc : X.calm = true) : CallR X (.builtin "max") (upC X.K cMax2) := by
  refine CallR.sub (call_max2 hc) ?_
  rintro vs H Q ⟨W, h, ps, post, p, rr, q, f⟩
  unfold cMax2 at q
  split at q
  · obtain ⟨v, w, rfl, r, r2⟩ := rr.two
    rw [int_of r, int_of r2]
    exact ⟨_, _, rfl, fin0 p f q rd_int⟩
  · exact q.elim
def cMin2 : GC := fun ps h Q => match ps with
  | [.d (.int i), .d (.int j)] => Q (.d (.int (imin i j))) h
  | _ => False
theorem cg_min2 (hc : X.calm = true) : CallR X (.builtin "min") (upC X.K cMin2) := by
  refine CallR.sub (call_min2 hc) ?_
  rintro vs H Q ⟨W, h, ps, post, p, rr, q, f⟩
  unfold cMin2 at q
  split at q
  · obtain ⟨v, w, rfl, r, r2⟩ := rr.two
    rw [int_of r, int_of r2]
    exact ⟨_, _, rfl, fin0 p f q rd_int⟩
  · exact q.elim
def b2i' (b : Bool) : Int := if b then 1 else 0
def cInt : GC := fun ps h Q => match ps with
  | [.d (.int i)] => Q (.d (.int i)) h
  | [.d (.bl b)] => Q (.d (.int (b2i' b))) h
  | _ => False
theorem cg_int : CallR X (.type "int") (upC X.K cInt) := by
  refine CallR.sub call_int1 ?_
  rintro vs H Q ⟨W, h, ps, post, p, rr, q, f⟩
  unfold cInt at q
  split at q
  · obtain ⟨v, rfl, r⟩ := rr.one
    rw [int_of r]
    exact .inl ⟨_, rfl, fin0 p f q rd_int⟩
  · obtain ⟨v, rfl, r⟩ := rr.one
    rw [bl_of r]
    exact .inr ⟨_, rfl, fin0 p f q rd_int⟩
  · exact q.elim
def cList : GC := fun ps h Q => match ps with
  | [x] => match vS h x with
    | some xs => Q (.d (.lst xs)) h
    | none => False
  | _ => False
theorem cg_list : CallR X (.type "list") (upC X.K cList) := by
  refine CallR.sub call_list_of ?_
  rintro vs H Q ⟨W, h, ps, post, p, rr, q, f⟩
  unfold cList at q
  split at q
  · split at q
    · rename_i xs e1
      obtain ⟨v, rfl, r⟩ := rr.one
      obtain ⟨a, ys, rfl, q2, s⟩ := vS_ok p e1 r
      exact ⟨a, ys, rfl, q2, fin_lst p s f q⟩
    · exact q.elim
  · exact q.elim
def cListM : GC := fun ps h Q => match ps with
  | [x] => match vS h x with
    | some xs => addCell h (.lst xs) fun k h2 => Q (.ref k) h2
    | none => False
  | _ => False
theorem cg_listM : CallR X (.type "list") (upC X.K cListM) := by
  refine CallR.sub call_list_of ?_
  rintro vs H Q ⟨W, h, ps, post, p, rr, q, f⟩
  unfold cListM at q
  split at q
  · split at q
    · rename_i xs e1
      obtain ⟨v, rfl, r⟩ := rr.one
      obtain ⟨a, ys, rfl, q2, s⟩ := vS_ok p e1 r
      exact ⟨a, ys, rfl, q2, fin_cell p s f q⟩
    · exact q.elim
  · exact q.elim
def cTuple : GC := fun ps h Q => match ps with
  | [x] => match vS h x with
    | some xs => Q (.d (.tup xs)) h
    | none => False
  | _ => False
theorem cg_tuple : CallR X (.type "tuple") (upC X.K cTuple) := by
  refine CallR.sub call_tuple_of ?_
  rintro vs H Q ⟨W, h, ps, post, p, rr, q, f⟩
  unfold cTuple at q
  split at q
  · split at q
    · rename_i xs e1
      obtain ⟨v, rfl, r⟩ := rr.one
      rename_i x _
      cases x with
      | d x =>
        cases x with
        | lst zs =>
          simp only [vS, Option.some.injEq] at e1
          subst e1
          simp only [RP, RD] at r
          obtain ⟨a, ys, rfl, q2, s⟩ := r
          exact ⟨a, ys, rfl, .inl ⟨q2.sq, fin_tup p s f q⟩⟩
        | klst zs =>
          simp only [vS, Option.some.injEq] at e1
          subst e1
          simp only [RP, RD] at r
          obtain ⟨a, ys, rfl, q2, s⟩ := r
          exact ⟨a, ys, rfl, .inl ⟨q2.sq, fin_tup p s f q⟩⟩
        | tup zs =>
          simp only [vS, Option.some.injEq] at e1
          subst e1
          have r0 := r
          rw [PL] at r0
          simp only [RP, RD] at r
          obtain ⟨a, ys, rfl, q2, s⟩ := r
          exact ⟨a, ys, rfl, .inr ⟨q2.sq, fin0 p f q r0⟩⟩
        | _ => simp [vS] at e1
      | ref k =>
        simp only [vS] at e1
        split at e1
        · rename_i q3
          cases e1
          obtain ⟨a, ys, rfl, _, h2, h3⟩ := cell_ok p q3 r
          exact ⟨a, ys, rfl, .inl ⟨SqL.of h2, fin_tup p h3 f q⟩⟩
        · cases e1
    · exact q.elim
  · exact q.elim
/-- the ints that the data are -/
def intsD : List D → Option (List Int)
  | [] => some []
  | .int i :: r => (intsD r).map (i :: ·)
  | _ => none
def boolsD : List D → Option (List Bool)
  | [] => some []
  | .bl i :: r => (boolsD r).map (i :: ·)
  | _ => none
theorem intsD_ok {K : PySem.W.Frag} {own : Addr → Prop} {rg : List (Addr × Addr)} {H : Hp} : ∀ {xs : List D} {ns : List Int} {vs : List V}, intsD xs = some ns → RDs K own rg H xs vs → vs = ns.map V.int
  | [], _, _, e, r => by simp only [intsD] at e; cases e; simp only [RDs] at r; subst r; rfl
  | x :: xs, _, _, e, r => by
    simp only [RDs] at r
    obtain ⟨y, q, rfl, r, s⟩ := r
    cases x <;> simp only [intsD] at e <;> try cases e
    cases h : intsD xs with
    | none => rw [h] at e; cases e
    | some ns =>
      rw [h] at e
      cases e
      simp only [RD] at r
      subst r
      rw [intsD_ok h s]
      rfl
theorem bools_ok {K : PySem.W.Frag} {own : Addr → Prop} {rg : List (Addr × Addr)} {H : Hp} : ∀ {xs : List D} {ns : List Bool} {vs : List V}, boolsD xs = some ns → RDs K own rg H xs vs → vs = ns.map V.bl
  | [], _, _, e, r => by simp only [boolsD] at e; cases e; simp only [RDs] at r; subst r; rfl
  | x :: xs, _, _, e, r => by
    simp only [RDs] at r
    obtain ⟨y, q, rfl, r, s⟩ := r
    cases x <;> simp only [boolsD] at e <;> try cases e
    cases h : boolsD xs with
    | none => rw [h] at e; cases e
    | some ns =>
      rw [h] at e
      cases e
      simp only [RD] at r
      subst r
      rw [bools_ok h s]
      rfl
theorem intsD_map : ∀ ns : List Int, intsD (ns.map D.int) = some ns
  | [] => rfl
  | n :: ns => by simp only [List.map_cons, intsD, intsD_map ns]; rfl
theorem bools_map : ∀ ns : List Bool, boolsD (ns.map D.bl) = some ns
  | [] => rfl
  | n :: ns => by simp only [List.map_cons, boolsD, bools_map ns]; rfl
/-- ∃ with an equation: the intsD of a list -/
structure Ints (xs : List D) (k : List Int → Prop) : Prop where
  ex : ∃ ns, intsD xs = some ns ∧ k ns
structure Bools (xs : List D) (k : List Bool → Prop) : Prop where
  ex : ∃ ns, boolsD xs = some ns ∧ k ns
def kL (h : Hl) : P → Option (List D)
  | .d (.klst xs) => some xs
  | x => vL h x
theorem kL_ok {K : PySem.W.Frag} {W : Wd} {H : Hp} {h : Hl} (p : Pre K W H h) {x : P} {xs : List D} {v : V} (e : kL h x = some xs) (r : RP K W H x v) : ∃ a ys, v = .ref a ∧ SqL K H a ys ∧ RDs K W.own W.rg H xs ys := by
  unfold kL at e
  split at e
  · cases e
    simp only [RP, RD] at r
    obtain ⟨a, ys, rfl, q2, s⟩ := r
    exact ⟨a, ys, rfl, q2.sq, s⟩
  · obtain ⟨a, ys, rfl, h1, s⟩ := vL_ok p e r
    exact ⟨a, ys, rfl, SqL.of h1, s⟩
def cSum : GC := fun ps h Q => match ps with
  | [x] => match kL h x with
    | some xs => Ints xs fun ns => Q (.d (.int ns.sum)) h
    | none => False
  | _ => False
theorem cg_sum (hc : X.calm = true) : CallR X (.builtin "sum") (upC X.K cSum) := by
  refine CallR.sub (cr_sum hc) ?_
  rintro vs H Q ⟨W, h, ps, post, p, rr, q, f⟩
  unfold cSum at q
  split at q
  · split at q
    · rename_i xs e1
      obtain ⟨v, rfl, r⟩ := rr.one
      obtain ⟨a, ys, rfl, q2, s⟩ := kL_ok p e1 r
      obtain ⟨ns, e2, q⟩ := q.ex
      rw [intsD_ok e2 s] at q2
      exact ⟨a, ns, rfl, q2, fin0 p f q rd_int⟩
    · exact q.elim
  · exact q.elim
def cMaxL : GC := fun ps h Q => match ps with
  | [x] => match kL h x with
    | some xs => Ints xs fun ns => 0 < ns.length ∧ ∀ m, m ∈ ns → (∀ y, y ∈ ns → y ≤ m) → Q (.d (.int m)) h
    | none => False
  | _ => False
theorem cg_maxL (hc : X.calm = true) : CallR X (.builtin "max") (upC X.K cMaxL) := by
  refine CallR.sub (cr_max hc) ?_
  rintro vs H Q ⟨W, h, ps, post, p, rr, q, f⟩
  unfold cMaxL at q
  split at q
  · split at q
    · rename_i xs e1
      obtain ⟨v, rfl, r⟩ := rr.one
      obtain ⟨a, ys, rfl, q2, s⟩ := kL_ok p e1 r
      obtain ⟨ns, e2, q⟩ := q.ex
      rw [intsD_ok e2 s] at q2
      exact ⟨a, ns, rfl, q2, q.1, fun m h1 h2 => fin0 p f (q.2 m h1 h2) rd_int⟩
    · exact q.elim
  · exact q.elim
def cMinL : GC := fun ps h Q => match ps with
  | [x] => match kL h x with
    | some xs => Ints xs fun ns => 0 < ns.length ∧ ∀ m, m ∈ ns → (∀ y, y ∈ ns → m ≤ y) → Q (.d (.int m)) h
    | none => False
  | _ => False
theorem cg_minL (hc : X.calm = true) : CallR X (.builtin "min") (upC X.K cMinL) := by
  refine CallR.sub (cr_min hc) ?_
  rintro vs H Q ⟨W, h, ps, post, p, rr, q, f⟩
  unfold cMinL at q
  split at q
  · split at q
    · rename_i xs e1
      obtain ⟨v, rfl, r⟩ := rr.one
      obtain ⟨a, ys, rfl, q2, s⟩ := kL_ok p e1 r
      obtain ⟨ns, e2, q⟩ := q.ex
      rw [intsD_ok e2 s] at q2
      exact ⟨a, ns, rfl, q2, q.1, fun m h1 h2 => fin0 p f (q.2 m h1 h2) rd_int⟩
    · exact q.elim
  · exact q.elim
def cAll : GC := fun ps h Q => match ps with
  | [x] => match kL h x with
    | some xs => Bools xs fun bs => Q (.d (.bl (bs.all id))) h
    | none => False
  | _ => False
theorem cg_all (hc : X.calm = true) : CallR X (.builtin "all") (upC X.K cAll) := by
  refine CallR.sub (cr_all hc) ?_
  rintro vs H Q ⟨W, h, ps, post, p, rr, q, f⟩
  unfold cAll at q
  split at q
  · split at q
    · rename_i xs e1
      obtain ⟨v, rfl, r⟩ := rr.one
      obtain ⟨a, ys, rfl, q2, s⟩ := kL_ok p e1 r
      obtain ⟨ns, e2, q⟩ := q.ex
      rw [bools_ok e2 s] at q2
      exact ⟨a, ns, rfl, q2, fin0 p f q rd_bl⟩
    · exact q.elim
  · exact q.elim
def cAny : GC := fun ps h Q => match ps with
  | [x] => match kL h x with
    | some xs => Bools xs fun bs => Q (.d (.bl (bs.any id))) h
    | none => False
  | _ => False
theorem cg_any (hc : X.calm = true) : CallR X (.builtin "any") (upC X.K cAny) := by
  refine CallR.sub (cr_any hc) ?_
  rintro vs H Q ⟨W, h, ps, post, p, rr, q, f⟩
  unfold cAny at q
  split at q
  · split at q
    · rename_i xs e1
      obtain ⟨v, rfl, r⟩ := rr.one
      obtain ⟨a, ys, rfl, q2, s⟩ := kL_ok p e1 r
      obtain ⟨ns, e2, q⟩ := q.ex
      rw [bools_ok e2 s] at q2
      exact ⟨a, ns, rfl, q2, fin0 p f q rd_bl⟩
    · exact q.elim
  · exact q.elim
end
end Sc

set_option Elab.async false
set_option linter.all false
set_option maxRecDepth 100000
/-! Sc5: methods of lists, statements, targets. -/
namespace Sc
open PySem PySem.Spec PyProof.Rows L2

/-! ### methods of the def's own lists -/
abbrev GM := P → List P → Hl → (P → Hl → Prop) → Prop
def upM (K : PySem.W.Frag) (r : GM) : V → List V → Hp → VK → Prop := fun v vs H Q => ∃ W h x ps post, Pre K W H h ∧ RP K W H x v ∧ RPs K W H ps vs ∧ r x ps h post ∧ Fin K W H post Q
def gLM (r : GM) (to : GT) (t : GA) : GT := fun σ h Q => to σ h fun x h1 => match x with
  | .ref k => match cellAt h1 k with
    | some (.lst _) => t σ h1 fun ps h2 => r (.ref k) ps h2 Q
    | _ => False
  | _ => False
section
variable {X : Cx}
theorem MtR.sub {id : String} {r r' : V → List V → Hp → VK → Prop} (hh : MtR X id r) (w : ∀ x xs H Q, r' x xs H Q → r x xs H Q) : MtR X id r' := fun pins s σ H x xs v us Q I rx rv q => hh pins s σ H x xs v us Q I rx rv (w _ _ _ _ q)
theorem lm_up {r : GM} {to : GT} {t : GA} {τ : L2.St} {H : Hp} {Q : VK} (q : up X.K (gLM r to t) τ H Q) : tBM X.K "list" (upM X.K r) (up X.K to) (upA X.K t) τ H Q := by
  obtain ⟨W, hl, σ, post, p, g, q, f⟩ := q
  refine ⟨W, hl, σ, _, p, g, q, fun x h1 W1 H1 v q1 p1 x1 r1 => ?_⟩
  split at q1
  · split at q1
    · rename_i k _ xs e1
      obtain ⟨a, ys, rfl, h2, h3, h4⟩ := cell_ok p1 e1 r1
      refine ⟨.inl ⟨rfl, ys, SqL.of h3⟩, W1, h1, σ, _, p1, g.ext x1, q1, fun ps h5 W2 H2 vs q2 p2 x2 r2 => ?_⟩
      exact ⟨W2, h5, _, ps, post, p2, RP.ext x2 _ _ r1, r2, q2, fun z h6 W3 H3 v3 q3 p3 x3 r3 => f z h6 W3 H3 v3 q3 p3 ((x1.trans x2).trans x3) r3⟩
    · exact q1.elim
  · exact q1.elim
theorem e_lm {o e : Expr} {es : List Expr} {to : GT} {t : GA} {name : Str} {apos cpos : Pos} {id : String} {r : GM} (slot : Slot "list" name id) (hty : typeOf (.builtin id) = pure (.type "method_descriptor")) (hm : MtR X id (upM X.K r)) (ho : E X o to) (ha : EA X (e :: es) t)
    (hbase : attributeBase o name X.env (eval o X.env) = eval o X.env := by rfl)
    (hfew : ((backTo cpos (starEach (e :: es) X.env)).all (fun x => !x.1) && (backToKw cpos (keywordEach [] X.env)).all (fun x => x.1.isSome)
      && decide ((e :: es).length + ([] : List Keyword).length + (if ([] : List Keyword).isEmpty then 0 else 1) < 30)) = true := by rfl)
    (hline : (apos.endLine == cpos.line) = true := by rfl) (hs : starEach (e :: es) X.env = (false, eval e X.env) :: starEach es X.env := by rfl) (hplain : (backTo cpos (starEach es X.env)).any (·.1) = false := by rfl) :
    E X (.Call (.Attribute o name apos) (e :: es) [] cpos) (gLM r to t) := PE.weak (pe_bm PySem.F.plainAttrs_list slot hty hm ho ha hbase hfew hline hs hplain) fun _ _ _ => lm_up
theorem lm0_up {r : GM} {to : GT} {τ : L2.St} {H : Hp} {Q : VK} (q : up X.K (gLM r to gNil) τ H Q) : tBM0 X.K "list" (upM X.K r) (up X.K to) τ H Q := by
  obtain ⟨W, hl, σ, post, p, g, q, f⟩ := q
  refine ⟨W, hl, σ, _, p, g, q, fun x h1 W1 H1 v q1 p1 x1 r1 => ?_⟩
  split at q1
  · split at q1
    · rename_i k _ xs e1
      obtain ⟨a, ys, rfl, h2, h3, h4⟩ := cell_ok p1 e1 r1
      refine ⟨.inl ⟨rfl, ys, SqL.of h3⟩, W1, h1, _, [], post, p1, r1, rfl, q1, fun z h6 W3 H3 v3 q3 p3 x3 r3 => f z h6 W3 H3 v3 q3 p3 (x1.trans x3) r3⟩
    · exact q1.elim
  · exact q1.elim
theorem e_lm0 {o : Expr} {to : GT} {name : Str} {apos cpos : Pos} {id : String} {r : GM} (slot : Slot "list" name id) (hty : typeOf (.builtin id) = pure (.type "method_descriptor")) (hm : MtR X id (upM X.K r)) (ho : E X o to)
    (hbase : attributeBase o name X.env (eval o X.env) = eval o X.env := by rfl) (hline : (apos.endLine == cpos.line) = true := by rfl) : E X (.Call (.Attribute o name apos) [] [] cpos) (gLM r to gNil) :=
  PE.weak (pe_bm0 PySem.F.plainAttrs_list slot hty hm ho hbase hline) fun _ _ _ => lm0_up
/-- the k-th cell is written -/
theorem fin_set {K : PySem.W.Frag} {W : Wd} {H : Hp} {h : Hl} {post : P → Hl → Prop} {Q : VK} {xs : List D} {vs : List V} {k : Nat} {a : Addr} {x : D} {v : V} (p : Pre K W H h) (e : W.al[k]? = some (some a)) (r : RDs K W.own W.rg H xs vs) (f : Fin K W H post Q)
    (q : setCell h k (.lst xs) fun h2 => post (.d x) h2) (rx : RD K W.own W.rg H x v) : Q v (upd H a (.lst vs)) := by
  rw [setCell_eq] at q
  have x1 : Ext W W H (upd H a (.lst vs)) := Ext.set p e
  exact f _ _ W _ _ q (p.set e r) x1 (RD.ext x1.toExS _ _ rx)
theorem ref_at {K : PySem.W.Frag} {W : Wd} {H : Hp} {k : Nat} {v : V} (r : RP K W H (.ref k) v) : ∃ a, v = .ref a ∧ W.al[k]? = some (some a) := r
def mAppend : GM := fun x ps h Q => match x, ps with
  | .ref k, [.d y] => match cellAt h k with
    | some (.lst xs) => xs.length < sizeLine ∧ setCell h k (.lst (xs ++ [y])) fun h2 => Q (.d .non) h2
    | _ => False
  | _, _ => False
theorem mg_append : MtR X "list.append" (upM X.K mAppend) := by
  refine MtR.sub mt_append ?_
  rintro v vs H Q ⟨W, h, x, ps, post, p, rx, rr, q, f⟩
  unfold mAppend at q
  split at q
  · split at q
    · rename_i xs e1
      obtain ⟨w, rfl, rw'⟩ := rr.one
      obtain ⟨a, ys, rfl, h2, h3, h4⟩ := cell_ok p e1 rx
      exact ⟨a, ys, w, rfl, rfl, h3, by rw [← h4.len]; exact q.1, fin_set p h2 (h4.app (RDs.one rw')) f q.2 rd_non⟩
    · exact q.elim
  · exact q.elim
def mExtend : GM := fun x ps h Q => match x, ps with
  | .ref k, [y] => match cellAt h k, vL h y with
    | some (.lst xs), some zs => xs.length + zs.length ≤ sizeLine ∧ setCell h k (.lst (xs ++ zs)) fun h2 => Q (.d .non) h2
    | _, _ => False
  | _, _ => False
theorem mg_extend : MtR X "list.extend" (upM X.K mExtend) := by
  refine MtR.sub mt_extend ?_
  rintro v vs H Q ⟨W, h, x, ps, post, p, rx, rr, q, f⟩
  unfold mExtend at q
  split at q
  · split at q
    · rename_i xs zs e1 e2
      obtain ⟨w, rfl, rw'⟩ := rr.one
      obtain ⟨a, ys, rfl, h2, h3, h4⟩ := cell_ok p e1 rx
      obtain ⟨b, ws, rfl, h5, h6⟩ := vL_ok p e2 rw'
      exact ⟨a, b, ys, ws, rfl, rfl, h3, h5, by rw [← h4.len, ← h6.len]; exact q.1, fin_set p h2 (h4.app h6) f q.2 rd_non⟩
    · exact q.elim
  · exact q.elim
theorem RDs.dropLast {K : PySem.W.Frag} {own : Addr → Prop} {rg : List (Addr × Addr)} {H : Hp} {xs : List D} {ys : List V} (r : RDs K own rg H xs ys) : RDs K own rg H xs.dropLast ys.dropLast := by
  rw [List.dropLast_eq_take, List.dropLast_eq_take, r.len]
  exact r.take _
def mPop : GM := fun x ps h Q => match x, ps with
  | .ref k, [] => match cellAt h k with
    | some (.lst xs) => At xs (-1) fun y => setCell h k (.lst xs.dropLast) fun h2 => Q (.d y) h2
    | _ => False
  | _, _ => False
theorem at_last {α : Type} {xs : List α} {y : α} (e : atI xs (-1) = some y) : xs[xs.length - 1]? = some y := by
  unfold atI ixN at e
  rw [if_neg (by decide)] at e
  by_cases h0 : -(xs.length : Int) ≤ -1
  · rw [if_pos h0] at e
    have e2 : xs[((-1 : Int) + (xs.length : Int)).toNat]? = some y := e
    rw [show xs.length - 1 = ((-1 : Int) + (xs.length : Int)).toNat by omega]
    exact e2
  · rw [if_neg h0] at e
    cases e
theorem mg_pop : MtR X "list.pop" (upM X.K mPop) := by
  refine MtR.sub mt_pop ?_
  rintro v vs H Q ⟨W, h, x, ps, post, p, rx, rr, q, f⟩
  unfold mPop at q
  split at q
  · split at q
    · rename_i xs e1
      have ev : vs = [] := rr
      subst ev
      obtain ⟨y, ey, q⟩ := q.ex
      obtain ⟨a, ys, rfl, h2, h3, h4⟩ := cell_ok p e1 rx
      obtain ⟨w, h5, h6⟩ := h4.get (at_last ey)
      rw [h4.len] at h5
      exact ⟨a, ys, w, rfl, rfl, h3, h5, fin_set p h2 h4.dropLast f q h6⟩
    · exact q.elim
  · exact q.elim
theorem RDs.erase {K : PySem.W.Frag} {own : Addr → Prop} {rg : List (Addr × Addr)} {H : Hp} : ∀ {xs : List D} {ys : List V} (n : Nat), RDs K own rg H xs ys → RDs K own rg H (xs.eraseIdx n) (ys.eraseIdx n)
  | [], _, n, r => by simp only [RDs] at r; subst r; exact RDs.nil
  | x :: xs, _, 0, r => by
    simp only [RDs] at r
    obtain ⟨y, q, rfl, r, s⟩ := r
    exact s
  | x :: xs, _, n + 1, r => by
    simp only [RDs] at r
    obtain ⟨y, q, rfl, r, s⟩ := r
    simp only [List.eraseIdx_cons_succ]
    exact RDs.cons r (RDs.erase n s)
/-- the place that an int names -/
structure Ix (n : Nat) (i : Int) (k : Nat → Prop) : Prop where
  ex : ∃ j, ixN n i = some j ∧ k j
theorem ixN_lt {n : Nat} {i : Int} {j : Nat} (h : ixN n i = some j) : j < n := (ixN_seq h).2.1
def mPopAt : GM := fun x ps h Q => match x, ps with
  | .ref k, [.d (.int i)] => match cellAt h k with
    | some (.lst xs) => (-(2 ^ 63) ≤ i ∧ i < 2 ^ 63) ∧ Ix xs.length i fun j => ∃ y, xs[j]? = some y ∧ setCell h k (.lst (xs.eraseIdx j)) fun h2 => Q (.d y) h2
    | _ => False
  | _, _ => False
theorem mg_popAt : MtR X "list.pop" (upM X.K mPopAt) := by
  refine MtR.sub mt_popAt ?_
  rintro v vs H Q ⟨W, h, x, ps, post, p, rx, rr, q, f⟩
  unfold mPopAt at q
  split at q
  · split at q
    · rename_i xs e1
      obtain ⟨w, rfl, rw'⟩ := rr.one
      obtain ⟨hb, ⟨j, ej, y, ey, q⟩⟩ := q
      obtain ⟨a, ys, rfl, h2, h3, h4⟩ := cell_ok p e1 rx
      obtain ⟨z, h5, h6⟩ := h4.get ey
      rw [int_of rw']
      refine ⟨a, ys, _, j, z, rfl, rfl, h3, hb.1, hb.2, ?_, h5, fin_set p h2 (h4.erase j) f q h6⟩
      rw [← h4.len]
      exact (ixN_seq ej).1
    · exact q.elim
  · exact q.elim
def mInsert : GM := fun x ps h Q => match x, ps with
  | .ref k, [.d (.int i), .d y] => match cellAt h k with
    | some (.lst xs) => (xs.length < sizeLine ∧ 0 ≤ i ∧ i < 2 ^ 63) ∧ setCell h k (.lst (xs.take i.toNat ++ [y] ++ xs.drop i.toNat)) fun h2 => Q (.d .non) h2
    | _ => False
  | _, _ => False
theorem mg_insert : MtR X "list.insert" (upM X.K mInsert) := by
  refine MtR.sub mt_insert ?_
  rintro v vs H Q ⟨W, h, x, ps, post, p, rx, rr, q, f⟩
  unfold mInsert at q
  split at q
  · split at q
    · rename_i xs e1
      obtain ⟨w, z, rfl, r1, r2⟩ := rr.two
      obtain ⟨a, ys, rfl, h2, h3, h4⟩ := cell_ok p e1 rx
      rw [int_of r1]
      exact ⟨a, ys, _, z, rfl, rfl, h3, by rw [← h4.len]; exact q.1.1, q.1.2.1, q.1.2.2, fin_set p h2 (((h4.take _).app (RDs.one r2)).app (h4.drop _)) f q.2 rd_non⟩
    · exact q.elim
  · exact q.elim
def mReverse : GM := fun x ps h Q => match x, ps with
  | .ref k, [] => match cellAt h k with
    | some (.lst xs) => setCell h k (.lst xs.reverse) fun h2 => Q (.d .non) h2
    | _ => False
  | _, _ => False
theorem mg_reverse : MtR X "list.reverse" (upM X.K mReverse) := by
  refine MtR.sub mt_reverse ?_
  rintro v vs H Q ⟨W, h, x, ps, post, p, rx, rr, q, f⟩
  unfold mReverse at q
  split at q
  · split at q
    · rename_i xs e1
      have ev : vs = [] := rr
      subst ev
      obtain ⟨a, ys, rfl, h2, h3, h4⟩ := cell_ok p e1 rx
      exact ⟨a, ys, rfl, rfl, h3, fin_set p h2 h4.rev f q rd_non⟩
    · exact q.elim
  · exact q.elim
def mClear : GM := fun x ps h Q => match x, ps with
  | .ref k, [] => match cellAt h k with
    | some (.lst xs) => setCell h k (.lst []) fun h2 => Q (.d .non) h2
    | _ => False
  | _, _ => False
theorem mg_clear : MtR X "list.clear" (upM X.K mClear) := by
  refine MtR.sub mt_clear ?_
  rintro v vs H Q ⟨W, h, x, ps, post, p, rx, rr, q, f⟩
  unfold mClear at q
  split at q
  · split at q
    · rename_i xs e1
      have ev : vs = [] := rr
      subst ev
      obtain ⟨a, ys, rfl, h2, h3, h4⟩ := cell_ok p e1 rx
      exact ⟨a, ys, rfl, rfl, h3, fin_set p h2 RDs.nil f q rd_non⟩
    · exact q.elim
  · exact q.elim
end

/-! ### statements -/
structure FinS (K : PySem.W.Frag) (W : Wd) (H : Hp) (G : GD) (D : Ends) : Prop where
  nx : ∀ σ h W' H' τ, G.nx σ h → Pre K W' H' h → ExS W W' H H' → Sg K W' H' σ τ → D.nx τ H'
  rt : ∀ p h W' H' v, G.rt p h → Pre K W' H' h → ExS W W' H H' → RP K W' H' p v → D.rt v H'
  bk : ∀ σ h W' H' τ, G.bk σ h → Pre K W' H' h → ExS W W' H H' → Sg K W' H' σ τ → D.bk τ H'
  ct : ∀ σ h W' H' τ, G.ct σ h → Pre K W' H' h → ExS W W' H H' → Sg K W' H' σ τ → D.ct τ H'
def upS (K : PySem.W.Frag) (t : GS) : TS := fun D τ H => ∃ W h σ G, Pre K W H h ∧ Sg K W H σ τ ∧ t G σ h ∧ FinS K W H G D
def S (X : Cx) (st : Stmt) (t : GS) : Prop := PS X st (upS X.K t)
def Ss (X : Cx) (sts : List Stmt) (t : GS) : Prop := PSs X sts (upS X.K t)
theorem PS.weak {X : Cx} {e : Stmt} {t t' : TS} (h : PS X e t) (w : ∀ D τ H, t' D τ H → t D τ H) : PS X e t' := ⟨fun pins s σ H D I q => h.run pins s σ H D I (w _ _ _ q)⟩
theorem PSs.weak {X : Cx} {e : List Stmt} {t t' : TS} (h : PSs X e t) (w : ∀ D τ H, t' D τ H → t D τ H) : PSs X e t' := ⟨fun pins s σ H D I q => h.run pins s σ H D I (w _ _ _ q)⟩
theorem FinS.ext {K : PySem.W.Frag} {W W' : Wd} {H H' : Hp} {G : GD} {D : Ends} (f : FinS K W H G D) (x : ExS W W' H H') : FinS K W' H' G D :=
  ⟨fun σ h W2 H2 τ q p y g => f.nx σ h W2 H2 τ q p (x.trans y) g, fun p h W2 H2 v q pr y g => f.rt p h W2 H2 v q pr (x.trans y) g, fun σ h W2 H2 τ q p y g => f.bk σ h W2 H2 τ q p (x.trans y) g, fun σ h W2 H2 τ q p y g => f.ct σ h W2 H2 τ q p (x.trans y) g⟩
/-- the statement of the given line comes next -/
structure Ln (n : Nat) (A : Prop) : Prop where
  go : A
def gNext : GS := fun D σ h => D.nx σ h
def gSeq (n : Nat) (t u : GS) : GS := fun D σ h => t { D with nx := fun σ' h' => Ln n (u D σ' h') } σ h
def gBreak : GS := fun D σ h => D.bk σ h
def gCont : GS := fun D σ h => D.ct σ h
def gDrop (t : GT) : GS := fun D σ h => t σ h fun _ h1 => D.nx σ h1
def gRet (t : GT) : GS := fun D σ h => t σ h D.rt
def gRetN : GS := fun D _ h => D.rt (.d .non) h
def gIfS (c : GB) (t u : GS) : GS := fun D σ h => c σ h fun b h1 => Br b (t D σ h1) (u D σ h1)
section
variable {X : Cx} {st : Stmt} {rest a b : List Stmt} {t u : GS} {e c : Expr} {te : GT} {pos : Pos}
theorem ss_nil : Ss X [] gNext := PSs.weak pss_nil fun D τ H ⟨W, h, σ, G, p, g, q, f⟩ => f.nx σ h W H τ q p ExS.refl g
theorem ss_cons (n : Nat) (h1 : S X st t) (h2 : Ss X rest u) : Ss X (st :: rest) (gSeq n t u) := PSs.weak (pss_cons h1 h2) fun D τ H ⟨W, h, σ, G, p, g, q, f⟩ =>
  ⟨W, h, σ, _, p, g, q, ⟨fun σ2 hh W2 H2 τ2 q2 p2 x2 g2 => ⟨W2, hh, σ2, G, p2, g2, q2.go, f.ext x2⟩, f.rt, f.bk, f.ct⟩⟩
theorem ss_one (h1 : S X st t) : Ss X [st] t := PSs.weak (pss_one h1) fun _ _ _ q => q
theorem s_pass : S X (.Pass pos) gNext := PS.weak ps_pass fun D τ H ⟨W, h, σ, G, p, g, q, f⟩ => f.nx σ h W H τ q p ExS.refl g
theorem s_break : S X (.Break pos) gBreak := PS.weak ps_break fun D τ H ⟨W, h, σ, G, p, g, q, f⟩ => f.bk σ h W H τ q p ExS.refl g
theorem s_continue : S X (.Continue pos) gCont := PS.weak ps_continue fun D τ H ⟨W, h, σ, G, p, g, q, f⟩ => f.ct σ h W H τ q p ExS.refl g
theorem s_expr (he : E X e te) (hs : swapsWith e none pos.line X.env = pure false := by rfl) : S X (.Expr e pos) (gDrop te) := PS.weak (ps_expr he hs) fun D τ H ⟨W, h, σ, G, p, g, q, f⟩ =>
  ⟨W, h, σ, _, p, g, q, fun z h1 W1 H1 v q1 p1 x1 r1 => f.nx σ h1 W1 H1 τ q1 p1 x1.toExS (g.ext x1)⟩
theorem s_ret (he : E X e te) : S X (.Return (some e) pos) (gRet te) := PS.weak (ps_ret he) fun D τ H ⟨W, h, σ, G, p, g, q, f⟩ =>
  ⟨W, h, σ, _, p, g, q, fun z h1 W1 H1 v q1 p1 x1 r1 => f.rt z h1 W1 H1 v q1 p1 x1.toExS r1⟩
theorem s_retN : S X (.Return none pos) gRetN := PS.weak ps_retN fun D τ H ⟨W, h, σ, G, p, g, q, f⟩ => f.rt _ h W H _ q p ExS.refl (rd_non : RD X.K W.own W.rg H _ _)
theorem s_if {tc : GB} (hc : EB X c tc) (ha : Ss X a t) (hb : Ss X b u) : S X (.If c a b pos) (gIfS tc t u) := PS.weak (ps_if hc ha hb) fun D τ H ⟨W, h, σ, G, p, g, q, f⟩ => by
  refine ⟨W, h, σ, _, p, g, q, fun b h1 W1 H1 q1 p1 x1 => ?_⟩
  cases b with
  | true => exact (if_pos rfl).mpr ⟨W1, h1, σ, G, p1, g.ext x1, q1.t rfl, f.ext x1.toExS⟩
  | false => exact (if_neg (by simp)).mpr ⟨W1, h1, σ, G, p1, g.ext x1, q1.f rfl, f.ext x1.toExS⟩
end

/-! ### targets -/
abbrev GG := P → Sl → Hl → (Sl → Hl → Prop) → Prop
abbrev GGs := List D → Sl → Hl → (Sl → Hl → Prop) → Prop
def FinG (K : PySem.W.Frag) (W : Wd) (H : Hp) (post : Sl → Hl → Prop) (Q : L2.St → Hp → Prop) : Prop := ∀ σ h W' H' τ, post σ h → Pre K W' H' h → ExS W W' H H' → Sg K W' H' σ τ → Q τ H'
def upG (K : PySem.W.Frag) (t : GG) : TG := fun v τ H Q => ∃ W h σ p post, Pre K W H h ∧ Sg K W H σ τ ∧ RP K W H p v ∧ t p σ h post ∧ FinG K W H post Q
def upGs (K : PySem.W.Frag) (t : GGs) : TGs := fun vs τ H Q => ∃ W h σ xs post, Pre K W H h ∧ Sg K W H σ τ ∧ RDs K W.own W.rg H xs vs ∧ t xs σ h post ∧ FinG K W H post Q
def G (X : Cx) (tg : Expr) (t : GG) : Prop := PG X tg (upG X.K t)
def Gs (X : Cx) (ts : List Expr) (t : GGs) : Prop := PGs X ts (upGs X.K t)
theorem PG.weak {X : Cx} {e : Expr} {t t' : TG} (h : PG X e t) (w : ∀ v τ H Q, t' v τ H Q → t v τ H Q) : PG X e t' := ⟨fun pins s σ H v u Q I r q => h.run pins s σ H v u Q I r (w _ _ _ _ q)⟩
theorem PGs.weak {X : Cx} {e : List Expr} {t t' : TGs} (h : PGs X e t) (w : ∀ v τ H Q, t' v τ H Q → t v τ H Q) : PGs X e t' := ⟨fun pins s σ H v u Q I r q => h.run pins s σ H v u Q I r (w _ _ _ _ q)⟩
theorem PG.or {X : Cx} {e : Expr} {t t' : TG} (h : PG X e t) (h' : PG X e t') : PG X e (fun v τ H Q => t v τ H Q ∨ t' v τ H Q) := ⟨fun pins s σ H v u Q I r q => q.elim (h.run pins s σ H v u Q I r) (h'.run pins s σ H v u Q I r)⟩
theorem Sg.set {K : PySem.W.Frag} {W : Wd} {H : Hp} {σ : Sl} {τ : L2.St} {i : Nat} {p : P} {v : V} (g : Sg K W H σ τ) (r : RP K W H p v) : Sg K W H (σ.set i (some p)) (τ.set i (some v)) := by
  refine ⟨by rw [List.length_set, List.length_set, g.len], fun j q e => ?_⟩
  rw [List.getElem?_set] at e ⊢
  by_cases hj : i = j
  · subst hj
    rw [if_pos rfl] at e ⊢
    by_cases hl : i < σ.length
    · rw [if_pos hl] at e
      rw [if_pos (by rw [← g.len]; exact hl)]
      cases e
      exact ⟨v, rfl, r⟩
    · rw [if_neg hl] at e; cases e
  · rw [if_neg hj] at e ⊢
    exact g.val j q e
def gName (i : Nat) : GG := fun p σ h Q => setSlot σ i p fun σ' => Q σ' h
def gsNil : GGs := fun xs σ h Q => match xs with
  | [] => Q σ h
  | _ => False
def gsCons (t : GG) (r : GGs) : GGs := fun xs σ h Q => match xs with
  | x :: ys => t (.d x) σ h fun σ' h' => r ys σ' h' Q
  | [] => False
def gTupG (n : Nat) (r : GGs) : GG := fun p σ h Q => match vS h p with
  | some xs => xs.length = n ∧ r xs σ h Q
  | none => False
def gSub (to ti : GT) : GG := fun p σ h Q => match p with
  | .d y => to σ h fun o h1 => ti σ h1 fun i h2 => match o, i with
    | .ref k, .d (.int j) => match cellAt h2 k with
      | some (.lst xs) => Ix xs.length j fun m => setCell h2 k (.lst (xs.set m y)) fun h3 => Q σ h3
      | _ => False
    | _, _ => False
  | _ => False
section
variable {X : Cx} {pos : Pos}
theorem g_name {i : Nat} {x : Str} (hN : X.N.Nodup) (hi : X.N[i]? = some x := by rfl) (hx : Loc X.env.scope x := by first | exact .inl rfl | exact .inr rfl) (hf : X.fn x = true ∨ X.env.scope.names.lookup x = some .local := by first | exact .inl rfl | exact .inr rfl | assumption) : G X (.Name x pos) (gName i) :=
  PG.weak (pg_name hN hi hx hf) fun v τ H Q ⟨W, h, σ, p, post, pr, g, r, q, f⟩ => by
    unfold gName at q
    rw [setSlot_eq] at q
    exact f _ h W H _ q pr ExS.refl (g.set r)
theorem gs_nil : Gs X [] gsNil := PGs.weak pgs_nil fun v τ H Q ⟨W, h, σ, xs, post, pr, g, r, q, f⟩ => by
  unfold gsNil at q
  split at q
  · simp only [RDs] at r
    exact ⟨r, f _ h W H _ q pr ExS.refl g⟩
  · exact q.elim
theorem gs_cons {e : Expr} {es : List Expr} {t : GG} {u : GGs} (h1 : G X e t) (h2 : Gs X es u)
    (hs : (assignEach (e :: es) X.env).map (·.2) = assign e X.env :: (assignEach es X.env).map (·.2) := by rfl) : Gs X (e :: es) (gsCons t u) := PGs.weak (pgs_cons h1 h2 hs) fun v τ H Q ⟨W, h, σ, xs, post, pr, g, r, q, f⟩ => by
  unfold gsCons at q
  split at q
  · rename_i x ys
    simp only [RDs] at r
    obtain ⟨y, vs, rfl, r1, r2⟩ := r
    refine ⟨y, vs, rfl, W, h, σ, .d x, _, pr, g, r1, q, fun σ2 h2 W2 H2 τ2 q2 p2 x2 g2 => ?_⟩
    exact ⟨W2, h2, σ2, ys, post, p2, g2, RDs.ext x2 _ _ r2, q2, fun σ3 h3 W3 H3 τ3 q3 p3 x3 g3 => f σ3 h3 W3 H3 τ3 q3 p3 (x2.trans x3) g3⟩
  · exact q.elim
theorem g_tup {es : List Expr} {k : Nat} {t : GGs} {n : Nat} (hc : X.calm = true) (h : Gs X es t)
    (hn : (assignEach es X.env).length = n := by rfl) (hst : (assignEach es X.env).findIdx? (·.1) = none := by rfl) : G X (.Tuple es k pos) (gTupG n t) :=
  PG.weak (PG.or (pg_tup hc h hn hst) (pg_lst hc h hn hst)) fun v τ H Q ⟨W, h, σ, p, post, pr, g, r, q, f⟩ => by
    unfold gTupG at q
    split at q
    · rename_i xs e1
      obtain ⟨a, ys, rfl, q2, s⟩ := vS_ok pr e1 r
      have hl : ys.length = n := by rw [← s.len]; exact q.1
      rcases q2 with q2 | q2
      · exact .inr ⟨a, ys, rfl, q2, hl, W, h, σ, xs, post, pr, g, s, q.2, f⟩
      · exact .inl ⟨a, ys, rfl, q2, hl, W, h, σ, xs, post, pr, g, s, q.2, f⟩
    · exact q.elim
theorem g_sub {o i : Expr} {to ti : GT} (ho : E X o to) (hi : E X i ti)
    (ha : ∀ v, assign (.Subscript o i pos) X.env v = (do
      let ov ← holding [v] (eval o X.env)
      let iv ← holding [v, ov] (eval i X.env)
      standAt pos
      holding [v, ov, iv] (setItem ov iv v)
      release [v, ov, iv] []) := by intro _; rfl) : G X (.Subscript o i pos) (gSub to ti) :=
  PG.weak (pg_sub ho hi set_list ha) fun v τ H Q ⟨W, h, σ, p, post, pr, g, r, q, f⟩ => by
    unfold gSub at q
    split at q
    · rename_i y
      refine ⟨W, h, σ, _, pr, g, q, fun z h1 W1 H1 v1 q1 p1 x1 r1 => ?_⟩
      refine ⟨W1, h1, σ, _, p1, g.ext x1, q1, fun w h2 W2 H2 v2 q2 p2 x2 r2 => ?_⟩
      split at q2
      · split at q2
        · rename_i k j _ xs e1
          obtain ⟨m, em, q3⟩ := q2
          rw [setCell_eq] at q3
          obtain ⟨a, ys, rfl, h5, h6, h7⟩ := cell_ok p2 e1 (RP.ext x2 _ _ r1)
          have x12 := x1.trans x2
          have ry : RD X.K W2.own W2.rg H2 y v := RD.ext x12.toExS _ _ r
          refine ⟨a, ys, j, m, rfl, int_of r2, h6, by rw [← h7.len]; exact em, ?_⟩
          have x3 : Ext W2 W2 H2 (upd H2 a (.lst (ys.set m v))) := Ext.set p2 h5
          exact f _ _ W2 _ _ q3 (p2.set h5 (RDs.set ry m h7)) (x12.trans x3).toExS (((g.ext x1).ext x2).ext x3)
        · exact q2.elim
      · exact q2.elim
    · exact q.elim
def gAsg (te : GT) (g : GG) : GS := fun D σ h => te σ h fun x h1 => g x σ h1 D.nx
theorem asg_up {te : GT} {g : GG} {D : Ends} {τ : L2.St} {H : Hp} (q : upS X.K (gAsg te g) D τ H) : tAsg (up X.K te) (upG X.K g) D τ H := by
  obtain ⟨W, h, σ, Gd, p, gg, q, f⟩ := q
  refine ⟨W, h, σ, _, p, gg, q, fun z h1 W1 H1 v q1 p1 x1 r1 => ?_⟩
  exact ⟨W1, h1, σ, z, _, p1, gg.ext x1, r1, q1, fun σ2 h2 W2 H2 τ2 q2 p2 x2 g2 => f.nx σ2 h2 W2 H2 τ2 q2 p2 (x1.toExS.trans x2) g2⟩
theorem s_asg {tg e : Expr} {te : GT} {g : GG} (he : E X e te) (hg : G X tg g) (hs : swapsWithSole [tg] e pos.line X.env = pure false := by rfl) (hw : swappedStores [tg] e X.env = pure none := by rfl)
    (h1 : (assignEach [tg] X.env).map (·.2) = [assign tg X.env] := by rfl) : S X (.Assign [tg] e pos) (gAsg te g) := PS.weak (ps_asg he hg hs hw h1) fun _ _ _ => asg_up
theorem s_set {i : Nat} {x : Str} {e : Expr} {te : GT} {pos' : Pos} (hN : X.N.Nodup) (he : E X e te) (hi : X.N[i]? = some x := by rfl) (hx : Loc X.env.scope x := by first | exact .inl rfl | exact .inr rfl) (hs : swapsWith e (some (.Name x pos')) pos.line X.env = pure false := by rfl) (hf : X.fn x = true ∨ X.env.scope.names.lookup x = some .local := by first | exact .inl rfl | exact .inr rfl | assumption) :
    S X (.Assign [.Name x pos'] e pos) (gAsg te (gName i)) := PS.weak (ps_set hN hi hx he hs hf) fun D τ H q => by
      obtain ⟨W, h, σ, Gd, p, gg, q, f⟩ := q
      refine ⟨W, h, σ, _, p, gg, q, fun z h1 W1 H1 v q1 p1 x1 r1 => ?_⟩
      unfold gName at q1
      rw [setSlot_eq] at q1
      exact f.nx _ h1 W1 H1 _ q1 p1 x1.toExS ((gg.ext x1).set r1)
/-- a, b = x, y -/
def gPar (i j : Nat) (ta : GA) : GS := fun D σ h => ta σ h fun ps h1 => match ps with
  | [v, w] => setSlot σ i v fun σ' => setSlot σ' j w fun σ2 => D.nx σ2 h1
  | _ => False
theorem s_par {i j : Nat} {x y : Str} {a b : Expr} {ta : GA} {px py pt : Pos} {kt k2 : Nat} {pt2 : Pos} (hc : X.calm = true) (hN : X.N.Nodup) (hij : i ≠ j) (ha : EA X [a, b] ta) (hi : X.N[i]? = some x := by rfl) (hj : X.N[j]? = some y := by rfl)
    (hx : X.env.scope.names.lookup x = some .local := by rfl) (hy : X.env.scope.names.lookup y = some .local := by rfl)
    (hw : swappedStores [.Tuple [.Name x px, .Name y py] kt pt] (.Tuple [a, b] k2 pt2) X.env = pure (some [x, y]) := by rfl)
    (hs : swapsWithSole [.Tuple [.Name x px, .Name y py] kt pt] (.Tuple [a, b] k2 pt2) pos.line X.env = pure false := by rfl) :
    S X (.Assign [.Tuple [.Name x px, .Name y py] kt pt] (.Tuple [a, b] k2 pt2) pos) (gPar i j ta) := PS.weak (ps_par hc hN hi hj hij hx hy ha hw hs) fun D τ H q => by
      obtain ⟨W, h, σ, Gd, p, gg, q, f⟩ := q
      refine ⟨W, h, σ, _, p, gg, q, fun ps h1 W1 H1 vs q1 p1 x1 r1 => ?_⟩
      split at q1
      · obtain ⟨v, w, rfl, r2, r3⟩ := r1.two
        rw [setSlot_eq, setSlot_eq] at q1
        exact ⟨v, w, rfl, f.nx _ h1 W1 H1 _ q1 p1 x1.toExS (((gg.ext x1).set r2).set r3)⟩
      · exact q1.elim
def gAug (i : Nat) (te : GT) (o : G2) : GS := fun D σ h => match slotAt σ i with
  | some x => te σ h fun y h1 => o x y h1 fun z h2 => setSlot σ i z fun σ' => D.nx σ' h2
  | none => False
theorem s_aug {i : Nat} {x : Str} {e : Expr} {te : GT} {op : Operator} {o : G2} {pos' : Pos} (hN : X.N.Nodup) (he : E X e te) (ho : OpR X (inplaceOp op) (up2 X.K o)) (hi : X.N[i]? = some x := by rfl) (hx : Loc X.env.scope x := by first | exact .inl rfl | exact .inr rfl) (hf : X.fn x = true ∨ X.env.scope.names.lookup x = some .local := by first | exact .inl rfl | exact .inr rfl | assumption) :
    S X (.AugAssign (.Name x pos') op e pos) (gAug i te o) := PS.weak (ps_aug hN hi hx he ho hf) fun D τ H q => by
      obtain ⟨W, h, σ, Gd, p, gg, q, f⟩ := q
      unfold gAug at q
      split at q
      · rename_i z ez
        obtain ⟨v, h1, h2⟩ := gg.val i z (slotAt_eq _ _ _ ez)
        refine ⟨v, h1, W, h, σ, _, p, gg, q, fun y h3 W1 H1 w q1 p1 x1 r1 => ?_⟩
        refine ⟨W1, h3, z, y, _, p1, RP.ext x1 _ _ h2, r1, q1, fun u h4 W2 H2 v2 q2 p2 x2 r2 => ?_⟩
        rw [setSlot_eq] at q2
        exact f.nx _ h4 W2 H2 _ q2 p2 (x1.trans x2).toExS (((gg.ext x1).ext x2).set r2)
      · exact q.elim
end
end Sc

set_option Elab.async false
set_option linter.all false
set_option maxRecDepth 100000
/-! Sc6: loops, comprehensions, what is given up, calls, defs. -/
namespace Sc
open PySem PySem.Spec PyProof.Rows L2

/-! ### cutting back -/
def cutS1 (n : Nat) : Sl → (Sl → Prop) → Prop
  | [], k => k []
  | some (.ref j) :: r, k => match Nat.blt j n with
    | true => cutS1 n r fun q => k (some (.ref j) :: q)
    | false => cutS1 n r fun q => k (none :: q)
  | some (.d x) :: r, k => cutS1 n r fun q => k (some (.d x) :: q)
  | none :: r, k => cutS1 n r fun q => k (none :: q)
def cutP (n : Nat) : Option P → Option P
  | some (.ref j) => match Nat.blt j n with
    | true => some (.ref j)
    | false => none
  | o => o
theorem cutS1_eq (n : Nat) : ∀ (σ : Sl) (k : Sl → Prop), cutS1 n σ k = k (σ.map (cutP n))
  | [], k => rfl
  | some (.ref j) :: r, k => by
    simp only [cutS1, List.map_cons, cutP]
    cases h : Nat.blt j n <;> simp only <;> rw [cutS1_eq n r]
  | some (.d x) :: r, k => by
    simp only [cutS1, List.map_cons, cutP]
    rw [cutS1_eq n r]
  | none :: r, k => by
    simp only [cutS1, List.map_cons, cutP]
    rw [cutS1_eq n r]
def takeH : Nat → Hl → (Hl → Prop) → Prop
  | 0, _, k => k []
  | _ + 1, [], k => k []
  | n + 1, c :: r, k => takeH n r fun q => k (c :: q)
theorem takeH_eq : ∀ (n : Nat) (h : Hl) (k : Hl → Prop), takeH n h k = k (h.take n)
  | 0, _, k => by simp [takeH]
  | _ + 1, [], k => by simp [takeH]
  | n + 1, c :: r, k => by simp only [takeH, takeH_eq n r, List.take_succ_cons]
def lenH : Hl → (Nat → Prop) → Prop
  | [], k => k 0
  | _ :: r, k => lenH r fun n => k (n + 1)
theorem lenH_eq : ∀ (h : Hl) (k : Nat → Prop), lenH h k = k h.length
  | [], k => rfl
  | _ :: r, k => by simp only [lenH, lenH_eq r, List.length_cons]
def kill1 : Sl → Nat → (Sl → Prop) → Prop
  | [], _, k => k []
  | _ :: r, 0, k => k (none :: r)
  | a :: r, n + 1, k => kill1 r n fun q => k (a :: q)
theorem kill1_eq : ∀ (σ : Sl) (n : Nat) (k : Sl → Prop), kill1 σ n k = k (σ.set n none)
  | [], _, k => by simp [kill1]
  | _ :: r, 0, k => by simp [kill1]
  | a :: r, n + 1, k => by simp [kill1, kill1_eq r n]
def killS : List Nat → Sl → (Sl → Prop) → Prop
  | [], σ, k => k σ
  | i :: is, σ, k => kill1 σ i fun q => killS is q k
def trunc (n : Nat) (σ : Sl) (h : Hl) (k : Sl → Hl → Prop) : Prop := cutS1 n σ fun q => takeH n h fun r => k q r
section
variable {K : PySem.W.Frag} {W : Wd} {H : Hp} {h : Hl} {σ : Sl} {τ : L2.St}
theorem Sg.none (g : Sg K W H σ τ) (i : Nat) : Sg K W H (σ.set i none) τ := by
  refine ⟨by rw [List.length_set, g.len], fun j p e => g.val j p ?_⟩
  rw [List.getElem?_set] at e
  by_cases hj : i = j
  · rw [if_pos hj] at e
    by_cases hl : i < σ.length
    · rw [if_pos hl] at e; cases e
    · rw [if_neg hl] at e; cases e
  · rw [if_neg hj] at e
    exact e
theorem killS_ok : ∀ {is : List Nat} {σ : Sl} {k : Sl → Prop}, killS is σ k → Sg K W H σ τ → ∃ σ', k σ' ∧ Sg K W H σ' τ
  | [], σ, k, q, g => ⟨σ, q, g⟩
  | i :: is, σ, k, q, g => by
    unfold killS at q
    rw [kill1_eq] at q
    exact killS_ok q (g.none i)
def Wd.cut (W : Wd) (n : Nat) : Wd := ⟨W.al.take n, W.rg, W.fo⟩
theorem Wd.cut_own {n : Nat} {a : Addr} (o : (W.cut n).own a) : W.own a := by
  rcases o with ⟨k, e⟩ | q
  · have e' : (W.al.take n)[k]? = some (some a) := e
    rw [List.getElem?_take] at e'
    split at e'
    · exact .inl ⟨k, e'⟩
    · cases e'
  · exact .inr q
theorem ExS.cut {n : Nat} : ExS W (W.cut n) H H := ⟨fun _ _ e _ => e, fun _ _ e _ => e, fun a o => .inl (Wd.cut_own o), fun _ q => q, rfl⟩
theorem cut_al {n k : Nat} {o : Option Addr} (e : (W.cut n).al[k]? = some o) : W.al[k]? = some o := by
  have e' : (W.al.take n)[k]? = some o := e
  rw [List.getElem?_take] at e'
  split at e'
  · exact e'
  · cases e'
theorem Pre.cut (p : Pre K W H h) (n : Nat) : Pre K (W.cut n) H (h.take n) := by
  refine ⟨?_, fun k c oa h1 h2 => ?_, p.rng, fun i j a h1 h2 => p.nd1 i j a (cut_al h1) (cut_al h2), fun i a h1 => p.nd2 i a (cut_al h1), p.nd3, p.fo, fun i a h1 => p.nd4 i a (cut_al h1), p.nd5⟩
  · show (W.al.take n).length = _
    rw [List.length_take, List.length_take, p.len]
  · have h3 : h[k]? = some c := by
      rw [List.getElem?_take] at h1
      split at h1
      · exact h1
      · cases h1
    exact RC.ext ExS.cut (fun b ys _ q => q) (p.cel k c oa h3 (cut_al h2))
theorem Sg.cut (g : Sg K W H σ τ) (n : Nat) : Sg K (W.cut n) H (σ.map (cutP n)) τ := by
  refine ⟨by rw [List.length_map, g.len], fun i p e => ?_⟩
  rw [List.getElem?_map] at e
  cases h1 : σ[i]? with
  | none => rw [h1] at e; cases e
  | some o =>
    rw [h1] at e
    simp only [Option.map_some, Option.some.injEq] at e
    cases o with
    | none => cases e
    | some q =>
      cases q with
      | d x =>
        simp only [cutP, Option.some.injEq] at e
        subst e
        obtain ⟨v, h2, h3⟩ := g.val i _ h1
        exact ⟨v, h2, RD.ext ExS.cut _ _ h3⟩
      | ref j =>
        simp only [cutP] at e
        split at e
        · rename_i hb
          cases e
          obtain ⟨v, h2, a, h3, h4⟩ := g.val i _ h1
          refine ⟨v, h2, a, h3, ?_⟩
          show (W.al.take n)[j]? = _
          rw [List.getElem?_take, if_pos (by simpa using hb)]
          exact h4
        · cases e
theorem trunc_ok {n : Nat} {k : Sl → Hl → Prop} (q : trunc n σ h k) (p : Pre K W H h) (g : Sg K W H σ τ) : ∃ σ' h', k σ' h' ∧ Pre K (W.cut n) H h' ∧ Sg K (W.cut n) H σ' τ ∧ ExS W (W.cut n) H H := by
  unfold trunc at q
  rw [cutS1_eq, takeH_eq] at q
  exact ⟨_, _, q, p.cut n, g.cut n, ExS.cut⟩
end
/-- the end of a turn: what is not needed is forgotten -/
def turnEnd (ks : List Nat) (n : Nat) (k : Sl → Hl → Prop) : Sl → Hl → Prop := fun σ h => killS ks σ fun q => trunc n q h k
theorem turnEnd_ok {K : PySem.W.Frag} {W : Wd} {H : Hp} {h : Hl} {σ : Sl} {τ : L2.St} {ks : List Nat} {n : Nat} {k : Sl → Hl → Prop} (q : turnEnd ks n k σ h) (p : Pre K W H h) (g : Sg K W H σ τ) :
    ∃ σ' h', k σ' h' ∧ Pre K (W.cut n) H h' ∧ Sg K (W.cut n) H σ' τ ∧ ExS W (W.cut n) H H := by
  obtain ⟨σ1, q, g⟩ := killS_ok q g
  exact trunc_ok q p g

/-! ### while -/
structure WhileP (ks : List Nat) (n : Nat) (c : GB) (b : GS) (D : GD) (σ : Sl) (h : Hl) : Prop where
  ex : ∃ Pv : Nat → Sl → Hl → Prop, (∃ m, Pv m σ h) ∧ ∀ m σ h, Pv m σ h → c σ h fun t h1 => Br t
    (b { nx := turnEnd ks n fun σ' h' => ∃ m', m' < m ∧ Pv m' σ' h', ct := turnEnd ks n fun σ' h' => ∃ m', m' < m ∧ Pv m' σ' h', bk := D.nx, rt := D.rt } σ h1) (D.nx σ h1)
def gWhile (ks : List Nat) (c : GB) (b : GS) : GS := fun D σ h => killS ks σ fun q => lenH h fun n => WhileP ks n c b D q h
theorem s_while {X : Cx} {c : Expr} {body : List Stmt} {tc : GB} {tb : GS} {pos : Pos} (ks : List Nat) (hp : PassesOwn (model X.prog X.w) X.A X.env X.xe) (hc : EB X c tc) (hb : Ss X body tb) : S X (.While c body [] pos) (gWhile ks tc tb) :=
  PS.weak (ps_while hp hc hb) fun D τ H ⟨W, h, σ, Gd, p, g, q, f⟩ => by
    obtain ⟨σ0, q, g⟩ := killS_ok q g
    rw [lenH_eq] at q
    obtain ⟨Pv, ⟨m0, q0⟩, qs⟩ := q.ex
    refine ⟨fun m τ' H' => ∃ W' h' σ', Pre X.K W' H' h' ∧ Sg X.K W' H' σ' τ' ∧ ExS W W' H H' ∧ Pv m σ' h', ⟨m0, W, h, σ0, p, g, ExS.refl, q0⟩, ?_⟩
    rintro m τ1 H1 ⟨W1, h1, σ1, p1, g1, x1, q1⟩
    refine ⟨W1, h1, σ1, _, p1, g1, qs m σ1 h1 q1, fun t h2 W2 H2 q2 p2 x2 => ?_⟩
    cases t with
    | false => exact (if_neg (by simp)).mpr (f.nx _ h2 W2 H2 τ1 (q2.f rfl) p2 (x1.trans x2.toExS) (g1.ext x2))
    | true =>
      refine (if_pos rfl).mpr ⟨fun τ' H' => ∃ m', m' < m ∧ ∃ W' h' σ', Pre X.K W' H' h' ∧ Sg X.K W' H' σ' τ' ∧ ExS W W' H H' ∧ Pv m' σ' h', fun τ' H' z => z, ?_⟩
      refine ⟨W2, h2, σ1, _, p2, g1.ext x2, q2.t rfl, ⟨fun σ3 h3 W3 H3 τ3 q3 p3 x3 g3 => ?_, fun z h3 W3 H3 v q3 p3 x3 r3 => f.rt z h3 W3 H3 v q3 p3 ((x1.trans x2.toExS).trans x3) r3, fun σ3 h3 W3 H3 τ3 q3 p3 x3 g3 => f.nx _ h3 W3 H3 τ3 q3 p3 ((x1.trans x2.toExS).trans x3) g3, fun σ3 h3 W3 H3 τ3 q3 p3 x3 g3 => ?_⟩⟩
      all_goals
        obtain ⟨σ4, h4, ⟨m', hm, q4⟩, p4, g4, x4⟩ := turnEnd_ok q3 p3 g3
        exact ⟨m', hm, _, h4, σ4, p4, g4, ((x1.trans x2.toExS).trans x3).trans x4, q4⟩

/-! ### what is walked -/
structure SrcOk (K : PySem.W.Frag) (W0 : Wd) (H0 : Hp) (J : It) (its : List D) : Prop where
  go : ∀ W H h, Pre K W H h → ExS W0 W H0 H → ∀ i, i < its.length → J.go i H
  stop : ∀ W H h, Pre K W H h → ExS W0 W H0 H → J.stop its.length H
  yld : ∀ W H h, Pre K W H h → ExS W0 W H0 H → ∀ i v H', J.yld i H v H' → i < its.length → ∃ x, its[i]? = some x ∧ Pre K W H' h ∧ Ext W W H H' ∧ RD K W.own W.rg H' x v
abbrev GI := Sl → Hl → (List D → Hl → Prop) → Prop
def upI (K : PySem.W.Frag) (t : GI) : TI := fun τ H R => ∃ W h σ post, Pre K W H h ∧ Sg K W H σ τ ∧ t σ h post ∧ ∀ its h' W' H' J, post its h' → Pre K W' H' h' → Ext W W' H H' → SrcOk K W' H' J its → R J H'
def I (X : Cx) (tg e : Expr) (t : GI) : Prop := PI X tg e (upI X.K t)
theorem PI.weak {X : Cx} {tg e : Expr} {t t' : TI} (h : PI X tg e t) (w : ∀ τ H Q, t' τ H Q → t τ H Q) : PI X tg e t' := ⟨fun pins s σ H Q I q => h.run pins s σ H Q I (w _ _ _ q)⟩
/-- by the value -/
def iVal (K : PySem.W.Frag) (te : TE) : TI := fun σ H R => te σ H fun x H1 =>
  (∃ a, x = .ref a ∧ (∃ xs, SqL K H1 a xs) ∧ R (Itl K a) H1) ∨ (∃ a, x = .ref a ∧ (∃ xs, SqT K H1 a xs) ∧ R (Itt K a) H1) ∨ ∃ z, x = .str z ∧ R (Its z) H1
theorem pi_val {X : Cx} {tg e : Expr} {te : TE} (he : PE X e te) : PI X tg e (iVal X.K te) := by
  refine ⟨fun pins s σ H R J h => ?_⟩
  refine thn (he.run pins s σ H _ J h) fun v s1 ⟨x, H1, J1, r1, q1⟩ => ?_
  rcases q1 with ⟨a, rfl, ⟨xs, hq⟩, q⟩ | ⟨a, rfl, ⟨xs, hq⟩, q⟩ | ⟨z, rfl, q⟩
  · cases r1
    obtain ⟨us, rv, pl, hz⟩ := J1.list hq
    exact wpAny_pyIter_list pl.isList (pi_one (tk := s1.toks) J1 _ (turn_list a _) ⟨_, Heap.get?_push_size _ rfl, rfl, rfl⟩ q)
  · cases r1
    obtain ⟨us, rv, pl, hz⟩ := J1.tuple hq
    exact wpAny_pyIter_tuple (show s1.heap.IsTuple a us.toArray from pl) (pi_one (tk := s1.toks) J1 _ (turn_tuple a _) ⟨_, Heap.get?_push_size _ rfl, rfl, rfl⟩ q)
  · obtain ⟨t, rfl⟩ := r1
    cases ha : z.cps.all (· < 128)
    · exact wpAny_pyIter_wide ha (pi_one (tk := s1.toks) J1 _ (turn_str _ z t "str_iterator" (.inr rfl)) ⟨_, Heap.get?_push_size _ rfl, rfl, rfl⟩ q)
    · exact wpAny_pyIter_ascii ha (pi_one (tk := s1.toks) J1 _ (turn_str _ z t "str_ascii_iterator" (.inl rfl)) ⟨_, Heap.get?_push_size _ rfl, rfl, rfl⟩ q)
section
variable {K : PySem.W.Frag} {W : Wd} {H : Hp}
theorem src_seqL {a : Addr} {its : List D} {ys : List V} (st : ∀ W' H', ExS W W' H H' → SqL K H' a ys) (r : RDs K W.own W.rg H its ys) : SrcOk K W H (Itl K a) its where
  go W' H' h p x i hi := ⟨ys, ys[i]'(by rw [← r.len]; exact hi), st W' H' x, List.getElem?_eq_getElem _⟩
  stop W' H' h p x := ⟨ys, st W' H' x, by rw [r.len]; exact Nat.le_refl _⟩
  yld W' H' h p x i v H2 q hi := by
    obtain ⟨rfl, q⟩ := q
    obtain ⟨z, e1, e2⟩ := (RDs.ext x _ _ r).get' (q ys (st W' H2 x))
    exact ⟨z, e1, p, Ext.refl, e2⟩
theorem src_seqT {a : Addr} {its : List D} {ys : List V} (st : ∀ W' H', ExS W W' H H' → SqT K H' a ys) (r : RDs K W.own W.rg H its ys) : SrcOk K W H (Itt K a) its where
  go W' H' h p x i hi := ⟨ys, ys[i]'(by rw [← r.len]; exact hi), st W' H' x, List.getElem?_eq_getElem _⟩
  stop W' H' h p x := ⟨ys, st W' H' x, by rw [r.len]; exact Nat.le_refl _⟩
  yld W' H' h p x i v H2 q hi := by
    obtain ⟨rfl, q⟩ := q
    obtain ⟨z, e1, e2⟩ := (RDs.ext x _ _ r).get' (q ys (st W' H2 x))
    exact ⟨z, e1, p, Ext.refl, e2⟩
def signsD (z : Str) : List D := z.cps.toList.map fun c => .str ⟨#[c]⟩
theorem src_str (z : Str) : SrcOk K W H (Its z) (signsD z) where
  go W' H' h p x i hi := by
    show i < z.cps.size
    simpa [signsD] using hi
  stop W' H' h p x := by
    show z.cps.size ≤ _
    simp [signsD]
  yld W' H' h p x i v H2 q hi := by
    obtain ⟨rfl, c, e1, rfl⟩ := q
    refine ⟨.str ⟨#[c]⟩, ?_, p, Ext.refl, rd_str⟩
    unfold signsD
    rw [List.getElem?_map, Array.getElem?_toList, e1]
    rfl
def rangeD (lo : Int) (n : Nat) : List D := (List.range n).map fun i => .int (lo + (i : Nat))
theorem rangeD_len (lo : Int) (n : Nat) : (rangeD lo n).length = n := by simp [rangeD]
theorem rangeD_get {lo : Int} {n i : Nat} (h : i < n) : (rangeD lo n)[i]? = some (.int (lo + i)) := by
  unfold rangeD
  rw [List.getElem?_map, List.getElem?_range h]
  rfl
theorem src_range (lo : Int) (n : Nat) : SrcOk K W H (Itr lo n) (rangeD lo n) where
  go W' H' h p x i hi := by
    rw [rangeD_len] at hi
    exact hi
  stop W' H' h p x := by
    rw [rangeD_len]
    exact Nat.le_refl n
  yld W' H' h p x i v H2 q hi := by
    obtain ⟨rfl, rfl⟩ := q
    rw [rangeD_len] at hi
    exact ⟨_, rangeD_get hi, p, Ext.refl, rd_int⟩
def rangeC (lo c : Int) (n : Nat) : List D := (List.range n).map fun i => .int (lo + (i : Nat) * c)
theorem src_rangeC (lo c : Int) (n : Nat) : SrcOk K W H (Itc lo c n) (rangeC lo c n) where
  go W' H' h p x i hi := by
    have : i < n := by simpa [rangeC] using hi
    exact this
  stop W' H' h p x := by
    show n ≤ _
    simp [rangeC]
  yld W' H' h p x i v H2 q hi := by
    obtain ⟨rfl, rfl⟩ := q
    have hi' : i < n := by simpa [rangeC] using hi
    refine ⟨.int (lo + (i : Nat) * c), ?_, p, Ext.refl, rd_int⟩
    unfold rangeC
    rw [List.getElem?_map, List.getElem?_range hi']
    rfl
end
/-- the items of a value: a frozen list, a tuple, a text -/
def itsOf (h : Hl) : P → Option (List D)
  | .d (.lst xs) => some xs
  | .d (.tup xs) => some xs
  | .d (.klst xs) => some xs
  | .d (.str z) => some (signsD z)
  | _ => none
def gSrc (t : GT) : GI := fun σ h Q => t σ h fun x h1 => match itsOf h1 x with
  | some xs => Q xs h1
  | none => False
theorem QL.st {K : PySem.W.Frag} {W W' : Wd} {H H' : Hp} {a : Addr} {ys : List V} (q : QL W.own H a ys) (x : ExS W W' H H') : SqL K H' a ys := SqL.of (x.keep _ _ q.1 q.2)
theorem QK.st {K : PySem.W.Frag} {W W' : Wd} {H H' : Hp} {a : Addr} {ys : List V} (q : QK K W.own H a ys) (x : ExS W W' H H') : SqL K H' a ys := q.elim (fun z => .inl (Rd.keep x.tr z.1 z.2).1) .inr
theorem QT.st {K : PySem.W.Frag} {W W' : Wd} {H H' : Hp} {a : Addr} {ys : List V} (q : QT K W.own H a ys) (x : ExS W W' H H') : SqT K H' a ys := q.elim (fun z => .inl (Rd.keep x.tr z.1 z.2).1) .inr
section
variable {X : Cx} {tg e : Expr} {t : GT} {pos p0 : Pos}
theorem i_val (he : E X e t) : I X tg e (gSrc t) := PI.weak (pi_val he) fun τ H R ⟨W, h, σ, post, p, g, q, f⟩ => by
  refine ⟨W, h, σ, _, p, g, q, fun x h1 W1 H1 v q1 p1 x1 r1 => ?_⟩
  cases x with
  | ref k => exact q1.elim
  | d x =>
    cases x with
    | lst xs =>
      simp only [RP, RD] at r1
      obtain ⟨a, ys, rfl, q2, s⟩ := r1
      exact .inl ⟨a, rfl, ⟨ys, q2.sq⟩, f xs h1 W1 H1 _ q1 p1 x1 (src_seqL (fun _ _ => q2.st) s)⟩
    | klst xs =>
      simp only [RP, RD] at r1
      obtain ⟨a, ys, rfl, q2, s⟩ := r1
      exact .inl ⟨a, rfl, ⟨ys, q2.sq⟩, f xs h1 W1 H1 _ q1 p1 x1 (src_seqL (fun _ _ => q2.st) s)⟩
    | tup xs =>
      simp only [RP, RD] at r1
      obtain ⟨a, ys, rfl, q2, s⟩ := r1
      exact .inr (.inl ⟨a, rfl, ⟨ys, q2.sq⟩, f xs h1 W1 H1 _ q1 p1 x1 (src_seqT (fun _ _ => q2.st) s)⟩)
    | str z => exact .inr (.inr ⟨z, str_of r1, f _ h1 W1 H1 _ q1 p1 x1 (src_str z)⟩)
    | _ => exact q1.elim
def RgOk (i : Int) : Prop := -(2 ^ 62) ≤ i ∧ i < 2 ^ 62
def gRng1 (t : GA) : GI := fun σ h Q => t σ h fun ps h1 => match ps with
  | [.d (.int j)] => RgOk j ∧ Q (rangeD 0 j.toNat) h1
  | _ => False
def gRng2 (t : GA) : GI := fun σ h Q => t σ h fun ps h1 => match ps with
  | [.d (.int i), .d (.int j)] => (RgOk i ∧ RgOk j) ∧ Q (rangeD i (j - i).toNat) h1
  | _ => False
theorem i_rng1 {a : Expr} {ta : GA} (hm : X.mg "range" = none) (ha : EA X [a] ta) (hg : Gl X "range" := by rfl) (hs : starEach [a] X.env = [(false, eval a X.env)] := by rfl) : I X tg (.Call (.Name "range" p0) [a] [] pos) (gRng1 ta) :=
  PI.weak (pi_range1 hg hm ha hs) fun τ H R ⟨W, h, σ, post, p, g, q, f⟩ => by
    refine ⟨W, h, σ, _, p, g, q, fun ps h1 W1 H1 vs q1 p1 x1 rr => ?_⟩
    split at q1
    · obtain ⟨v, rfl, r1⟩ := rr.one
      rw [int_of r1]
      exact ⟨_, rfl, q1.1.1, q1.1.2, f _ h1 W1 H1 _ q1.2 p1 x1 (src_range 0 _)⟩
    · exact q1.elim
theorem i_rng2 {a b : Expr} {ta : GA} (hm : X.mg "range" = none) (ha : EA X [a, b] ta) (hg : Gl X "range" := by rfl) (hs : starEach [a, b] X.env = [(false, eval a X.env), (false, eval b X.env)] := by rfl) (hs2 : starEach [b] X.env = [(false, eval b X.env)] := by rfl) :
    I X tg (.Call (.Name "range" p0) [a, b] [] pos) (gRng2 ta) :=
  PI.weak (pi_range2 hg hm ha hs hs2) fun τ H R ⟨W, h, σ, post, p, g, q, f⟩ => by
    refine ⟨W, h, σ, _, p, g, q, fun ps h1 W1 H1 vs q1 p1 x1 rr => ?_⟩
    split at q1
    · obtain ⟨v, w, rfl, r1, r2⟩ := rr.two
      rw [int_of r1, int_of r2]
      exact ⟨_, _, rfl, ⟨q1.1.1.1, q1.1.1.2, q1.1.2.1, q1.1.2.2⟩, f _ h1 W1 H1 _ q1.2 p1 x1 (src_range _ _)⟩
    · exact q1.elim
def enumD (xs : List D) : List D := (List.range xs.length).map fun i => .tup [.int (i : Nat), xs.getD i .non]
def gEnum (t : GA) : GI := fun σ h Q => t σ h fun ps h1 => match ps with
  | [.d (.lst xs)] => Q (enumD xs) h1
  | [.d (.klst xs)] => Q (enumD xs) h1
  | _ => False
theorem src_enum {K : PySem.W.Frag} {W : Wd} {H : Hp} {a : Addr} {its : List D} {ys : List V} (st : ∀ W' H', ExS W W' H H' → SqL K H' a ys) (r : RDs K W.own W.rg H its ys) : SrcOk K W H (Ite K a) (enumD its) where
  go W' H' h p x i hi := by
    have hi' : i < its.length := by simpa [enumD] using hi
    exact ⟨ys, ys[i]'(by rw [← r.len]; exact hi'), st W' H' x, List.getElem?_eq_getElem _⟩
  stop W' H' h p x := ⟨ys, st W' H' x, by simp [enumD, r.len]⟩
  yld W' H' h p x i v H2 q hi := by
    have hi' : i < its.length := by simpa [enumD] using hi
    obtain ⟨T, y, rfl, nT, rfl, q⟩ := q
    obtain ⟨z, e1, e2⟩ := (RDs.ext x _ _ r).get' (q ys (st W' H' x))
    refine ⟨.tup [.int (i : Nat), z], ?_, p.laid nT, Ext.laid p nT, new_tup p (RDs.cons rd_int (RDs.one e2)) nT⟩
    unfold enumD
    rw [List.getElem?_map, List.getElem?_range hi']
    simp [List.getD, e1]
theorem i_enum {a : Expr} {ta : GA} {elts : List Expr} {kk : Nat} {tpos : Pos} (hm : X.mg "enumerate" = none) (ha : EA X [a] ta) (hg : Gl X "enumerate" := by rfl) (hs : starEach [a] X.env = [(false, eval a X.env)] := by rfl) :
    I X (.Tuple elts kk tpos) (.Call (.Name "enumerate" p0) [a] [] pos) (gEnum ta) :=
  PI.weak (pi_enum hg hm ha hs) fun τ H R ⟨W, h, σ, post, p, g, q, f⟩ => by
    refine ⟨W, h, σ, _, p, g, q, fun ps h1 W1 H1 vs q1 p1 x1 rr => ?_⟩
    split at q1
    · obtain ⟨v, rfl, r1⟩ := rr.one
      simp only [RP, RD] at r1
      obtain ⟨a, ys, rfl, q2, s⟩ := r1
      exact ⟨a, ys, rfl, q2.sq, f _ h1 W1 H1 _ q1 p1 x1 (src_enum (fun _ _ => q2.st) s)⟩
    · obtain ⟨v, rfl, r1⟩ := rr.one
      simp only [RP, RD] at r1
      obtain ⟨a, ys, rfl, q2, s⟩ := r1
      exact ⟨a, ys, rfl, q2.sq, f _ h1 W1 H1 _ q1 p1 x1 (src_enum (fun _ _ => q2.st) s)⟩
    · exact q1.elim
end

/-! ### for -/
structure ForP (its : List D) (ks : List Nat) (n : Nat) (g : GG) (b : GS) (D : GD) (σ : Sl) (h : Hl) : Prop where
  ex : ∃ Pv : Nat → Sl → Hl → Prop, Pv 0 σ h ∧ (∀ (i : Nat) x σ h, its[i]? = some x → Pv i σ h → g (.d x) σ h fun σ2 h2 =>
    b { nx := turnEnd ks n (Pv (i + 1)), ct := turnEnd ks n (Pv (i + 1)), bk := D.nx, rt := D.rt } σ2 h2) ∧ ∀ σ h, Pv its.length σ h → D.nx σ h
def gFor (ks : List Nat) (src : GI) (g : GG) (b : GS) : GS := fun D σ h => src σ h fun its h1 => killS ks σ fun q => lenH h1 fun n => ForP its ks n g b D q h1
theorem s_for {X : Cx} {tg iter : Expr} {body : List Stmt} {src : GI} {g : GG} {tb : GS} {pos : Pos} (ks : List Nat) (hp : PassesOwn (model X.prog X.w) X.A X.env X.xe) (hc : X.calm = true) (hi : I X tg iter src) (hg : G X tg g) (hb : Ss X body tb)
    (hs : ∀ x, foldedSetIterable iter X.env x = pure x := by intro _; rfl) : S X (.For tg iter body [] pos) (gFor ks src g tb) :=
  PS.weak (ps_for hp hc hi hg hb hs) fun D τ H ⟨W, h, σ, Gd, p, gg, q, f⟩ => by
    refine ⟨W, h, σ, _, p, gg, q, fun its h1 W1 H1 J q1 p1 x1 so => ?_⟩
    obtain ⟨σ0, q1, g0⟩ := killS_ok q1 (gg.ext x1)
    rw [lenH_eq] at q1
    obtain ⟨Pv, q0, qs, qd⟩ := q1.ex
    refine ⟨fun i m τ' H' => i + m = its.length ∧ ∃ W' h' σ', Pre X.K W' H' h' ∧ Sg X.K W' H' σ' τ' ∧ ExS W1 W' H1 H' ∧ Pv i σ' h', ⟨its.length, Nat.zero_add _, W1, h1, σ0, p1, g0, ExS.refl, q0⟩, ?_⟩
    rintro i m τ2 H2 ⟨em, W2, h2, σ2, p2, g2, x2, q2⟩
    have x12 := x1.toExS.trans x2
    cases m with
    | zero =>
      have ei : i = its.length := by omega
      subst ei
      exact .inl ⟨so.stop W2 H2 h2 p2 x2, f.nx _ h2 W2 H2 τ2 (qd _ _ q2) p2 x12 g2⟩
    | succ m =>
      have hi : i < its.length := by omega
      refine .inr ⟨so.go W2 H2 h2 p2 x2 i hi, fun τ' H' => ∃ W' h' σ', Pre X.K W' H' h' ∧ Sg X.K W' H' σ' τ' ∧ ExS W1 W' H1 H' ∧ Pv (i + 1) σ' h', fun τ' H' ⟨W', h', σ', a1, a2, a3, a4⟩ => ⟨m, Nat.lt_succ_self m, by omega, W', h', σ', a1, a2, a3, a4⟩, fun v H3 hy => ?_⟩
      obtain ⟨z, ez, p3, x3, r3⟩ := so.yld W2 H2 h2 p2 x2 i v H3 hy hi
      refine ⟨W2, h2, σ2, .d z, _, p3, g2.ext x3, r3, qs i z σ2 h2 ez q2, fun σ4 h4 W4 H4 τ4 q4 p4 x4 g4 => ?_⟩
      have x24 := x3.toExS.trans x4
      refine ⟨W4, h4, σ4, _, p4, g4, q4, ⟨fun σ5 h5 W5 H5 τ5 q5 p5 x5 g5 => ?_, fun u h5 W5 H5 w q5 p5 x5 r5 => f.rt u h5 W5 H5 w q5 p5 ((x12.trans x24).trans x5) r5, fun σ5 h5 W5 H5 τ5 q5 p5 x5 g5 => f.nx _ h5 W5 H5 τ5 q5 p5 ((x12.trans x24).trans x5) g5, fun σ5 h5 W5 H5 τ5 q5 p5 x5 g5 => ?_⟩⟩
      all_goals
        obtain ⟨σ6, h6, q6, p6, g6, x6⟩ := turnEnd_ok q5 p5 g5
        exact ⟨_, h6, σ6, p6, g6, ((x2.trans x24).trans x5).trans x6, q6⟩

/-! ### lists that are given up -/
def replS (k : Nat) (x : D) : Sl → (Sl → Prop) → Prop
  | [], c => c []
  | some (.ref j) :: r, c => match Nat.beq j k with
    | true => replS k x r fun q => c (some (.d x) :: q)
    | false => replS k x r fun q => c (some (.ref j) :: q)
  | some (.d y) :: r, c => replS k x r fun q => c (some (.d y) :: q)
  | none :: r, c => replS k x r fun q => c (none :: q)
def replP (k : Nat) (x : D) : Option P → Option P
  | some (.ref j) => match Nat.beq j k with
    | true => some (.d x)
    | false => some (.ref j)
  | o => o
theorem replS_eq (k : Nat) (x : D) : ∀ (σ : Sl) (c : Sl → Prop), replS k x σ c = c (σ.map (replP k x))
  | [], c => rfl
  | some (.ref j) :: r, c => by
    simp only [replS, List.map_cons, replP]
    cases h : Nat.beq j k <;> simp only <;> rw [replS_eq k x r]
  | some (.d y) :: r, c => by
    simp only [replS, List.map_cons, replP]
    rw [replS_eq k x r]
  | none :: r, c => by
    simp only [replS, List.map_cons, replP]
    rw [replS_eq k x r]
def frz (i : Nat) (σ : Sl) (h : Hl) (c : Sl → Hl → Prop) : Prop := match slotAt σ i with
  | some (.ref k) => match cellAt h k with
    | some (.lst xs) => setCell h k .gone fun h' => replS k (.lst xs) σ fun q => c q h'
    | _ => False
  | _ => c σ h
def frzAll : List Nat → Sl → Hl → (Sl → Hl → Prop) → Prop
  | [], σ, h, c => c σ h
  | i :: is, σ, h, c => frz i σ h fun σ' h' => frzAll is σ' h' c
section
variable {K : PySem.W.Frag} {W : Wd} {H : Hp} {h : Hl} {σ : Sl} {τ : L2.St}
def Wd.gone (W : Wd) (k : Nat) : Wd := ⟨W.al.set k none, W.rg, W.fo⟩
theorem gone_al {k j : Nat} {a : Addr} (e : (W.gone k).al[j]? = some (some a)) : j ≠ k ∧ W.al[j]? = some (some a) := by
  have e' : (W.al.set k none)[j]? = some (some a) := e
  rw [List.getElem?_set] at e'
  by_cases hj : k = j
  · rw [if_pos hj] at e'
    split at e' <;> cases e'
  · rw [if_neg hj] at e'
    exact ⟨fun z => hj z.symm, e'⟩
theorem ExS.gone {k : Nat} : ExS W (W.gone k) H H := ⟨fun _ _ e _ => e, fun _ _ e _ => e, fun a o => .inl (by
  rcases o with ⟨j, e⟩ | q
  · exact .inl ⟨j, (gone_al e).2⟩
  · exact .inr q), fun _ q => q, rfl⟩
theorem Pre.gone (p : Pre K W H h) (k : Nat) : Pre K (W.gone k) H (h.set k .gone) := by
  refine ⟨?_, fun j c oa h1 h2 => ?_, p.rng, fun i j a h1 h2 => p.nd1 i j a (gone_al h1).2 (gone_al h2).2, fun i a h1 => p.nd2 i a (gone_al h1).2, p.nd3, p.fo, fun i a h1 => p.nd4 i a (gone_al h1).2, p.nd5⟩
  · show (W.al.set k none).length = _
    rw [List.length_set, List.length_set, p.len]
  · have h2' : (W.al.set k none)[j]? = some oa := h2
    rw [List.getElem?_set] at h1 h2'
    by_cases hj : k = j
    · rw [if_pos hj] at h1 h2'
      split at h1
      · split at h2'
        · cases h1; cases h2'; trivial
        · cases h2'
      · cases h1
    · rw [if_neg hj] at h1 h2'
      exact RC.ext ExS.gone (fun b ys _ q => q) (p.cel j c oa h1 h2')
theorem frz_ok {i : Nat} {c : Sl → Hl → Prop} (q : frz i σ h c) (p : Pre K W H h) (g : Sg K W H σ τ) : ∃ σ' h' W', c σ' h' ∧ Pre K W' H h' ∧ Sg K W' H σ' τ ∧ ExS W W' H H := by
  unfold frz at q
  split at q
  · split at q
    · rename_i k e1 _ xs e2
      rw [setCell_eq, replS_eq] at q
      refine ⟨_, _, W.gone k, q, p.gone k, ⟨by rw [List.length_map, g.len], fun j z e => ?_⟩, ExS.gone⟩
      rw [List.getElem?_map] at e
      cases h1 : σ[j]? with
      | none => rw [h1] at e; cases e
      | some o =>
        rw [h1] at e
        simp only [Option.map_some, Option.some.injEq] at e
        cases o with
        | none => cases e
        | some y =>
          obtain ⟨v, h2, h3⟩ := g.val j y h1
          refine ⟨v, h2, ?_⟩
          cases y with
          | d y =>
            simp only [replP, Option.some.injEq] at e
            subst e
            exact RD.ext ExS.gone _ _ h3
          | ref m =>
            obtain ⟨a, rfl, h4⟩ := h3
            simp only [replP] at e
            split at e
            · rename_i hb
              have em : m = k := Nat.eq_of_beq_eq_true hb
              subst em
              cases e
              obtain ⟨a', ys, e5, e6, e7, e8⟩ := cell_ok p e2 (⟨a, rfl, h4⟩ : RP K W H (.ref m) (.ref a))
              cases e5
              show RD K _ _ H (.lst xs) _
              simp only [RD]
              refine ⟨a, ys, rfl, ⟨e7, fun o => ?_⟩, RDs.ext ExS.gone _ _ e8⟩
              rcases o with ⟨j2, e9⟩ | ⟨z2, m2, e9⟩ | e9
              · exact (gone_al e9).1 (p.nd1 _ _ a (gone_al e9).2 h4)
              · have n := p.nd2 m a h4 z2 m2
                exact e9.elim n.1 n.2
              · exact p.nd4 m a h4 e9
            · rename_i hb
              cases e
              refine ⟨a, rfl, ?_⟩
              show (W.al.set k none)[m]? = _
              rw [List.getElem?_set, if_neg (fun z => by subst z; rw [Nat.beq_refl] at hb; cases hb)]
              exact h4
    · exact q.elim
  · exact ⟨σ, h, W, q, p, g, ExS.refl⟩
theorem frzAll_ok : ∀ {is : List Nat} {σ : Sl} {h : Hl} {W : Wd} {c : Sl → Hl → Prop}, frzAll is σ h c → Pre K W H h → Sg K W H σ τ → ∃ σ' h' W', c σ' h' ∧ Pre K W' H h' ∧ Sg K W' H σ' τ ∧ ExS W W' H H
  | [], σ, h, W, c, q, p, g => ⟨σ, h, W, q, p, g, ExS.refl⟩
  | i :: is, σ, h, W, c, q, p, g => by
    obtain ⟨σ1, h1, W1, q1, p1, g1, x1⟩ := frz_ok q p g
    obtain ⟨σ2, h2, W2, q2, p2, g2, x2⟩ := frzAll_ok q1 p1 g1
    exact ⟨σ2, h2, W2, q2, p2, g2, x1.trans x2⟩
end
def gFrz (is : List Nat) (u : GS) : GS := fun D σ h => frzAll is σ h fun σ' h' => u D σ' h'
theorem ss_frz {X : Cx} {sts : List Stmt} {u : GS} (is : List Nat) (hh : Ss X sts u) : Ss X sts (gFrz is u) := PSs.weak hh fun D τ H ⟨W, h, σ, Gd, p, g, q, f⟩ => by
  obtain ⟨σ1, h1, W1, q1, p1, g1, x1⟩ := frzAll_ok q p g
  exact ⟨W1, h1, σ1, Gd, p1, g1, q1, f.ext x1⟩
theorem s_frz {X : Cx} {st : Stmt} {u : GS} (is : List Nat) (hh : S X st u) : S X st (gFrz is u) := PS.weak hh fun D τ H ⟨W, h, σ, Gd, p, g, q, f⟩ => by
  obtain ⟨σ1, h1, W1, q1, p1, g1, x1⟩ := frzAll_ok q p g
  exact ⟨W1, h1, σ1, Gd, p1, g1, q1, f.ext x1⟩
end Sc

set_option Elab.async false
set_option linter.all false
set_option maxRecDepth 100000
/-! Sc7: comprehensions, calls, defs. -/
namespace Sc
open PySem PySem.Spec PyProof.Rows L2

/-! ### comprehensions -/
inductive Tgt where
  | one (i : Nat) | tup (is : List Nat)
def Tgt.is : Tgt → List Nat
  | .one i => [i]
  | .tup is => is
def setAll : List Nat → List D → Sl → (Sl → Prop) → Prop
  | [], [], σ, k => k σ
  | i :: is, x :: xs, σ, k => setSlot σ i (.d x) fun q => setAll is xs q k
  | _, _, _, _ => False
def Tgt.set (t : Tgt) (x : D) (σ : Sl) (k : Sl → Prop) : Prop := match t with
  | .one i => setSlot σ i (.d x) k
  | .tup is => match x with
    | .tup xs => setAll is xs σ k
    | .lst xs => setAll is xs σ k
    | _ => False
def tgNames : List Nat → TGs
  | [] => L2.gNil
  | i :: is => L2.gCons (L2.gName i) (tgNames is)
def Tgt.tg (K : PySem.W.Frag) : Tgt → TG
  | .one i => L2.gName i
  | .tup is => fun v σ H Q => L2.gTup K is.length (tgNames is) v σ H Q ∨ L2.gLst K is.length (tgNames is) v σ H Q
theorem wipe_set : ∀ (vs : List Nat) (τ : L2.St) (i : Nat) (o : Option V), i ∈ vs → wipe (τ.set i o) vs = wipe τ vs
  | [], _, _, _, h => by cases h
  | v :: vs, τ, i, o, h => by
    by_cases hv : i ∈ vs
    · simp only [wipe, wipe_set vs τ i o hv]
    · have e : i = v := by
        cases h with
        | head => rfl
        | tail _ h => exact (hv h).elim
      subst e
      simp only [wipe]
      exact wipe_comm vs τ i o
where
  wipe_comm : ∀ (vs : List Nat) (τ : L2.St) (i : Nat) (o : Option V), (wipe (τ.set i o) vs).set i none = (wipe τ vs).set i none
    | [], τ, i, o => by simp [wipe]
    | v :: vs, τ, i, o => by
      simp only [wipe]
      by_cases e : v = i
      · subst e
        rw [List.set_set, List.set_set]
        exact wipe_comm vs τ v o
      · rw [List.set_comm _ _ e, List.set_comm _ _ e, wipe_comm vs τ i o]
theorem wipe_idem : ∀ (vs us : List Nat) (τ : L2.St), (∀ i ∈ vs, i ∈ us) → wipe (wipe τ vs) us = wipe τ us
  | [], _, _, _ => rfl
  | v :: vs, us, τ, h => by
    simp only [wipe]
    rw [wipe_set us _ v none (h v List.mem_cons_self)]
    exact wipe_idem vs us τ fun i hi => h i (List.mem_cons_of_mem _ hi)
section
variable {K : PySem.W.Frag} {W : Wd} {H : Hp} {σ : Sl} {τ : L2.St}
theorem setAll_ok (vs : List Nat) : ∀ (is : List Nat) (xs : List D) (us : List V) (σ : Sl) (τ : L2.St) (k : Sl → Prop) (Q : L2.St → Hp → Prop), (∀ i ∈ is, i ∈ vs) → RDs K W.own W.rg H xs us → Sg K W H σ τ → setAll is xs σ k →
    (∀ σ' τ', k σ' → Sg K W H σ' τ' → wipe τ' vs = wipe τ vs → Q τ' H) → tgNames is us τ H Q ∧ us.length = is.length
  | [], [], us, σ, τ, k, Q, hi, r, g, q, f => by
    simp only [RDs] at r
    subst r
    exact ⟨⟨rfl, f σ τ q g rfl⟩, rfl⟩
  | i :: is, x :: xs, us, σ, τ, k, Q, hi, r, g, q, f => by
    simp only [RDs] at r
    obtain ⟨y, ys, rfl, r1, r2⟩ := r
    simp only [setAll] at q
    rw [setSlot_eq] at q
    have h0 : i ∈ vs := hi i (List.mem_cons_self)
    obtain ⟨a, b⟩ := setAll_ok vs is xs ys (σ.set i (some (.d x))) (τ.set i (some y)) k Q (fun j hj => hi j (List.mem_cons_of_mem _ hj)) r2 (g.set r1) q (fun σ' τ' z1 z2 z3 => f σ' τ' z1 z2 (by rw [z3, wipe_set vs τ i _ h0]))
    exact ⟨⟨y, ys, rfl, a⟩, by rw [List.length_cons, List.length_cons, b]⟩
  | [], _ :: _, _, _, _, _, _, _, _, _, q, _ => q.elim
  | _ :: _, [], _, _, _, _, _, _, _, _, q, _ => q.elim
theorem Tgt.ok {h : Hl} {t : Tgt} {x : D} {v : V} {vs : List Nat} {k : Sl → Prop} {Q : L2.St → Hp → Prop} (hi : ∀ i ∈ t.is, i ∈ vs) (p : Pre K W H h) (r : RD K W.own W.rg H x v) (g : Sg K W H σ τ) (q : t.set x σ k)
    (f : ∀ σ' τ', k σ' → Sg K W H σ' τ' → wipe τ' vs = wipe τ vs → Q τ' H) : t.tg K v τ H Q := by
  cases t with
  | one i =>
    simp only [Tgt.set] at q
    rw [setSlot_eq] at q
    exact f _ _ q (g.set (p := .d x) r) (wipe_set vs τ i _ (hi i (List.mem_singleton.mpr rfl)))
  | tup is =>
    cases x with
    | tup xs =>
      simp only [RD] at r
      obtain ⟨a, ys, rfl, q2, s⟩ := r
      obtain ⟨h1, h2⟩ := setAll_ok vs is xs ys σ τ k Q hi s g q f
      exact .inl ⟨a, ys, rfl, q2.sq, h2, h1⟩
    | lst xs =>
      simp only [RD] at r
      obtain ⟨a, ys, rfl, q2, s⟩ := r
      obtain ⟨h1, h2⟩ := setAll_ok vs is xs ys σ τ k Q hi s g q f
      exact .inr ⟨a, ys, rfl, q2.sq, h2, h1⟩
    | _ => exact q.elim
theorem Sg.wipe (g : Sg K W H σ τ) : ∀ vs : List Nat, ∀ k : Sl → Prop, killS vs σ k → ∃ σ', k σ' ∧ Sg K W H σ' (L2.wipe τ vs) := by
  have one : ∀ (vs : List Nat) (σ : Sl) (τ : L2.St), Sg K W H σ τ → (∀ i ∈ vs, ∀ p, σ[i]? ≠ some (some p)) → Sg K W H σ (L2.wipe τ vs) := by
    intro vs
    induction vs with
    | nil => intro σ τ g _; exact g
    | cons v vs ih =>
      intro σ τ g n
      have g1 := ih σ τ g fun i hi => n i (List.mem_cons_of_mem _ hi)
      refine ⟨by simp only [L2.wipe, List.length_set]; exact g1.len, fun j p e => ?_⟩
      obtain ⟨u, h1, h2⟩ := g1.val j p e
      refine ⟨u, ?_, h2⟩
      simp only [L2.wipe]
      rw [List.getElem?_set, if_neg (fun z => n j (by rw [z]; exact List.mem_cons_self) p e)]
      exact h1
  have two : ∀ (vs : List Nat) (σ : Sl) (k : Sl → Prop), killS vs σ k → ∃ σ', k σ' ∧ σ'.length = σ.length ∧ (∀ i ∈ vs, ∀ p, σ'[i]? ≠ some (some p)) ∧ ∀ (i : Nat) p, σ'[i]? = some (some p) → σ[i]? = some (some p) := by
    intro vs
    induction vs with
    | nil =>
      intro σ k q
      refine ⟨σ, q, rfl, ?_, fun i p e => e⟩
      intro i hi
      cases hi
    | cons v vs ih =>
      intro σ k q
      unfold killS at q
      rw [kill1_eq] at q
      obtain ⟨σ', h1, h2, h3, h4⟩ := ih _ k q
      refine ⟨σ', h1, by rw [h2, List.length_set], fun i hi p e => ?_, fun i p e => ?_⟩
      · cases hi with
        | head =>
          have := h4 _ p e
          rw [List.getElem?_set, if_pos rfl] at this
          split at this <;> cases this
        | tail _ hi => exact h3 i hi p e
      · have := h4 i p e
        rw [List.getElem?_set] at this
        split at this
        · split at this <;> cases this
        · exact this
  intro vs k q
  obtain ⟨σ', h1, h2, h3, h4⟩ := two vs σ k q
  exact ⟨σ', h1, one vs σ' τ ⟨by rw [h2, g.len], fun i p e => g.val i p (h4 i p e)⟩ h3⟩
end
structure CompP (its : List D) (n : Nat) (tg : Tgt) (tt : GB) (te : GT) (σ : Sl) (h : Hl) (Qf : List D → Hl → Prop) : Prop where
  ex : ∃ Pv : Nat → List D → Hl → Prop, Pv 0 [] h ∧ (∀ (i : Nat) x ys h, its[i]? = some x → Pv i ys h → tg.set x σ fun σ2 => addCell h (.lst ys) fun _ h1 => tt σ2 h1 fun b h3 => Br b
    (te σ2 h3 fun y h4 => match y, cellAt h4 n with
      | .d z, some (.lst zs) => zs.length < sizeLine ∧ takeH n h4 fun h5 => Pv (i + 1) (zs ++ [z]) h5
      | _, _ => False)
    (match cellAt h3 n with
      | some (.lst zs) => takeH n h3 fun h5 => Pv (i + 1) zs h5
      | _ => False)) ∧ ∀ ys h, Pv its.length ys h → Qf ys h
def gLc (src : GI) (vs : List Nat) (tg : Tgt) (tt : GB) (te : GT) : GT := fun σ h Q => src σ h fun its h1 => killS vs σ fun q => lenH h1 fun n => CompP its n tg tt te q h1 fun ys h2 => Q (.d (.lst ys)) h2
def gLcM (src : GI) (vs : List Nat) (tg : Tgt) (tt : GB) (te : GT) : GT := fun σ h Q => src σ h fun its h1 => killS vs σ fun q => lenH h1 fun n => CompP its n tg tt te q h1 fun ys h2 => addCell h2 (.lst ys) fun k h3 => Q (.ref k) h3
def bYes : GB := fun _ h Q => Q true h
def ETs (X : Cx) (ifs : List Expr) (t : GB) : Prop := PTs X ifs (upB X.K t)
theorem PTs.weak {X : Cx} {e : List Expr} {t t' : TT} (h : PTs X e t) (w : ∀ τ H Q, t' τ H Q → t τ H Q) : PTs X e t' := ⟨fun pins s σ H Q I q => h.run pins s σ H Q I (w _ _ _ q)⟩
theorem ets_nil {X : Cx} : ETs X [] bYes := PTs.weak pts_nil fun τ H Q ⟨W, h, σ, post, p, g, q, f⟩ => f true h W H q p Ext.refl
theorem ets_one {X : Cx} {c : Expr} {t : GB} (hc : EB X c t) : ETs X [c] t := pts_one hc
theorem gt_names {X : Cx} : ∀ {es : List Expr} {is : List Nat}, PGs X es (tgNames is) → PGs X es (tgNames is) := id
/-- the comprehension's own target -/
def CT (X : Cx) (tgx : Expr) (t : Tgt) : Prop := PG X tgx (t.tg X.K)
theorem ct_one {X : Cx} {i : Nat} {x : Str} {pos : Pos} (hN : X.N.Nodup) (hi : X.N[i]? = some x := by rfl) (hx : Loc X.env.scope x := by first | exact .inl rfl | exact .inr rfl) (hf : X.fn x = true ∨ X.env.scope.names.lookup x = some .local := by first | exact .inl rfl | exact .inr rfl | assumption) : CT X (.Name x pos) (.one i) := pg_name hN hi hx hf
theorem ct_tup {X : Cx} {es : List Expr} {k : Nat} {pos : Pos} {is : List Nat} (hc : X.calm = true) (hh : PGs X es (tgNames is)) (hn : (assignEach es X.env).length = is.length := by rfl) (hst : (assignEach es X.env).findIdx? (·.1) = none := by rfl) : CT X (.Tuple es k pos) (.tup is) :=
  PG.or (pg_tup hc hh hn hst) (pg_lst hc hh hn hst)
theorem cn_nil {X : Cx} : PGs X [] (tgNames []) := pgs_nil
theorem cn_cons {X : Cx} {i : Nat} {is : List Nat} {x : Str} {p0 : Pos} {es : List Expr} (hN : X.N.Nodup) (hr : PGs X es (tgNames is)) (hi : X.N[i]? = some x := by rfl) (hx : Loc X.env.scope x := by first | exact .inl rfl | exact .inr rfl) (hf : X.fn x = true ∨ X.env.scope.names.lookup x = some .local := by first | exact .inl rfl | exact .inr rfl | assumption)
    (hs : (assignEach (.Name x p0 :: es) X.env).map (·.2) = assign (.Name x p0) X.env :: (assignEach es X.env).map (·.2) := by rfl) : PGs X (.Name x p0 :: es) (tgNames (i :: is)) := pgs_cons (pg_name hN hi hx hf) hr hs
section
variable {X : Cx} {elt tg iter : Expr} {ifs : List Expr} {scope : Scope} {own : List (Str × Nat)} {pos : Pos} {src : GI} {t : Tgt} {tt : GB} {te : GT}
/-- the list in the making is the n-th cell -/
structure Mkg (K : PySem.W.Frag) (W1 : Wd) (H1 : Hp) (Da : Addr) (n : Nat) (Pv : List D → Hl → Prop) (H : Hp) : Prop where
  ex : ∃ W h ys, Pre K W H (h ++ [.lst ys]) ∧ h.length = n ∧ W.al[n]? = some (some Da) ∧ Ext W1 W H1 H ∧ Pv ys h
theorem cell_n {W : Wd} {H : Hp} {h : Hl} {n : Nat} {Da : Addr} {zs : List D} (p : Pre X.K W H h) (e : cellAt h n = some (.lst zs)) (a : W.al[n]? = some (some Da)) : ∃ vs, H Da = some (.lst vs) ∧ RDs X.K W.own W.rg H zs vs ∧ n < h.length := by
  rw [cellAt_eq] at e
  obtain ⟨vs, h1, h2⟩ := p.cel n _ _ e a
  exact ⟨vs, h1, h2, (List.getElem?_eq_some_iff.mp e).1⟩
theorem take_snoc {α : Type} {l : List α} {n : Nat} {x : α} (h : n < l.length) : (l.set n x).take (n + 1) = l.take n ++ [x] := by
  rw [List.take_set, List.take_succ_eq_append_getElem h, List.set_append]
  simp [Nat.min_eq_left (Nat.le_of_lt h)]
theorem ext_cut {W1 W : Wd} {H1 H : Hp} {n : Nat} (x : Ext W1 W H1 H) (hn : W1.al.length ≤ n) : Ext W1 (W.cut n) H1 H :=
  ⟨x.toExS.trans ExS.cut, fun k a e => by
    show (W.al.take n)[k]? = _
    rw [List.getElem?_take, if_pos (Nat.lt_of_lt_of_le (List.getElem?_eq_some_iff.mp e).1 hn)]
    exact x.al k a e⟩
theorem mkg_next {W1 W : Wd} {H1 H : Hp} {Da : Addr} {n : Nat} {Pv : List D → Hl → Prop} {h : Hl} {zs : List D} {z : D} {v : V} (hn : W1.al.length = n) (p : Pre X.K W H h) (a : W.al[n]? = some (some Da)) (x : Ext W1 W H1 H) (e : cellAt h n = some (.lst zs)) (r : RD X.K W.own W.rg H z v)
    (q : Pv (zs ++ [z]) (h.take n)) : ∃ vs, H Da = some (.lst vs) ∧ vs.length = zs.length ∧ Mkg X.K W1 H1 Da n Pv (upd H Da (.lst (vs ++ [v]))) := by
  obtain ⟨vs, h1, h2, h3⟩ := cell_n p e a
  refine ⟨vs, h1, h2.len.symm, ⟨W.cut (n + 1), h.take n, _, ?_, ?_, ?_, ?_, q⟩⟩
  · have := (p.set a (h2.app (RDs.one r))).cut (n + 1)
    rw [take_snoc h3] at this
    exact this
  · rw [List.length_take, Nat.min_eq_left (Nat.le_of_lt h3)]
  · show (W.al.take (n + 1))[n]? = _
    rw [List.getElem?_take, if_pos (Nat.lt_succ_self n)]
    exact a
  · exact ext_cut (x.trans (Ext.set p a)) (by rw [hn]; exact Nat.le_succ n)
theorem mkg_skip {W1 W : Wd} {H1 H : Hp} {Da : Addr} {n : Nat} {Pv : List D → Hl → Prop} {h : Hl} {zs : List D} (hn : W1.al.length = n) (p : Pre X.K W H h) (a : W.al[n]? = some (some Da)) (x : Ext W1 W H1 H) (e : cellAt h n = some (.lst zs))
    (q : Pv zs (h.take n)) : Mkg X.K W1 H1 Da n Pv H := by
  obtain ⟨vs, h1, h2, h3⟩ := cell_n p e a
  refine ⟨W.cut (n + 1), h.take n, zs, ?_, ?_, ?_, ?_, q⟩
  · have := p.cut (n + 1)
    rw [List.take_succ_eq_append_getElem h3] at this
    rw [cellAt_eq, List.getElem?_eq_getElem h3, Option.some.injEq] at e
    rw [e] at this
    exact this
  · rw [List.length_take, Nat.min_eq_left (Nat.le_of_lt h3)]
  · show (W.al.take (n + 1))[n]? = _
    rw [List.getElem?_take, if_pos (Nat.lt_succ_self n)]
    exact a
  · exact ext_cut x (by rw [hn]; exact Nat.le_succ n)
theorem lc_up (hi : ∀ i ∈ t.is, i ∈ own.map (·.2)) {τ : L2.St} {H : Hp} {Q : VK} {fin : (P → Hl → Prop) → List D → Hl → Prop}
    (hf : ∀ W1 H1 Da n post (Q : VK) H, W1.al.length = n → Mkg X.K W1 H1 Da n (fin post) H → Fin X.K W1 H1 post Q → Q (.ref Da) H)
    (q : up X.K (fun σ h Q => src σ h fun its h1 => killS (own.map (·.2)) σ fun q => lenH h1 fun n => CompP its n t tt te q h1 fun ys h2 => fin Q ys h2) τ H Q) :
    tLc (upI X.K src) (t.tg X.K) (upB X.K tt) (up X.K te) (own.map (·.2)) τ H Q := by
  obtain ⟨W, h, σ, post, p, g, q, f⟩ := q
  refine ⟨W, h, σ, _, p, g, q, fun its h1 W1 H1 J q1 p1 x1 so => ?_⟩
  intro Da nD
  obtain ⟨σ0, q1, g0⟩ := (g.ext x1).wipe _ _ q1
  rw [lenH_eq] at q1
  obtain ⟨Pv, q0, qs, qd⟩ := q1.ex
  have hn : W1.al.length = h1.length := p1.len
  refine ⟨fun i m H' => i + m = its.length ∧ Mkg X.K W1 H1 Da h1.length (Pv i) H', ⟨its.length, Nat.zero_add _, ⟨W1.add Da, h1, [], p1.cell nD RDs.nil, rfl, ?_, Ext.cell p1 nD, q0⟩⟩, ?_⟩
  · show (W1.al ++ [some Da])[_]? = _
    rw [← hn]
    simp
  rintro i m H2 ⟨em, mk⟩
  cases m with
  | zero =>
    have ei : i = its.length := by omega
    subst ei
    refine .inl ⟨?_, ?_⟩
    · obtain ⟨W2, h2, ys, p2, l2, a2, x2, q2⟩ := mk.ex
      exact so.stop W2 _ _ p2 x2.toExS
    · refine hf W1 H1 Da h1.length post Q H2 hn ?_ (fun z h3 W3 H3 v q3 p3 x3 r3 => f z h3 W3 H3 v q3 p3 (x1.trans x3) r3)
      obtain ⟨W2, h2, ys, p2, l2, a2, x2, q2⟩ := mk.ex
      exact ⟨W2, h2, ys, p2, l2, a2, x2, qd ys h2 q2⟩
  | succ m =>
    have hlt : i < its.length := by omega
    obtain ⟨W2, h2, ys, p2, l2, a2, x2, q2⟩ := mk.ex
    refine .inr ⟨so.go W2 _ _ p2 x2.toExS i hlt, Mkg X.K W1 H1 Da h1.length (Pv (i + 1)), fun H' z => ⟨m, Nat.lt_succ_self m, by omega, z⟩, fun v H3 hy => ?_⟩
    obtain ⟨z, ez, p3, x3, r3⟩ := so.yld W2 _ _ p2 x2.toExS i v H3 hy hlt
    have q4 := qs i z ys h2 ez q2
    refine Tgt.ok hi p3 r3 ((g0.ext x2).ext x3) q4 fun σ4 τ4 q5 g4 hw => ⟨hw.trans (wipe_idem _ _ _ fun _ z => z), ?_⟩
    rw [addCell_eq] at q5
    refine ⟨W2, _, σ4, _, p3, g4, q5, fun b h5 W5 H5 q6 p5 x5 => ?_⟩
    have a5 : W5.al[h1.length]? = some (some Da) := x5.al _ _ a2
    have x15 := (x2.trans x3).trans x5
    cases b with
    | true =>
      refine (if_pos rfl).mpr ⟨W5, h5, σ4, _, p5, g4.ext x5, q6.t rfl, fun y h6 W6 H6 w q7 p6 x6 r6 => ?_⟩
      split at q7
      · rename_i zz zs e6
        rw [takeH_eq] at q7
        obtain ⟨vs, h7, h8, h9⟩ := mkg_next (Pv := Pv (i + 1)) hn p6 (x6.al _ _ a5) (x15.trans x6) e6 r6 q7.2
        exact ⟨vs, h7, by rw [h8]; exact q7.1, h9⟩
      · exact q7.elim
    | false =>
      refine (if_neg (by simp)).mpr ?_
      have q7 := q6.f rfl
      split at q7
      · rename_i zs e6
        rw [takeH_eq] at q7
        exact mkg_skip hn p5 a5 x15 e6 q7
      · exact q7.elim
theorem fin_lc {W1 : Wd} {H1 : Hp} {Da : Addr} {n : Nat} {post : P → Hl → Prop} {Q : VK} {H : Hp} (hn : W1.al.length = n) (mk : Mkg X.K W1 H1 Da n (fun ys h => post (.d (.lst ys)) h) H) (f : Fin X.K W1 H1 post Q) : Q (.ref Da) H := by
  obtain ⟨W, h, ys, p, l, a, x, q⟩ := mk.ex
  have e : (h ++ [Cell.lst ys])[n]? = some (.lst ys) := by rw [← l]; simp
  obtain ⟨vs, h1, h2⟩ := p.cel n _ _ e a
  have pc := p.cut n
  have et : (h ++ [Cell.lst ys]).take n = h := by rw [← l]; simp
  rw [et] at pc
  refine f _ h (W.cut n) H _ q pc (ext_cut x (Nat.le_of_eq hn)) ?_
  show RD X.K _ _ H (.lst ys) _
  simp only [RD]
  refine ⟨Da, vs, rfl, ⟨h1, fun o => ?_⟩, RDs.ext ExS.cut _ _ h2⟩
  rcases o with ⟨j, e9⟩ | ⟨z2, m2, e9⟩ | e9
  · have e8 := cut_al e9
    have ej := p.nd1 _ _ Da e8 a
    have e7 : (W.al.take n)[j]? = some (some Da) := e9
    rw [List.getElem?_take, if_neg (by omega)] at e7
    cases e7
  · have nn := p.nd2 n Da a z2 m2
    exact e9.elim nn.1 nn.2
  · exact p.nd4 n Da a e9
theorem fin_lcM {W1 : Wd} {H1 : Hp} {Da : Addr} {n : Nat} {post : P → Hl → Prop} {Q : VK} {H : Hp} (hn : W1.al.length = n) (mk : Mkg X.K W1 H1 Da n (fun ys h => addCell h (.lst ys) fun k h3 => post (.ref k) h3) H) (f : Fin X.K W1 H1 post Q) : Q (.ref Da) H := by
  obtain ⟨W, h, ys, p, l, a, x, q⟩ := mk.ex
  rw [addCell_eq, l] at q
  exact f _ _ W H _ q p x ⟨Da, rfl, a⟩
theorem e_lc (own : List (Str × Nat)) (hc : X.calm = true) (hN : X.N.Nodup) (hi : I X tg iter src) (ok : BlkOk X.N X.env.scope scope own) (ht : ∀ i ∈ t.is, i ∈ own.map (·.2))
    (hg : ∀ (s : Shared) (H : Hp) (C : Addr) (cl : List (Str × Addr)) (fp : List Addr), CT (X.blk s H scope (compEnvC scope cl C X.env) fp) tg t) (hts : ∀ (s : Shared) (H : Hp) (C : Addr) (cl : List (Str × Addr)) (fp : List Addr), ETs (X.blk s H scope (compEnvC scope cl C X.env) fp) ifs tt)
    (he : ∀ (s : Shared) (H : Hp) (C : Addr) (cl : List (Str × Addr)) (fp : List Addr), E (X.blk s H scope (compEnvC scope cl C X.env) fp) elt te) (hs : ∀ x, foldedSetIterable iter X.env x = pure x := by intro _; rfl) :
    E X (.ListComp elt [⟨tg, iter, ifs, 0⟩] scope pos) (gLc src (own.map (·.2)) t tt te) :=
  PE.weak (pe_lc (g := t.tg X.K) (tt := upB X.K tt) (te := up X.K te) hc hN hi ok hg hts he hs) fun τ H Q q => lc_up (fin := fun post ys h => post (.d (.lst ys)) h) ht (fun W1 H1 Da n post Q H hn mk f => fin_lc hn mk f) q
theorem e_lcM (own : List (Str × Nat)) (hc : X.calm = true) (hN : X.N.Nodup) (hi : I X tg iter src) (ok : BlkOk X.N X.env.scope scope own) (ht : ∀ i ∈ t.is, i ∈ own.map (·.2))
    (hg : ∀ (s : Shared) (H : Hp) (C : Addr) (cl : List (Str × Addr)) (fp : List Addr), CT (X.blk s H scope (compEnvC scope cl C X.env) fp) tg t) (hts : ∀ (s : Shared) (H : Hp) (C : Addr) (cl : List (Str × Addr)) (fp : List Addr), ETs (X.blk s H scope (compEnvC scope cl C X.env) fp) ifs tt)
    (he : ∀ (s : Shared) (H : Hp) (C : Addr) (cl : List (Str × Addr)) (fp : List Addr), E (X.blk s H scope (compEnvC scope cl C X.env) fp) elt te) (hs : ∀ x, foldedSetIterable iter X.env x = pure x := by intro _; rfl) :
    E X (.ListComp elt [⟨tg, iter, ifs, 0⟩] scope pos) (gLcM src (own.map (·.2)) t tt te) :=
  PE.weak (pe_lc (g := t.tg X.K) (tt := upB X.K tt) (te := up X.K te) hc hN hi ok hg hts he hs) fun τ H Q q => lc_up (fin := fun post ys h => addCell h (.lst ys) fun k h3 => post (.ref k) h3) ht (fun W1 H1 Da n post Q H hn mk f => fin_lcM hn mk f) q
/-- y = [..] -/
theorem s_setLc {i : Nat} {y : Str} {py spos : Pos} (own : List (Str × Nat)) (hc : X.calm = true) (hN : X.N.Nodup) (hsw : swapsWith (.ListComp elt [⟨tg, iter, ifs, 0⟩] scope pos) (some (.Name y py)) spos.line X.env = pure true) (hi : I X tg iter src) (ok : BlkOk X.N X.env.scope scope own) (ht : ∀ i ∈ t.is, i ∈ own.map (·.2))
    (hg : ∀ (s : Shared) (H : Hp) (C : Addr) (cl : List (Str × Addr)) (fp : List Addr), CT (X.blk s H scope (compEnvC scope cl C X.env) fp) tg t) (hts : ∀ (s : Shared) (H : Hp) (C : Addr) (cl : List (Str × Addr)) (fp : List Addr), ETs (X.blk s H scope (compEnvC scope cl C X.env) fp) ifs tt)
    (he : ∀ (s : Shared) (H : Hp) (C : Addr) (cl : List (Str × Addr)) (fp : List Addr), E (X.blk s H scope (compEnvC scope cl C X.env) fp) elt te) (hy : X.N[i]? = some y := by rfl) (hyl : X.env.scope.names.lookup y = some .local := by rfl) (hs : ∀ x, foldedSetIterable iter X.env x = pure x := by intro _; rfl) :
    S X (.Assign [.Name y py] (.ListComp elt [⟨tg, iter, ifs, 0⟩] scope pos) spos) (gAsg (gLc src (own.map (·.2)) t tt te) (gName i)) :=
  PS.weak (ps_setLc (g := t.tg X.K) (tt := upB X.K tt) (te := up X.K te) hc hN hy hyl hsw hi ok hg hts he hs) fun D τ H ⟨W, h, σ, Gd, p, gg, q, f⟩ => by
    refine lc_up (X := X) (own := own) (fin := fun post ys h => post (.d (.lst ys)) h) ht (fun W1 H1 Da n post Q H hn mk f => fin_lc hn mk f) ⟨W, h, σ, fun z h1 => gName i z σ h1 Gd.nx, p, gg, q, fun z h1 W1 H1 v q1 p1 x1 r1 => ?_⟩
    have q2 : setSlot σ i z fun σ' => Gd.nx σ' h1 := q1
    rw [setSlot_eq] at q2
    exact f.nx _ h1 W1 H1 _ q2 p1 x1.toExS ((gg.ext x1).set r1)
theorem s_setLcM {i : Nat} {y : Str} {py spos : Pos} (own : List (Str × Nat)) (hc : X.calm = true) (hN : X.N.Nodup) (hsw : swapsWith (.ListComp elt [⟨tg, iter, ifs, 0⟩] scope pos) (some (.Name y py)) spos.line X.env = pure true) (hi : I X tg iter src) (ok : BlkOk X.N X.env.scope scope own) (ht : ∀ i ∈ t.is, i ∈ own.map (·.2))
    (hg : ∀ (s : Shared) (H : Hp) (C : Addr) (cl : List (Str × Addr)) (fp : List Addr), CT (X.blk s H scope (compEnvC scope cl C X.env) fp) tg t) (hts : ∀ (s : Shared) (H : Hp) (C : Addr) (cl : List (Str × Addr)) (fp : List Addr), ETs (X.blk s H scope (compEnvC scope cl C X.env) fp) ifs tt)
    (he : ∀ (s : Shared) (H : Hp) (C : Addr) (cl : List (Str × Addr)) (fp : List Addr), E (X.blk s H scope (compEnvC scope cl C X.env) fp) elt te) (hy : X.N[i]? = some y := by rfl) (hyl : X.env.scope.names.lookup y = some .local := by rfl) (hs : ∀ x, foldedSetIterable iter X.env x = pure x := by intro _; rfl) :
    S X (.Assign [.Name y py] (.ListComp elt [⟨tg, iter, ifs, 0⟩] scope pos) spos) (gAsg (gLcM src (own.map (·.2)) t tt te) (gName i)) :=
  PS.weak (ps_setLc (g := t.tg X.K) (tt := upB X.K tt) (te := up X.K te) hc hN hy hyl hsw hi ok hg hts he hs) fun D τ H ⟨W, h, σ, Gd, p, gg, q, f⟩ => by
    refine lc_up (X := X) (own := own) (fin := fun post ys h => addCell h (.lst ys) fun k h3 => post (.ref k) h3) ht (fun W1 H1 Da n post Q H hn mk f => fin_lcM hn mk f) ⟨W, h, σ, fun z h1 => gName i z σ h1 Gd.nx, p, gg, q, fun z h1 W1 H1 v q1 p1 x1 r1 => ?_⟩
    have q2 : setSlot σ i z fun σ' => Gd.nx σ' h1 := q1
    rw [setSlot_eq] at q2
    exact f.nx _ h1 W1 H1 _ q2 p1 x1.toExS ((gg.ext x1).set r1)
end
end Sc

set_option Elab.async false
set_option linter.all false
set_option maxRecDepth 100000
/-! Sc8: calls, defs. -/
namespace Sc
open PySem PySem.Spec PyProof.Rows L2

/-- what a def promises over data: what it hands back, with the cell that this is -/
abbrev GSp := List D → (P → Hl → Prop) → Prop
def upSp (K : PySem.W.Frag) (sp : GSp) : Sp := fun vs H Q _ => ∃ W xs post, W.al = [] ∧ Pre K W H [] ∧ RDs K W.own W.rg H xs vs ∧ sp xs post ∧
  ∀ p hr W' H' v, post p hr → Pre K W' H' hr → ExS W W' H H' → RP K W' H' p v → Q v H'
/-- what comes back, in the caller's world -/
def putR (h : Hl) (Q : P → Hl → Prop) : P → Hl → Prop := fun p hr => match p, hr with
  | .d x, [] => Q (.d x) h
  | .ref 0, [c] => addCell h c fun k h2 => Q (.ref k) h2
  | _, _ => False
/-- .. given up at once -/
def putF (h : Hl) (Q : P → Hl → Prop) : P → Hl → Prop := fun p hr => match p, hr with
  | .d x, [] => Q (.d x) h
  | .ref 0, [.lst xs] => Q (.d (.lst xs)) h
  | _, _ => False
def gCall (sp : GSp) (t : GA) : GT := fun σ h Q => t σ h fun ps h1 => allD ps fun xs => sp xs (putR h1 Q)
def gCallF (sp : GSp) (t : GA) : GT := fun σ h Q => t σ h fun ps h1 => allD ps fun xs => sp xs (putF h1 Q)
section
variable {K : PySem.W.Frag} {W W' : Wd} {H H' : Hp} {h : Hl}
def Wd.base (W : Wd) : Wd := ⟨[], W.rg, fun a => W.fo a ∨ ∃ k : Nat, W.al[k]? = some (some a)⟩
theorem no_nil {α : Type} {j : Nat} {x : α} (e : ([] : List α)[j]? = some x) : False := by simp at e
theorem base_own {a : Addr} : W.base.own a ↔ W.own a := by
  constructor
  · rintro (⟨k, e⟩ | q | q | q)
    · exact (no_nil e).elim
    · exact .inr (.inl q)
    · exact .inr (.inr q)
    · exact .inl q
  · rintro (q | q | q)
    · exact .inr (.inr (.inr q))
    · exact .inr (.inl q)
    · exact .inr (.inr (.inl q))
theorem Pre.base (p : Pre K W H h) : Pre K W.base H [] where
  len := rfl
  cel k c oa h1 _ := (no_nil h1).elim
  rng := p.rng
  nd1 i j a h1 _ := (no_nil h1).elim
  nd2 i a h1 := (no_nil h1).elim
  nd3 := p.nd3
  fo a f := p.there (base_own.mp (.inr (.inr f)))
  nd4 i a h1 := (no_nil h1).elim
  nd5 q m := by
    refine ⟨fun f => ?_, fun f => ?_⟩
    · rcases f with f | ⟨k, e⟩
      · exact (p.nd5 q m).1 f
      · exact (p.nd2 k _ e q m).1 rfl
    · rcases f with f | ⟨k, e⟩
      · exact (p.nd5 q m).2 f
      · exact (p.nd2 k _ e q m).2 rfl
/-- the caller's cells beside what came back -/
def Wd.with (W W' : Wd) : Wd := ⟨W.al ++ W'.al, W'.rg, W.fo⟩
theorem get_app {α : Type} {l m : List α} {k : Nat} {x : α} (e : (l ++ m)[k]? = some x) : (k < l.length ∧ l[k]? = some x) ∨ (l.length ≤ k ∧ m[k - l.length]? = some x) := by
  rw [List.getElem?_append] at e
  split at e
  · rename_i hk; exact .inl ⟨hk, e⟩
  · rename_i hk; exact .inr ⟨by omega, e⟩
theorem with_own (x : ExS W.base W' H H') {a : Addr} : (W.with W').own a ↔ W'.own a := by
  have hf : W'.fo a ↔ (W.fo a ∨ ∃ k : Nat, W.al[k]? = some (some a)) := by
    rw [x.fo]
    exact Iff.rfl
  constructor
  · rintro (⟨k, e⟩ | q | q)
    · have e' : (W.al ++ W'.al)[k]? = some (some a) := e
      rcases get_app e' with ⟨_, e2⟩ | ⟨_, e2⟩
      · exact .inr (.inr (hf.mpr (.inr ⟨k, e2⟩)))
      · exact .inl ⟨_, e2⟩
    · exact .inr (.inl q)
    · exact .inr (.inr (hf.mpr (.inl q)))
  · rintro (⟨k, e⟩ | q | q)
    · refine .inl ⟨W.al.length + k, ?_⟩
      show (W.al ++ W'.al)[_]? = _
      rw [List.getElem?_append_right (Nat.le_add_right _ _), Nat.add_sub_cancel_left]
      exact e
    · exact .inr (.inl q)
    · rcases hf.mp q with q | ⟨k, e⟩
      · exact .inr (.inr q)
      · refine .inl ⟨k, ?_⟩
        show (W.al ++ W'.al)[k]? = _
        rw [List.getElem?_append_left (List.getElem?_eq_some_iff.mp e).1]
        exact e
theorem Ext.with (x : ExS W.base W' H H') : Ext W (W.with W') H H' where
  keep a o e n := x.keep a o e fun z => n (base_own.mp z)
  keepF a o e n := x.keepF a o e (.inl n)
  new a o := by
    rcases x.new a ((with_own x).mp o) with q | q
    · exact .inl (base_own.mp q)
    · exact .inr q
  rg := x.rg
  fo := rfl
  al k a e := by
    show (W.al ++ W'.al)[k]? = _
    rw [List.getElem?_append_left (List.getElem?_eq_some_iff.mp e).1]
    exact e
theorem tr_with (x : ExS W.base W' H H') : Tr W'.own W'.rg H' (W.with W').own (W.with W').rg H' := ⟨fun a o e n => ⟨e, fun z => n ((with_own x).mp z)⟩, fun _ q => q⟩
theorem Pre.with (p : Pre K W H h) {hr : Hl} (p2 : Pre K W' H' hr) (x : ExS W.base W' H H') : Pre K (W.with W') H' (h ++ hr) := by
  have y := Ext.with x
  have fo' : ∀ (k : Nat) a, W.al[k]? = some (some a) → W'.fo a := fun k a e => by
    rw [x.fo]
    exact .inr ⟨k, e⟩
  refine ⟨?_, fun k c oa h1 h2 => ?_, p2.rng, fun i j a h1 h2 => ?_, fun i a h1 => ?_, p2.nd3, fun a fa => p2.fo a (by rw [x.fo]; exact .inl fa), fun i a h1 => ?_, fun q m => ?_⟩
  · show (W.al ++ W'.al).length = _
    rw [List.length_append, List.length_append, p.len, p2.len]
  · have h2' : (W.al ++ W'.al)[k]? = some oa := h2
    rcases get_app h1 with ⟨k1, h1⟩ | ⟨k1, h1⟩ <;> rcases get_app h2' with ⟨k2, h2⟩ | ⟨k2, h2⟩
    · exact RC.ext y.toExS (fun b ys eb q => by
        subst eb
        exact x.keepF b _ q (.inr ⟨k, h2⟩)) (p.cel k c oa h1 h2)
    · rw [p.len] at k2; omega
    · rw [p.len] at k2; omega
    · rw [p.len] at h2
      have r := p2.cel _ c oa h1 h2
      cases c with
      | gone => cases oa with
        | none => trivial
        | some a => exact r
      | lst xs => cases oa with
        | none => exact r
        | some a =>
          obtain ⟨ys, q, s⟩ := r
          exact ⟨ys, q, RDs.tr (tr_with x) _ _ s⟩
  · have h1' : (W.al ++ W'.al)[i]? = some (some a) := h1
    have h2' : (W.al ++ W'.al)[j]? = some (some a) := h2
    rcases get_app h1' with ⟨k1, h1⟩ | ⟨k1, h1⟩ <;> rcases get_app h2' with ⟨k2, h2⟩ | ⟨k2, h2⟩
    · exact p.nd1 i j a h1 h2
    · exact (p2.nd4 _ a h2 (fo' i a h1)).elim
    · exact (p2.nd4 _ a h1 (fo' j a h2)).elim
    · have := p2.nd1 _ _ a h1 h2
      omega
  · have h1' : (W.al ++ W'.al)[i]? = some (some a) := h1
    rcases get_app h1' with ⟨k1, h1⟩ | ⟨k1, h1⟩
    · intro q m
      have n := p2.nd5 q m
      exact ⟨fun z => n.1 (z ▸ fo' i a h1), fun z => n.2 (z ▸ fo' i a h1)⟩
    · exact p2.nd2 _ a h1
  · have h1' : (W.al ++ W'.al)[i]? = some (some a) := h1
    rcases get_app h1' with ⟨k1, h1⟩ | ⟨k1, h1⟩
    · exact p.nd4 i a h1
    · exact fun z => p2.nd4 _ a h1 (by rw [x.fo]; exact .inl z)
  · have n := p2.nd5 q m
    exact ⟨fun z => n.1 (by rw [x.fo]; exact .inl z), fun z => n.2 (by rw [x.fo]; exact .inl z)⟩
theorem rp_with (p : Pre K W H h) {q : P} {v : V} (x : ExS W.base W' H H') (r : RP K W' H' q v) : RP K (W.with W') H' (match q with | .d x => .d x | .ref k => .ref (h.length + k)) v := by
  cases q with
  | d z => exact RD.tr (tr_with x) z v r
  | ref k =>
    obtain ⟨a, rfl, e⟩ := r
    refine ⟨a, rfl, ?_⟩
    show (W.al ++ W'.al)[h.length + k]? = _
    rw [← p.len, List.getElem?_append_right (Nat.le_add_right _ _), Nat.add_sub_cancel_left]
    exact e
/-- a given-up list in place of the first cell -/
theorem first_gone {xs : List D} {v : V} (p : Pre K W H [.lst xs]) (r : RP K W H (.ref 0) v) : ∃ W2, W2.al = [] ∧ Pre K W2 H [] ∧ ExS W W2 H H ∧ RD K W2.own W2.rg H (.lst xs) v := by
  obtain ⟨a, rfl, e⟩ := r
  obtain ⟨ys, h1, h2⟩ := p.cel 0 _ _ rfl e
  refine ⟨W.cut 0, rfl, p.cut 0, ExS.cut, ?_⟩
  simp only [RD]
  refine ⟨a, ys, rfl, ⟨h1, fun o => ?_⟩, RDs.ext ExS.cut _ _ h2⟩
  rcases o with ⟨j, e9⟩ | ⟨z2, m2, e9⟩ | e9
  · exact no_nil e9
  · have nn := p.nd2 0 a e z2 m2
    exact e9.elim nn.1 nn.2
  · exact p.nd4 0 a e e9
theorem base_tr : Tr W.own W.rg H W.base.own W.base.rg H := ⟨fun a o e n => ⟨e, fun z => n (base_own.mp z)⟩, fun _ q => q⟩
theorem call_R {X : Cx} {sp : GSp} {xs : List D} {vs : List V} {post : P → Hl → Prop} {Q : VK} {E : XK} (p : Pre X.K W H h) (r : RDs X.K W.own W.rg H xs vs) (q : sp xs (putR h post)) (f : Fin X.K W H post Q) : upSp X.K sp vs H Q E := by
  refine ⟨W.base, xs, _, rfl, p.base, RDs.tr base_tr _ _ r, q, fun z hr W' H' v q2 p2 x2 r2 => ?_⟩
  have pw := p.with p2 x2
  have rw' := rp_with p x2 r2
  have y := Ext.with x2
  unfold putR at q2
  split at q2
  · rw [List.append_nil] at pw
    exact f _ _ _ _ _ q2 pw y rw'
  · rename_i c
    rw [addCell_eq] at q2
    exact f _ _ _ _ _ q2 pw y rw'
  · exact q2.elim
theorem call_F {X : Cx} {sp : GSp} {xs : List D} {vs : List V} {post : P → Hl → Prop} {Q : VK} {E : XK} (p : Pre X.K W H h) (r : RDs X.K W.own W.rg H xs vs) (q : sp xs (putF h post)) (f : Fin X.K W H post Q) : upSp X.K sp vs H Q E := by
  refine ⟨W.base, xs, _, rfl, p.base, RDs.tr base_tr _ _ r, q, fun z hr W' H' v q2 p2 x2 r2 => ?_⟩
  unfold putF at q2
  split at q2
  · have pw := p.with p2 x2
    rw [List.append_nil] at pw
    exact f _ _ _ _ _ q2 pw (Ext.with x2) (rp_with p x2 r2)
  · rename_i zs
    obtain ⟨W2, e2, p3, x3, r3⟩ := first_gone p2 r2
    have x4 := x2.trans x3
    have pw := p.with p3 x4
    rw [List.append_nil] at pw
    exact f _ _ _ _ _ q2 pw (Ext.with x4) (rp_with (q := .d (.lst zs)) p x4 (show RP X.K W2 H' (.d (.lst zs)) v from r3))
  · exact q2.elim
end
section
variable {X : Cx} {CX : CXT} {k : Nat} {f : Addr} {fd : FuncData} {ps : List Str} {sp : GSp} {x : Str} {p pos : Pos} {e : Expr} {es : List Expr} {t : GA}
theorem call_up {τ : L2.St} {H : Hp} {Q : VK} (q : up X.K (gCall sp t) τ H Q) : tCall (upSp X.K sp) [] E0 (upA X.K t) τ H Q := by
  obtain ⟨W, h, σ, post, p, g, q, f⟩ := q
  refine ⟨W, h, σ, _, p, g, q, fun ps h1 W1 H1 vs q1 p1 x1 r1 => ?_⟩
  obtain ⟨xs, q2, r2⟩ := allD_ok r1 q1
  rw [List.append_nil]
  exact call_R p1 r2 q2 fun z h2 W2 H2 v q p2 x2 r => f z h2 W2 H2 v q p2 (x1.trans x2) r
theorem callF_up {τ : L2.St} {H : Hp} {Q : VK} (q : up X.K (gCallF sp t) τ H Q) : tCall (upSp X.K sp) [] E0 (upA X.K t) τ H Q := by
  obtain ⟨W, h, σ, post, p, g, q, f⟩ := q
  refine ⟨W, h, σ, _, p, g, q, fun ps h1 W1 H1 vs q1 p1 x1 r1 => ?_⟩
  obtain ⟨xs, q2, r2⟩ := allD_ok r1 q1
  rw [List.append_nil]
  exact call_F p1 r2 q2 fun z h2 W2 H2 v q p2 x2 r => f z h2 W2 H2 v q p2 (x1.trans x2) r
theorem e_call (F : FnOk X.prog X.w X.K X.mg X.base CX0 k f fd ps (upSp X.K sp)) (hr : Room k X.A) (hm : X.mg x = some (.ref f)) (hk : PySem.W.keepIn X.K (.ref f) = true) (hb : Binds X.K fd ps []) (ha : EA X (e :: es) t) (hg : Gl X x := by rfl) (hdb : (x == ("__debug__" : Str)) = false := by decide)
    (he : starEach (e :: es) X.env = (false, eval e X.env) :: starEach es X.env := by rfl) (hpl : (backTo pos (starEach es X.env)).any (·.1) = false := by rfl) : E X (.Call (.Name x p) (e :: es) [] pos) (gCall sp t) :=
  PE.weak (pe_call F hr hg hm hk hb .nil pass0 ha hdb he hpl) fun _ _ _ => call_up
theorem e_callF (F : FnOk X.prog X.w X.K X.mg X.base CX0 k f fd ps (upSp X.K sp)) (hr : Room k X.A) (hm : X.mg x = some (.ref f)) (hk : PySem.W.keepIn X.K (.ref f) = true) (hb : Binds X.K fd ps []) (ha : EA X (e :: es) t) (hg : Gl X x := by rfl) (hdb : (x == ("__debug__" : Str)) = false := by decide)
    (he : starEach (e :: es) X.env = (false, eval e X.env) :: starEach es X.env := by rfl) (hpl : (backTo pos (starEach es X.env)).any (·.1) = false := by rfl) : E X (.Call (.Name x p) (e :: es) [] pos) (gCallF sp t) :=
  PE.weak (pe_call F hr hg hm hk hb .nil pass0 ha hdb he hpl) fun _ _ _ => callF_up
end
/-- what a def hands back: the cells that are not it are forgotten -/
def retP (post : P → Hl → Prop) : P → Hl → Prop := fun p h => match p with
  | .d x => post (.d x) []
  | .ref k => match cellAt h k with
    | some (.lst xs) => post (.ref 0) [.lst xs]
    | _ => False
def retG (post : P → Hl → Prop) : GD := ⟨fun _ _ => post (.d .non) [], retP post, fun _ _ => False, fun _ _ => False⟩
def startS (N : List Str) (xs : List D) : Sl := xs.map (fun x => some (.d x)) ++ List.replicate (N.length - xs.length) none
theorem sg_start {K : PySem.W.Frag} {W : Wd} {H : Hp} {N : List Str} {xs : List D} {vs : List V} (r : RDs K W.own W.rg H xs vs) : Sg K W H (startS N xs) (L2.start N vs) := by
  refine ⟨by simp [startS, L2.start, r.len], fun i p e => ?_⟩
  unfold startS at e
  rcases get_app e with ⟨hi, e2⟩ | ⟨hi, e2⟩
  · rw [List.getElem?_map] at e2
    cases h1 : xs[i]? with
    | none => rw [h1] at e2; cases e2
    | some x =>
      rw [h1] at e2
      simp only [Option.map_some, Option.some.injEq] at e2
      subst e2
      obtain ⟨v, h2, h3⟩ := r.get h1
      refine ⟨v, ?_, h3⟩
      unfold L2.start
      rw [List.getElem?_append_left (by simpa [r.len] using hi), List.getElem?_map, h2]
      rfl
  · rw [List.getElem?_replicate] at e2
    split at e2 <;> cases e2
theorem rp_non {K : PySem.W.Frag} {W : Wd} {H : Hp} : RP K W H (.d .non) .non := (rd_non : RD K W.own W.rg H .non .non)
section
variable {P₀ : Program} {w : World} {K : PySem.W.Frag} {mg : Str → Option Value} {base : Heap} {x qual : Str} {params : Arguments} {body : List Stmt} {scope : Scope} {dvs : List V} {kws : List (Str × V)} {f : Addr} {fd : FuncData} {N ps : List Str} {k : Nat} {sp : GSp} {t : GS}
theorem fn_ok (F : FunD K x qual params body scope dvs kws f fd) (S : FnScope N ps scope) (len : ∀ xs post, sp xs post → xs.length = ps.length)
    (hb : ∀ (cdv : Value) (A : Around) (outer : List Env) (s : Shared) (H : Hp) (E : XK), Room k (A.deeper (envOfC qual scope s.heap.objs.size f cdv)) → Ss (cxOf CX0 P₀ w K mg base N qual scope f cdv A outer s H E).nox body t)
    (hp : ∀ xs post, sp xs post → t (retG post) (startS N xs) []) : FnOk P₀ w K mg base CX0 (k + 1) f fd ps (upSp K sp) := by
  refine F.ok S (fun vs H Q E hh => ?_) (fun cdv A outer s H vs Q E hr hh => ?_)
  · obtain ⟨W, xs, post, _, _, r, q, _⟩ := hh
    rw [← r.len]
    exact len xs post q
  · obtain ⟨W, xs, post, ea, p, r, q, ff⟩ := hh
    refine ⟨_, PSs.nox (hb cdv A outer s H E hr), ?_⟩
    refine ⟨W, [], _, _, p, sg_start r, hp xs post q, ⟨fun σ h W' H' τ q2 p2 x2 g2 => ?_, fun z h W' H' v q2 p2 x2 r2 => ?_, fun σ h W' H' τ q2 => q2.elim, fun σ h W' H' τ q2 => q2.elim⟩⟩
    · exact ff _ _ (W'.cut 0) H' .non q2 (p2.cut 0) (x2.trans ExS.cut) rp_non
    · cases z with
      | d z => exact ff _ _ (W'.cut 0) H' v q2 (p2.cut 0) (x2.trans ExS.cut) (RD.ext ExS.cut _ _ r2)
      | ref j =>
        have q3 : (match cellAt h j with
          | some (.lst xs) => post (.ref 0) [.lst xs]
          | _ => False) := q2
        split at q3
        · rename_i zs e1
          obtain ⟨a, ys, rfl, h2, h3, h4⟩ := cell_ok p2 e1 r2
          -- the one cell alone
          have own1 : ∀ b, (⟨[some a], W'.rg, W'.fo⟩ : Wd).own b → W'.own b := by
            rintro b (⟨i, e⟩ | q | q)
            · have e' : ([some a] : List (Option Addr))[i]? = some (some b) := e
              cases i with
              | zero => simp at e'; subst e'; exact .inl ⟨j, h2⟩
              | succ i => simp at e'
            · exact .inr (.inl q)
            · exact .inr (.inr q)
          have x3 : ExS W' ⟨[some a], W'.rg, W'.fo⟩ H' H' := ⟨fun _ _ e _ => e, fun _ _ e _ => e, fun b o => .inl (own1 b o), fun _ q => q, rfl⟩
          have one : ∀ (i : Nat) b, ([some a] : List (Option Addr))[i]? = some (some b) → i = 0 ∧ b = a := fun i b e => by
            cases i with
            | zero => simp at e; exact ⟨rfl, e.symm⟩
            | succ i => simp at e
          refine ff _ _ ⟨[some a], W'.rg, W'.fo⟩ H' _ q3 ⟨rfl, fun i c oa h5 h6 => ?_, p2.rng, fun i j' b h5 h6 => ?_, fun i b h5 => ?_, p2.nd3, p2.fo, fun i b h5 => ?_, p2.nd5⟩ (x2.trans x3) ⟨a, rfl, rfl⟩
          · cases i with
            | zero =>
              simp at h5 h6
              subst h5 h6
              exact ⟨ys, h3, RDs.ext x3 _ _ h4⟩
            | succ i => simp at h5
          · rw [(one i b h5).1, (one j' b h6).1]
          · rw [(one i b h5).2]
            exact p2.nd2 j a h2
          · rw [(one i b h5).2]
            exact p2.nd4 j a h2
        · exact q3.elim
end
/-- a promise may be weakened -/
theorem fn_imp {P₀ : Program} {w : World} {K : PySem.W.Frag} {mg : Str → Option Value} {base : Heap} {k : Nat} {f : Addr} {fd : FuncData} {ps : List Str} {sp sp' : GSp} (F : FnOk P₀ w K mg base CX0 k f fd ps (upSp K sp)) (h : ∀ xs post, sp' xs post → sp xs post) : FnOk P₀ w K mg base CX0 k f fd ps (upSp K sp') :=
  F.imp fun vs H Q E ⟨W, xs, post, a, b, c, d, e⟩ => ⟨W, xs, post, a, b, c, h xs post d, e⟩
/-- the law: the script is data -/
theorem law_sp {K : PySem.W.Frag} {sp : GSp} {H : Hp} {a : Addr} {ns : List Int} (hs : sp [.klst (ns.map D.int)] (fun p _ => p = .d (.bl true))) (ho : Only H) (hS : SqL K H a (ns.map V.int)) : upSp K sp [.ref a] H (fun v _ => v = .bl true) fun _ _ _ => False := by
  have nf : ∀ b, ¬ (⟨[], [], fun _ => False⟩ : Wd).own b := by
    rintro b (⟨i, e⟩ | ⟨q, m, _⟩ | q)
    · exact no_nil e
    · cases m
    · exact q
  have rs : ∀ (own : Addr → Prop) (rg : List (Addr × Addr)) (H : Hp) (ns : List Int), RDs K own rg H (ns.map D.int) (ns.map V.int) := by
    intro own rg H ns
    induction ns with
    | nil => exact RDs.nil
    | cons n ns ih => exact RDs.cons rd_int ih
  refine ⟨⟨[], [], fun _ => False⟩, _, _, rfl, ⟨rfl, fun k c oa h1 _ => (no_nil h1).elim, fun q m => (by cases m), fun i j a h1 _ => (no_nil h1).elim, fun i a h1 => (no_nil h1).elim, fun q m => (by cases m), fun _ f => f.elim, fun i a h1 => (no_nil h1).elim, fun q m => (by cases m)⟩, ?_, hs, fun p hr W' H' v q p2 x2 r2 => ?_⟩
  · refine RDs.one ?_
    simp only [RD]
    refine ⟨a, ns.map V.int, rfl, ?_, rs _ _ _ _⟩
    rcases hS with hS | hS
    · exact .inl ⟨hS, nf a⟩
    · exact .inr hS
  · subst q
    exact bl_of r2
end Sc

set_option Elab.async false
set_option linter.all false
set_option maxRecDepth 100000
/-! Sc9: states of draws. -/
namespace Sc
open PySem PySem.Spec PyProof.Rows L2
/-- the script, or a part of it, goes in; a state of draws comes out -/
def spStart : GSp := fun xs Q => (∃ ns : List Int, ns.length ≤ 63 ∧ (xs = [.klst (ns.map .int)] ∨ xs = [.lst (ns.map .int)])) ∧ Q (.d .rng) []
/-- any number below m -/
structure DrawP (m : Int) (k : Int → Prop) : Prop where
  ok : DivX m
  go : ∀ r, 0 ≤ r → r < m → k r
def spDraw : GSp := fun xs Q => match xs with
  | [.rng, .int m] => DrawP m fun r => Q (.d (.int r)) []
  | _ => False
theorem spDraw_of {xs : List D} {Q : P → Hl → Prop} (h : spDraw xs Q) : ∃ m : Int, xs = [.rng, .int m] ∧ DivX m ∧ ∀ r, 0 ≤ r → r < m → Q (.d (.int r)) [] := by
  unfold spDraw at h
  split at h
  · exact ⟨_, rfl, h.ok, h.go⟩
  · exact h.elim
theorem DivX.le {m : Int} (h0 : 0 < m) (h : m ≤ 1000000000000000000000000000000000000000000000000000000000000) : DivX m := by
  refine ⟨h0, ?_⟩
  have : m.natAbs ≤ 1000000000000000000000000000000000000000000000000000000000000 := by omega
  exact Nat.lt_of_le_of_lt this (by decide +kernel)
section
variable {K : PySem.W.Frag}
theorem ns_of {own : Addr → Prop} {rg : List (Addr × Addr)} {H : Hp} : ∀ {ns : List Int} {vs : List V}, RDs K own rg H (ns.map D.int) vs → vs = ns.map V.int
  | [], _, r => by simp only [List.map_nil, RDs] at r; subst r; rfl
  | n :: ns, _, r => by
    simp only [List.map_cons, RDs] at r
    obtain ⟨y, q, rfl, r1, r2⟩ := r
    rw [ns_of r2]
    simp only [RD] at r1
    subst r1
    rfl
theorem rp_rng {K : PySem.W.Frag} {W : Wd} {H : Hp} {a g : Addr} (m : (a, g) ∈ W.rg) : RP K W H (.d .rng) (.ref a) := by
  simp only [RP, RD]
  exact ⟨a, g, rfl, m⟩
theorem rp_int {K : PySem.W.Frag} {W : Wd} {H : Hp} {i : Int} : RP K W H (.d (.int i)) (.int i) := by
  simp only [RP, RD]
theorem cpow : CPow 10 18 := ⟨by decide, by decide, by decide⟩
/-- a new state of draws -/
theorem Pre.newRng {W : Wd} {H H' : Hp} {a g : Addr} (p : Pre K W H []) (ha : H a = none) (hg : H g = none) (ne : a ≠ g) (ok : RngOk H' a g) (k : ∀ b o, H b = some o → H' b = some o) :
    Pre K ⟨W.al, (a, g) :: W.rg, W.fo⟩ H' [] ∧ ExS W ⟨W.al, (a, g) :: W.rg, W.fo⟩ H H' := by
  have al0 : W.al = [] := List.length_eq_zero_iff.mp p.len
  refine ⟨⟨p.len, fun k c oa h1 _ => (no_nil h1).elim, fun q m => ?_, fun i j b h1 => ?_, fun i b h1 => ?_, fun q m q' m' => ?_, fun b fb => ?_, fun i b h1 => ?_, fun q m => ?_⟩, ⟨fun b o e _ => k b o e, fun b o e _ => k b o e, fun b o => ?_, fun q m => List.mem_cons_of_mem _ m, rfl⟩⟩
  · cases m with
    | head => exact ok
    | tail _ m =>
      obtain ⟨s, c, gs, h1, h2, h3⟩ := p.rng q m
      exact ⟨s, c, gs, k _ _ h1, k _ _ h2, h3⟩
  · have h1' : W.al[i]? = some (some b) := h1
    rw [al0] at h1'
    exact (no_nil h1').elim
  · have h1' : W.al[i]? = some (some b) := h1
    rw [al0] at h1'
    exact (no_nil h1').elim
  · have old : ∀ z ∈ W.rg, z.1 ≠ a ∧ z.1 ≠ g ∧ z.2 ≠ a ∧ z.2 ≠ g := fun z mz => by
      obtain ⟨s, c, gs, h1, h2, h3⟩ := p.rng z mz
      exact ⟨ne_of_none h1 ha, ne_of_none h1 hg, ne_of_none h2 ha, ne_of_none h2 hg⟩
    cases m with
    | head => cases m' with
      | head => exact ⟨ne, fun _ => rfl, fun _ => rfl⟩
      | tail _ m' =>
        have o := old _ m'
        exact ⟨fun e => o.2.2.1 e.symm, fun e => (o.1 e.symm).elim, fun e => (o.2.2.2 e.symm).elim⟩
    | tail _ m => cases m' with
      | head =>
        have o := old _ m
        exact ⟨fun e => o.2.1 e, fun e => (o.1 e).elim, fun e => (o.2.2.2 e).elim⟩
      | tail _ m' => exact p.nd3 q m q' m'
  · obtain ⟨xs, q⟩ := p.fo b fb
    exact ⟨xs, k _ _ q⟩
  · have h1' : W.al[i]? = some (some b) := h1
    rw [al0] at h1'
    exact (no_nil h1').elim
  · cases m with
    | head =>
      refine ⟨fun fb => ?_, fun fb => ?_⟩
      · obtain ⟨xs, q⟩ := p.fo _ fb
        rw [ha] at q; cases q
      · obtain ⟨xs, q⟩ := p.fo _ fb
        rw [hg] at q; cases q
    | tail _ m => exact p.nd5 q m
  · rcases o with ⟨i, e⟩ | ⟨q, m, e⟩ | q
    · exact .inl (.inl ⟨i, e⟩)
    · cases m with
      | head =>
        rcases e with rfl | rfl
        · exact .inr ha
        · exact .inr hg
      | tail _ m => exact .inl (.inr (.inl ⟨q, m, e⟩))
    · exact .inl (.inr (.inr q))
/-- a state of draws is changed -/
theorem Pre.turn {W : Wd} {H H' : Hp} {a g : Addr} (p : Pre K W H []) (m : (a, g) ∈ W.rg) (ok : RngOk H' a g) (k : ∀ b o, b ≠ a → b ≠ g → H b = some o → H' b = some o) : Pre K W H' [] ∧ ExS W W H H' := by
  have al0 : W.al = [] := List.length_eq_zero_iff.mp p.len
  have fo1 : ∀ b, W.fo b → b ≠ a ∧ b ≠ g := fun b fb => ⟨fun e => (p.nd5 _ m).1 (e ▸ fb), fun e => (p.nd5 _ m).2 (e ▸ fb)⟩
  refine ⟨⟨p.len, fun k c oa h1 _ => (no_nil h1).elim, fun q mq => ?_, p.nd1, p.nd2, p.nd3, fun b fb => ?_, p.nd4, p.nd5⟩, ⟨fun b o e n => ?_, fun b o e fb => k b o (fo1 b fb).1 (fo1 b fb).2 e, fun b o => .inl o, fun q m => m, rfl⟩⟩
  · by_cases e : q = (a, g)
    · subst e; exact ok
    · have h1 := p.nd3 q mq (a, g) m
      have h2 := p.nd3 (a, g) m q mq
      obtain ⟨s, c, gs, e1, e2, e3⟩ := p.rng q mq
      exact ⟨s, c, gs, k _ _ (fun z => e (h1.2.1 z)) h1.1 e1, k _ _ (fun z => h2.1 z.symm) (fun z => e (h1.2.2 z)) e2, e3⟩
  · obtain ⟨xs, q⟩ := p.fo b fb
    exact ⟨xs, k _ _ (fo1 b fb).1 (fo1 b fb).2 q⟩
  · exact k b o (fun z => n (.inr (.inl ⟨_, m, .inl z⟩))) (fun z => n (.inr (.inl ⟨_, m, .inr z⟩))) e
theorem mulR (i j : Int) (h : -(2 ^ 64) < j ∧ j < 2 ^ 64) : CMul i j := .inr h
theorem mulL (i j : Int) (h : -(2 ^ 64) < i ∧ i < 2 ^ 64) : CMul i j := .inl h
end
end Sc

set_option Elab.async false
set_option linter.all false
set_option maxRecDepth 100000
/-! Sc10: isinstance, promises in short, steps of a proof. -/
namespace Sc
open PySem PySem.Spec PyProof.Rows L2

inductive Ty where
  | int | bool | str | tuple | list
def Ty.nm : Ty → String
  | .int => "int" | .bool => "bool" | .str => "str" | .tuple => "tuple" | .list => "list"
def isK (t : Ty) : P → Bool
  | .d (.bl _) => match t with
    | .int => true | .bool => true | _ => false
  | .d (.int _) => match t with
    | .int => true | _ => false
  | .d (.str _) => match t with
    | .str => true | _ => false
  | .d (.tup _) => match t with
    | .tuple => true | _ => false
  | .d (.lst _) => match t with
    | .list => true | _ => false
  | .d (.klst _) => match t with
    | .list => true | _ => false
  | .d .rng => match t with
    | .list => true | _ => false
  | .ref _ => match t with
    | .list => true | _ => false
  | .d .non => false
def gIsi (t : Ty) (te : GT) : GT := fun σ h Q => te σ h fun x h1 => Q (.d (.bl (isK t x))) h1
def pyT : P → String
  | .d .non => "NoneType" | .d (.bl _) => "bool" | .d (.int _) => "int" | .d (.str _) => "str" | .d (.tup _) => "tuple" | _ => "list"
theorem pyT_ok {K : PySem.W.Frag} {W : Wd} {H : Hp} {h : Hl} {x : P} {v : V} (p : Pre K W H h) (r : RP K W H x v) : TyX K H v (.type (pyT x)) := by
  have ofL : ∀ {a : Addr} {ys : List V}, Rd H a (.lst ys) → TyX K H (.ref a) (.type "list") := fun q => by
    rcases q with q | ⟨o, q⟩
    · exact .base (.lst q)
    · exact .base (.frz q)
  cases x with
  | d x =>
    cases x with
    | non => rw [non_of r]; exact .base .non
    | bl b => rw [bl_of r]; exact .base (.bl b)
    | int b => rw [int_of r]; exact .base (.int b)
    | str b => rw [str_of r]; exact .base (.str b)
    | tup xs =>
      simp only [RP, RD] at r
      obtain ⟨a, ys, rfl, q, s⟩ := r
      rcases q with ⟨q | ⟨o, q⟩, n⟩ | ⟨o, its, n, q, c, _⟩
      · exact .base (.tup q)
      · exact .fTuple q
      · exact .kTuple q c
    | lst xs =>
      simp only [RP, RD] at r
      obtain ⟨a, ys, rfl, q, s⟩ := r
      exact ofL (.inl q.1)
    | klst xs =>
      simp only [RP, RD] at r
      obtain ⟨a, ys, rfl, q, s⟩ := r
      rcases q with ⟨q, n⟩ | ⟨o, its, n, q, c, _⟩
      · exact ofL q
      · exact .kList q c
    | rng =>
      simp only [RP, RD] at r
      obtain ⟨a, g, rfl, m⟩ := r
      obtain ⟨s, c, gs, h1, _⟩ := p.rng _ m
      exact ofL (.inl h1)
  | ref k =>
    obtain ⟨a, rfl, e⟩ := r
    obtain ⟨xs, q⟩ := p.there (.inl ⟨k, e⟩ : W.own a)
    exact ofL (.inl q)
/-- a type's name answers for every kind of data -/
def IsiOk (t : Ty) : Prop := ∀ x : P, kitB (pyT x) t.nm = some (isK t x)
theorem isi_ok (t : Ty) : IsiOk t := by
  intro x
  cases t <;> cases x with
  | ref k => (simp only [pyT, Ty.nm, isK]; decide +kernel)
  | d x => cases x <;> (simp only [pyT, Ty.nm, isK]; decide +kernel)
theorem isi_int : IsiOk .int := isi_ok _
theorem isi_bool : IsiOk .bool := isi_ok _
theorem isi_str : IsiOk .str := isi_ok _
theorem isi_tuple : IsiOk .tuple := isi_ok _
theorem isi_list : IsiOk .list := isi_ok _
theorem e_isi {X : Cx} {e : Expr} {te : GT} {t : Ty} {x : Str} {p p2 pos : Pos} (hi : X.mg "isinstance" = none) (hx : X.mg x = none) (hv : bootBuiltins x = some (.type t.nm)) (k : IsiOk t) (he : E X e te) (hg : Gl X "isinstance" := by rfl) (hg2 : Gl X x := by rfl)
    (hb : bootBuiltins "isinstance" = some (.builtin "isinstance") := by decide +kernel) (hn : x ≠ "__name__" := by decide) (hdb : (x == ("__debug__" : Str)) = false := by decide)
    (s1 : starEach [e, .Name x p2] X.env = (false, eval e X.env) :: starEach [.Name x p2] X.env := by rfl) (s2 : starEach [.Name x p2] X.env = (false, eval (.Name x p2) X.env) :: starEach [] X.env := by rfl) (hpl : (backTo pos (starEach [.Name x p2] X.env)).any (·.1) = false := by rfl) :
    E X (.Call (.Name "isinstance" p) [e, .Name x p2] [] pos) (gIsi t te) :=
  PE.weak (pe_callB call_isi hg hi hb (pa_cons he (pa_cons (pe_bltn (v := .ty t.nm) hg2 hx hv rfl hn hdb) pa_nil s2) s1) (by decide) (by decide) s1 hpl) fun τ H Q q => by
    obtain ⟨W, h, σ, post, pp, g, q, f⟩ := q
    refine ⟨W, h, σ, _, pp, g, q, fun y h1 W1 H1 v q1 p1 x1 r1 => ?_⟩
    exact ⟨v, .ty t.nm, _, _, _, rfl, .ty _, pyT_ok p1 r1, kit_ty (k y), f _ h1 W1 H1 _ q1 p1 x1 (rd_bl : RD X.K W1.own W1.rg H1 _ _)⟩

/-! ### promises in short -/
def sp1 (f : D → (P → Hl → Prop) → Prop) : GSp := fun xs Q => match xs with
  | [a] => f a Q
  | _ => False
def sp2 (f : D → D → (P → Hl → Prop) → Prop) : GSp := fun xs Q => match xs with
  | [a, b] => f a b Q
  | _ => False
def sp3 (f : D → D → D → (P → Hl → Prop) → Prop) : GSp := fun xs Q => match xs with
  | [a, b, c] => f a b c Q
  | _ => False
def sp4 (f : D → D → D → D → (P → Hl → Prop) → Prop) : GSp := fun xs Q => match xs with
  | [a, b, c, d] => f a b c d Q
  | _ => False
def sp5 (f : D → D → D → D → D → (P → Hl → Prop) → Prop) : GSp := fun xs Q => match xs with
  | [a, b, c, d, e] => f a b c d e Q
  | _ => False
def sp6 (f : D → D → D → D → D → D → (P → Hl → Prop) → Prop) : GSp := fun xs Q => match xs with
  | [a, b, c, d, e, g] => f a b c d e g Q
  | _ => False
theorem sp1_len {f} : ∀ xs post, sp1 f xs post → xs.length = 1 := fun xs post q => by
  unfold sp1 at q; split at q; rfl; exact q.elim
theorem sp2_len {f} : ∀ xs post, sp2 f xs post → xs.length = 2 := fun xs post q => by
  unfold sp2 at q; split at q; rfl; exact q.elim
theorem sp3_len {f} : ∀ xs post, sp3 f xs post → xs.length = 3 := fun xs post q => by
  unfold sp3 at q; split at q; rfl; exact q.elim
theorem sp4_len {f} : ∀ xs post, sp4 f xs post → xs.length = 4 := fun xs post q => by
  unfold sp4 at q; split at q; rfl; exact q.elim
theorem sp5_len {f} : ∀ xs post, sp5 f xs post → xs.length = 5 := fun xs post q => by
  unfold sp5 at q; split at q; rfl; exact q.elim
theorem sp6_len {f} : ∀ xs post, sp6 f xs post → xs.length = 6 := fun xs post q => by
  unfold sp6 at q; split at q; rfl; exact q.elim
/-- the body keeps the promise -/
def Keeps (N : List Str) (t : GS) (sp : GSp) : Prop := ∀ xs post, sp xs post → t (retG post) (startS N xs) []
theorem keeps1 {N : List Str} {t : GS} {f} (h : ∀ a Q, f a Q → t (retG Q) (startS N [a]) []) : Keeps N t (sp1 f) := fun xs post q => by
  unfold sp1 at q; split at q; exact h _ _ q; exact q.elim
theorem keeps2 {N : List Str} {t : GS} {f} (h : ∀ a b Q, f a b Q → t (retG Q) (startS N [a, b]) []) : Keeps N t (sp2 f) := fun xs post q => by
  unfold sp2 at q; split at q; exact h _ _ _ q; exact q.elim
theorem keeps3 {N : List Str} {t : GS} {f} (h : ∀ a b c Q, f a b c Q → t (retG Q) (startS N [a, b, c]) []) : Keeps N t (sp3 f) := fun xs post q => by
  unfold sp3 at q; split at q; exact h _ _ _ _ q; exact q.elim
theorem keeps4 {N : List Str} {t : GS} {f} (h : ∀ a b c d Q, f a b c d Q → t (retG Q) (startS N [a, b, c, d]) []) : Keeps N t (sp4 f) := fun xs post q => by
  unfold sp4 at q; split at q; exact h _ _ _ _ _ q; exact q.elim
theorem keeps5 {N : List Str} {t : GS} {f} (h : ∀ a b c d e Q, f a b c d e Q → t (retG Q) (startS N [a, b, c, d, e]) []) : Keeps N t (sp5 f) := fun xs post q => by
  unfold sp5 at q; split at q; exact h _ _ _ _ _ _ q; exact q.elim
theorem keeps6 {N : List Str} {t : GS} {f} (h : ∀ a b c d e g Q, f a b c d e g Q → t (retG Q) (startS N [a, b, c, d, e, g]) []) : Keeps N t (sp6 f) := fun xs post q => by
  unfold sp6 at q; split at q; exact h _ _ _ _ _ _ _ q; exact q.elim
theorem hu5_of {k : Nat} {A : Around} (r : Room k A) : A.units + 65 < cLine := by
  have := r.un
  omega
/-- two ways by a decision -/
theorem Br.dec {c : Prop} [Decidable c] {A B : Prop} (h1 : c → A) (h2 : ¬ c → B) : Br (decide c) A B := ⟨fun e => h1 (of_decide_eq_true e), fun e => h2 (of_decide_eq_false e)⟩
theorem Br.ndec {c : Prop} [Decidable c] {A B : Prop} (h1 : ¬ c → A) (h2 : c → B) : Br (!decide c) A B := ⟨fun e => h1 (by simpa using e), fun e => h2 (by simpa using e)⟩
theorem Br.tt {A B : Prop} (h : A) : Br true A B := ⟨fun _ => h, fun e => (nomatch e)⟩
theorem Br.ff {A B : Prop} (h : B) : Br false A B := ⟨fun e => (nomatch e), fun _ => h⟩
theorem Br.cases {b : Bool} {A B : Prop} (h1 : b = true → A) (h2 : b = false → B) : Br b A B := ⟨h1, h2⟩
theorem Br.eqr {α : Type} [DecidableEq α] {x : α} {A B : Prop} (h : A) : Br (decide (x = x)) A B := ⟨fun _ => h, fun e => (of_decide_eq_false e rfl).elim⟩
theorem Br.ner {α : Type} [DecidableEq α] {x : α} {A B : Prop} (h : B) : Br (!decide (x = x)) A B := ⟨fun e => by simp at e, fun _ => h⟩
theorem Br.joined {b c : Bool} {A : Prop} (h : A) : Br b A A := ⟨fun _ => h, fun _ => h⟩
end Sc

set_option Elab.async false
set_option linter.all false
set_option maxRecDepth 100000
/-! Sc11: the same, over data. -/
namespace Sc
open PySem PySem.Spec PyProof.Rows L2

/-- what «_law_same» promises for equal data of depth n -/
def spSame (n : Nat) : GSp := sp2 fun a b Q => b = a ∧ a.flat n = true ∧ Q (.d (.bl true)) []
def spNo : GSp := fun _ _ => False
theorem fn_no {P₀ : Program} {w : World} {K : PySem.W.Frag} {mg : Str → Option Value} {base : Heap} {k : Nat} {f : Addr} {fd : FuncData} {ps : List Str} : FnOk P₀ w K mg base CX0 k f fd ps (upSp K spNo) :=
  ⟨fun _ _ _ _ ⟨_, _, _, _, _, _, q, _⟩ => q.elim, fun _ _ _ _ _ _ _ _ _ _ _ _ _ ⟨_, _, _, _, _, _, q, _⟩ => q.elim⟩
theorem D.flats_get : ∀ {n : Nat} {xs : List D} {i : Nat} {x : D}, D.flats n xs = true → xs[i]? = some x → x.flat n = true
  | n, [], i, x, _, e => by simp at e
  | n, y :: ys, 0, x, h, e => by
    simp only [D.flats, Bool.and_eq_true] at h
    simp at e
    subst e
    exact h.1
  | n, y :: ys, i + 1, x, h, e => by
    simp only [D.flats, Bool.and_eq_true] at h
    exact D.flats_get (i := i) h.2 (by simpa using e)
theorem flats_map {α : Type} {f : α → D} {n : Nat} (h : ∀ a, (f a).flat n = true) : ∀ xs : List α, D.flats n (xs.map f) = true
  | [] => rfl
  | x :: xs => by
    simp only [List.map_cons, D.flats, Bool.and_eq_true]
    exact ⟨h x, flats_map h xs⟩
theorem flats_of {n : Nat} : ∀ {xs : List D}, (∀ x ∈ xs, x.flat n = true) → D.flats n xs = true
  | [], _ => rfl
  | x :: xs, h => by
    simp only [D.flats, Bool.and_eq_true]
    exact ⟨h x List.mem_cons_self, flats_of fun y hy => h y (List.mem_cons_of_mem _ hy)⟩
theorem szb {n : Nat} (h : Nat.ble n 1000 = true) : n ≤ sizeLine := Nat.le_of_lt (small1000 (Nat.le_of_ble_eq_true h))
theorem szo {n : Nat} (h : n ≤ 1000000) : n ≤ sizeLine := by rw [sizeLine_eq]; omega
theorem szl {n : Nat} (h : n ≤ 1000000) : n < sizeLine := by rw [sizeLine_eq]; omega
/-- names that nothing reads behind the statement -/
def gKill (is : List Nat) (u : GS) : GS := fun G0 σ h => u { G0 with nx := fun σ' h' => killS is σ' fun q => G0.nx q h' } σ h
theorem s_kill {X : Cx} {st : Stmt} {u : GS} (is : List Nat) (hh : S X st u) : S X st (gKill is u) := PS.weak hh fun D τ H ⟨W, h, σ, Gd, p, g, q, f⟩ =>
  ⟨W, h, σ, _, p, g, q, ⟨fun σ1 h1 W1 H1 τ1 q1 p1 x1 g1 => by
    obtain ⟨σ2, q2, g2⟩ := killS_ok q1 g1
    exact f.nx σ2 h1 W1 H1 τ1 q2 p1 x1 g2, f.rt, f.bk, f.ct⟩⟩
/-- what holds behind a statement that forks -/
theorem seq_join {n : Nat} {t u : GS} {G0 : GD} {σ : Sl} {h : Hl} (J : Sl → Hl → Prop) (h1 : ∀ N : Sl → Hl → Prop, (∀ σ h, J σ h → N σ h) → t { G0 with nx := N } σ h) (h2 : ∀ σ h, J σ h → Ln n (u G0 σ h)) : gSeq n t u G0 σ h := h1 _ h2
theorem cut_all {α : Type} (xs : List α) : cutD xs none none = xs := by
  unfold cutD
  rw [HT.sIx_none, HT.sIx_none]
  simp
theorem cut_to {α : Type} (xs : List α) (k : Nat) : cutD xs none (some (k : Int)) = xs.take k := by
  unfold cutD
  rw [HT.sIx_none, HT.sIx_nat, Nat.sub_zero, List.drop_zero]
  by_cases h : k ≤ xs.length
  · rw [Nat.min_eq_left h]
  · rw [Nat.min_eq_right (by omega), List.take_of_length_le (by omega), List.take_of_length_le (by omega)]
theorem cut_from {α : Type} (xs : List α) (k : Nat) : cutD xs (some (k : Int)) none = xs.drop k := by
  unfold cutD
  rw [HT.sIx_none, HT.sIx_nat]
  by_cases h : k ≤ xs.length
  · rw [Nat.min_eq_left h, List.take_of_length_le (by rw [List.length_drop]; omega)]
  · rw [Nat.min_eq_right (by omega), List.drop_of_length_le (by omega), List.drop_of_length_le (by omega), List.take_nil]
/-- an end: the same answer -/
theorem fin_d {Q : P → Hl → Prop} {x y : D} {h : Hl} (q : Q (.d x) h) (e : x = y) : Q (.d y) h := e ▸ q
theorem fin_b {Q : P → Hl → Prop} {x y : Bool} {h : Hl} (q : Q (.d (.bl x)) h) (e : x = y) : Q (.d (.bl y)) h := e ▸ q
theorem fin_i {Q : P → Hl → Prop} {x y : Int} {h : Hl} (q : Q (.d (.int x)) h) (e : x = y) : Q (.d (.int y)) h := e ▸ q
/-- an item at a place known to lie within -/
theorem At.nat {xs : List D} {i : Int} {k : D → Prop} {x : D} {j : Nat} (e : i = (j : Int)) (h : xs[j]? = some x) (q : k x) : At xs i k := ⟨x, by subst e; exact atI_nat h, q⟩
theorem At.map {α : Type} {f : α → D} {xs : List α} {i : Int} {k : D → Prop} (h0 : 0 ≤ i) (h1 : i < xs.length) (q : ∀ (h : i.toNat < xs.length), k (f xs[i.toNat])) : At (xs.map f) i k := by
  have h : i.toNat < xs.length := by omega
  refine At.nat (j := i.toNat) (by omega) ?_ (q h)
  rw [List.getElem?_map, List.getElem?_eq_getElem h]
  rfl
theorem At.lit {xs : List D} {i : Int} {k : D → Prop} {x : D} (h : atI xs i = some x) (q : k x) : At xs i k := ⟨x, h, q⟩
theorem ForP.range {lo : Int} {n : Nat} {ks : List Nat} {m : Nat} {g : GG} {b : GS} {G0 : GD} {σ : Sl} {h : Hl} (Pv : Nat → Sl → Hl → Prop) (h0 : Pv 0 σ h)
    (hs : ∀ i σ h, i < n → Pv i σ h → g (.d (.int (lo + (i : Nat)))) σ h fun σ2 h2 => b { nx := turnEnd ks m (Pv (i + 1)), ct := turnEnd ks m (Pv (i + 1)), bk := G0.nx, rt := G0.rt } σ2 h2)
    (hd : ∀ σ h, Pv n σ h → G0.nx σ h) : ForP (rangeD lo n) ks m g b G0 σ h := by
  refine ⟨Pv, h0, fun i x σ h e p => ?_, fun σ h p => hd σ h (by rw [rangeD_len] at p; exact p)⟩
  have hi : i < n := by
    have := (List.getElem?_eq_some_iff.mp e).1
    rw [rangeD_len] at this
    exact this
  rw [rangeD_get hi] at e
  cases e
  exact hs i σ h hi p
theorem ForP.map {α : Type} {xs : List α} {f : α → D} {ks : List Nat} {m : Nat} {g : GG} {b : GS} {G0 : GD} {σ : Sl} {h : Hl} (Pv : Nat → Sl → Hl → Prop) (h0 : Pv 0 σ h)
    (hs : ∀ (i : Nat) a σ h, xs[i]? = some a → Pv i σ h → g (.d (f a)) σ h fun σ2 h2 => b { nx := turnEnd ks m (Pv (i + 1)), ct := turnEnd ks m (Pv (i + 1)), bk := G0.nx, rt := G0.rt } σ2 h2)
    (hd : ∀ σ h, Pv xs.length σ h → G0.nx σ h) : ForP (xs.map f) ks m g b G0 σ h := by
  refine ⟨Pv, h0, fun i x σ h e p => ?_, fun σ h p => hd σ h (by rw [List.length_map] at p; exact p)⟩
  rw [List.getElem?_map] at e
  cases q : xs[i]? with
  | none => rw [q] at e; cases e
  | some a =>
    rw [q] at e
    cases e
    exact hs i a σ h q p
/-- a comprehension over data, each item by itself, nothing kept in cells -/
theorem CompP.map {α : Type} {xs : List α} {f g : α → D} {tg : Tgt} {te : GT} {σ : Sl} {Qf : List D → Hl → Prop} (hl : xs.length ≤ 1000000)
    (he : ∀ a ∈ xs, ∀ ys (R : P → Hl → Prop), R (.d (g a)) [.lst ys] → tg.set (f a) σ fun σ2 => te σ2 [.lst ys] R) (mono : ∀ x (k k' : Sl → Prop), tg.set x σ k → (∀ s, k s → k' s) → tg.set x σ k') (q : Qf (xs.map g) []) : CompP (xs.map f) 0 tg bYes te σ [] Qf := by
  refine ⟨fun i ys h => h = [] ∧ ys = (xs.take i).map g, ⟨rfl, rfl⟩, ?_, ?_⟩
  · rintro i x ys h e ⟨rfl, rfl⟩
    rw [List.getElem?_map] at e
    cases q2 : xs[i]? with
    | none => rw [q2] at e; cases e
    | some a =>
      rw [q2] at e
      cases e
      have hlt := (List.getElem?_eq_some_iff.mp q2).1
      refine mono _ _ _ (he a (List.mem_of_getElem? q2) ((xs.take i).map g) _ ?_) fun s ks => Br.tt ks
      refine ⟨?_, rfl, ?_⟩
      · rw [List.length_map, List.length_take]
        have : (1000000 : Nat) < sizeLine := by decide +kernel
        omega
      · rw [List.take_add_one, q2, List.map_append]
        rfl
  · rintro ys h ⟨rfl, rfl⟩
    rw [List.length_map, List.take_length]
    exact q
/-- .. with a test -/
theorem CompP.filter {α : Type} {xs : List α} {f g : α → D} {p : α → Bool} {tg : Tgt} {tt : GB} {te : GT} {σ : Sl} {Qf : List D → Hl → Prop} (hl : xs.length ≤ 1000000)
    (he : ∀ a ∈ xs, ∀ ys (R : P → Hl → Prop) (S : Hl → Prop), (p a = true → R (.d (g a)) [.lst ys]) → (p a = false → S [.lst ys]) → tg.set (f a) σ fun σ2 => tt σ2 [.lst ys] fun b h3 => Br b (te σ2 h3 R) (S h3)) (q : Qf ((xs.filter p).map g) []) : CompP (xs.map f) 0 tg tt te σ [] Qf := by
  refine ⟨fun i ys h => h = [] ∧ ys = ((xs.take i).filter p).map g, ⟨rfl, rfl⟩, ?_, ?_⟩
  · rintro i x ys h e ⟨rfl, rfl⟩
    rw [List.getElem?_map] at e
    cases q2 : xs[i]? with
    | none => rw [q2] at e; cases e
    | some a =>
      rw [q2] at e
      cases e
      have hlt := (List.getElem?_eq_some_iff.mp q2).1
      refine he a (List.mem_of_getElem? q2) (((xs.take i).filter p).map g) _ _ (fun hp => ?_) (fun hp => ?_)
      · refine ⟨?_, rfl, ?_⟩
        · rw [List.length_map]
          have h1 := List.length_filter_le p (xs.take i)
          rw [List.length_take] at h1
          have : (1000000 : Nat) < sizeLine := by decide +kernel
          omega
        · rw [List.take_add_one, q2, List.filter_append, List.map_append]
          simp [hp]
      · show _ ∧ _
        refine ⟨rfl, ?_⟩
        rw [List.take_add_one, q2, List.filter_append, List.map_append]
        simp [hp]
  · rintro ys h ⟨rfl, rfl⟩
    rw [List.length_map, List.take_length]
    exact q
theorem one_mono {i : Nat} {σ : Sl} : ∀ x (k k' : Sl → Prop), (Tgt.one i).set x σ k → (∀ s, k s → k' s) → (Tgt.one i).set x σ k' := fun x k k' h hk => by
  simp only [Tgt.set] at h ⊢
  rw [setSlot_eq] at h ⊢
  exact hk _ h
end Sc

set_option Elab.async false
set_option linter.all false
set_option maxRecDepth 100000
set_option maxHeartbeats 4000000
namespace K21
open PySem PySem.Spec PyProof.Rows L2 Sc
abbrev sp_law_start : GSp := spStart
abbrev sp_law_draw : GSp := spDraw
local macro_rules | `(tactic| walk_at "w") => `(tactic| (conv => whnf))
local macro_rules | `(tactic| walk_at "at") => `(tactic| first | refine At.nat (j := 0) rfl rfl ?_ | refine At.nat (j := 1) rfl rfl ?_ | refine At.nat (j := 2) rfl rfl ?_ | refine At.nat (j := 3) rfl rfl ?_ | refine At.lit rfl ?_)
local macro_rules | `(tactic| walk_at "g") => `(tactic| ((conv => whnf); repeat (first | (refine Ln.mk ?_; (conv => whnf)) | (walk_at "at"; (conv => whnf)) | (refine And.intro rfl ?_; (conv => whnf)) | (refine And.intro (szb rfl) ?_; (conv => whnf)) | (refine Br.ff ?_; (conv => whnf)) | (refine Br.tt ?_; (conv => whnf)) | (refine fun (_ : _ ≤ 16777216) => ?_; (conv => whnf)))))
local macro_rules | `(tactic| walk_at "s") => `(tactic| ((conv => whnf); repeat (first | (walk_at "at"; (conv => whnf)) | (refine And.intro rfl ?_; (conv => whnf)) | (refine And.intro (szb rfl) ?_; (conv => whnf)) | (refine Br.ff ?_; (conv => whnf)) | (refine Br.tt ?_; (conv => whnf)) | (refine fun (_ : _ ≤ 16777216) => ?_; (conv => whnf)))))
local macro_rules | `(tactic| walk_at "n") => `(tactic| (refine Ln.mk ?_; walk_at "s"))
local macro_rules | `(tactic| walk_at "r") => `(tactic| (refine ⟨DivX.le (by omega) (by omega), fun r r0 r1 => ?_⟩; walk_at "g"))
abbrev Ed := Int × Int × Int
def encE : Ed → D
  | (u, v, c) => .tup [.int u, .int v, .int c]
def encH : Option Int → D
  | none => .non
  | some i => .int i
/-- a list or a tuple of these -/
def Sq (xs : List D) (d : D) : Prop := d = .lst xs ∨ d = .tup xs
def isNode (u : Int) (n : Nat) : Bool := decide (0 ≤ u ∧ u < n)
def ehold (hs : List (Option Int)) (e : Ed) : Bool :=
  isNode e.1 hs.length && (isNode e.2.1 hs.length &&
    match hs[e.1.toNat]? with
    | some (some a) => match hs[e.2.1.toNat]? with
      | some (some b) => decide (b ≤ a + e.2.2)
      | _ => false
    | _ => true)
def begins (hs : List (Option Int)) : Bool := match hs with
  | some i :: _ => decide (i = 0)
  | _ => false
def hold (es : List Ed) (hs : List (Option Int)) : Bool := begins hs && es.all (ehold hs)
theorem node_iff {u : Int} {n : Nat} : isNode u n = true ↔ 0 ≤ u ∧ u < n := by simp [isNode]
theorem getH {hs : List (Option Int)} {u : Int} (h : isNode u hs.length = true) : ∃ o, hs[u.toNat]? = some o ∧ ∀ k : D → Prop, k (encH o) → At (hs.map encH) u k := by
  obtain ⟨h0, h1⟩ := node_iff.mp h
  have hl : u.toNat < hs.length := by omega
  refine ⟨hs[u.toNat], List.getElem?_eq_getElem hl, fun k q => At.nat (j := u.toNat) (by omega) ?_ q⟩
  rw [List.getElem?_map, List.getElem?_eq_getElem hl]
  rfl
abbrev N_is_node : List Str := ["node", "phi"]
def b_is_node : GS := (gRet (gChain oLe oLt (gC (.int 0)) (gVar 0) (gCB cLen (gCons (gVar 1) gNil))))
def sp_is_node : GSp := sp2 fun a b Q => ∃ (i : Int) (xs : List D), a = .int i ∧ Sq xs b ∧ Q (.d (.bl (isNode i xs.length))) []
theorem pure_is_node : Keeps N_is_node b_is_node sp_is_node := keeps2 fun a b Q h => by
  obtain ⟨i, xs, rfl, hb, q⟩ := h
  rcases hb with rfl | rfl
  all_goals
    walk_at "g"
    refine Br.dec (fun h1 => ?_) (fun h1 => ?_)
    · walk_at "g"
      exact fin_b q (by simp [isNode, h1])
    · walk_at "g"
      exact fin_b q (by simp [isNode, h1])
abbrev N_edge_holds : List Str := ["edge", "phi", "u", "v", "cost"]
def b_edge_holds : GS := (gSeq 6 (gAsg (gVar 0) (gTupG 3 (gsCons (gName 2) (gsCons (gName 3) (gsCons (gName 4) gsNil)))))
  (gSeq 8 (gIfS (bOr (bNot (bTru (gCallF sp_is_node (gCons (gVar 2) (gCons (gVar 1) gNil))))) (bNot (bTru (gCallF sp_is_node (gCons (gVar 3) (gCons (gVar 1) gNil))))))
  (gRet (gC (.bl false)))
  gNext)
  (gSeq 10 (gIfS (bVal (gOp oIs (gOp oIx (gVar 1) (gVar 2)) (gC .non)))
  (gRet (gC (.bl true)))
  gNext)
  (gRet (gAnd (gOp oIsNot (gOp oIx (gVar 1) (gVar 3)) (gC .non)) (gOp oLe (gOp oIx (gVar 1) (gVar 3)) (gOp oAdd (gOp oIx (gVar 1) (gVar 2)) (gVar 4))))))))
def sp_edge_holds : GSp := sp2 fun a b Q => ∃ (e : Ed) (hs : List (Option Int)), a = encE e ∧ Sq (hs.map encH) b ∧ Q (.d (.bl (ehold hs e))) []
theorem pure_edge_holds : Keeps N_edge_holds b_edge_holds sp_edge_holds := keeps2 fun a b Q h => by
  obtain ⟨⟨u, v, c⟩, hs, rfl, hb, q⟩ := h
  have hb' := hb
  have el : (hs.map encH).length = hs.length := List.length_map _
  rcases hb with rfl | rfl
  all_goals
    walk_at "g"
    refine ⟨u, _, rfl, hb', ?_⟩
    walk_at "g"
    rw [el]
    refine Br.cases (fun h1 => ?_) (fun h1 => ?_)
    · refine Br.tt ?_
      walk_at "g"
      exact fin_b q (by simp at h1; simp [ehold, h1])
    · walk_at "g"
      refine ⟨v, _, rfl, hb', ?_⟩
      walk_at "g"
      rw [el]
      refine Br.cases (fun h2 => ?_) (fun h2 => ?_)
      · walk_at "g"
        exact fin_b q (by simp at h2; simp [ehold, h2])
      · simp only [Bool.not_eq_false'] at h1 h2
        obtain ⟨a, ea, fa⟩ := getH h1
        obtain ⟨b, eb, fb⟩ := getH h2
        walk_at "g"
        refine fa _ ?_
        have eq : ehold hs (u, v, c) = match a with
          | some a => match b with
            | some b => decide (b ≤ a + c)
            | none => false
          | none => true := by
          simp only [ehold, h1, h2, Bool.true_and, ea, eb]
          cases a <;> cases b <;> rfl
        rw [eq] at q
        cases a with
        | none =>
          walk_at "g"
          exact q
        | some a =>
          walk_at "g"
          refine fb _ ?_
          cases b with
          | none =>
            walk_at "g"
            exact q
          | some b =>
            walk_at "g"
            refine fb _ ?_
            walk_at "g"
            refine fa _ ?_
            walk_at "g"
            exact q
abbrev N_begins_at_zero : List Str := ["phi"]
def b_begins_at_zero : GS := (gRet (gAnd (gOp oGt (gCB cLen (gCons (gVar 0) gNil)) (gC (.int 0))) (gOp oEq (gOp oIx (gVar 0) (gC (.int 0))) (gC (.int 0)))))
def sp_begins_at_zero : GSp := sp1 fun a Q => ∃ (hs : List (Option Int)), Sq (hs.map encH) a ∧ Q (.d (.bl (begins hs))) []
theorem pure_begins_at_zero : Keeps N_begins_at_zero b_begins_at_zero sp_begins_at_zero := keeps1 fun a Q h => by
  obtain ⟨hs, hb, q⟩ := h
  cases hs with
  | nil =>
    rcases hb with rfl | rfl
    all_goals
      walk_at "g"
      exact q
  | cons o r =>
    rcases hb with rfl | rfl
    all_goals
      walk_at "g"
      refine Br.dec (fun h1 => ?_) (fun h1 => ?_)
      · walk_at "g"
        cases o with
        | none =>
          walk_at "g"
          refine ⟨⟨⟨by decide, by decide⟩, ⟨by decide, by decide⟩⟩, ?_⟩
          exact q
        | some i =>
          walk_at "g"
          exact q
      · simp only [List.map_cons, List.length_cons] at h1
        omega
abbrev N_heights_hold : List Str := ["edges", "phi", "edge"]
def b_heights_hold : GS := (gRet (gAnd (gCallF sp_begins_at_zero (gCons (gVar 1) gNil)) (gCB cAll (gCons (gLc (gSrc (gVar 0)) [2] (.one 2) bYes (gCallF sp_edge_holds (gCons (gVar 2) (gCons (gVar 1) gNil)))) gNil))))
def sp_heights_hold : GSp := sp2 fun a b Q => ∃ (es : List Ed) (hs : List (Option Int)), Sq (es.map encE) a ∧ Sq (hs.map encH) b ∧ es.length ≤ 1000 ∧ Q (.d (.bl (hold es hs))) []
theorem pure_heights_hold : Keeps N_heights_hold b_heights_hold sp_heights_hold := keeps2 fun a b Q h => by
  obtain ⟨es, hs, ha, hb, hl, q⟩ := h
  walk_at "g"
  refine ⟨hs, hb, ?_⟩
  walk_at "g"
  refine Br.cases (fun h1 => ?_) (fun h1 => ?_)
  · rcases ha with rfl | rfl
    all_goals
      walk_at "g"
      refine CompP.map (g := fun e => .bl (ehold hs e)) (by omega) (fun e _ ys R hR => ?_) one_mono ?_
      · walk_at "g"
        exact ⟨e, hs, rfl, hb, hR⟩
      · walk_at "g"
        refine ⟨es.map (ehold hs), ?_, ?_⟩
        · rw [← bools_map, List.map_map]
          rfl
        · exact fin_b q (by simp [hold, h1, List.all_map, Function.comp_def])
  · walk_at "g"
    exact fin_b q (by simp [hold, h1])
abbrev N_law_size : List Str := ["st", "few", "many"]
def b_law_size : GS := (gSeq 40 (gIfS (bVal (gOp oEq (gCallF sp_law_draw (gCons (gVar 0) (gCons (gC (.int 8)) gNil))) (gC (.int 7))))
  (gRet (gCallF sp_law_draw (gCons (gVar 0) (gCons (gOp oAdd (gVar 2) (gC (.int 1))) gNil))))
  gNext)
  (gRet (gCallF sp_law_draw (gCons (gVar 0) (gCons (gOp oAdd (gVar 1) (gC (.int 1))) gNil)))))
def sp_law_size : GSp := sp3 fun a b c Q => ∃ few many : Int, a = .rng ∧ b = .int few ∧ c = .int many ∧ 0 ≤ few ∧ few ≤ 1000000 ∧ 0 ≤ many ∧ many ≤ 1000000 ∧ ∀ r : Int, 0 ≤ r → (r ≤ few ∨ r ≤ many) → Q (.d (.int r)) []
theorem pure_law_size : Keeps N_law_size b_law_size sp_law_size := keeps3 fun a b c Q h => by
  obtain ⟨few, many, rfl, rfl, rfl, f0, f1, m0, m1, q⟩ := h
  walk_at "g"
  refine ⟨DivX.le (by omega) (by omega), fun r h0 h1 => ?_⟩
  walk_at "g"
  refine Br.dec (fun _ => ?_) (fun _ => ?_)
  · walk_at "g"
    refine ⟨DivX.le (by omega) (by omega), fun r h0 h1 => ?_⟩
    exact q r h0 (by omega)
  · walk_at "g"
    refine ⟨DivX.le (by omega) (by omega), fun r h0 h1 => ?_⟩
    exact q r h0 (by omega)
abbrev N_law_int : List Str := ["x"]
def b_law_int : GS := (gRet (gAnd (gIsi .int (gVar 0)) (gNot (gIsi .bool (gVar 0)))))
def sp_law_int : GSp := sp1 fun a Q => Q (.d (.bl (isK .int (.d a) && !isK .bool (.d a)))) []
theorem pure_law_int : Keeps N_law_int b_law_int sp_law_int := keeps1 fun a Q h => by
  walk_at "g"
  refine Br.cases (fun h1 => ?_) (fun h1 => ?_)
  · walk_at "g"
    exact fin_b h (by rw [h1]; rfl)
  · walk_at "g"
    exact fin_b h (by rw [h1]; rfl)
abbrev N_law_same : List Str := ["told", "due", "k"]
def b_law_same (sp_law_same : GSp) : GS := (gSeq 46 (gIfS (bVal (gOp oIs (gVar 1) (gC .non)))
  (gRet (gOp oIs (gVar 0) (gC .non)))
  gNext)
  (gSeq 48 (gIfS (bTru (gIsi .bool (gVar 1)))
  (gRet (gAnd (gIsi .bool (gVar 0)) (gOp oEq (gVar 0) (gVar 1))))
  gNext)
  (gSeq 50 (gIfS (bTru (gIsi .int (gVar 1)))
  (gRet (gAnd (gCallF sp_law_int (gCons (gVar 0) gNil)) (gOp oEq (gVar 0) (gVar 1))))
  gNext)
  (gSeq 52 (gIfS (bTru (gIsi .str (gVar 1)))
  (gRet (gAnd (gIsi .str (gVar 0)) (gOp oEq (gVar 0) (gVar 1))))
  gNext)
  (gSeq 54 (gIfS (bAnd (bTru (gIsi .tuple (gVar 1))) (bNot (bTru (gIsi .tuple (gVar 0)))))
  (gRet (gC (.bl false)))
  gNext)
  (gSeq 56 (gIfS (bAnd (bTru (gIsi .list (gVar 1))) (bNot (bTru (gIsi .list (gVar 0)))))
  (gRet (gC (.bl false)))
  gNext)
  (gSeq 58 (gIfS (bVal (gOp oNe (gCB cLen (gCons (gVar 0) gNil)) (gCB cLen (gCons (gVar 1) gNil))))
  (gRet (gC (.bl false)))
  gNext)
  (gSeq 61 (gFor [2] (gRng1 (gCons (gCB cLen (gCons (gVar 1) gNil)) gNil)) (gName 2)
  (gIfS (bNot (bTru (gCallF sp_law_same (gCons (gOp oIx (gVar 0) (gVar 2)) (gCons (gOp oIx (gVar 1) (gVar 2)) gNil)))))
  (gRet (gC (.bl false)))
  gNext))
  (gRet (gC (.bl true)))))))))))
abbrev spIn (n : Nat) : GSp := match n with
  | 0 => spNo
  | n + 1 => spSame n
theorem pure_law_same : ∀ n, Keeps N_law_same (b_law_same (spIn n)) (spSame n) := fun n => keeps2 fun a b Q h => by
  obtain ⟨rfl, hf, q⟩ := h
  have seq : ∀ (xs : List D), D.flats (n - 1) xs = true → n ≠ 0 → ∀ (i : Nat) (hi : i < xs.length) (R : P → Hl → Prop), R (.d (.bl true)) [] → spIn n [xs[i], xs[i]] R := by
    intro xs hfs hn i hi R hR
    cases n with
    | zero => exact (hn rfl).elim
    | succ n => exact ⟨rfl, D.flats_get hfs (List.getElem?_eq_getElem hi), hR⟩
  cases b with
  | non =>
    walk_at "g"
    exact q
  | bl b =>
    walk_at "g"
    exact fin_b q (by simp)
  | int b =>
    walk_at "g"
    exact fin_b q (by simp)
  | str b =>
    walk_at "g"
    exact fin_b q (by simp)
  | rng => simp [D.flat] at hf
  | tup xs =>
    simp only [D.flat, Bool.and_eq_true, bne_iff_ne, ne_eq] at hf
    walk_at "g"
    refine Br.ner ?_
    walk_at "g"
    rename_i hl _
    refine ⟨⟨by omega, by omega⟩, ?_⟩
    walk_at "g"
    refine ForP.range (fun i σ h => σ = [some (.d (.tup xs)), some (.d (.tup xs)), none] ∧ h = []) ⟨rfl, rfl⟩ ?_ ?_
    · rintro i σ h hi ⟨rfl, rfl⟩
      have hi' : i < xs.length := by omega
      walk_at "g"
      refine At.nat (by omega) (List.getElem?_eq_getElem hi') ?_
      walk_at "g"
      refine At.nat (by omega) (List.getElem?_eq_getElem hi') ?_
      walk_at "g"
      refine seq xs hf.2 hf.1 i hi' _ ?_
      walk_at "g"
    · rintro σ h ⟨rfl, rfl⟩
      walk_at "g"
      exact q
  | lst xs =>
    simp only [D.flat, Bool.and_eq_true, bne_iff_ne, ne_eq] at hf
    walk_at "g"
    refine Br.ner ?_
    walk_at "g"
    rename_i hl _
    refine ⟨⟨by omega, by omega⟩, ?_⟩
    walk_at "g"
    refine ForP.range (fun i σ h => σ = [some (.d (.lst xs)), some (.d (.lst xs)), none] ∧ h = []) ⟨rfl, rfl⟩ ?_ ?_
    · rintro i σ h hi ⟨rfl, rfl⟩
      have hi' : i < xs.length := by omega
      walk_at "g"
      refine At.nat (by omega) (List.getElem?_eq_getElem hi') ?_
      walk_at "g"
      refine At.nat (by omega) (List.getElem?_eq_getElem hi') ?_
      walk_at "g"
      refine seq xs hf.2 hf.1 i hi' _ ?_
      walk_at "g"
    · rintro σ h ⟨rfl, rfl⟩
      walk_at "g"
      exact q
  | klst xs =>
    simp only [D.flat, Bool.and_eq_true, bne_iff_ne, ne_eq] at hf
    walk_at "g"
    refine Br.ner ?_
    walk_at "g"
    rename_i hl _
    refine ⟨⟨by omega, by omega⟩, ?_⟩
    walk_at "g"
    refine ForP.range (fun i σ h => σ = [some (.d (.klst xs)), some (.d (.klst xs)), none] ∧ h = []) ⟨rfl, rfl⟩ ?_ ?_
    · rintro i σ h hi ⟨rfl, rfl⟩
      have hi' : i < xs.length := by omega
      walk_at "g"
      refine At.nat (by omega) (List.getElem?_eq_getElem hi') ?_
      walk_at "g"
      refine At.nat (by omega) (List.getElem?_eq_getElem hi') ?_
      walk_at "g"
      refine seq xs hf.2 hf.1 i hi' _ ?_
      walk_at "g"
    · rintro σ h ⟨rfl, rfl⟩
      walk_at "g"
      exact q
abbrev sp_law_same : GSp := spSame 12
abbrev N_law_graph : List Str := ["st", "n", "style", "edges", "k", "cost"]
def b_law_graph : GS := (gSeq 64 (gAsg (gOp oAdd (gC (.int 1)) (gCallF sp_law_size (gCons (gVar 0) (gCons (gC (.int 6)) (gCons (gC (.int 30)) gNil))))) (gName 1))
  (gSeq 65 (gAsg (gCallF sp_law_draw (gCons (gVar 0) (gCons (gC (.int 4)) gNil))) (gName 2))
  (gSeq 66 (gAsg (gLstM gNil) (gName 3))
  (gSeq 73 (gFor [4, 5] (gRng1 (gCons (gCallF sp_law_size (gCons (gVar 0) (gCons (gC (.int 12)) (gCons (gC (.int 60)) gNil)))) gNil)) (gName 4)
  (gSeq 68 (gAsg (gCallF sp_law_draw (gCons (gVar 0) (gCons (gC (.int 10)) gNil))) (gName 5))
  (gSeq 70 (gIfS (bVal (gOp oEq (gVar 2) (gC (.int 1))))
  (gAsg (gOp oSub (gVar 5) (gC (.int 3))) (gName 5))
  gNext)
  (gSeq 72 (gIfS (bAnd (bVal (gOp oEq (gVar 2) (gC (.int 2)))) (bVal (gOp oEq (gCallF sp_law_draw (gCons (gVar 0) (gCons (gC (.int 2)) gNil))) (gC (.int 0)))))
  (gAsg (gOp oSub (gCallF sp_law_draw (gCons (gVar 0) (gCons (gOp oPow (gC (.int 10)) (gC (.int 30))) gNil))) (gCallF sp_law_draw (gCons (gVar 0) (gCons (gC (.int 3)) gNil)))) (gName 5))
  gNext)
  (gDrop (gLM mAppend (gVar 3) (gCons (gTup (gCons (gCallF sp_law_draw (gCons (gVar 0) (gCons (gVar 1) gNil))) (gCons (gCallF sp_law_draw (gCons (gVar 0) (gCons (gVar 1) gNil))) (gCons (gVar 5) gNil)))) gNil)))))))
  (gFrz [3] (gRet (gLst (gCons (gVar 1) (gCons (gVar 3) gNil)))))))))
def sp_law_graph : GSp := sp1 fun a Q => a = .rng ∧ ∀ (n : Int) (es : List Ed), 1 ≤ n → n ≤ 31 → es.length ≤ 60 → (∀ e ∈ es, 0 ≤ e.1 ∧ e.1 < n ∧ 0 ≤ e.2.1 ∧ e.2.1 < n) → Q (.d (.lst [.int n, .lst (es.map encE)])) []
theorem pure_law_graph : Keeps N_law_graph b_law_graph sp_law_graph := keeps1 fun a Q h => by
  obtain ⟨rfl, q⟩ := h
  walk_at "g"
  refine ⟨6, 30, rfl, rfl, rfl, by omega, by omega, by omega, by omega, fun m m0 m1 => ?_⟩
  walk_at "g"
  refine ⟨DivX.le (by omega) (by omega), fun style s0 s1 => ?_⟩
  walk_at "g"
  refine ⟨12, 60, rfl, rfl, rfl, by omega, by omega, by omega, by omega, fun k k0 k1 => ?_⟩
  walk_at "g"
  refine ⟨⟨by omega, by omega⟩, ?_⟩
  walk_at "g"
  refine ForP.range (fun i σ h => ∃ es : List Ed, σ = [some (.d .rng), some (.d (.int (1 + m))), some (.d (.int style)), some (.ref 0), none, none] ∧ h = [.lst (es.map encE)] ∧ es.length = i ∧ ∀ e ∈ es, 0 ≤ e.1 ∧ e.1 < 1 + m ∧ 0 ≤ e.2.1 ∧ e.2.1 < 1 + m) ⟨[], rfl, rfl, rfl, fun e he => by cases he⟩ ?_ ?_
  · rintro i σ h hi ⟨es, rfl, rfl, hl, he⟩
    have hsz : (es.map encE).length < sizeLine := szl (by rw [List.length_map]; omega)
    walk_at "s"
    refine ⟨DivX.le (by omega) (by omega), fun cost c0 c1 => ?_⟩
    walk_at "s"
    have tail : ∀ (c u v : Int), 0 ≤ u → u < 1 + m → 0 ≤ v → v < 1 + m → ∃ es' : List Ed, [some (P.d .rng), some (.d (.int (1 + m))), some (.d (.int style)), some (.ref 0), none, none] = [some (P.d .rng), some (.d (.int (1 + m))), some (.d (.int style)), some (.ref 0), none, none] ∧ [Cell.lst (es.map encE ++ [encE (u, v, c)])] = [.lst (es'.map encE)] ∧ es'.length = i + 1 ∧ ∀ e ∈ es', 0 ≤ e.1 ∧ e.1 < 1 + m ∧ 0 ≤ e.2.1 ∧ e.2.1 < 1 + m := by
      intro c u v a1 a2 a3 a4
      refine ⟨es ++ [(u, v, c)], rfl, by rw [List.map_append]; rfl, by simp [hl], fun e hm => ?_⟩
      rcases List.mem_append.mp hm with hm | hm
      · exact he e hm
      · rw [List.mem_singleton] at hm
        subst hm
        exact ⟨a1, a2, a3, a4⟩
    refine Ln.mk (seq_join (fun σ h => ∃ c : Int, σ = [some (.d .rng), some (.d (.int (1 + m))), some (.d (.int style)), some (.ref 0), some (.d (.int (0 + (i : Nat)))), some (.d (.int c))] ∧ h = [.lst (es.map encE)]) (fun N hN => ?_) ?_)
    · walk_at "s"
      refine Br.dec (fun _ => ?_) (fun _ => ?_)
      · walk_at "s"
        exact hN _ _ ⟨_, rfl, rfl⟩
      · walk_at "s"
        exact hN _ _ ⟨_, rfl, rfl⟩
    rintro σ h ⟨c, rfl, rfl⟩
    refine Ln.mk (seq_join (fun σ h => ∃ c : Int, σ = [some (.d .rng), some (.d (.int (1 + m))), some (.d (.int style)), some (.ref 0), some (.d (.int (0 + (i : Nat)))), some (.d (.int c))] ∧ h = [.lst (es.map encE)]) (fun N hN => ?_) ?_)
    · walk_at "s"
      refine Br.dec (fun _ => ?_) (fun _ => ?_)
      · walk_at "r"
        refine Br.dec (fun _ => ?_) (fun _ => ?_)
        · walk_at "g"
          refine ⟨⟨by decide, by decide, by decide⟩, ?_⟩
          walk_at "g"
          refine ⟨DivX.le (by decide) (by decide), fun x x0 x1 => ?_⟩
          walk_at "g"
          refine ⟨DivX.le (by omega) (by omega), fun y y0 y1 => ?_⟩
          walk_at "g"
          exact hN _ _ ⟨_, rfl, rfl⟩
        · walk_at "s"
          exact hN _ _ ⟨_, rfl, rfl⟩
      · walk_at "s"
        exact hN _ _ ⟨_, rfl, rfl⟩
    rintro σ h ⟨c, rfl, rfl⟩
    walk_at "g"
    refine ⟨DivX.le (by omega) (by omega), fun u u0 u1 => ?_⟩
    walk_at "g"
    refine ⟨DivX.le (by omega) (by omega), fun v v0 v1 => ?_⟩
    walk_at "g"
    refine ⟨hsz, ?_⟩
    walk_at "g"
    exact tail c u v u0 u1 v0 v1
  · rintro σ h ⟨es, rfl, rfl, hl, he⟩
    walk_at "g"
    exact q _ es (by omega) (by omega) (by omega) he
abbrev N_law_least : List Str := ["n", "edges", "phi", "k", "u", "v", "cost"]
def b_law_least : GS := (gSeq 76 (gAsg (gOp oAddM (gLst (gCons (gC (.int 0)) gNil)) (gOp oMul (gLst (gCons (gC .non) gNil)) (gOp oSub (gVar 0) (gC (.int 1))))) (gName 2))
  (gSeq 80 (gFor [3, 4, 5, 6] (gRng1 (gCons (gVar 0) gNil)) (gName 3)
  (gFor [4, 5, 6] (gSrc (gVar 1)) (gTupG 3 (gsCons (gName 4) (gsCons (gName 5) (gsCons (gName 6) gsNil))))
  (gIfS (bAnd (bVal (gOp oIsNot (gOp oIx (gVar 2) (gVar 4)) (gC .non))) (bAnd (bVal (gOp oGt (gVar 5) (gC (.int 0)))) (bOr (bVal (gOp oIs (gOp oIx (gVar 2) (gVar 5)) (gC .non))) (bVal (gOp oGt (gOp oIx (gVar 2) (gVar 5)) (gOp oAdd (gOp oIx (gVar 2) (gVar 4)) (gVar 6)))))))
  (gAsg (gOp oAdd (gOp oIx (gVar 2) (gVar 4)) (gVar 6)) (gSub (gVar 2) (gVar 5)))
  gNext)))
  (gRet (gVar 2))))
theorem flat_ints {x : D} {xs : List D} : (D.lst xs).flat 60 = D.flats 59 xs := by simp [D.flat]
def putH (hs : List (Option Int)) (j : Nat) (x : Int) : List (Option Int) := hs.set j (some x)
theorem map_set' (hs : List (Option Int)) (j : Nat) (x : Int) : (hs.map encH).set j (.int x) = (hs.set j (some x)).map encH := by
  rw [List.map_set]; rfl
theorem node_of {v : Int} {n : Nat} (h0 : 0 ≤ v) (h1 : v < n) : isNode v n = true := node_iff.mpr ⟨h0, h1⟩
theorem ixN_of {n : Nat} {v : Int} (h0 : 0 ≤ v) (h1 : v < n) : ixN n v = some v.toNat := by
  unfold ixN
  rw [if_pos h0, if_pos h1]
def sp_law_least : GSp := sp2 fun a b Q => ∃ (n : Int) (es : List Ed), a = .int n ∧ b = .lst (es.map encE) ∧ 1 ≤ n ∧ n ≤ 31 ∧ (∀ e ∈ es, 0 ≤ e.1 ∧ e.1 < n ∧ 0 ≤ e.2.1 ∧ e.2.1 < n) ∧ ∀ hs : List (Option Int), hs.length = n.toNat → Q (.ref 0) [.lst (hs.map encH)]
theorem repD_non (k : Nat) : repD k [D.non] = (List.replicate k (none : Option Int)).map encH := by
  unfold repD
  induction k with
  | zero => rfl
  | succ k ih => rw [List.replicate_succ, List.replicate_succ, List.flatten_cons, ih]; rfl
theorem repD_one (k : Nat) (x : D) : repD k [x] = List.replicate k x := by
  unfold repD
  induction k with
  | zero => rfl
  | succ k ih => rw [List.replicate_succ, List.replicate_succ, List.flatten_cons, ih]; rfl
theorem pure_law_least : Keeps N_law_least b_law_least sp_law_least := keeps2 fun a b Q h => by
  obtain ⟨n, es, rfl, rfl, n1, n2, he, q⟩ := h
  walk_at "g"
  refine ⟨⟨by omega, by omega, szo (by simp; omega)⟩, ?_⟩
  walk_at "g"
  refine ⟨szo (by simp [repD_one]; omega), ?_⟩
  walk_at "g"
  refine ⟨⟨by omega, by omega⟩, ?_⟩
  walk_at "g"
  have inv0 : [D.int 0] ++ repD (n - 1).toNat [D.non] = (some 0 :: List.replicate (n - 1).toNat (none : Option Int)).map encH := by
    rw [repD_non]; rfl
  refine ForP.range (fun i σ h => ∃ hs : List (Option Int), σ = [some (.d (.int n)), some (.d (.lst (es.map encE))), some (.ref 0), none, none, none, none] ∧ h = [.lst (hs.map encH)] ∧ hs.length = n.toNat) ⟨_, rfl, by rw [inv0], by simp; omega⟩ ?_ ?_
  · rintro i σ h hi ⟨hs, rfl, rfl, hl⟩
    walk_at "g"
    refine ForP.map (fun j σ h => ∃ hs : List (Option Int), σ = [some (.d (.int n)), some (.d (.lst (es.map encE))), some (.ref 0), some (.d (.int (0 + (i : Nat)))), none, none, none] ∧ h = [.lst (hs.map encH)] ∧ hs.length = n.toNat) ⟨hs, rfl, rfl, hl⟩ ?_ ?_
    · rintro j ⟨u, v, c⟩ σ h hj ⟨hs, rfl, rfl, hl⟩
      have hev := he _ (List.mem_of_getElem? hj)
      dsimp only at hev
      obtain ⟨u0, u1, v0, v1⟩ := hev
      have hvl : v < ((hs.map encH).length : Nat) := by rw [List.length_map]; omega
      obtain ⟨x, ex, fx⟩ := getH (hs := hs) (node_of u0 (by omega))
      obtain ⟨y, ey, fy⟩ := getH (hs := hs) (node_of v0 (by omega))
      have stay : ∃ hs' : List (Option Int), [some (P.d (.int n)), some (.d (.lst (es.map encE))), some (.ref 0), some (.d (.int (0 + (i : Nat)))), none, none, none] = [some (P.d (.int n)), some (.d (.lst (es.map encE))), some (.ref 0), some (.d (.int (0 + (i : Nat)))), none, none, none] ∧ [Cell.lst (hs.map encH)] = [.lst (hs'.map encH)] ∧ hs'.length = n.toNat := ⟨hs, rfl, rfl, hl⟩
      walk_at "g"
      refine fx _ ?_
      cases x with
      | none =>
        walk_at "g"
        exact stay
      | some x =>
        walk_at "g"
        refine Br.dec (fun _ => ?_) (fun _ => ?_)
        · walk_at "g"
          refine fy _ ?_
          have put : ∃ hs' : List (Option Int), [some (P.d (.int n)), some (.d (.lst (es.map encE))), some (.ref 0), some (.d (.int (0 + (i : Nat)))), none, none, none] = [some (P.d (.int n)), some (.d (.lst (es.map encE))), some (.ref 0), some (.d (.int (0 + (i : Nat)))), none, none, none] ∧ [Cell.lst ((hs.map encH).set v.toNat (.int (x + c)))] = [.lst (hs'.map encH)] ∧ hs'.length = n.toNat := ⟨hs.set v.toNat (some (x + c)), rfl, by rw [map_set'], by simp [hl]⟩
          have ixv : ixN (hs.map encH).length v = some v.toNat := ixN_of v0 hvl
          cases y with
          | none =>
            walk_at "g"
            refine fx _ ?_
            walk_at "g"
            exact ⟨_, ixv, put⟩
          | some y =>
            walk_at "g"
            refine fy _ ?_
            walk_at "g"
            refine fx _ ?_
            walk_at "g"
            refine Br.dec (fun _ => ?_) (fun _ => ?_)
            · walk_at "g"
              refine fx _ ?_
              walk_at "g"
              exact ⟨_, ixv, put⟩
            · walk_at "g"
              exact stay
        · walk_at "g"
          exact stay
    · rintro σ h ⟨hs, rfl, rfl, hl⟩
      walk_at "g"
      exact ⟨hs, rfl, rfl, hl⟩
  · rintro σ h ⟨hs, rfl, rfl, hl⟩
    walk_at "g"
    exact q hs hl
abbrev N_law_drawn_heights : List Str := ["st", "n", "phi", "k"]
def b_law_drawn_heights : GS := (gSeq 83 (gAsg (gLstM (gCons (gC (.int 0)) gNil)) (gName 2))
  (gSeq 85 (gFor [3] (gRng1 (gCons (gOp oSub (gVar 1) (gC (.int 1))) gNil)) (gName 3)
  (gDrop (gLM mAppend (gVar 2) (gCons (gOp oIx (gLst (gCons (gC .non) (gCons (gC (.int 0)) (gCons (gC (.int 0)) (gCons (gC (.int 1)) (gCons (gUn oNeg (gC (.int 1))) (gCons (gC (.int 2)) (gCons (gUn oNeg (gC (.int 2))) (gCons (gC (.int 7)) gNil))))))))) (gCallF sp_law_draw (gCons (gVar 0) (gCons (gC (.int 8)) gNil)))) gNil))))
  (gRet (gVar 2))))
def sp_law_drawn_heights : GSp := sp2 fun a b Q => ∃ n : Int, a = .rng ∧ b = .int n ∧ 1 ≤ n ∧ n ≤ 31 ∧ ∀ hs : List (Option Int), hs.length = n.toNat → Q (.ref 0) [.lst (hs.map encH)]
theorem pure_law_drawn_heights : Keeps N_law_drawn_heights b_law_drawn_heights sp_law_drawn_heights := keeps2 fun a b Q h => by
  obtain ⟨n, rfl, rfl, n1, n2, q⟩ := h
  walk_at "g"
  refine ⟨⟨by omega, by omega⟩, ?_⟩
  walk_at "g"
  refine ForP.range (fun i σ h => ∃ hs : List (Option Int), σ = [some (.d .rng), some (.d (.int n)), some (.ref 0), none] ∧ h = [.lst (hs.map encH)] ∧ hs.length = i + 1) ⟨[some 0], rfl, rfl, rfl⟩ ?_ ?_
  · rintro i σ h hi ⟨hs, rfl, rfl, hl⟩
    walk_at "g"
    refine ⟨DivX.le (by decide) (by decide), fun r r0 r1 => ?_⟩
    have pick : ∃ o : Option Int, ∀ k : D → Prop, k (encH o) → At [.non, .int 0, .int 0, .int 1, .int (-1), .int 2, .int (-2), .int 7] r k := by
      refine ⟨([none, some 0, some 0, some 1, some (-1), some 2, some (-2), some 7] : List (Option Int))[r.toNat]'(by simp; omega), fun k hk => ?_⟩
      exact At.map (f := encH) (xs := [none, some 0, some 0, some 1, some (-1), some 2, some (-2), some 7]) (by omega) (by simp; omega) (fun _ => hk)
    obtain ⟨o, fo⟩ := pick
    walk_at "g"
    refine fo _ ?_
    walk_at "g"
    refine ⟨szl (by simp; omega), ?_⟩
    walk_at "g"
    exact ⟨hs ++ [o], rfl, by rw [List.map_append]; rfl, by simp [hl]⟩
  · rintro σ h ⟨hs, rfl, rfl, hl⟩
    walk_at "g"
    exact q hs (by omega)
abbrev N_law_bent : List Str := ["st", "edges", "least", "rows", "phi", "spot", "style", "wrong", "edge", "at", "u", "v", "cost"]
def b_law_bent : GS := (gSeq 88 (gAsg (gCB cListM (gCons (gVar 1) gNil)) (gName 3))
  (gSeq 89 (gAsg (gCB cListM (gCons (gVar 2) gNil)) (gName 4))
  (gSeq 90 (gAsg (gCallF sp_law_draw (gCons (gVar 0) (gCons (gCB cLen (gCons (gVar 4) gNil)) gNil))) (gName 5))
  (gSeq 91 (gAsg (gCallF sp_law_draw (gCons (gVar 0) (gCons (gC (.int 9)) gNil))) (gName 6))
  (gSeq 93 (gIfS (bAnd (bVal (gOp oEq (gVar 6) (gC (.int 0)))) (bVal (gOp oIsNot (gOp oIx (gVar 4) (gVar 5)) (gC .non))))
  (gAsg (gOp oAdd (gOp oIx (gVar 4) (gVar 5)) (gC (.int 1))) (gSub (gVar 4) (gVar 5)))
  gNext)
  (gSeq 95 (gIfS (bAnd (bVal (gOp oEq (gVar 6) (gC (.int 1)))) (bVal (gOp oIsNot (gOp oIx (gVar 4) (gVar 5)) (gC .non))))
  (gAsg (gOp oSub (gOp oIx (gVar 4) (gVar 5)) (gC (.int 1))) (gSub (gVar 4) (gVar 5)))
  gNext)
  (gSeq 97 (gIfS (bVal (gOp oEq (gVar 6) (gC (.int 2))))
  (gAsg (gOp oIx (gLst (gCons (gC .non) (gCons (gC (.int 0)) (gCons (gC (.int 1)) gNil)))) (gCallF sp_law_draw (gCons (gVar 0) (gCons (gC (.int 3)) gNil)))) (gSub (gVar 4) (gVar 5)))
  gNext)
  (gSeq 99 (gIfS (bVal (gOp oEq (gVar 6) (gC (.int 3))))
  (gAsg (gOp oIx (gLst (gCons (gC (.int 1)) (gCons (gUn oNeg (gC (.int 1))) (gCons (gC .non) gNil)))) (gCallF sp_law_draw (gCons (gVar 0) (gCons (gC (.int 3)) gNil)))) (gSub (gVar 4) (gC (.int 0))))
  gNext)
  (gSeq 103 (gKill [7, 8] (gIfS (bVal (gOp oEq (gVar 6) (gC (.int 4))))
  (gSeq 101 (gAsg (gOp oIx (gLst (gCons (gUn oNeg (gC (.int 1))) (gCons (gCB cLen (gCons (gVar 4) gNil)) (gCons (gUn oNeg (gCB cLen (gCons (gVar 4) gNil))) (gCons (gOp oPow (gC (.int 10)) (gC (.int 20))) gNil))))) (gCallF sp_law_draw (gCons (gVar 0) (gCons (gC (.int 4)) gNil)))) (gName 7))
  (gSeq 102 (gAsg (gOp oIx (gLst (gCons (gTup (gCons (gVar 7) (gCons (gVar 5) (gCons (gOp oPow (gC (.int 10)) (gC (.int 31))) gNil)))) (gCons (gTup (gCons (gVar 5) (gCons (gVar 7) (gCons (gOp oPow (gC (.int 10)) (gC (.int 31))) gNil)))) gNil))) (gCallF sp_law_draw (gCons (gVar 0) (gCons (gC (.int 2)) gNil)))) (gName 8))
  (gDrop (gLM mInsert (gVar 3) (gCons (gCallF sp_law_draw (gCons (gVar 0) (gCons (gOp oAdd (gCB cLen (gCons (gVar 3) gNil)) (gC (.int 1))) gNil))) (gCons (gVar 8) gNil))))))
  gNext))
  (gSeq 105 (gIfS (bVal (gOp oEq (gVar 6) (gC (.int 5))))
  (gDrop (gLM mPop (gVar 4) gNil))
  gNext)
  (gSeq 107 (gIfS (bVal (gOp oEq (gVar 6) (gC (.int 6))))
  (gDrop (gLM mAppend (gVar 4) (gCons (gOp oIx (gLst (gCons (gC .non) (gCons (gC (.int 0)) (gCons (gC (.int 1)) gNil)))) (gCallF sp_law_draw (gCons (gVar 0) (gCons (gC (.int 3)) gNil)))) gNil)))
  gNext)
  (gSeq 111 (gFrz [4] (gKill [9, 10, 11, 12] (gIfS (bAnd (bVal (gOp oGt (gVar 6) (gC (.int 6)))) (bVal (gOp oNe (gVar 3) (gLst gNil))))
  (gSeq 109 (gAsg (gCallF sp_law_draw (gCons (gVar 0) (gCons (gCB cLen (gCons (gVar 3) gNil)) gNil))) (gName 9))
  (gSeq 110 (gAsg (gOp oIx (gVar 3) (gVar 9)) (gTupG 3 (gsCons (gName 10) (gsCons (gName 11) (gsCons (gName 12) gsNil)))))
  (gAsg (gTup (gCons (gVar 10) (gCons (gVar 11) (gCons (gOp oSub (gVar 12) (gC (.int 1))) gNil)))) (gSub (gVar 3) (gVar 9)))))
  gNext)))
  (gFrz [3] (gRet (gLst (gCons (gVar 3) (gCons (gVar 4) gNil)))))))))))))))))
theorem At.one {xs : List D} {i : Int} {x : D} {k : D → Prop} (e : xs[i.toNat]? = some x) (h0 : 0 ≤ i) (q : k x) : At xs i k := At.nat (by omega) e q
theorem pickH {os : List (Option Int)} {r : Int} (h0 : 0 ≤ r) (h1 : r < os.length) : ∃ o : Option Int, ∀ k : D → Prop, k (encH o) → At (os.map encH) r k := by
  refine ⟨os[r.toNat]'(by omega), fun k hk => At.map h0 h1 fun _ => hk⟩
theorem getE {es : List Ed} {r : Int} (h0 : 0 ≤ r) (h1 : r < es.length) : ∃ e : Ed, es[r.toNat]? = some e ∧ ∀ k : D → Prop, k (encE e) → At (es.map encE) r k := by
  refine ⟨es[r.toNat]'(by omega), List.getElem?_eq_getElem _, fun k hk => At.map h0 h1 fun _ => hk⟩
theorem setH (hs : List (Option Int)) (j : Nat) (o : Option Int) : (hs.map encH).set j (encH o) = (hs.set j o).map encH := by rw [List.map_set]
theorem lst_cons_ne (x : D) (xs : List D) : D.eqv (.lst (x :: xs)) (.lst []) = false := by simp [D.eqv, D.py, D.pys, PyData.eqv, PyData.eqvAll]
theorem lst_nil_eq : D.eqv (.lst []) (.lst []) = true := by simp [D.eqv, D.py, D.pys, PyData.eqv, PyData.eqvAll]
theorem cmp_es (es : List Ed) : Cmp (.lst (es.map encE)) := by
  refine ⟨?_, ?_⟩
  · simp only [D.flat, Bool.and_eq_true]
    exact ⟨by decide, flats_map (fun ⟨_, _, _⟩ => rfl) es⟩
  · simp only [D.okS]
    induction es with
    | nil => rfl
    | cons e es ih =>
      obtain ⟨u, v, c⟩ := e
      simp only [List.map_cons, D.okSs, ih]
      rfl
def sp_law_bent : GSp := sp3 fun a b c Q => ∃ (es : List Ed) (hs : List (Option Int)), a = .rng ∧ b = .lst (es.map encE) ∧ c = .lst (hs.map encH) ∧ es.length ≤ 60 ∧ 1 ≤ hs.length ∧ hs.length ≤ 31 ∧ ∀ (es' : List Ed) (hs' : List (Option Int)), es'.length ≤ 61 → hs'.length ≤ 32 → Q (.d (.lst [.lst (es'.map encE), .lst (hs'.map encH)])) []
def JB (es0 : D) (hs0 : D) (spot style : Int) (m lo hi : Nat) (σ : Sl) (h : Hl) : Prop := ∃ (es : List Ed) (hs : List (Option Int)), σ = [some (.d .rng), some (.d es0), some (.d hs0), some (.ref 0), some (.ref 1), some (.d (.int spot)), some (.d (.int style)), none, none, none, none, none, none] ∧ h = [.lst (es.map encE), .lst (hs.map encH)] ∧ es.length ≤ m ∧ lo ≤ hs.length ∧ hs.length ≤ hi
def JB2 (es0 : D) (hs0 : D) (spot style : Int) (σ : Sl) (h : Hl) : Prop := ∃ (es : List Ed) (hs : List (Option Int)), σ = [some (.d .rng), some (.d es0), some (.d hs0), some (.ref 0), some (.d (.lst (hs.map encH))), some (.d (.int spot)), some (.d (.int style)), none, none, none, none, none, none] ∧ h = [.lst (es.map encE), .gone] ∧ es.length ≤ 61 ∧ hs.length ≤ 32
theorem pure_law_bent : Keeps N_law_bent b_law_bent sp_law_bent := keeps3 fun a b c Q h => by
  obtain ⟨es, hs, rfl, rfl, rfl, le, lh1, lh2, q⟩ := h
  walk_at "s"
  walk_at "n"
  walk_at "n"
  have hz : (hs.map encH).length = hs.length := List.length_map _
  refine ⟨DivX.le (by omega) (by omega), fun spot p0 p1 => ?_⟩
  walk_at "s"
  walk_at "n"
  refine ⟨DivX.le (by omega) (by omega), fun style t0 t1 => ?_⟩
  walk_at "s"
  rw [hz] at p1
  let J := JB (.lst (es.map encE)) (.lst (hs.map encH)) spot style
  -- style 0
  refine Ln.mk (seq_join (J 60 hs.length hs.length) (fun N hN => ?_) ?_)
  · have keep : ∀ (x : Int), N [some (.d .rng), some (.d (.lst (es.map encE))), some (.d (.lst (hs.map encH))), some (.ref 0), some (.ref 1), some (.d (.int spot)), some (.d (.int style)), none, none, none, none, none, none] [.lst (es.map encE), .lst ((hs.map encH).set spot.toNat (.int x))] := fun x => hN _ _ ⟨es, hs.set spot.toNat (some x), rfl, by rw [← map_set'], le, by simp, by simp⟩
    have stay : N [some (.d .rng), some (.d (.lst (es.map encE))), some (.d (.lst (hs.map encH))), some (.ref 0), some (.ref 1), some (.d (.int spot)), some (.d (.int style)), none, none, none, none, none, none] [.lst (es.map encE), .lst (hs.map encH)] := hN _ _ ⟨es, hs, rfl, rfl, le, by simp, by simp⟩
    obtain ⟨x, ex, fx⟩ := getH (hs := hs) (node_of p0 (by omega))
    walk_at "s"
    refine Br.dec (fun _ => ?_) (fun _ => ?_)
    · walk_at "s"
      refine fx _ ?_
      cases x with
      | none => walk_at "s"; exact stay
      | some x =>
        walk_at "s"
        refine fx _ ?_
        walk_at "s"
        exact ⟨_, ixN_of p0 (by omega), keep _⟩
    · walk_at "s"
      exact stay
  rintro σ h ⟨es1, hs1, rfl, rfl, le1, lh3, lh4⟩
  have hz1 : (hs1.map encH).length = hs1.length := List.length_map _
  -- style 1
  refine Ln.mk (seq_join (J 60 hs.length hs.length) (fun N hN => ?_) ?_)
  · have keep : ∀ (x : Int), N [some (.d .rng), some (.d (.lst (es.map encE))), some (.d (.lst (hs.map encH))), some (.ref 0), some (.ref 1), some (.d (.int spot)), some (.d (.int style)), none, none, none, none, none, none] [.lst (es1.map encE), .lst ((hs1.map encH).set spot.toNat (.int x))] := fun x => hN _ _ ⟨es1, hs1.set spot.toNat (some x), rfl, by rw [← map_set'], le1, by simp [lh3], by simp [lh4]⟩
    have stay : N [some (.d .rng), some (.d (.lst (es.map encE))), some (.d (.lst (hs.map encH))), some (.ref 0), some (.ref 1), some (.d (.int spot)), some (.d (.int style)), none, none, none, none, none, none] [.lst (es1.map encE), .lst (hs1.map encH)] := hN _ _ ⟨es1, hs1, rfl, rfl, le1, lh3, lh4⟩
    obtain ⟨x, ex, fx⟩ := getH (hs := hs1) (node_of p0 (by omega))
    walk_at "s"
    refine Br.dec (fun _ => ?_) (fun _ => ?_)
    · walk_at "s"
      refine fx _ ?_
      cases x with
      | none => walk_at "s"; exact stay
      | some x =>
        walk_at "s"
        refine fx _ ?_
        walk_at "s"
        exact ⟨_, ixN_of p0 (by omega), keep _⟩
    · walk_at "s"
      exact stay
  clear hz1 le1 lh3 lh4
  rintro σ h ⟨es1, hs1, rfl, rfl, le1, lh3, lh4⟩
  have hz1 : (hs1.map encH).length = hs1.length := List.length_map _
  -- style 2
  refine Ln.mk (seq_join (J 60 hs.length hs.length) (fun N hN => ?_) ?_)
  · have keep : ∀ (x : Option Int), N [some (.d .rng), some (.d (.lst (es.map encE))), some (.d (.lst (hs.map encH))), some (.ref 0), some (.ref 1), some (.d (.int spot)), some (.d (.int style)), none, none, none, none, none, none] [.lst (es1.map encE), .lst ((hs1.map encH).set spot.toNat (encH x))] := fun x => hN _ _ ⟨es1, hs1.set spot.toNat x, rfl, by rw [← setH], le1, by simp [lh3], by simp [lh4]⟩
    walk_at "s"
    refine Br.dec (fun _ => ?_) (fun _ => ?_)
    · walk_at "s"
      refine ⟨DivX.le (by omega) (by omega), fun r r0 r1 => ?_⟩
      obtain ⟨o, fo⟩ := pickH (os := [none, some 0, some 1]) r0 (by simpa using r1)
      walk_at "s"
      refine fo _ ?_
      walk_at "s"
      exact ⟨_, ixN_of p0 (by omega), keep _⟩
    · walk_at "s"
      exact hN _ _ ⟨es1, hs1, rfl, rfl, le1, lh3, lh4⟩
  clear hz1 le1 lh3 lh4
  rintro σ h ⟨es1, hs1, rfl, rfl, le1, lh3, lh4⟩
  have hz1 : (hs1.map encH).length = hs1.length := List.length_map _
  -- style 3
  refine Ln.mk (seq_join (J 60 hs.length hs.length) (fun N hN => ?_) ?_)
  · have keep : ∀ (x : Option Int), N [some (.d .rng), some (.d (.lst (es.map encE))), some (.d (.lst (hs.map encH))), some (.ref 0), some (.ref 1), some (.d (.int spot)), some (.d (.int style)), none, none, none, none, none, none] [.lst (es1.map encE), .lst ((hs1.map encH).set 0 (encH x))] := fun x => hN _ _ ⟨es1, hs1.set 0 x, rfl, by rw [← setH], le1, by simp [lh3], by simp [lh4]⟩
    walk_at "s"
    refine Br.dec (fun _ => ?_) (fun _ => ?_)
    · walk_at "s"
      refine ⟨DivX.le (by omega) (by omega), fun r r0 r1 => ?_⟩
      obtain ⟨o, fo⟩ := pickH (os := [some 1, some (-1), none]) r0 (by simpa using r1)
      walk_at "s"
      refine fo _ ?_
      walk_at "s"
      exact ⟨0, ixN_of (by omega) (by omega), keep _⟩
    · walk_at "s"
      exact hN _ _ ⟨es1, hs1, rfl, rfl, le1, lh3, lh4⟩
  clear hz1 le1 lh3 lh4
  rintro σ h ⟨es1, hs1, rfl, rfl, le1, lh3, lh4⟩
  have hz1 : (hs1.map encH).length = hs1.length := List.length_map _
  have hze : (es1.map encE).length = es1.length := List.length_map _
  -- style 4
  refine Ln.mk (seq_join (J 61 hs.length hs.length) (fun N hN => ?_) ?_)
  · walk_at "s"
    refine Br.dec (fun _ => ?_) (fun _ => ?_)
    · walk_at "s"
      refine ⟨⟨by decide, by decide, by decide⟩, ?_⟩
      walk_at "s"
      refine ⟨DivX.le (by omega) (by omega), fun r r0 r1 => ?_⟩
      obtain ⟨wr, fw⟩ : ∃ w : Int, ∀ k : D → Prop, k (.int w) → At [.int (-1), .int ((hs1.map encH).length : Nat), .int (-((hs1.map encH).length : Nat)), .int (10 ^ (20 : Int).toNat)] r k := by
        refine ⟨([-1, ((hs1.map encH).length : Nat), -((hs1.map encH).length : Nat), 10 ^ (20 : Int).toNat] : List Int)[r.toNat]'(by simp; omega), fun k hk => ?_⟩
        exact At.map (f := D.int) (xs := [-1, ((hs1.map encH).length : Nat), -((hs1.map encH).length : Nat), 10 ^ (20 : Int).toNat]) (by omega) (by simp; omega) (fun _ => hk)
      walk_at "s"
      refine fw _ ?_
      walk_at "s"
      walk_at "n"
      refine ⟨⟨by decide, by decide, by decide⟩, ?_⟩
      walk_at "s"
      refine ⟨⟨by decide, by decide, by decide⟩, ?_⟩
      walk_at "s"
      refine ⟨DivX.le (by omega) (by omega), fun r2 r3 r4 => ?_⟩
      obtain ⟨e2, fe⟩ : ∃ e : Ed, ∀ k : D → Prop, k (encE e) → At [.tup [.int wr, .int spot, .int (10 ^ (31 : Int).toNat)], .tup [.int spot, .int wr, .int (10 ^ (31 : Int).toNat)]] r2 k := by
        refine ⟨([(wr, spot, 10 ^ (31 : Int).toNat), (spot, wr, 10 ^ (31 : Int).toNat)] : List Ed)[r2.toNat]'(by simp; omega), fun k hk => ?_⟩
        exact At.map (f := encE) (xs := [(wr, spot, 10 ^ (31 : Int).toNat), (spot, wr, 10 ^ (31 : Int).toNat)]) (by omega) (by simp; omega) (fun _ => hk)
      walk_at "s"
      refine fe _ ?_
      walk_at "s"
      walk_at "n"
      refine ⟨DivX.le (by omega) (by omega), fun r5 r6 r7 => ?_⟩
      walk_at "s"
      refine ⟨⟨szl (by omega), by omega, by omega⟩, ?_⟩
      walk_at "s"
      refine hN _ _ ⟨es1.take r5.toNat ++ [e2] ++ es1.drop r5.toNat, hs1, rfl, ?_, ?_, lh3, lh4⟩
      · simp [List.map_take, List.map_drop]
      · simp
        omega
    · walk_at "s"
      exact hN _ _ ⟨es1, hs1, rfl, rfl, by omega, lh3, lh4⟩
  clear hz1 hze le1 lh3 lh4
  rintro σ h ⟨es1, hs1, rfl, rfl, le1, lh3, lh4⟩
  -- style 5
  refine Ln.mk (seq_join (J 61 0 31) (fun N hN => ?_) ?_)
  · walk_at "s"
    refine Br.dec (fun _ => ?_) (fun _ => ?_)
    · walk_at "s"
      have hpos : 1 ≤ hs1.length := by omega
      have hne : hs1 ≠ [] := by
        intro e
        rw [e] at hpos
        simp at hpos
      refine ⟨encH (hs1.getLast hne), ?_, ?_⟩
      · have e := List.dropLast_concat_getLast hne
        have e2 : hs1.map encH = hs1.dropLast.map encH ++ [encH (hs1.getLast hne)] := by
          rw [← List.map_singleton, ← List.map_append, e]
        rw [e2]
        exact atI_last _ _
      · walk_at "s"
        refine hN _ _ ⟨es1, hs1.dropLast, rfl, by rw [List.map_dropLast], le1, by omega, by simp; omega⟩
    · walk_at "s"
      exact hN _ _ ⟨es1, hs1, rfl, rfl, le1, by omega, by omega⟩
  clear le1 lh3 lh4
  rintro σ h ⟨es1, hs1, rfl, rfl, le1, lh3, lh4⟩
  -- style 6
  refine Ln.mk (seq_join (J 61 0 32) (fun N hN => ?_) ?_)
  · walk_at "s"
    refine Br.dec (fun _ => ?_) (fun _ => ?_)
    · walk_at "s"
      refine ⟨DivX.le (by omega) (by omega), fun r r0 r1 => ?_⟩
      obtain ⟨o, fo⟩ := pickH (os := [none, some 0, some 1]) r0 (by simpa using r1)
      walk_at "s"
      refine fo _ ?_
      walk_at "s"
      refine ⟨szl (by simp; omega), ?_⟩
      walk_at "s"
      refine hN _ _ ⟨es1, hs1 ++ [o], rfl, by rw [List.map_append]; rfl, le1, by omega, by simp; omega⟩
    · walk_at "s"
      exact hN _ _ ⟨es1, hs1, rfl, rfl, le1, by omega, by omega⟩
  clear le1 lh3 lh4
  rintro σ h ⟨es1, hs1, rfl, rfl, le1, lh3, lh4⟩
  have hze : (es1.map encE).length = es1.length := List.length_map _
  -- style 7, 8
  refine Ln.mk (seq_join (JB2 (.lst (es.map encE)) (.lst (hs.map encH)) spot style) (fun N hN => ?_) ?_)
  · have stay : N [some (.d .rng), some (.d (.lst (es.map encE))), some (.d (.lst (hs.map encH))), some (.ref 0), some (.d (.lst (hs1.map encH))), some (.d (.int spot)), some (.d (.int style)), none, none, none, none, none, none] [.lst (es1.map encE), .gone] := hN _ _ ⟨es1, hs1, rfl, rfl, le1, lh4⟩
    walk_at "s"
    refine Br.dec (fun _ => ?_) (fun _ => ?_)
    · walk_at "s"
      refine ⟨⟨cmp_es es1, cmp_es []⟩, ?_⟩
      walk_at "s"
      cases es1 with
      | nil => walk_at "s"; exact stay
      | cons e0 es1 =>
        have hl2 : (encE e0 :: List.map encE es1).length = es1.length + 1 := by simp
        rw [List.length_cons] at le1
        rw [List.map_cons, lst_cons_ne]
        walk_at "s"
        refine ⟨DivX.le (by omega) (by omega), fun r r0 r1 => ?_⟩
        obtain ⟨⟨u3, v3, c3⟩, ee, fe⟩ := getE (es := e0 :: es1) r0 (by simpa using r1)
        walk_at "s"
        walk_at "n"
        refine fe _ ?_
        walk_at "s"
        walk_at "n"
        refine ⟨_, ixN_of r0 (by simpa using r1), ?_⟩
        refine hN _ _ ⟨(e0 :: es1).set r.toNat (u3, v3, c3 - 1), hs1, rfl, ?_, by simpa using le1, lh4⟩
        rw [List.map_set]
        rfl
    · walk_at "s"
      exact stay
  clear hze le1 lh3 lh4
  rintro σ h ⟨es1, hs1, rfl, rfl, le1, lh4⟩
  walk_at "g"
  exact q es1 hs1 le1 lh4
abbrev N_law_holds : List Str := ["edges", "phi", "u", "v", "cost"]
def b_law_holds : GS := (gSeq 115 (gIfS (bOr (bVal (gOp oEq (gCB cLen (gCons (gVar 1) gNil)) (gC (.int 0)))) (bOr (bVal (gOp oIs (gOp oIx (gVar 1) (gC (.int 0))) (gC .non))) (bVal (gOp oNe (gOp oIx (gVar 1) (gC (.int 0))) (gC (.int 0))))))
  (gRet (gC (.bl false)))
  gNext)
  (gSeq 121 (gFor [2, 3, 4] (gSrc (gVar 0)) (gTupG 3 (gsCons (gName 2) (gsCons (gName 3) (gsCons (gName 4) gsNil))))
  (gSeq 118 (gIfS (bOr (bVal (gOp oLt (gCB cMin2 (gCons (gVar 2) (gCons (gVar 3) gNil))) (gC (.int 0)))) (bVal (gOp oGe (gCB cMax2 (gCons (gVar 2) (gCons (gVar 3) gNil))) (gCB cLen (gCons (gVar 1) gNil)))))
  (gRet (gC (.bl false)))
  gNext)
  (gIfS (bVal (gOp oIsNot (gOp oIx (gVar 1) (gVar 2)) (gC .non)))
  (gIfS (bOr (bVal (gOp oIs (gOp oIx (gVar 1) (gVar 3)) (gC .non))) (bVal (gOp oGt (gOp oIx (gVar 1) (gVar 3)) (gOp oAdd (gOp oIx (gVar 1) (gVar 2)) (gVar 4)))))
  (gRet (gC (.bl false)))
  gNext)
  gNext)))
  (gRet (gC (.bl true)))))
def sp_law_holds : GSp := sp2 fun a b Q => ∃ (es : List Ed) (hs : List (Option Int)), a = .lst (es.map encE) ∧ b = .lst (hs.map encH) ∧ Q (.d (.bl (hold es hs))) []
theorem imin_lt {u v : Int} : imin u v < 0 ↔ u < 0 ∨ v < 0 := by unfold imin; split <;> omega
theorem imax_ge {u v n : Int} : n ≤ imax u v ↔ n ≤ u ∨ n ≤ v := by unfold imax; split <;> omega
theorem pure_law_holds : Keeps N_law_holds b_law_holds sp_law_holds := keeps2 fun a b Q h => by
  obtain ⟨es, hs, rfl, rfl, q⟩ := h
  walk_at "g"
  cases hs with
  | nil =>
    walk_at "g"
    exact fin_b q (by simp [hold, begins])
  | cons o r =>
    refine Br.dec (fun e => ?_) (fun _ => ?_)
    · simp at e
      omega
    walk_at "g"
    cases o with
    | none =>
      walk_at "g"
      exact fin_b q (by simp [hold, begins])
    | some i =>
      walk_at "g"
      refine Br.ndec (fun hne => ?_) (fun he0 => ?_)
      · walk_at "g"
        exact fin_b q (by simp [hold, begins, hne])
      subst he0
      walk_at "g"
      have hb : begins (some 0 :: r) = true := rfl
      generalize ehs : (some 0 :: r : List (Option Int)) = hs at *
      have ehs' : D.int 0 :: List.map encH r = hs.map encH := by rw [← ehs]; rfl
      refine ForP.map (fun j σ h => σ = [some (.d (.lst (es.map encE))), some (.d (.lst (hs.map encH))), none, none, none] ∧ h = [] ∧ (es.take j).all (ehold hs) = true) ⟨by rw [← ehs]; rfl, rfl, rfl⟩ ?_ ?_
      · rintro j ⟨u, v, c⟩ σ h hj ⟨rfl, rfl, hal⟩
        have next : ehold hs (u, v, c) = true → (es.take (j + 1)).all (ehold hs) = true := fun e => by
          rw [List.take_add_one, hj, List.all_append, hal]
          simp [e]
        have bad : ehold hs (u, v, c) = false → Q (.d (.bl false)) [] := fun e => by
          refine fin_b q ?_
          have : es.all (ehold hs) = false := by
            rw [List.all_eq_false]
            exact ⟨_, List.mem_of_getElem? hj, by rw [e]; simp⟩
          simp [hold, this]
        walk_at "g"
        have hz : (hs.map encH).length = hs.length := List.length_map _
        refine Br.dec (fun h1 => ?_) (fun h1 => ?_)
        · walk_at "g"
          refine bad ?_
          rw [imin_lt] at h1
          simp only [ehold, isNode]
          rcases h1 with h1 | h1
          · rw [decide_eq_false (by omega)]; rfl
          · rw [decide_eq_false (p := 0 ≤ v ∧ _) (by omega)]; simp
        rw [imin_lt] at h1
        walk_at "g"
        refine Br.dec (fun h2 => ?_) (fun h2 => ?_)
        · walk_at "g"
          refine bad ?_
          rw [hz, imax_ge] at h2
          simp only [ehold, isNode]
          rcases h2 with h2 | h2
          · rw [decide_eq_false (by omega)]; rfl
          · rw [decide_eq_false (p := 0 ≤ v ∧ _) (by omega)]; simp
        rw [hz, imax_ge] at h2
        have nu : isNode u hs.length = true := node_of (by omega) (by omega)
        have nv : isNode v hs.length = true := node_of (by omega) (by omega)
        obtain ⟨x, ex, fx⟩ := getH (hs := hs) nu
        obtain ⟨y, ey, fy⟩ := getH (hs := hs) nv
        have ev : ehold hs (u, v, c) = match x with
          | some a => match y with
            | some b => decide (b ≤ a + c)
            | none => false
          | none => true := by
          simp only [ehold, nu, nv, Bool.true_and, ex, ey]
          cases x <;> cases y <;> rfl
        walk_at "g"
        refine fx _ ?_
        cases x with
        | none =>
          walk_at "g"
          exact next ev
        | some x =>
          walk_at "g"
          refine fy _ ?_
          cases y with
          | none =>
            walk_at "g"
            exact bad ev
          | some y =>
            walk_at "g"
            refine fy _ ?_
            walk_at "g"
            refine fx _ ?_
            walk_at "g"
            refine Br.dec (fun h3 => ?_) (fun h3 => ?_)
            · walk_at "g"
              exact bad (by rw [ev]; exact decide_eq_false (by omega))
            · walk_at "g"
              exact next (by rw [ev]; exact decide_eq_true (by omega))
      · rintro σ h ⟨rfl, rfl, hal⟩
        walk_at "g"
        rw [List.take_length] at hal
        exact fin_b q (by simp [hold, hb, hal])
abbrev N_law_path_ok : List Str := ["st", "edges", "phi", "u", "total", "k", "near", "e"]
def b_law_path_ok : GS := (gSeq 124 (gAsg (gC (.int 0)) (gName 3))
  (gSeq 125 (gAsg (gC (.int 0)) (gName 4))
  (gSeq 133 (gFor [5, 6, 7] (gRng1 (gCons (gCallF sp_law_draw (gCons (gVar 0) (gCons (gC (.int 13)) gNil))) gNil)) (gName 5)
  (gSeq 127 (gAsg (gLc (gSrc (gVar 1)) [7] (.one 7) (bVal (gOp oEq (gOp oIx (gVar 7) (gC (.int 0))) (gVar 3))) (gVar 7)) (gName 6))
  (gIfS (bVal (gOp oNe (gVar 6) (gLst gNil)))
  (gSeq 129 (gAsg (gOp oIx (gVar 6) (gCallF sp_law_draw (gCons (gVar 0) (gCons (gCB cLen (gCons (gVar 6) gNil)) gNil)))) (gName 7))
  (gSeq 130 (gAsg (gOp oIx (gVar 7) (gC (.int 1))) (gName 3))
  (gSeq 131 (gAsg (gOp oAdd (gVar 4) (gOp oIx (gVar 7) (gC (.int 2)))) (gName 4))
  (gIfS (bOr (bVal (gOp oIs (gOp oIx (gVar 2) (gVar 3)) (gC .non))) (bVal (gOp oLt (gVar 4) (gOp oIx (gVar 2) (gVar 3)))))
  (gRet (gC (.bl false)))
  gNext))))
  gNext)))
  (gRet (gC (.bl true))))))
def sp_law_path_ok : GSp := sp3 fun a b c Q => ∃ (es : List Ed) (hs : List (Option Int)), a = .rng ∧ b = .lst (es.map encE) ∧ c = .lst (hs.map encH) ∧ es.length ≤ 1000 ∧ hold es hs = true ∧ Q (.d (.bl true)) []
theorem hold_step {es : List Ed} {hs : List (Option Int)} (h : hold es hs = true) {e : Ed} (he : e ∈ es) {x : Int} (hx : hs[e.1.toNat]? = some (some x)) : isNode e.2.1 hs.length = true ∧ ∃ y, hs[e.2.1.toNat]? = some (some y) ∧ y ≤ x + e.2.2 := by
  simp only [hold, Bool.and_eq_true, List.all_eq_true] at h
  have h1 := h.2 e he
  simp only [ehold, Bool.and_eq_true, hx] at h1
  refine ⟨h1.2.1, ?_⟩
  have h2 := h1.2.2
  split at h2
  · rename_i b eb
    exact ⟨b, eb, of_decide_eq_true h2⟩
  · cases h2
theorem pure_law_path_ok : Keeps N_law_path_ok b_law_path_ok sp_law_path_ok := keeps3 fun a b c Q h => by
  obtain ⟨es, hs, rfl, rfl, rfl, le, hh, q⟩ := h
  have hz : (hs.map encH).length = hs.length := List.length_map _
  walk_at "g"
  refine ⟨DivX.le (by omega) (by omega), fun m m0 m1 => ?_⟩
  walk_at "g"
  refine ⟨⟨by omega, by omega⟩, ?_⟩
  walk_at "g"
  have first : ∃ r, hs = some 0 :: r := by
    simp only [hold, Bool.and_eq_true] at hh
    have h1 := hh.1
    unfold begins at h1
    split at h1
    · rename_i i r
      have : i = 0 := of_decide_eq_true h1
      subst this
      exact ⟨r, rfl⟩
    · cases h1
  refine ForP.range (fun i σ h => ∃ (u x t : Int), σ = [some (.d .rng), some (.d (.lst (es.map encE))), some (.d (.lst (hs.map encH))), some (.d (.int u)), some (.d (.int t)), none, none, none] ∧ h = [] ∧ 0 ≤ u ∧ hs[u.toNat]? = some (some x) ∧ x ≤ t) ⟨0, 0, 0, rfl, rfl, by omega, by obtain ⟨r, rfl⟩ := first; rfl, by omega⟩ ?_ ?_
  · rintro i σ h hi ⟨u, x, t, rfl, rfl, u0, ex, hx⟩
    walk_at "g"
    refine CompP.filter (f := encE) (g := encE) (p := fun e => decide (e.1 = u)) (by omega) ?_ ?_
    · rintro ⟨u2, v2, c2⟩ hm ys R S h1 h2
      walk_at "g"
      refine Br.dec (fun e => ?_) (fun e => ?_)
      · exact h1 (decide_eq_true e)
      · exact h2 (decide_eq_false e)
    · walk_at "g"
      refine ⟨⟨cmp_es _, cmp_es []⟩, ?_⟩
      walk_at "g"
      cases hn : es.filter (fun e => decide (e.1 = u)) with
      | nil =>
        walk_at "g"
        exact ⟨u, x, t, rfl, rfl, u0, ex, hx⟩
      | cons e0 near =>
        have hl2 : (encE e0 :: List.map encE near).length = near.length + 1 := by simp
        have hl3 : near.length + 1 ≤ es.length := by
          have := List.length_filter_le (fun e : Ed => decide (e.1 = u)) es
          rw [hn, List.length_cons] at this
          exact this
        rw [List.map_cons, lst_cons_ne]
        walk_at "g"
        refine ⟨DivX.le (by omega) (by omega), fun r r0 r1 => ?_⟩
        obtain ⟨⟨u2, v2, c2⟩, ee, fe⟩ := getE (es := e0 :: near) r0 (by simpa using r1)
        have hm : (u2, v2, c2) ∈ es.filter (fun e => decide (e.1 = u)) := by rw [hn]; exact List.mem_of_getElem? ee
        rw [List.mem_filter] at hm
        have hu : u2 = u := of_decide_eq_true hm.2
        subst hu
        obtain ⟨nv, y, ey, hy⟩ := hold_step hh hm.1 ex
        obtain ⟨o, eo, fo⟩ := getH nv
        dsimp only at eo ey hy
        rw [ey] at eo
        cases eo
        walk_at "g"
        refine fe _ ?_
        walk_at "g"
        refine fo _ ?_
        walk_at "g"
        refine fo _ ?_
        walk_at "g"
        refine Br.dec (fun hlt => ?_) (fun _ => ?_)
        · omega
        · walk_at "g"
          exact ⟨v2, y, t + c2, rfl, rfl, (node_iff.mp nv).1, ey, by omega⟩
  · rintro σ h ⟨u, x, t, rfl, rfl, u0, ex, hx⟩
    walk_at "g"
    exact q
abbrev N_law_judged_ok : List Str := ["st", "edges", "phi", "due", "handed", "told"]
def b_law_judged_ok : GS := (gSeq 136 (gAsg (gCallF sp_law_holds (gCons (gVar 1) (gCons (gVar 2) gNil))) (gName 3))
  (gSeq 137 (gAsg (gLst (gCons (gCB cList (gCons (gVar 1) gNil)) (gCons (gCB cList (gCons (gVar 2) gNil)) gNil))) (gName 4))
  (gSeq 138 (gAsg (gCallF sp_heights_hold (gCons (gOp oIx (gVar 4) (gC (.int 0))) (gCons (gOp oIx (gVar 4) (gC (.int 1))) gNil))) (gName 5))
  (gSeq 140 (gIfS (bOr (bNot (bTru (gCallF sp_law_same (gCons (gVar 5) (gCons (gVar 3) gNil))))) (bNot (bTru (gCallF sp_law_same (gCons (gVar 4) (gCons (gLst (gCons (gVar 1) (gCons (gVar 2) gNil))) gNil))))))
  (gRet (gC (.bl false)))
  gNext)
  (gSeq 142 (gIfS (bNot (bTru (gCallF sp_law_same (gCons (gCallF sp_heights_hold (gCons (gCB cTuple (gCons (gVar 1) gNil)) (gCons (gCB cTuple (gCons (gVar 2) gNil)) gNil))) (gCons (gVar 3) gNil)))))
  (gRet (gC (.bl false)))
  gNext)
  (gRet (gOr (gNot (gVar 5)) (gCallF sp_law_path_ok (gCons (gVar 0) (gCons (gVar 1) (gCons (gVar 2) gNil)))))))))))
def sp_law_judged_ok : GSp := sp3 fun a b c Q => ∃ (es : List Ed) (hs : List (Option Int)), a = .rng ∧ b = .lst (es.map encE) ∧ c = .lst (hs.map encH) ∧ es.length ≤ 1000 ∧ Q (.d (.bl true)) []
theorem flat_es (es : List Ed) (n : Nat) : D.flat (n + 2) (.lst (es.map encE)) = true := by
  simp only [D.flat, Bool.and_eq_true]
  exact ⟨by simp, flats_map (fun ⟨_, _, _⟩ => rfl) es⟩
theorem flat_hs (hs : List (Option Int)) (n : Nat) : D.flat (n + 1) (.lst (hs.map encH)) = true := by
  simp only [D.flat, Bool.and_eq_true]
  exact ⟨by simp, flats_map (fun o => by cases o <;> rfl) hs⟩
theorem pure_law_judged_ok : Keeps N_law_judged_ok b_law_judged_ok sp_law_judged_ok := keeps3 fun a b c Q h => by
  obtain ⟨es, hs, rfl, rfl, rfl, le, q⟩ := h
  walk_at "g"
  refine ⟨es, hs, rfl, rfl, ?_⟩
  walk_at "g"
  refine ⟨es, hs, .inl rfl, .inl rfl, le, ?_⟩
  walk_at "g"
  refine ⟨?_, ?_⟩
  · simp only [D.flat, D.flats, Bool.and_eq_true]
    exact ⟨by decide, by have := flat_es es 9; simpa [D.flat] using this, by have := flat_hs hs 10; simpa [D.flat] using this, trivial⟩
  walk_at "g"
  refine ⟨es, hs, .inr rfl, .inr rfl, le, ?_⟩
  walk_at "g"
  cases hh : hold es hs with
  | false =>
    walk_at "g"
    exact q
  | true =>
    walk_at "g"
    refine ⟨es, hs, rfl, rfl, rfl, le, hh, ?_⟩
    exact q
abbrev N_law : List Str := ["script", "st", "n", "edges", "least", "cases", "k", "case"]
def b_law : GS := (gSeq 145 (gAsg (gCallF sp_law_start (gCons (gSl oSl (gVar 0) gNoPart (gPart (gC (.int 63)))) gNil)) (gName 1))
  (gSeq 146 (gAsg (gCallF sp_law_graph (gCons (gVar 1) gNil)) (gTupG 2 (gsCons (gName 2) (gsCons (gName 3) gsNil))))
  (gSeq 147 (gAsg (gCallF sp_law_least (gCons (gVar 2) (gCons (gVar 3) gNil))) (gName 4))
  (gSeq 148 (gAsg (gLstM (gCons (gLst (gCons (gVar 3) (gCons (gVar 4) gNil))) (gCons (gLst (gCons (gVar 3) (gCons (gOp oMul (gLst (gCons (gC (.int 0)) gNil)) (gVar 2)) gNil))) (gCons (gLst (gCons (gVar 3) (gCons (gLst gNil) gNil))) (gCons (gLst (gCons (gVar 3) (gCons (gCallF sp_law_drawn_heights (gCons (gVar 1) (gCons (gVar 2) gNil))) gNil))) (gCons (gLst (gCons (gLst gNil) (gCons (gVar 4) gNil))) gNil)))))) (gName 5))
  (gSeq 150 (gFor [6] (gRng1 (gCons (gC (.int 4)) gNil)) (gName 6)
  (gDrop (gLM mAppend (gVar 5) (gCons (gCallF sp_law_bent (gCons (gVar 1) (gCons (gVar 3) (gCons (gVar 4) gNil)))) gNil))))
  (gSeq 153 (gFrz [5] (gFor [7] (gSrc (gVar 5)) (gName 7)
  (gIfS (bNot (bTru (gCallF sp_law_judged_ok (gCons (gVar 1) (gCons (gOp oIx (gVar 7) (gC (.int 0))) (gCons (gOp oIx (gVar 7) (gC (.int 1))) gNil))))))
  (gRet (gC (.bl false)))
  gNext)))
  (gRet (gC (.bl true)))))))))
def encC (p : List Ed × List (Option Int)) : D := .lst [.lst (p.1.map encE), .lst (p.2.map encH)]
def sp_law : GSp := sp1 fun a Q => ∃ ns : List Int, ns.length ≤ 63 ∧ a = .klst (ns.map .int) ∧ Q (.d (.bl true)) []
theorem pure_law : Keeps N_law b_law sp_law := keeps1 fun a Q h => by
  obtain ⟨ns, hl, rfl, q⟩ := h
  walk_at "g"
  refine ⟨⟨ns.take 63, by simp; omega, .inr ?_⟩, ?_⟩
  · rw [show (63 : Int) = ((63 : Nat) : Int) from rfl, cut_to, List.map_take]
  walk_at "g"
  intro n es n1 n2 le he
  walk_at "g"
  refine ⟨n, es, rfl, rfl, n1, n2, he, fun hs lh => ?_⟩
  walk_at "g"
  refine ⟨⟨by omega, by omega, szo (by simp; omega)⟩, ?_⟩
  walk_at "g"
  refine ⟨n, rfl, rfl, n1, n2, fun hd ld => ?_⟩
  walk_at "g"
  refine ⟨⟨by omega, by omega⟩, ?_⟩
  walk_at "g"
  have zeros : ∃ hz : List (Option Int), repD n.toNat [D.int 0] = hz.map encH := ⟨List.replicate n.toNat (some 0), by rw [repD_one, List.map_replicate]; rfl⟩
  obtain ⟨hz, ez⟩ := zeros
  rw [ez]
  refine ForP.range (fun i σ h => ∃ cs : List (List Ed × List (Option Int)), σ = [some (.d (.klst (ns.map .int))), some (.d .rng), some (.d (.int n)), some (.d (.lst (es.map encE))), some (.d (.lst (hs.map encH))), some (.ref 0), none, none] ∧ h = [.lst (cs.map encC)] ∧ cs.length = 5 + i ∧ ∀ c ∈ cs, c.1.length ≤ 1000) ⟨[(es, hs), (es, hz), (es, []), (es, hd), ([], hs)], rfl, rfl, rfl, ?_⟩ ?_ ?_
  · intro c hc
    simp only [List.mem_cons, List.not_mem_nil, or_false] at hc
    rcases hc with rfl | rfl | rfl | rfl | rfl <;> simp <;> omega
  · rintro i σ h hi ⟨cs, rfl, rfl, lc, hc⟩
    walk_at "g"
    refine ⟨es, hs, rfl, rfl, rfl, le, by omega, by omega, fun es2 hs2 l1 l2 => ?_⟩
    walk_at "g"
    refine ⟨szl (by simp; omega), ?_⟩
    walk_at "g"
    refine ⟨cs ++ [(es2, hs2)], rfl, by rw [List.map_append]; rfl, by simp [lc]; omega, fun c hm => ?_⟩
    rcases List.mem_append.mp hm with hm | hm
    · exact hc c hm
    · rw [List.mem_singleton] at hm
      subst hm
      show es2.length ≤ 1000
      omega
  · rintro σ h ⟨cs, rfl, rfl, lc, hc⟩
    walk_at "g"
    refine ForP.map (fun i σ h => σ = [some (.d (.klst (ns.map .int))), some (.d .rng), some (.d (.int n)), some (.d (.lst (es.map encE))), some (.d (.lst (hs.map encH))), some (.d (.lst (cs.map encC))), none, none] ∧ h = [.gone]) ⟨rfl, rfl⟩ ?_ ?_
    · rintro i ⟨es3, hs3⟩ σ h hi ⟨rfl, rfl⟩
      walk_at "g"
      refine ⟨es3, hs3, rfl, rfl, rfl, hc _ (List.mem_of_getElem? hi), ?_⟩
      walk_at "g"
    · rintro σ h ⟨rfl, rfl⟩
      walk_at "g"
      exact q
end K21

set_option Elab.async false
set_option linter.all false
set_option maxRecDepth 100000
set_option maxHeartbeats 4000000
namespace K21
open PySem PySem.Spec PyProof.Rows L2 Sc
def top (i : Nat) : Stmt := PySem.Challenge.pw_scorestead_k21_heights_judged.main.body.getD i (.Pass ⟨0, 0, 0, 0⟩)
abbrev FnP (K : PySem.W.Frag) (x : Str) (st : Stmt) (f : Addr) (fd : FuncData) : Prop := FunD K x x (defArgs st) (defBody st) (defScope st) [] [] f fd
abbrev s_start : Stmt := top 6
theorem sc_start : FnScope ["script", "seed", "great", "cell"] ["script"] (defScope s_start) := ⟨rfl, rfl, rfl, by decide +kernel, rfl, by decide +kernel, by decide +kernel⟩
abbrev s_draw : Stmt := top 7
theorem sc_draw : FnScope ["st", "many", "rest", "k", "number", "t"] ["st", "many"] (defScope s_draw) := ⟨rfl, rfl, rfl, by decide +kernel, rfl, by decide +kernel, by decide +kernel⟩
abbrev s_is_node : Stmt := top 1
theorem sc_is_node : FnScope N_is_node ["node", "phi"] (defScope s_is_node) := ⟨rfl, rfl, rfl, by decide +kernel, rfl, by decide +kernel, by decide +kernel⟩
abbrev s_edge_holds : Stmt := top 2
theorem sc_edge_holds : FnScope N_edge_holds ["edge", "phi"] (defScope s_edge_holds) := ⟨rfl, rfl, rfl, by decide +kernel, rfl, by decide +kernel, by decide +kernel⟩
abbrev s_begins_at_zero : Stmt := top 3
theorem sc_begins_at_zero : FnScope N_begins_at_zero ["phi"] (defScope s_begins_at_zero) := ⟨rfl, rfl, rfl, by decide +kernel, rfl, by decide +kernel, by decide +kernel⟩
abbrev s_heights_hold : Stmt := top 4
theorem sc_heights_hold : FnScope N_heights_hold ["edges", "phi"] (defScope s_heights_hold) := ⟨rfl, rfl, rfl, by decide +kernel, rfl, by decide +kernel, by decide +kernel⟩
abbrev s_law_size : Stmt := top 8
theorem sc_law_size : FnScope N_law_size ["st", "few", "many"] (defScope s_law_size) := ⟨rfl, rfl, rfl, by decide +kernel, rfl, by decide +kernel, by decide +kernel⟩
abbrev s_law_int : Stmt := top 9
theorem sc_law_int : FnScope N_law_int ["x"] (defScope s_law_int) := ⟨rfl, rfl, rfl, by decide +kernel, rfl, by decide +kernel, by decide +kernel⟩
abbrev s_law_same : Stmt := top 10
theorem sc_law_same : FnScope N_law_same ["told", "due"] (defScope s_law_same) := ⟨rfl, rfl, rfl, by decide +kernel, rfl, by decide +kernel, by decide +kernel⟩
abbrev s_law_graph : Stmt := top 11
theorem sc_law_graph : FnScope N_law_graph ["st"] (defScope s_law_graph) := ⟨rfl, rfl, rfl, by decide +kernel, rfl, by decide +kernel, by decide +kernel⟩
abbrev s_law_least : Stmt := top 12
theorem sc_law_least : FnScope N_law_least ["n", "edges"] (defScope s_law_least) := ⟨rfl, rfl, rfl, by decide +kernel, rfl, by decide +kernel, by decide +kernel⟩
abbrev s_law_drawn_heights : Stmt := top 13
theorem sc_law_drawn_heights : FnScope N_law_drawn_heights ["st", "n"] (defScope s_law_drawn_heights) := ⟨rfl, rfl, rfl, by decide +kernel, rfl, by decide +kernel, by decide +kernel⟩
abbrev s_law_bent : Stmt := top 14
theorem sc_law_bent : FnScope N_law_bent ["st", "edges", "least"] (defScope s_law_bent) := ⟨rfl, rfl, rfl, by decide +kernel, rfl, by decide +kernel, by decide +kernel⟩
abbrev s_law_holds : Stmt := top 15
theorem sc_law_holds : FnScope N_law_holds ["edges", "phi"] (defScope s_law_holds) := ⟨rfl, rfl, rfl, by decide +kernel, rfl, by decide +kernel, by decide +kernel⟩
abbrev s_law_path_ok : Stmt := top 16
theorem sc_law_path_ok : FnScope N_law_path_ok ["st", "edges", "phi"] (defScope s_law_path_ok) := ⟨rfl, rfl, rfl, by decide +kernel, rfl, by decide +kernel, by decide +kernel⟩
abbrev s_law_judged_ok : Stmt := top 17
theorem sc_law_judged_ok : FnScope N_law_judged_ok ["st", "edges", "phi"] (defScope s_law_judged_ok) := ⟨rfl, rfl, rfl, by decide +kernel, rfl, by decide +kernel, by decide +kernel⟩
abbrev s_law : Stmt := top 18
theorem sc_law : FnScope N_law ["script"] (defScope s_law) := ⟨rfl, rfl, rfl, by decide +kernel, rfl, by decide +kernel, by decide +kernel⟩
section
variable {P₀ : Program} {w : World} {K : PySem.W.Frag} {mg : Str → Option Value} {base : Heap} {f : Addr} {fd : FuncData}
theorem ok_start (F : FnP K "_law_start" s_start f fd) (mlen : mg "len" = none) (mint : mg "int" = none) (mabs : mg "abs" = none) : FnOk P₀ w K mg base CX0 1 f fd ["script"] (upSp K spStart) := by
  refine F.ok sc_start (fun vs H Q E hh => ?_) (fun cdv A outer s H vs Q E hr hh => ?_)
  · obtain ⟨W, xs, post, _, _, r, ⟨⟨ns, _, e⟩, _⟩, _⟩ := hh
    rcases e with rfl | rfl <;> (rw [← r.len]; rfl)
  · obtain ⟨W, xs, post, ea, p, r, ⟨⟨ns, hn, e⟩, q⟩, ff⟩ := hh
    have hS : ∃ a, vs = [.ref a] ∧ SqL K H a (ns.map V.int) := by
      rcases e with rfl | rfl
      · simp only [RDs, RD] at r
        obtain ⟨y, r', rfl, ⟨a, ys, rfl, q1, s1⟩, rfl⟩ := r
        rw [ns_of s1] at q1
        exact ⟨a, rfl, q1.sq⟩
      · simp only [RDs, RD] at r
        obtain ⟨y, r', rfl, ⟨a, ys, rfl, q1, s1⟩, rfl⟩ := r
        rw [ns_of s1] at q1
        exact ⟨a, rfl, q1.sq⟩
    obtain ⟨a, rfl, hS⟩ := hS
    refine ⟨_, PSs.nox (pss_cons (ps_set (i := 1) sc_start.nd rfl (.inl rfl) (pe_callB call_len_seq (by rfl) mlen PySem.boot_len (pa_cons (pv 0) pa_nil)))
      (pss_cons (ps_set (i := 2) sc_start.nd rfl (.inl rfl) (pe_lst pa_nil))
      (pss_cons (ps_for PassesOwn.never rfl (pi_list (pv 0)) (pg_name (i := 3) sc_start.nd rfl (.inl rfl))
        (pss_cons (ps_set (i := 1) sc_start.nd rfl (.inl rfl) (pe_op op_mod (pe_callTy call_int1 (by rfl) mint (by decide +kernel) (pa_cons (pe_op op_add (pe_op op_add (pe_op op_mul (pv 1) pe_int) (pe_op op_mul (pe_callB call_abs (by rfl) mabs (by decide +kernel) (pa_cons (pv 3) pa_nil)) pe_int)) (pe_callTy call_int1 (by rfl) mint (by decide +kernel) (pa_cons (pe_cmpR op_lt (pv 3) pe_int (nomark _)) pa_nil))) pa_nil)) pe_int))
        (pss_one (ps_if (pt_cmpR op_ge (pe_callB call_abs (by rfl) mabs (by decide +kernel) (pa_cons (pv 3) pa_nil)) (pe_op op_pow pe_int pe_int) (nomark _))
          (pss_one (ps_set (i := 2) sc_start.nd rfl (.inl rfl) (pe_op op_cat (pe_lst (pa_cons (pe_op op_sub (pe_callB call_abs (by rfl) mabs (by decide +kernel) (pa_cons (pv 3) pa_nil)) (pe_op op_pow pe_int pe_int)) pa_nil)) (pv 2)))) pss_nil))))
      (pss_one (ps_ret (pe_lst (pa_cons (pv 1) (pa_cons pe_int (pa_cons (pv 2) pa_nil))))))))), ?_⟩
    refine ⟨_, rfl, a, _, rfl, .inl hS, ?_⟩
    refine ⟨Nat.zero_le _, fun g0 ng0 => ?_⟩
    have s1 : Same H (upd H g0 (.lst [])) := fun b o e => by rw [upd_ne (ne_of_none e ng0)]; exact e
    refine ⟨_, rfl, a, rfl, ⟨_, s1.seq hS⟩, for_list (K := K) (a := a) (xs := ns.map V.int) (fun i σ H3 => ∃ (sd : Int) (g : Addr) (gs : List Int) (y : Option V), σ = [some (.ref a), some (.int sd), some (.ref g), y] ∧ Same H H3 ∧ H g = none ∧ H3 g = some (.lst (gs.map V.int)) ∧ gs.length ≤ i ∧ ∀ x ∈ gs, 0 ≤ x)
      ⟨_, g0, [], none, rfl, s1, ng0, upd_same, Nat.le_refl _, fun x hx => by cases hx⟩ (fun i σ H3 _ ⟨_, _, _, _, _, s, _⟩ => s.seq hS) ?_ ?_⟩
    · rintro i x σ H3 hx ⟨sd, g, gs, y, rfl, s3, ng, eg, lg, pg⟩
      obtain ⟨n, rfl⟩ : ∃ n, x = V.int n := by
        rw [List.getElem?_map] at hx
        cases e : ns[i]? with
        | none => rw [e] at hx; cases hx
        | some n => rw [e] at hx; exact ⟨n, (Option.some.inj hx).symm⟩
      have hil : i < (ns.map V.int).length := (List.getElem?_eq_some_iff.mp hx).1
      rw [List.length_map] at hil
      refine ⟨_, rfl, _, _, rfl, rfl, .inr (by decide), _, rfl, _, rfl, _, _, rfl, rfl, .inr (by decide), _, _, rfl, rfl, _, rfl, _, _, rfl, rfl, .inr ⟨_, rfl, _, _, rfl, rfl, .inl ⟨_, rfl, _, _, rfl, rfl, (show (0 : Int) < 2305843009213693951 by decide), ?_⟩⟩⟩
      refine ⟨_, rfl, _, rfl, _, _, rfl, rfl, cpow, _, _, rfl, rfl, _, rfl, ?_⟩
      refine ite2 (fun hc => ?_) (fun _ => ?_)
      · refine ⟨_, rfl, _, rfl, _, _, rfl, rfl, cpow, _, _, rfl, rfl, Nat.le_of_lt (small1000 (by show 1 ≤ 1000; decide)), fun l1 nl1 => ?_⟩
        have hne : l1 ≠ g := fun e => by rw [e, eg] at nl1; cases nl1
        refine ⟨_, rfl, l1, g, _, _, rfl, rfl, upd_same, by rw [upd_ne hne.symm]; exact eg, ?_, fun g2 ng2 => ?_⟩
        · have : gs.length < 1000 := by omega
          have h2 := small1000 (show gs.length + 1 ≤ 1000 by omega)
          simp only [List.length_cons, List.length_nil, List.length_map]
          omega
        · have ng2' : H3 g2 = none := by
            by_cases e : g2 = l1
            · rw [e]; exact nl1
            · rw [upd_ne e] at ng2; exact ng2
          refine ⟨_, g2, (_ - _) :: gs, _, rfl, fun b o e => ?_, s3.free ng2', by rw [upd_same]; rfl, by rw [List.length_cons]; omega, fun x hx => ?_⟩
          · have e3 := s3 b o e
            rw [upd_ne (ne_of_none e3 ng2'), upd_ne (ne_of_none e3 nl1)]
            exact e3
          · cases hx with
            | head =>
              have := of_decide_eq_true hc
              omega
            | tail _ hx => exact pg x hx
      · exact ⟨_, g, gs, _, rfl, s3, ng, eg, by omega, pg⟩
    · rintro σ H3 ⟨sd, g, gs, y, rfl, s3, ng, eg, lg, pg⟩
      refine ⟨_, rfl, _, rfl, Nat.le_of_lt (small1000 (by show 3 ≤ 1000; decide)), fun l nl => ?_⟩
      have hne : l ≠ g := fun e => by rw [e, eg] at nl; cases nl
      have nl0 : H l = none := s3.free nl
      have kk : ∀ b o, H b = some o → (upd H3 l (.lst [.int sd, .int 0, .ref g])) b = some o := fun b o e => by
        have e3 := s3 b o e
        rw [upd_ne (ne_of_none e3 nl)]
        exact e3
      rw [List.length_map] at lg
      obtain ⟨p2, x2⟩ := Pre.newRng (a := l) (g := g) (H' := upd H3 l (.lst [.int sd, .int 0, .ref g])) p nl0 ng hne ⟨sd, 0, gs, upd_same, by rw [upd_ne hne.symm]; exact eg, pg, by omega⟩ kk
      exact ff _ _ _ _ _ q p2 x2 (rp_rng List.mem_cons_self)
theorem ok_draw (F : FnP K "_law_draw" s_draw f fd) (mlen : mg "len" = none) (mint : mg "int" = none) (mrange : mg "range" = none) : FnOk P₀ w K mg base CX0 1 f fd ["st", "many"] (upSp K spDraw) := by
  refine F.ok sc_draw (fun vs H Q E hh => ?_) (fun cdv A outer s H vs Q E hr hh => ?_)
  · obtain ⟨W, xs, post, _, _, r, q, _⟩ := hh
    obtain ⟨m, rfl, _⟩ := spDraw_of q
    rw [← r.len]; rfl
  · obtain ⟨W, xs, post, ea, p, r, q, ff⟩ := hh
    obtain ⟨m, rfl, dm, q⟩ := spDraw_of q
    simp only [RDs, RD] at r
    obtain ⟨y, r', rfl, ⟨a, g, rfl, mem⟩, y2, r2, rfl, rfl, rfl⟩ := r
    obtain ⟨sd, ct, gs, ea1, eg1, pg, lg⟩ := p.rng _ mem
    have hne : a ≠ g := (p.nd3 _ mem _ mem).1
    have hm0 : 0 < m := dm.1
    refine ⟨_, PSs.nox (pss_cons (ps_set (i := 2) sc_draw.nd rfl (.inl rfl) (pe_ix ix_list (pv 0) pe_int (fun _ _ => rfl)))
      (pss_cons (ps_for PassesOwn.never rfl (pi_range1 rfl mrange (pa_cons (pe_callB call_len_seq (by rfl) mlen PySem.boot_len (pa_cons (pv 2) pa_nil)) pa_nil)) (pg_name (i := 3) sc_draw.nd rfl (.inl rfl))
        (pss_cons (ps_if (pt_cmpR op_gt (pe_ix ix_list (pv 2) (pe_un un_neg pe_int) (fun _ _ => rfl)) pe_int (nomark _))
          (pss_cons (ps_set (i := 4) sc_draw.nd rfl (.inl rfl) (pe_ix ix_list (pv 2) (pe_un un_neg pe_int) (fun _ _ => rfl)))
          (pss_cons (ps_asg (pe_op op_fdivW (pv 4) (pv 1)) (pg_sub (pv 2) (pe_un un_neg pe_int) set_list))
          (pss_one (ps_ret (pe_op op_mod (pe_callTy call_int1 (by rfl) mint (by decide +kernel) (pa_cons (pv 4) pa_nil)) (pv 1)))))) pss_nil)
        (pss_one (ps_expr (pe_bm0 PySem.F.plainAttrs_list PySem.F.slot_list_pop PySem.F.type_list_pop mt_pop (pv 2))))))
      (pss_cons (ps_asg (pe_op op_add (pe_ix ix_list (pv 0) pe_int (fun _ _ => rfl)) pe_int) (pg_sub (pv 0) pe_int set_list))
      (pss_cons (ps_set (i := 5) sc_draw.nd rfl (.inl rfl) (pe_op op_mod (pe_callTy call_int1 (by rfl) mint (by decide +kernel) (pa_cons (pe_op op_add (pe_op op_add (pe_ix ix_list (pv 0) pe_int (fun _ _ => rfl)) (pe_op op_mul (pe_ix ix_list (pv 0) pe_int (fun _ _ => rfl)) pe_int)) pe_int) pa_nil)) pe_int))
      (pss_cons (ps_set (i := 5) sc_draw.nd rfl (.inl rfl) (pe_op op_mod (pe_callTy call_int1 (by rfl) mint (by decide +kernel) (pa_cons (pe_op op_add (pe_op op_add (pe_op op_mul (pv 5) (pv 5)) (pe_op op_mul (pe_ix ix_list (pv 0) pe_int (fun _ _ => rfl)) pe_int)) (pe_ix ix_list (pv 0) pe_int (fun _ _ => rfl))) pa_nil)) pe_int))
      (pss_cons (ps_set (i := 5) sc_draw.nd rfl (.inl rfl) (pe_op op_mod (pe_callTy call_int1 (by rfl) mint (by decide +kernel) (pa_cons (pe_op op_add (pe_op op_add (pe_op op_mul (pv 5) (pv 5)) (pe_op op_mul (pe_ix ix_list (pv 0) pe_int (fun _ _ => rfl)) pe_int)) pe_int) pa_nil)) pe_int))
      (pss_one (ps_ret (pe_op op_mod (pe_callTy call_int1 (by rfl) mint (by decide +kernel) (pa_cons (pe_op op_fdiv (pv 5) pe_int) pa_nil)) (pv 1)))))))))), ?_⟩
    refine ⟨_, rfl, a, _, _, _, rfl, rfl, SqL.of ea1, rfl, ?_⟩
    have lr : (gs.map V.int).length = gs.length := List.length_map _
    refine ⟨_, rfl, g, _, rfl, .inl (SqL.of eg1), _, rfl, by rw [lr]; omega, by rw [lr]; omega, for_range (lo := 0) (n := ((gs.map V.int).length : Int).toNat) (fun i σ H3 => ∃ (gs' : List Int) (y3 : Option V), σ = [some (.ref a), some (.int m), some (.ref g), y3, none, none] ∧ H3 a = some (.lst [.int sd, .int ct, .ref g]) ∧ H3 g = some (.lst (gs'.map V.int)) ∧ (∀ x ∈ gs', 0 ≤ x) ∧ gs'.length + i = gs.length ∧ ∀ b o, b ≠ a → b ≠ g → H b = some o → H3 b = some o)
      ⟨gs, none, rfl, ea1, eg1, pg, rfl, fun b o _ _ e => e⟩ ?_ ?_⟩
    · rintro i σ H3 hi ⟨gs', y3, rfl, ea3, eg3, pg3, lg3, k3⟩
      rw [lr] at hi
      have hpos : gs'.length ≠ 0 := by omega
      obtain ⟨init, last, rfl⟩ : ∃ init last, gs' = init ++ [last] := ⟨gs'.dropLast, gs'.getLast (by intro e; rw [e] at hpos; exact hpos rfl), (List.dropLast_concat_getLast _).symm⟩
      have eg4 : H3 g = some (.lst (init.map V.int ++ [.int last])) := by rw [eg3, List.map_append]; rfl
      refine ⟨_, rfl, _, rfl, g, _, _, _, rfl, rfl, SqL.of eg4, atI_last _ _, _, _, rfl, rfl, _, rfl, ?_⟩
      refine ite2 (fun hc => ?_) (fun _ => ?_)
      · refine ⟨_, rfl, _, rfl, g, _, _, _, rfl, rfl, SqL.of eg4, atI_last _ _, ?_⟩
        refine ⟨_, rfl, _, rfl, _, _, rfl, rfl, dm.ok, _, rfl, _, rfl, g, _, _, init.length, rfl, rfl, eg4, ?_, ?_⟩
        · unfold ixN
          rw [if_neg (by decide), if_pos (by simp; omega)]
          congr 1
          simp
          omega
        · refine ⟨_, rfl, .inl ⟨_, rfl, _, rfl, _, _, rfl, rfl, hm0, ?_⟩⟩
          have hnn : ∀ x ∈ init ++ [last / m], 0 ≤ x := fun x hx => by
            rcases List.mem_append.mp hx with hx | hx
            · exact pg3 x (List.mem_append_left _ hx)
            · rw [List.mem_singleton] at hx
              subst hx
              have := of_decide_eq_true hc
              exact Int.ediv_nonneg (by omega) (by omega)
          have hset : (init.map V.int ++ [V.int last]).set init.length (V.int (last / m)) = (init ++ [last / m]).map V.int := by
            rw [List.map_append, List.set_append]
            simp
          have hlen : (init ++ [last / m]).length ≤ 1000 := by
            simp at lg3 ⊢
            omega
          obtain ⟨p4, x4⟩ := Pre.turn (H' := upd H3 g (.lst ((init.map V.int ++ [V.int last]).set init.length (V.int (last / m))))) p mem ⟨sd, ct, init ++ [last / m], by rw [upd_ne hne]; exact ea3, by rw [upd_same, hset], hnn, hlen⟩ (fun b o n1 n2 e => by rw [upd_ne n2]; exact k3 b o n1 n2 e)
          exact ff _ _ W _ _ (q _ (Int.emod_nonneg _ (by omega)) (Int.emod_lt_of_pos _ hm0)) p4 x4 rp_int
      · refine ⟨_, rfl, .inl ⟨rfl, _, SqL.of eg4⟩, g, _, V.int last, rfl, rfl, eg4, ?_, ?_⟩
        · simp
        · refine ⟨init, _, rfl, by rw [upd_ne hne]; exact ea3, by rw [upd_same, List.dropLast_concat], fun x hx => pg3 x (List.mem_append_left _ hx), by simp at lg3; omega, fun b o n1 n2 e => by rw [upd_ne n2]; exact k3 b o n1 n2 e⟩
    · rintro σ H3 ⟨gs', y3, rfl, ea3, eg3, pg3, lg3, k3⟩
      have ea5 : ∀ z, (upd H3 a (.lst [.int sd, .int z, .ref g])) a = some (.lst [.int sd, .int z, .ref g]) := fun z => upd_same
      have big : ∀ x : Int, 0 ≤ x → x < 2147483647 → -(2 ^ 64) < x ∧ x < 2 ^ 64 := fun x h1 h2 => by omega
      refine ⟨_, rfl, a, _, _, _, rfl, rfl, SqL.of ea3, rfl, _, _, rfl, rfl, _, rfl, a, _, _, 1, rfl, rfl, ea3, rfl, ?_⟩
      refine ⟨_, rfl, a, _, _, _, rfl, rfl, SqL.of (ea5 (ct + 1)), rfl, _, rfl, a, _, _, _, rfl, rfl, SqL.of (ea5 (ct + 1)), rfl, _, _, rfl, rfl, mulR _ _ (by decide), _, _, rfl, rfl, _, _, rfl, rfl, .inl ⟨_, rfl, _, _, rfl, rfl, (show (0 : Int) < 2147483647 by decide), ?_⟩⟩
      refine ⟨_, rfl, _, rfl, _, _, rfl, rfl, mulL _ _ (big _ (Int.emod_nonneg _ (by decide)) (Int.emod_lt_of_pos _ (by decide))), _, rfl, a, _, _, _, rfl, rfl, SqL.of (ea5 (ct + 1)), rfl, _, _, rfl, rfl, mulR _ _ (by decide), _, _, rfl, rfl, _, rfl, a, _, _, _, rfl, rfl, SqL.of (ea5 (ct + 1)), rfl, _, _, rfl, rfl, .inl ⟨_, rfl, _, _, rfl, rfl, (show (0 : Int) < 2147483629 by decide), ?_⟩⟩
      refine ⟨_, rfl, _, rfl, _, _, rfl, rfl, mulL _ _ (big _ (Int.emod_nonneg _ (by decide)) (Int.lt_trans (Int.emod_lt_of_pos _ (by decide)) (by decide))), _, rfl, a, _, _, _, rfl, rfl, SqL.of (ea5 (ct + 1)), rfl, _, _, rfl, rfl, mulR _ _ (by decide), _, _, rfl, rfl, _, _, rfl, rfl, .inl ⟨_, rfl, _, _, rfl, rfl, (show (0 : Int) < 2147483587 by decide), ?_⟩⟩
      refine ⟨_, rfl, _, _, rfl, rfl, (show CDiv _ 7 from ⟨by decide, by decide⟩), .inl ⟨_, rfl, _, rfl, _, _, rfl, rfl, hm0, ?_⟩⟩
      obtain ⟨p4, x4⟩ := Pre.turn (H' := upd H3 a (.lst [.int sd, .int (ct + 1), .ref g])) p mem ⟨sd, ct + 1, gs', upd_same, by rw [upd_ne hne.symm]; exact eg3, pg3, by omega⟩ (fun b o n1 n2 e => by rw [upd_ne n1]; exact k3 b o n1 n2 e)
      exact ff _ _ W _ _ (q _ (Int.emod_nonneg _ (by omega)) (Int.emod_lt_of_pos _ hm0)) p4 x4 rp_int
abbrev s_law_start : Stmt := s_start
abbrev s_law_draw : Stmt := s_draw
theorem ok_is_node (m_len : mg "len" = none) (F : FnP K "is_node" s_is_node f fd) : FnOk P₀ w K mg base CX0 1 f fd ["node", "phi"] (upSp K sp_is_node) :=
  fn_ok F sc_is_node sp2_len (fun cdv A outer s H E hr => have nd := sc_is_node.nd; have hu := hr.units; have hu5 := hu5_of hr; (ss_one (s_ret (e_chain og_le og_lt e_int (e_var 0) (e_cb cg_len (by rfl) m_len (by decide +kernel) (ea_cons (e_var 1) ea_nil)))))) pure_is_node
theorem ok_edge_holds {f_is_node : Addr} {fd_is_node : FuncData} (G_is_node : FnOk P₀ w K mg base CX0 1 f_is_node fd_is_node ["node", "phi"] (upSp K sp_is_node)) (g_is_node : mg "is_node" = some (.ref f_is_node)) (F_is_node : FnP K "is_node" s_is_node f_is_node fd_is_node) (B_is_node : Binds K fd_is_node ["node", "phi"] []) (F : FnP K "edge_holds" s_edge_holds f fd) : FnOk P₀ w K mg base CX0 2 f fd ["edge", "phi"] (upSp K sp_edge_holds) :=
  fn_ok F sc_edge_holds sp2_len (fun cdv A outer s H E hr => have nd := sc_edge_holds.nd; have hu := hr.units; have hu5 := hu5_of hr; (ss_cons 6 (s_asg (e_var 0) (g_tup rfl (gs_cons (g_name nd) (gs_cons (g_name nd) (gs_cons (g_name nd) gs_nil)))))
  (ss_cons 8 (s_if (EW.pt (ew_or (eb_not (eb_tru (e_callF G_is_node (hr.mono (by omega)) g_is_node F_is_node.kp B_is_node (ea_cons (e_var 2) (ea_cons (e_var 1) ea_nil))))) (ew_or1 (eb_not (eb_tru (e_callF G_is_node (hr.mono (by omega)) g_is_node F_is_node.kp B_is_node (ea_cons (e_var 3) (ea_cons (e_var 1) ea_nil))))))))
  (ss_one (s_ret e_bl))
  ss_nil)
  (ss_cons 10 (s_if (eb_cmp og_is (e_ix (e_var 1) (e_var 2)) e_non)
  (ss_one (s_ret e_bl))
  ss_nil)
  (ss_one (s_ret (e_and (e_cmp og_isnot (e_ix (e_var 1) (e_var 3)) e_non) (e_one (e_cmp og_le (e_ix (e_var 1) (e_var 3)) (e_op og_add (e_ix (e_var 1) (e_var 2)) (e_var 4))))))))))) pure_edge_holds
theorem ok_begins_at_zero (m_len : mg "len" = none) (F : FnP K "begins_at_zero" s_begins_at_zero f fd) : FnOk P₀ w K mg base CX0 1 f fd ["phi"] (upSp K sp_begins_at_zero) :=
  fn_ok F sc_begins_at_zero sp1_len (fun cdv A outer s H E hr => have nd := sc_begins_at_zero.nd; have hu := hr.units; have hu5 := hu5_of hr; (ss_one (s_ret (e_and (e_cmp og_gt (e_cb cg_len (by rfl) m_len (by decide +kernel) (ea_cons (e_var 0) ea_nil)) e_int) (e_one (e_cmp (og_eq hu) (e_ix (e_var 0) e_int) e_int)))))) pure_begins_at_zero
theorem ok_heights_hold (m_all : mg "all" = none) {f_begins_at_zero : Addr} {fd_begins_at_zero : FuncData} (G_begins_at_zero : FnOk P₀ w K mg base CX0 1 f_begins_at_zero fd_begins_at_zero ["phi"] (upSp K sp_begins_at_zero)) (g_begins_at_zero : mg "begins_at_zero" = some (.ref f_begins_at_zero)) (F_begins_at_zero : FnP K "begins_at_zero" s_begins_at_zero f_begins_at_zero fd_begins_at_zero) (B_begins_at_zero : Binds K fd_begins_at_zero ["phi"] []) {f_edge_holds : Addr} {fd_edge_holds : FuncData} (G_edge_holds : FnOk P₀ w K mg base CX0 2 f_edge_holds fd_edge_holds ["edge", "phi"] (upSp K sp_edge_holds)) (g_edge_holds : mg "edge_holds" = some (.ref f_edge_holds)) (F_edge_holds : FnP K "edge_holds" s_edge_holds f_edge_holds fd_edge_holds) (B_edge_holds : Binds K fd_edge_holds ["edge", "phi"] []) (F : FnP K "heights_hold" s_heights_hold f fd) : FnOk P₀ w K mg base CX0 3 f fd ["edges", "phi"] (upSp K sp_heights_hold) :=
  fn_ok F sc_heights_hold sp2_len (fun cdv A outer s H E hr => have nd := sc_heights_hold.nd; have hu := hr.units; have hu5 := hu5_of hr; (ss_one (s_ret (e_and (e_callF G_begins_at_zero (hr.mono (by omega)) g_begins_at_zero F_begins_at_zero.kp B_begins_at_zero (ea_cons (e_var 1) ea_nil)) (e_one (e_cb (cg_all rfl) (by rfl) m_all (by decide +kernel) (ea_cons (e_lc [("edge", 2)] rfl nd (i_val (e_var 0)) (blkOk_by (N := N_heights_hold) (sc := defScope s_heights_hold) (by decide +kernel)) (by decide) (fun _ _ _ _ _ => ct_one nd) (fun _ _ _ _ _ => ets_nil) (fun _ _ _ _ _ => (e_callF G_edge_holds (hr.mono (by omega)) g_edge_holds F_edge_holds.kp B_edge_holds (ea_cons (e_var 2) (ea_cons (e_var 1) ea_nil))))) ea_nil))))))) pure_heights_hold
theorem ok_law_size {f_law_draw : Addr} {fd_law_draw : FuncData} (G_law_draw : FnOk P₀ w K mg base CX0 1 f_law_draw fd_law_draw ["st", "many"] (upSp K sp_law_draw)) (g_law_draw : mg "_law_draw" = some (.ref f_law_draw)) (F_law_draw : FnP K "_law_draw" s_law_draw f_law_draw fd_law_draw) (B_law_draw : Binds K fd_law_draw ["st", "many"] []) (F : FnP K "_law_size" s_law_size f fd) : FnOk P₀ w K mg base CX0 2 f fd ["st", "few", "many"] (upSp K sp_law_size) :=
  fn_ok F sc_law_size sp3_len (fun cdv A outer s H E hr => have nd := sc_law_size.nd; have hu := hr.units; have hu5 := hu5_of hr; (ss_cons 40 (s_if (eb_cmp (og_eq hu) (e_callF G_law_draw (hr.mono (by omega)) g_law_draw F_law_draw.kp B_law_draw (ea_cons (e_var 0) (ea_cons e_int ea_nil))) e_int)
  (ss_one (s_ret (e_callF G_law_draw (hr.mono (by omega)) g_law_draw F_law_draw.kp B_law_draw (ea_cons (e_var 0) (ea_cons (e_op og_add (e_var 2) e_int) ea_nil)))))
  ss_nil)
  (ss_one (s_ret (e_callF G_law_draw (hr.mono (by omega)) g_law_draw F_law_draw.kp B_law_draw (ea_cons (e_var 0) (ea_cons (e_op og_add (e_var 1) e_int) ea_nil))))))) pure_law_size
theorem ok_law_int (m_bool : mg "bool" = none) (m_int : mg "int" = none) (m_isinstance : mg "isinstance" = none) (F : FnP K "_law_int" s_law_int f fd) : FnOk P₀ w K mg base CX0 1 f fd ["x"] (upSp K sp_law_int) :=
  fn_ok F sc_law_int sp1_len (fun cdv A outer s H E hr => have nd := sc_law_int.nd; have hu := hr.units; have hu5 := hu5_of hr; (ss_one (s_ret (e_and (e_isi m_isinstance m_int (by decide +kernel) (isi_int) (e_var 0)) (e_one (e_not (e_isi m_isinstance m_bool (by decide +kernel) (isi_bool) (e_var 0)))))))) pure_law_int
theorem step_law_same (n : Nat) (m_bool : mg "bool" = none) (m_int : mg "int" = none) (m_isinstance : mg "isinstance" = none) (m_len : mg "len" = none) (m_list : mg "list" = none) (m_range : mg "range" = none) (m_str : mg "str" = none) (m_tuple : mg "tuple" = none) {f_law_int : Addr} {fd_law_int : FuncData} (G_law_int : FnOk P₀ w K mg base CX0 1 f_law_int fd_law_int ["x"] (upSp K sp_law_int)) (g_law_int : mg "_law_int" = some (.ref f_law_int)) (F_law_int : FnP K "_law_int" s_law_int f_law_int fd_law_int) (B_law_int : Binds K fd_law_int ["x"] []) (G_law_same : FnOk P₀ w K mg base CX0 (1 + n) f fd ["told", "due"] (upSp K (spIn n))) (g_law_same : mg "_law_same" = some (.ref f)) (F_law_same : FnP K "_law_same" s_law_same f fd) (B_law_same : Binds K fd ["told", "due"] []) : FnOk P₀ w K mg base CX0 (1 + n + 1) f fd ["told", "due"] (upSp K (spSame n)) :=
  fn_ok F_law_same sc_law_same sp2_len (fun cdv A outer s H E hr => have nd := sc_law_same.nd; have hu := hr.units; have hu5 := hu5_of hr; (ss_cons 46 (s_if (eb_cmp og_is (e_var 1) e_non)
  (ss_one (s_ret (e_cmp og_is (e_var 0) e_non)))
  ss_nil)
  (ss_cons 48 (s_if (eb_tru (e_isi m_isinstance m_bool (by decide +kernel) (isi_bool) (e_var 1)))
  (ss_one (s_ret (e_and (e_isi m_isinstance m_bool (by decide +kernel) (isi_bool) (e_var 0)) (e_one (e_cmp (og_eq hu) (e_var 0) (e_var 1))))))
  ss_nil)
  (ss_cons 50 (s_if (eb_tru (e_isi m_isinstance m_int (by decide +kernel) (isi_int) (e_var 1)))
  (ss_one (s_ret (e_and (e_callF G_law_int (hr.mono (by omega)) g_law_int F_law_int.kp B_law_int (ea_cons (e_var 0) ea_nil)) (e_one (e_cmp (og_eq hu) (e_var 0) (e_var 1))))))
  ss_nil)
  (ss_cons 52 (s_if (eb_tru (e_isi m_isinstance m_str (by decide +kernel) (isi_str) (e_var 1)))
  (ss_one (s_ret (e_and (e_isi m_isinstance m_str (by decide +kernel) (isi_str) (e_var 0)) (e_one (e_cmp (og_eq hu) (e_var 0) (e_var 1))))))
  ss_nil)
  (ss_cons 54 (s_if (EW.pt (ew_and (eb_tru (e_isi m_isinstance m_tuple (by decide +kernel) (isi_tuple) (e_var 1))) (ew_and1 (eb_not (eb_tru (e_isi m_isinstance m_tuple (by decide +kernel) (isi_tuple) (e_var 0)))))))
  (ss_one (s_ret e_bl))
  ss_nil)
  (ss_cons 56 (s_if (EW.pt (ew_and (eb_tru (e_isi m_isinstance m_list (by decide +kernel) (isi_list) (e_var 1))) (ew_and1 (eb_not (eb_tru (e_isi m_isinstance m_list (by decide +kernel) (isi_list) (e_var 0)))))))
  (ss_one (s_ret e_bl))
  ss_nil)
  (ss_cons 58 (s_if (eb_cmp (og_ne hu) (e_cb cg_len (by rfl) m_len (by decide +kernel) (ea_cons (e_var 0) ea_nil)) (e_cb cg_len (by rfl) m_len (by decide +kernel) (ea_cons (e_var 1) ea_nil)))
  (ss_one (s_ret e_bl))
  ss_nil)
  (ss_cons 61 (s_for [2] PassesOwn.never rfl (i_rng1 m_range (ea_cons (e_cb cg_len (by rfl) m_len (by decide +kernel) (ea_cons (e_var 1) ea_nil)) ea_nil)) (g_name nd)
  (ss_one (s_if (eb_not (eb_tru (e_callF G_law_same (hr.mono (by omega)) g_law_same F_law_same.kp B_law_same (ea_cons (e_ix (e_var 0) (e_var 2)) (ea_cons (e_ix (e_var 1) (e_var 2)) ea_nil)))))
  (ss_one (s_ret e_bl))
  ss_nil)))
  (ss_one (s_ret e_bl))))))))))) (pure_law_same n)
theorem ok_law_same (m_bool : mg "bool" = none) (m_int : mg "int" = none) (m_isinstance : mg "isinstance" = none) (m_len : mg "len" = none) (m_list : mg "list" = none) (m_range : mg "range" = none) (m_str : mg "str" = none) (m_tuple : mg "tuple" = none) {f_law_int : Addr} {fd_law_int : FuncData} (G_law_int : FnOk P₀ w K mg base CX0 1 f_law_int fd_law_int ["x"] (upSp K sp_law_int)) (g_law_int : mg "_law_int" = some (.ref f_law_int)) (F_law_int : FnP K "_law_int" s_law_int f_law_int fd_law_int) (B_law_int : Binds K fd_law_int ["x"] []) (g_law_same : mg "_law_same" = some (.ref f)) (F : FnP K "_law_same" s_law_same f fd) (B_law_same : Binds K fd ["told", "due"] []) : FnOk P₀ w K mg base CX0 14 f fd ["told", "due"] (upSp K sp_law_same) := by
  have all : ∀ n, FnOk P₀ w K mg base CX0 (1 + n) f fd ["told", "due"] (upSp K (spIn n)) := by
    intro n
    induction n with
    | zero => exact fn_no
    | succ n ih => exact step_law_same n m_bool m_int m_isinstance m_len m_list m_range m_str m_tuple G_law_int g_law_int F_law_int B_law_int ih g_law_same F B_law_same
  exact all 13
theorem ok_law_graph (m_range : mg "range" = none) {f_law_size : Addr} {fd_law_size : FuncData} (G_law_size : FnOk P₀ w K mg base CX0 2 f_law_size fd_law_size ["st", "few", "many"] (upSp K sp_law_size)) (g_law_size : mg "_law_size" = some (.ref f_law_size)) (F_law_size : FnP K "_law_size" s_law_size f_law_size fd_law_size) (B_law_size : Binds K fd_law_size ["st", "few", "many"] []) {f_law_draw : Addr} {fd_law_draw : FuncData} (G_law_draw : FnOk P₀ w K mg base CX0 1 f_law_draw fd_law_draw ["st", "many"] (upSp K sp_law_draw)) (g_law_draw : mg "_law_draw" = some (.ref f_law_draw)) (F_law_draw : FnP K "_law_draw" s_law_draw f_law_draw fd_law_draw) (B_law_draw : Binds K fd_law_draw ["st", "many"] []) (F : FnP K "_law_graph" s_law_graph f fd) : FnOk P₀ w K mg base CX0 3 f fd ["st"] (upSp K sp_law_graph) :=
  fn_ok F sc_law_graph sp1_len (fun cdv A outer s H E hr => have nd := sc_law_graph.nd; have hu := hr.units; have hu5 := hu5_of hr; (ss_cons 64 (s_set nd (e_op og_add e_int (e_callF G_law_size (hr.mono (by omega)) g_law_size F_law_size.kp B_law_size (ea_cons (e_var 0) (ea_cons e_int (ea_cons e_int ea_nil))))))
  (ss_cons 65 (s_set nd (e_callF G_law_draw (hr.mono (by omega)) g_law_draw F_law_draw.kp B_law_draw (ea_cons (e_var 0) (ea_cons e_int ea_nil))))
  (ss_cons 66 (s_set nd (e_lstM ea_nil))
  (ss_cons 73 (s_for [4, 5] PassesOwn.never rfl (i_rng1 m_range (ea_cons (e_callF G_law_size (hr.mono (by omega)) g_law_size F_law_size.kp B_law_size (ea_cons (e_var 0) (ea_cons e_int (ea_cons e_int ea_nil)))) ea_nil)) (g_name nd)
  (ss_cons 68 (s_set nd (e_callF G_law_draw (hr.mono (by omega)) g_law_draw F_law_draw.kp B_law_draw (ea_cons (e_var 0) (ea_cons e_int ea_nil))))
  (ss_cons 70 (s_if (eb_cmp (og_eq hu) (e_var 2) e_int)
  (ss_one (s_set nd (e_op og_sub (e_var 5) e_int)))
  ss_nil)
  (ss_cons 72 (s_if (EW.pt (ew_and (eb_cmp (og_eq hu) (e_var 2) e_int) (ew_and1 (eb_cmp (og_eq hu) (e_callF G_law_draw (hr.mono (by omega)) g_law_draw F_law_draw.kp B_law_draw (ea_cons (e_var 0) (ea_cons e_int ea_nil))) e_int))))
  (ss_one (s_set nd (e_op og_sub (e_callF G_law_draw (hr.mono (by omega)) g_law_draw F_law_draw.kp B_law_draw (ea_cons (e_var 0) (ea_cons (e_op og_pow e_int e_int) ea_nil))) (e_callF G_law_draw (hr.mono (by omega)) g_law_draw F_law_draw.kp B_law_draw (ea_cons (e_var 0) (ea_cons e_int ea_nil))))))
  ss_nil)
  (ss_one (s_expr (e_lm PySem.F.slot_list_append PySem.F.type_list_append mg_append (e_var 3) (ea_cons (e_tup (ea_cons (e_callF G_law_draw (hr.mono (by omega)) g_law_draw F_law_draw.kp B_law_draw (ea_cons (e_var 0) (ea_cons (e_var 1) ea_nil))) (ea_cons (e_callF G_law_draw (hr.mono (by omega)) g_law_draw F_law_draw.kp B_law_draw (ea_cons (e_var 0) (ea_cons (e_var 1) ea_nil))) (ea_cons (e_var 5) ea_nil)))) ea_nil))))))))
  (ss_one (s_frz [3] (s_ret (e_lst (ea_cons (e_var 1) (ea_cons (e_var 3) ea_nil))))))))))) pure_law_graph
theorem ok_law_least (m_range : mg "range" = none) (F : FnP K "_law_least" s_law_least f fd) : FnOk P₀ w K mg base CX0 1 f fd ["n", "edges"] (upSp K sp_law_least) :=
  fn_ok F sc_law_least sp2_len (fun cdv A outer s H E hr => have nd := sc_law_least.nd; have hu := hr.units; have hu5 := hu5_of hr; (ss_cons 76 (s_set nd (e_op og_addM (e_lst (ea_cons e_int ea_nil)) (e_op og_mul (e_lst (ea_cons e_non ea_nil)) (e_op og_sub (e_var 0) e_int))))
  (ss_cons 80 (s_for [3, 4, 5, 6] PassesOwn.never rfl (i_rng1 m_range (ea_cons (e_var 0) ea_nil)) (g_name nd)
  (ss_one (s_for [4, 5, 6] PassesOwn.never rfl (i_val (e_var 1)) (g_tup rfl (gs_cons (g_name nd) (gs_cons (g_name nd) (gs_cons (g_name nd) gs_nil))))
  (ss_one (s_if (EW.pt (ew_and (eb_cmp og_isnot (e_ix (e_var 2) (e_var 4)) e_non) (ew_and (eb_cmp og_gt (e_var 5) e_int) (ew_and1 (EW.pt (ew_or (eb_cmp og_is (e_ix (e_var 2) (e_var 5)) e_non) (ew_or1 (eb_cmp og_gt (e_ix (e_var 2) (e_var 5)) (e_op og_add (e_ix (e_var 2) (e_var 4)) (e_var 6))))))))))
  (ss_one (s_asg (e_op og_add (e_ix (e_var 2) (e_var 4)) (e_var 6)) (g_sub (e_var 2) (e_var 5))))
  ss_nil)))))
  (ss_one (s_ret (e_var 2)))))) pure_law_least
theorem ok_law_drawn_heights (m_range : mg "range" = none) {f_law_draw : Addr} {fd_law_draw : FuncData} (G_law_draw : FnOk P₀ w K mg base CX0 1 f_law_draw fd_law_draw ["st", "many"] (upSp K sp_law_draw)) (g_law_draw : mg "_law_draw" = some (.ref f_law_draw)) (F_law_draw : FnP K "_law_draw" s_law_draw f_law_draw fd_law_draw) (B_law_draw : Binds K fd_law_draw ["st", "many"] []) (F : FnP K "_law_drawn_heights" s_law_drawn_heights f fd) : FnOk P₀ w K mg base CX0 2 f fd ["st", "n"] (upSp K sp_law_drawn_heights) :=
  fn_ok F sc_law_drawn_heights sp2_len (fun cdv A outer s H E hr => have nd := sc_law_drawn_heights.nd; have hu := hr.units; have hu5 := hu5_of hr; (ss_cons 83 (s_set nd (e_lstM (ea_cons e_int ea_nil)))
  (ss_cons 85 (s_for [3] PassesOwn.never rfl (i_rng1 m_range (ea_cons (e_op og_sub (e_var 1) e_int) ea_nil)) (g_name nd)
  (ss_one (s_expr (e_lm PySem.F.slot_list_append PySem.F.type_list_append mg_append (e_var 2) (ea_cons (e_ix (e_lst (ea_cons e_non (ea_cons e_int (ea_cons e_int (ea_cons e_int (ea_cons (e_neg e_int) (ea_cons e_int (ea_cons (e_neg e_int) (ea_cons e_int ea_nil))))))))) (e_callF G_law_draw (hr.mono (by omega)) g_law_draw F_law_draw.kp B_law_draw (ea_cons (e_var 0) (ea_cons e_int ea_nil)))) ea_nil)))))
  (ss_one (s_ret (e_var 2)))))) pure_law_drawn_heights
theorem ok_law_bent (m_len : mg "len" = none) (m_list : mg "list" = none) {f_law_draw : Addr} {fd_law_draw : FuncData} (G_law_draw : FnOk P₀ w K mg base CX0 1 f_law_draw fd_law_draw ["st", "many"] (upSp K sp_law_draw)) (g_law_draw : mg "_law_draw" = some (.ref f_law_draw)) (F_law_draw : FnP K "_law_draw" s_law_draw f_law_draw fd_law_draw) (B_law_draw : Binds K fd_law_draw ["st", "many"] []) (F : FnP K "_law_bent" s_law_bent f fd) : FnOk P₀ w K mg base CX0 2 f fd ["st", "edges", "least"] (upSp K sp_law_bent) :=
  fn_ok F sc_law_bent sp3_len (fun cdv A outer s H E hr => have nd := sc_law_bent.nd; have hu := hr.units; have hu5 := hu5_of hr; (ss_cons 88 (s_set nd (e_ct cg_listM (by rfl) m_list (by decide +kernel) (ea_cons (e_var 1) ea_nil)))
  (ss_cons 89 (s_set nd (e_ct cg_listM (by rfl) m_list (by decide +kernel) (ea_cons (e_var 2) ea_nil)))
  (ss_cons 90 (s_set nd (e_callF G_law_draw (hr.mono (by omega)) g_law_draw F_law_draw.kp B_law_draw (ea_cons (e_var 0) (ea_cons (e_cb cg_len (by rfl) m_len (by decide +kernel) (ea_cons (e_var 4) ea_nil)) ea_nil))))
  (ss_cons 91 (s_set nd (e_callF G_law_draw (hr.mono (by omega)) g_law_draw F_law_draw.kp B_law_draw (ea_cons (e_var 0) (ea_cons e_int ea_nil))))
  (ss_cons 93 (s_if (EW.pt (ew_and (eb_cmp (og_eq hu) (e_var 6) e_int) (ew_and1 (eb_cmp og_isnot (e_ix (e_var 4) (e_var 5)) e_non))))
  (ss_one (s_asg (e_op og_add (e_ix (e_var 4) (e_var 5)) e_int) (g_sub (e_var 4) (e_var 5))))
  ss_nil)
  (ss_cons 95 (s_if (EW.pt (ew_and (eb_cmp (og_eq hu) (e_var 6) e_int) (ew_and1 (eb_cmp og_isnot (e_ix (e_var 4) (e_var 5)) e_non))))
  (ss_one (s_asg (e_op og_sub (e_ix (e_var 4) (e_var 5)) e_int) (g_sub (e_var 4) (e_var 5))))
  ss_nil)
  (ss_cons 97 (s_if (eb_cmp (og_eq hu) (e_var 6) e_int)
  (ss_one (s_asg (e_ix (e_lst (ea_cons e_non (ea_cons e_int (ea_cons e_int ea_nil)))) (e_callF G_law_draw (hr.mono (by omega)) g_law_draw F_law_draw.kp B_law_draw (ea_cons (e_var 0) (ea_cons e_int ea_nil)))) (g_sub (e_var 4) (e_var 5))))
  ss_nil)
  (ss_cons 99 (s_if (eb_cmp (og_eq hu) (e_var 6) e_int)
  (ss_one (s_asg (e_ix (e_lst (ea_cons e_int (ea_cons (e_neg e_int) (ea_cons e_non ea_nil)))) (e_callF G_law_draw (hr.mono (by omega)) g_law_draw F_law_draw.kp B_law_draw (ea_cons (e_var 0) (ea_cons e_int ea_nil)))) (g_sub (e_var 4) e_int)))
  ss_nil)
  (ss_cons 103 (s_kill [7, 8] (s_if (eb_cmp (og_eq hu) (e_var 6) e_int)
  (ss_cons 101 (s_set nd (e_ix (e_lst (ea_cons (e_neg e_int) (ea_cons (e_cb cg_len (by rfl) m_len (by decide +kernel) (ea_cons (e_var 4) ea_nil)) (ea_cons (e_neg (e_cb cg_len (by rfl) m_len (by decide +kernel) (ea_cons (e_var 4) ea_nil))) (ea_cons (e_op og_pow e_int e_int) ea_nil))))) (e_callF G_law_draw (hr.mono (by omega)) g_law_draw F_law_draw.kp B_law_draw (ea_cons (e_var 0) (ea_cons e_int ea_nil)))))
  (ss_cons 102 (s_set nd (e_ix (e_lst (ea_cons (e_tup (ea_cons (e_var 7) (ea_cons (e_var 5) (ea_cons (e_op og_pow e_int e_int) ea_nil)))) (ea_cons (e_tup (ea_cons (e_var 5) (ea_cons (e_var 7) (ea_cons (e_op og_pow e_int e_int) ea_nil)))) ea_nil))) (e_callF G_law_draw (hr.mono (by omega)) g_law_draw F_law_draw.kp B_law_draw (ea_cons (e_var 0) (ea_cons e_int ea_nil)))))
  (ss_one (s_expr (e_lm PySem.F.slot_list_insert PySem.F.type_list_insert mg_insert (e_var 3) (ea_cons (e_callF G_law_draw (hr.mono (by omega)) g_law_draw F_law_draw.kp B_law_draw (ea_cons (e_var 0) (ea_cons (e_op og_add (e_cb cg_len (by rfl) m_len (by decide +kernel) (ea_cons (e_var 3) ea_nil)) e_int) ea_nil))) (ea_cons (e_var 8) ea_nil)))))))
  ss_nil))
  (ss_cons 105 (s_if (eb_cmp (og_eq hu) (e_var 6) e_int)
  (ss_one (s_expr (e_lm0 PySem.F.slot_list_pop PySem.F.type_list_pop mg_pop (e_var 4))))
  ss_nil)
  (ss_cons 107 (s_if (eb_cmp (og_eq hu) (e_var 6) e_int)
  (ss_one (s_expr (e_lm PySem.F.slot_list_append PySem.F.type_list_append mg_append (e_var 4) (ea_cons (e_ix (e_lst (ea_cons e_non (ea_cons e_int (ea_cons e_int ea_nil)))) (e_callF G_law_draw (hr.mono (by omega)) g_law_draw F_law_draw.kp B_law_draw (ea_cons (e_var 0) (ea_cons e_int ea_nil)))) ea_nil))))
  ss_nil)
  (ss_cons 111 (s_frz [4] (s_kill [9, 10, 11, 12] (s_if (EW.pt (ew_and (eb_cmp og_gt (e_var 6) e_int) (ew_and1 (eb_cmp (og_ne hu) (e_var 3) (e_lst ea_nil)))))
  (ss_cons 109 (s_set nd (e_callF G_law_draw (hr.mono (by omega)) g_law_draw F_law_draw.kp B_law_draw (ea_cons (e_var 0) (ea_cons (e_cb cg_len (by rfl) m_len (by decide +kernel) (ea_cons (e_var 3) ea_nil)) ea_nil))))
  (ss_cons 110 (s_asg (e_ix (e_var 3) (e_var 9)) (g_tup rfl (gs_cons (g_name nd) (gs_cons (g_name nd) (gs_cons (g_name nd) gs_nil)))))
  (ss_one (s_asg (e_tup (ea_cons (e_var 10) (ea_cons (e_var 11) (ea_cons (e_op og_sub (e_var 12) e_int) ea_nil)))) (g_sub (e_var 3) (e_var 9))))))
  ss_nil)))
  (ss_one (s_frz [3] (s_ret (e_lst (ea_cons (e_var 3) (ea_cons (e_var 4) ea_nil))))))))))))))))))) pure_law_bent
theorem ok_law_holds (m_len : mg "len" = none) (m_max : mg "max" = none) (m_min : mg "min" = none) (F : FnP K "_law_holds" s_law_holds f fd) : FnOk P₀ w K mg base CX0 1 f fd ["edges", "phi"] (upSp K sp_law_holds) :=
  fn_ok F sc_law_holds sp2_len (fun cdv A outer s H E hr => have nd := sc_law_holds.nd; have hu := hr.units; have hu5 := hu5_of hr; (ss_cons 115 (s_if (EW.pt (ew_or (eb_cmp (og_eq hu) (e_cb cg_len (by rfl) m_len (by decide +kernel) (ea_cons (e_var 1) ea_nil)) e_int) (ew_or (eb_cmp og_is (e_ix (e_var 1) e_int) e_non) (ew_or1 (eb_cmp (og_ne hu) (e_ix (e_var 1) e_int) e_int)))))
  (ss_one (s_ret e_bl))
  ss_nil)
  (ss_cons 121 (s_for [2, 3, 4] PassesOwn.never rfl (i_val (e_var 0)) (g_tup rfl (gs_cons (g_name nd) (gs_cons (g_name nd) (gs_cons (g_name nd) gs_nil))))
  (ss_cons 118 (s_if (EW.pt (ew_or (eb_cmp og_lt (e_cb (cg_min2 rfl) (by rfl) m_min (by decide +kernel) (ea_cons (e_var 2) (ea_cons (e_var 3) ea_nil))) e_int) (ew_or1 (eb_cmp og_ge (e_cb (cg_max2 rfl) (by rfl) m_max (by decide +kernel) (ea_cons (e_var 2) (ea_cons (e_var 3) ea_nil))) (e_cb cg_len (by rfl) m_len (by decide +kernel) (ea_cons (e_var 1) ea_nil))))))
  (ss_one (s_ret e_bl))
  ss_nil)
  (ss_one (s_if (eb_cmp og_isnot (e_ix (e_var 1) (e_var 2)) e_non)
  (ss_one (s_if (EW.pt (ew_or (eb_cmp og_is (e_ix (e_var 1) (e_var 3)) e_non) (ew_or1 (eb_cmp og_gt (e_ix (e_var 1) (e_var 3)) (e_op og_add (e_ix (e_var 1) (e_var 2)) (e_var 4))))))
  (ss_one (s_ret e_bl))
  ss_nil))
  ss_nil))))
  (ss_one (s_ret e_bl))))) pure_law_holds
theorem ok_law_path_ok (m_len : mg "len" = none) (m_range : mg "range" = none) {f_law_draw : Addr} {fd_law_draw : FuncData} (G_law_draw : FnOk P₀ w K mg base CX0 1 f_law_draw fd_law_draw ["st", "many"] (upSp K sp_law_draw)) (g_law_draw : mg "_law_draw" = some (.ref f_law_draw)) (F_law_draw : FnP K "_law_draw" s_law_draw f_law_draw fd_law_draw) (B_law_draw : Binds K fd_law_draw ["st", "many"] []) (F : FnP K "_law_path_ok" s_law_path_ok f fd) : FnOk P₀ w K mg base CX0 2 f fd ["st", "edges", "phi"] (upSp K sp_law_path_ok) :=
  fn_ok F sc_law_path_ok sp3_len (fun cdv A outer s H E hr => have nd := sc_law_path_ok.nd; have hu := hr.units; have hu5 := hu5_of hr; (ss_cons 124 (s_set nd e_int)
  (ss_cons 125 (s_set nd e_int)
  (ss_cons 133 (s_for [5, 6, 7] PassesOwn.never rfl (i_rng1 m_range (ea_cons (e_callF G_law_draw (hr.mono (by omega)) g_law_draw F_law_draw.kp B_law_draw (ea_cons (e_var 0) (ea_cons e_int ea_nil))) ea_nil)) (g_name nd)
  (ss_cons 127 (s_setLc [("e", 7)] rfl nd (sw_true rfl rfl rfl (by decide +kernel)) (i_val (e_var 1)) (blkOk_by (N := N_law_path_ok) (sc := defScope s_law_path_ok) (by decide +kernel)) (by decide) (fun _ _ _ _ _ => ct_one nd) (fun _ _ _ _ _ => (ets_one (eb_cmp (og_eq hu) (e_ix (e_var 7) e_int) (e_var 3)))) (fun _ _ _ _ _ => (e_var 7)))
  (ss_one (s_if (eb_cmp (og_ne hu) (e_var 6) (e_lst ea_nil))
  (ss_cons 129 (s_set nd (e_ix (e_var 6) (e_callF G_law_draw (hr.mono (by omega)) g_law_draw F_law_draw.kp B_law_draw (ea_cons (e_var 0) (ea_cons (e_cb cg_len (by rfl) m_len (by decide +kernel) (ea_cons (e_var 6) ea_nil)) ea_nil)))))
  (ss_cons 130 (s_set nd (e_ix (e_var 7) e_int))
  (ss_cons 131 (s_set nd (e_op og_add (e_var 4) (e_ix (e_var 7) e_int)))
  (ss_one (s_if (EW.pt (ew_or (eb_cmp og_is (e_ix (e_var 2) (e_var 3)) e_non) (ew_or1 (eb_cmp og_lt (e_var 4) (e_ix (e_var 2) (e_var 3))))))
  (ss_one (s_ret e_bl))
  ss_nil)))))
  ss_nil))))
  (ss_one (s_ret e_bl)))))) pure_law_path_ok
theorem ok_law_judged_ok (m_list : mg "list" = none) (m_tuple : mg "tuple" = none) {f_law_path_ok : Addr} {fd_law_path_ok : FuncData} (G_law_path_ok : FnOk P₀ w K mg base CX0 2 f_law_path_ok fd_law_path_ok ["st", "edges", "phi"] (upSp K sp_law_path_ok)) (g_law_path_ok : mg "_law_path_ok" = some (.ref f_law_path_ok)) (F_law_path_ok : FnP K "_law_path_ok" s_law_path_ok f_law_path_ok fd_law_path_ok) (B_law_path_ok : Binds K fd_law_path_ok ["st", "edges", "phi"] []) {f_law_same : Addr} {fd_law_same : FuncData} (G_law_same : FnOk P₀ w K mg base CX0 14 f_law_same fd_law_same ["told", "due"] (upSp K sp_law_same)) (g_law_same : mg "_law_same" = some (.ref f_law_same)) (F_law_same : FnP K "_law_same" s_law_same f_law_same fd_law_same) (B_law_same : Binds K fd_law_same ["told", "due"] []) {f_heights_hold : Addr} {fd_heights_hold : FuncData} (G_heights_hold : FnOk P₀ w K mg base CX0 3 f_heights_hold fd_heights_hold ["edges", "phi"] (upSp K sp_heights_hold)) (g_heights_hold : mg "heights_hold" = some (.ref f_heights_hold)) (F_heights_hold : FnP K "heights_hold" s_heights_hold f_heights_hold fd_heights_hold) (B_heights_hold : Binds K fd_heights_hold ["edges", "phi"] []) {f_law_holds : Addr} {fd_law_holds : FuncData} (G_law_holds : FnOk P₀ w K mg base CX0 1 f_law_holds fd_law_holds ["edges", "phi"] (upSp K sp_law_holds)) (g_law_holds : mg "_law_holds" = some (.ref f_law_holds)) (F_law_holds : FnP K "_law_holds" s_law_holds f_law_holds fd_law_holds) (B_law_holds : Binds K fd_law_holds ["edges", "phi"] []) (F : FnP K "_law_judged_ok" s_law_judged_ok f fd) : FnOk P₀ w K mg base CX0 15 f fd ["st", "edges", "phi"] (upSp K sp_law_judged_ok) :=
  fn_ok F sc_law_judged_ok sp3_len (fun cdv A outer s H E hr => have nd := sc_law_judged_ok.nd; have hu := hr.units; have hu5 := hu5_of hr; (ss_cons 136 (s_set nd (e_callF G_law_holds (hr.mono (by omega)) g_law_holds F_law_holds.kp B_law_holds (ea_cons (e_var 1) (ea_cons (e_var 2) ea_nil))))
  (ss_cons 137 (s_set nd (e_lst (ea_cons (e_ct cg_list (by rfl) m_list (by decide +kernel) (ea_cons (e_var 1) ea_nil)) (ea_cons (e_ct cg_list (by rfl) m_list (by decide +kernel) (ea_cons (e_var 2) ea_nil)) ea_nil))))
  (ss_cons 138 (s_set nd (e_callF G_heights_hold (hr.mono (by omega)) g_heights_hold F_heights_hold.kp B_heights_hold (ea_cons (e_ix (e_var 4) e_int) (ea_cons (e_ix (e_var 4) e_int) ea_nil))))
  (ss_cons 140 (s_if (EW.pt (ew_or (eb_not (eb_tru (e_callF G_law_same (hr.mono (by omega)) g_law_same F_law_same.kp B_law_same (ea_cons (e_var 5) (ea_cons (e_var 3) ea_nil))))) (ew_or1 (eb_not (eb_tru (e_callF G_law_same (hr.mono (by omega)) g_law_same F_law_same.kp B_law_same (ea_cons (e_var 4) (ea_cons (e_lst (ea_cons (e_var 1) (ea_cons (e_var 2) ea_nil))) ea_nil))))))))
  (ss_one (s_ret e_bl))
  ss_nil)
  (ss_cons 142 (s_if (eb_not (eb_tru (e_callF G_law_same (hr.mono (by omega)) g_law_same F_law_same.kp B_law_same (ea_cons (e_callF G_heights_hold (hr.mono (by omega)) g_heights_hold F_heights_hold.kp B_heights_hold (ea_cons (e_ct cg_tuple (by rfl) m_tuple (by decide +kernel) (ea_cons (e_var 1) ea_nil)) (ea_cons (e_ct cg_tuple (by rfl) m_tuple (by decide +kernel) (ea_cons (e_var 2) ea_nil)) ea_nil))) (ea_cons (e_var 3) ea_nil)))))
  (ss_one (s_ret e_bl))
  ss_nil)
  (ss_one (s_ret (e_or (e_not (e_var 5)) (e_one (e_callF G_law_path_ok (hr.mono (by omega)) g_law_path_ok F_law_path_ok.kp B_law_path_ok (ea_cons (e_var 0) (ea_cons (e_var 1) (ea_cons (e_var 2) ea_nil)))))))))))))) pure_law_judged_ok
theorem ok_law (m_range : mg "range" = none) {f_law_judged_ok : Addr} {fd_law_judged_ok : FuncData} (G_law_judged_ok : FnOk P₀ w K mg base CX0 15 f_law_judged_ok fd_law_judged_ok ["st", "edges", "phi"] (upSp K sp_law_judged_ok)) (g_law_judged_ok : mg "_law_judged_ok" = some (.ref f_law_judged_ok)) (F_law_judged_ok : FnP K "_law_judged_ok" s_law_judged_ok f_law_judged_ok fd_law_judged_ok) (B_law_judged_ok : Binds K fd_law_judged_ok ["st", "edges", "phi"] []) {f_law_bent : Addr} {fd_law_bent : FuncData} (G_law_bent : FnOk P₀ w K mg base CX0 2 f_law_bent fd_law_bent ["st", "edges", "least"] (upSp K sp_law_bent)) (g_law_bent : mg "_law_bent" = some (.ref f_law_bent)) (F_law_bent : FnP K "_law_bent" s_law_bent f_law_bent fd_law_bent) (B_law_bent : Binds K fd_law_bent ["st", "edges", "least"] []) {f_law_drawn_heights : Addr} {fd_law_drawn_heights : FuncData} (G_law_drawn_heights : FnOk P₀ w K mg base CX0 2 f_law_drawn_heights fd_law_drawn_heights ["st", "n"] (upSp K sp_law_drawn_heights)) (g_law_drawn_heights : mg "_law_drawn_heights" = some (.ref f_law_drawn_heights)) (F_law_drawn_heights : FnP K "_law_drawn_heights" s_law_drawn_heights f_law_drawn_heights fd_law_drawn_heights) (B_law_drawn_heights : Binds K fd_law_drawn_heights ["st", "n"] []) {f_law_least : Addr} {fd_law_least : FuncData} (G_law_least : FnOk P₀ w K mg base CX0 1 f_law_least fd_law_least ["n", "edges"] (upSp K sp_law_least)) (g_law_least : mg "_law_least" = some (.ref f_law_least)) (F_law_least : FnP K "_law_least" s_law_least f_law_least fd_law_least) (B_law_least : Binds K fd_law_least ["n", "edges"] []) {f_law_graph : Addr} {fd_law_graph : FuncData} (G_law_graph : FnOk P₀ w K mg base CX0 3 f_law_graph fd_law_graph ["st"] (upSp K sp_law_graph)) (g_law_graph : mg "_law_graph" = some (.ref f_law_graph)) (F_law_graph : FnP K "_law_graph" s_law_graph f_law_graph fd_law_graph) (B_law_graph : Binds K fd_law_graph ["st"] []) {f_law_start : Addr} {fd_law_start : FuncData} (G_law_start : FnOk P₀ w K mg base CX0 1 f_law_start fd_law_start ["script"] (upSp K sp_law_start)) (g_law_start : mg "_law_start" = some (.ref f_law_start)) (F_law_start : FnP K "_law_start" s_law_start f_law_start fd_law_start) (B_law_start : Binds K fd_law_start ["script"] []) (F : FnP K "law" s_law f fd) : FnOk P₀ w K mg base CX0 16 f fd ["script"] (upSp K sp_law) :=
  fn_ok F sc_law sp1_len (fun cdv A outer s H E hr => have nd := sc_law.nd; have hu := hr.units; have hu5 := hu5_of hr; (ss_cons 145 (s_set nd (e_callF G_law_start (hr.mono (by omega)) g_law_start F_law_start.kp B_law_start (ea_cons (e_slice sg_sl (e_var 0) eo_none (eo_some e_int)) ea_nil)))
  (ss_cons 146 (s_asg (e_callF G_law_graph (hr.mono (by omega)) g_law_graph F_law_graph.kp B_law_graph (ea_cons (e_var 1) ea_nil)) (g_tup rfl (gs_cons (g_name nd) (gs_cons (g_name nd) gs_nil))))
  (ss_cons 147 (s_set nd (e_callF G_law_least (hr.mono (by omega)) g_law_least F_law_least.kp B_law_least (ea_cons (e_var 2) (ea_cons (e_var 3) ea_nil))))
  (ss_cons 148 (s_set nd (e_lstM (ea_cons (e_lst (ea_cons (e_var 3) (ea_cons (e_var 4) ea_nil))) (ea_cons (e_lst (ea_cons (e_var 3) (ea_cons (e_op og_mul (e_lst (ea_cons e_int ea_nil)) (e_var 2)) ea_nil))) (ea_cons (e_lst (ea_cons (e_var 3) (ea_cons (e_lst ea_nil) ea_nil))) (ea_cons (e_lst (ea_cons (e_var 3) (ea_cons (e_callF G_law_drawn_heights (hr.mono (by omega)) g_law_drawn_heights F_law_drawn_heights.kp B_law_drawn_heights (ea_cons (e_var 1) (ea_cons (e_var 2) ea_nil))) ea_nil))) (ea_cons (e_lst (ea_cons (e_lst ea_nil) (ea_cons (e_var 4) ea_nil))) ea_nil)))))))
  (ss_cons 150 (s_for [6] PassesOwn.never rfl (i_rng1 m_range (ea_cons e_int ea_nil)) (g_name nd)
  (ss_one (s_expr (e_lm PySem.F.slot_list_append PySem.F.type_list_append mg_append (e_var 5) (ea_cons (e_callF G_law_bent (hr.mono (by omega)) g_law_bent F_law_bent.kp B_law_bent (ea_cons (e_var 1) (ea_cons (e_var 3) (ea_cons (e_var 4) ea_nil)))) ea_nil)))))
  (ss_cons 153 (s_frz [5] (s_for [7] PassesOwn.never rfl (i_val (e_var 5)) (g_name nd)
  (ss_one (s_if (eb_not (eb_tru (e_callF G_law_judged_ok (hr.mono (by omega)) g_law_judged_ok F_law_judged_ok.kp B_law_judged_ok (ea_cons (e_var 1) (ea_cons (e_ix (e_var 7) e_int) (ea_cons (e_ix (e_var 7) e_int) ea_nil))))))
  (ss_one (s_ret e_bl))
  ss_nil))))
  (ss_one (s_ret e_bl))))))))) pure_law
end
/-! the head: facts by names, the run -/
def d_law_start : He.DefD := ⟨("_law_start", none), "_law_start", "_law_start", defArgs s_law_start, defBody s_law_start, defScope s_law_start, [], []⟩
def d_law_draw : He.DefD := ⟨("_law_draw", none), "_law_draw", "_law_draw", defArgs s_law_draw, defBody s_law_draw, defScope s_law_draw, [], []⟩
def d_is_node : He.DefD := ⟨("is_node", none), "is_node", "is_node", defArgs s_is_node, defBody s_is_node, defScope s_is_node, [], []⟩
def d_edge_holds : He.DefD := ⟨("edge_holds", none), "edge_holds", "edge_holds", defArgs s_edge_holds, defBody s_edge_holds, defScope s_edge_holds, [], []⟩
def d_begins_at_zero : He.DefD := ⟨("begins_at_zero", none), "begins_at_zero", "begins_at_zero", defArgs s_begins_at_zero, defBody s_begins_at_zero, defScope s_begins_at_zero, [], []⟩
def d_heights_hold : He.DefD := ⟨("heights_hold", none), "heights_hold", "heights_hold", defArgs s_heights_hold, defBody s_heights_hold, defScope s_heights_hold, [], []⟩
def d_law_size : He.DefD := ⟨("_law_size", none), "_law_size", "_law_size", defArgs s_law_size, defBody s_law_size, defScope s_law_size, [], []⟩
def d_law_int : He.DefD := ⟨("_law_int", none), "_law_int", "_law_int", defArgs s_law_int, defBody s_law_int, defScope s_law_int, [], []⟩
def d_law_same : He.DefD := ⟨("_law_same", none), "_law_same", "_law_same", defArgs s_law_same, defBody s_law_same, defScope s_law_same, [], []⟩
def d_law_graph : He.DefD := ⟨("_law_graph", none), "_law_graph", "_law_graph", defArgs s_law_graph, defBody s_law_graph, defScope s_law_graph, [], []⟩
def d_law_least : He.DefD := ⟨("_law_least", none), "_law_least", "_law_least", defArgs s_law_least, defBody s_law_least, defScope s_law_least, [], []⟩
def d_law_drawn_heights : He.DefD := ⟨("_law_drawn_heights", none), "_law_drawn_heights", "_law_drawn_heights", defArgs s_law_drawn_heights, defBody s_law_drawn_heights, defScope s_law_drawn_heights, [], []⟩
def d_law_bent : He.DefD := ⟨("_law_bent", none), "_law_bent", "_law_bent", defArgs s_law_bent, defBody s_law_bent, defScope s_law_bent, [], []⟩
def d_law_holds : He.DefD := ⟨("_law_holds", none), "_law_holds", "_law_holds", defArgs s_law_holds, defBody s_law_holds, defScope s_law_holds, [], []⟩
def d_law_path_ok : He.DefD := ⟨("_law_path_ok", none), "_law_path_ok", "_law_path_ok", defArgs s_law_path_ok, defBody s_law_path_ok, defScope s_law_path_ok, [], []⟩
def d_law_judged_ok : He.DefD := ⟨("_law_judged_ok", none), "_law_judged_ok", "_law_judged_ok", defArgs s_law_judged_ok, defBody s_law_judged_ok, defScope s_law_judged_ok, [], []⟩
def d_law : He.DefD := ⟨("law", none), "law", "law", defArgs s_law, defBody s_law, defScope s_law, [], []⟩
def fn : List He.DefD := [d_law_start, d_law_draw, d_is_node, d_edge_holds, d_begins_at_zero, d_heights_hold, d_law_size, d_law_int, d_law_same, d_law_graph, d_law_least, d_law_drawn_heights, d_law_bent, d_law_holds, d_law_path_ok, d_law_judged_ok, d_law]
def fa : List He.Fa := [.glo "_law_start", .glo "_law_draw", .glo "is_node", .glo "edge_holds", .glo "begins_at_zero", .glo "heights_hold", .glo "_law_size", .glo "_law_int", .glo "_law_same", .glo "_law_graph", .glo "_law_least", .glo "_law_drawn_heights", .glo "_law_bent", .glo "_law_holds", .glo "_law_path_ok", .glo "_law_judged_ok", .glo "law", .free "abs", .free "all", .free "bool", .free "int", .free "isinstance", .free "len", .free "list", .free "max", .free "min", .free "range", .free "str", .free "tuple"]
abbrev R : PySem.W.OpenRow := PySem.W.OpenLaw.row PySem.Challenge.rw_scorestead_k21_heights_judged
abbrev hk : PySem.W.Hook := He.hookD 4 fa fn
def ob (s : PySem.W.SharedT) : He.AlD := He.obsDG 4 fa fn (HandSHeadRun.getT s)
theorem ob_eq (s : PySem.W.SharedT) : ob s = hk.obs s.abs := He.obsDG_eq (HandSHeadRun.getT_eq s)
def names : List PySem.Str := ["is_node", "edge_holds", "begins_at_zero", "heights_hold", "_law_start", "_law_draw", "_law_size", "_law_int", "_law_same", "_law_graph", "_law_least", "_law_drawn_heights", "_law_bent", "_law_holds", "_law_path_ok", "_law_judged_ok"]
theorem run (w : World) : HandSHeadRun.RunEq R (PySem.W.view R.prog [18]) hk ob 20000 names w := by
  intro os
  kernel_rfl
theorem facts {P : Program} {w : World} {K : PySem.W.Frag} {h : Heap} {mg : Str → Option Value} {f : Addr} (X : K.In h) (G : h.Ns mainGlobals mg) (hfa : mg ("law" : Str) = some (.ref f)) (c : He.SaysD fa fn K) :
    ∃ fd : FuncData, (∀ (s : Shared) (v : Value), BindsTo s fd ⟨[v], []⟩ [("script", v)]) ∧ ∀ base : Heap, K.In base → base.Ns mainGlobals mg → FnOk P w K mg base CX0 16 f fd ["script"] (upSp K sp_law) := by
  obtain ⟨fd_law_start, F_law_start⟩ := c.def_ 0 (d := d_law_start) rfl
  have g_law_start := He.glo_ok X G (c.fact 0 (f := .glo "_law_start") rfl)
  have B_law_start : Binds K fd_law_start ["script"] [] := FunD.bindsN F_law_start fun _ _ _ _ _ _ us hl => match us, hl with | [_], _ => rfl
  obtain ⟨fd_law_draw, F_law_draw⟩ := c.def_ 1 (d := d_law_draw) rfl
  have g_law_draw := He.glo_ok X G (c.fact 1 (f := .glo "_law_draw") rfl)
  have B_law_draw : Binds K fd_law_draw ["st", "many"] [] := FunD.bindsN F_law_draw fun _ _ _ _ _ _ us hl => match us, hl with | [_, _], _ => rfl
  obtain ⟨fd_is_node, F_is_node⟩ := c.def_ 2 (d := d_is_node) rfl
  have g_is_node := He.glo_ok X G (c.fact 2 (f := .glo "is_node") rfl)
  have B_is_node : Binds K fd_is_node ["node", "phi"] [] := FunD.bindsN F_is_node fun _ _ _ _ _ _ us hl => match us, hl with | [_, _], _ => rfl
  obtain ⟨fd_edge_holds, F_edge_holds⟩ := c.def_ 3 (d := d_edge_holds) rfl
  have g_edge_holds := He.glo_ok X G (c.fact 3 (f := .glo "edge_holds") rfl)
  have B_edge_holds : Binds K fd_edge_holds ["edge", "phi"] [] := FunD.bindsN F_edge_holds fun _ _ _ _ _ _ us hl => match us, hl with | [_, _], _ => rfl
  obtain ⟨fd_begins_at_zero, F_begins_at_zero⟩ := c.def_ 4 (d := d_begins_at_zero) rfl
  have g_begins_at_zero := He.glo_ok X G (c.fact 4 (f := .glo "begins_at_zero") rfl)
  have B_begins_at_zero : Binds K fd_begins_at_zero ["phi"] [] := FunD.bindsN F_begins_at_zero fun _ _ _ _ _ _ us hl => match us, hl with | [_], _ => rfl
  obtain ⟨fd_heights_hold, F_heights_hold⟩ := c.def_ 5 (d := d_heights_hold) rfl
  have g_heights_hold := He.glo_ok X G (c.fact 5 (f := .glo "heights_hold") rfl)
  have B_heights_hold : Binds K fd_heights_hold ["edges", "phi"] [] := FunD.bindsN F_heights_hold fun _ _ _ _ _ _ us hl => match us, hl with | [_, _], _ => rfl
  obtain ⟨fd_law_size, F_law_size⟩ := c.def_ 6 (d := d_law_size) rfl
  have g_law_size := He.glo_ok X G (c.fact 6 (f := .glo "_law_size") rfl)
  have B_law_size : Binds K fd_law_size ["st", "few", "many"] [] := FunD.bindsN F_law_size fun _ _ _ _ _ _ us hl => match us, hl with | [_, _, _], _ => rfl
  obtain ⟨fd_law_int, F_law_int⟩ := c.def_ 7 (d := d_law_int) rfl
  have g_law_int := He.glo_ok X G (c.fact 7 (f := .glo "_law_int") rfl)
  have B_law_int : Binds K fd_law_int ["x"] [] := FunD.bindsN F_law_int fun _ _ _ _ _ _ us hl => match us, hl with | [_], _ => rfl
  obtain ⟨fd_law_same, F_law_same⟩ := c.def_ 8 (d := d_law_same) rfl
  have g_law_same := He.glo_ok X G (c.fact 8 (f := .glo "_law_same") rfl)
  have B_law_same : Binds K fd_law_same ["told", "due"] [] := FunD.bindsN F_law_same fun _ _ _ _ _ _ us hl => match us, hl with | [_, _], _ => rfl
  obtain ⟨fd_law_graph, F_law_graph⟩ := c.def_ 9 (d := d_law_graph) rfl
  have g_law_graph := He.glo_ok X G (c.fact 9 (f := .glo "_law_graph") rfl)
  have B_law_graph : Binds K fd_law_graph ["st"] [] := FunD.bindsN F_law_graph fun _ _ _ _ _ _ us hl => match us, hl with | [_], _ => rfl
  obtain ⟨fd_law_least, F_law_least⟩ := c.def_ 10 (d := d_law_least) rfl
  have g_law_least := He.glo_ok X G (c.fact 10 (f := .glo "_law_least") rfl)
  have B_law_least : Binds K fd_law_least ["n", "edges"] [] := FunD.bindsN F_law_least fun _ _ _ _ _ _ us hl => match us, hl with | [_, _], _ => rfl
  obtain ⟨fd_law_drawn_heights, F_law_drawn_heights⟩ := c.def_ 11 (d := d_law_drawn_heights) rfl
  have g_law_drawn_heights := He.glo_ok X G (c.fact 11 (f := .glo "_law_drawn_heights") rfl)
  have B_law_drawn_heights : Binds K fd_law_drawn_heights ["st", "n"] [] := FunD.bindsN F_law_drawn_heights fun _ _ _ _ _ _ us hl => match us, hl with | [_, _], _ => rfl
  obtain ⟨fd_law_bent, F_law_bent⟩ := c.def_ 12 (d := d_law_bent) rfl
  have g_law_bent := He.glo_ok X G (c.fact 12 (f := .glo "_law_bent") rfl)
  have B_law_bent : Binds K fd_law_bent ["st", "edges", "least"] [] := FunD.bindsN F_law_bent fun _ _ _ _ _ _ us hl => match us, hl with | [_, _, _], _ => rfl
  obtain ⟨fd_law_holds, F_law_holds⟩ := c.def_ 13 (d := d_law_holds) rfl
  have g_law_holds := He.glo_ok X G (c.fact 13 (f := .glo "_law_holds") rfl)
  have B_law_holds : Binds K fd_law_holds ["edges", "phi"] [] := FunD.bindsN F_law_holds fun _ _ _ _ _ _ us hl => match us, hl with | [_, _], _ => rfl
  obtain ⟨fd_law_path_ok, F_law_path_ok⟩ := c.def_ 14 (d := d_law_path_ok) rfl
  have g_law_path_ok := He.glo_ok X G (c.fact 14 (f := .glo "_law_path_ok") rfl)
  have B_law_path_ok : Binds K fd_law_path_ok ["st", "edges", "phi"] [] := FunD.bindsN F_law_path_ok fun _ _ _ _ _ _ us hl => match us, hl with | [_, _, _], _ => rfl
  obtain ⟨fd_law_judged_ok, F_law_judged_ok⟩ := c.def_ 15 (d := d_law_judged_ok) rfl
  have g_law_judged_ok := He.glo_ok X G (c.fact 15 (f := .glo "_law_judged_ok") rfl)
  have B_law_judged_ok : Binds K fd_law_judged_ok ["st", "edges", "phi"] [] := FunD.bindsN F_law_judged_ok fun _ _ _ _ _ _ us hl => match us, hl with | [_, _, _], _ => rfl
  obtain ⟨fd_law, F_law⟩ := c.def_ 16 (d := d_law) rfl
  have g_law := He.glo_ok X G (c.fact 16 (f := .glo "law") rfl)
  have B_law : Binds K fd_law ["script"] [] := FunD.bindsN F_law fun _ _ _ _ _ _ us hl => match us, hl with | [_], _ => rfl
  have m_abs := He.free_ok X G (c.fact 17 (f := .free "abs") rfl)
  have m_all := He.free_ok X G (c.fact 18 (f := .free "all") rfl)
  have m_bool := He.free_ok X G (c.fact 19 (f := .free "bool") rfl)
  have m_int := He.free_ok X G (c.fact 20 (f := .free "int") rfl)
  have m_isinstance := He.free_ok X G (c.fact 21 (f := .free "isinstance") rfl)
  have m_len := He.free_ok X G (c.fact 22 (f := .free "len") rfl)
  have m_list := He.free_ok X G (c.fact 23 (f := .free "list") rfl)
  have m_max := He.free_ok X G (c.fact 24 (f := .free "max") rfl)
  have m_min := He.free_ok X G (c.fact 25 (f := .free "min") rfl)
  have m_range := He.free_ok X G (c.fact 26 (f := .free "range") rfl)
  have m_str := He.free_ok X G (c.fact 27 (f := .free "str") rfl)
  have m_tuple := He.free_ok X G (c.fact 28 (f := .free "tuple") rfl)
  have e := hfa.symm.trans g_law
  cases e
  have b := FunD.bindsA (ps := ["script"]) F_law fun _ _ _ _ _ _ us hl => match us, hl with | [_], _ => rfl
  refine ⟨fd_law, fun s v => b s [v] rfl, fun base _ _ => ?_⟩
  have G_law_start : FnOk P w K mg base CX0 1 _ fd_law_start ["script"] (upSp K sp_law_start) := ok_start F_law_start m_len m_int m_abs
  have G_law_draw : FnOk P w K mg base CX0 1 _ fd_law_draw ["st", "many"] (upSp K sp_law_draw) := ok_draw F_law_draw m_len m_int m_range
  have G_is_node : FnOk P w K mg base CX0 1 _ fd_is_node ["node", "phi"] (upSp K sp_is_node) := ok_is_node m_len F_is_node
  have G_edge_holds : FnOk P w K mg base CX0 2 _ fd_edge_holds ["edge", "phi"] (upSp K sp_edge_holds) := ok_edge_holds G_is_node g_is_node F_is_node B_is_node F_edge_holds
  have G_begins_at_zero : FnOk P w K mg base CX0 1 _ fd_begins_at_zero ["phi"] (upSp K sp_begins_at_zero) := ok_begins_at_zero m_len F_begins_at_zero
  have G_heights_hold : FnOk P w K mg base CX0 3 _ fd_heights_hold ["edges", "phi"] (upSp K sp_heights_hold) := ok_heights_hold m_all G_begins_at_zero g_begins_at_zero F_begins_at_zero B_begins_at_zero G_edge_holds g_edge_holds F_edge_holds B_edge_holds F_heights_hold
  have G_law_size : FnOk P w K mg base CX0 2 _ fd_law_size ["st", "few", "many"] (upSp K sp_law_size) := ok_law_size G_law_draw g_law_draw F_law_draw B_law_draw F_law_size
  have G_law_int : FnOk P w K mg base CX0 1 _ fd_law_int ["x"] (upSp K sp_law_int) := ok_law_int m_bool m_int m_isinstance F_law_int
  have G_law_same : FnOk P w K mg base CX0 14 _ fd_law_same ["told", "due"] (upSp K sp_law_same) := ok_law_same m_bool m_int m_isinstance m_len m_list m_range m_str m_tuple G_law_int g_law_int F_law_int B_law_int g_law_same F_law_same B_law_same
  have G_law_graph : FnOk P w K mg base CX0 3 _ fd_law_graph ["st"] (upSp K sp_law_graph) := ok_law_graph m_range G_law_size g_law_size F_law_size B_law_size G_law_draw g_law_draw F_law_draw B_law_draw F_law_graph
  have G_law_least : FnOk P w K mg base CX0 1 _ fd_law_least ["n", "edges"] (upSp K sp_law_least) := ok_law_least m_range F_law_least
  have G_law_drawn_heights : FnOk P w K mg base CX0 2 _ fd_law_drawn_heights ["st", "n"] (upSp K sp_law_drawn_heights) := ok_law_drawn_heights m_range G_law_draw g_law_draw F_law_draw B_law_draw F_law_drawn_heights
  have G_law_bent : FnOk P w K mg base CX0 2 _ fd_law_bent ["st", "edges", "least"] (upSp K sp_law_bent) := ok_law_bent m_len m_list G_law_draw g_law_draw F_law_draw B_law_draw F_law_bent
  have G_law_holds : FnOk P w K mg base CX0 1 _ fd_law_holds ["edges", "phi"] (upSp K sp_law_holds) := ok_law_holds m_len m_max m_min F_law_holds
  have G_law_path_ok : FnOk P w K mg base CX0 2 _ fd_law_path_ok ["st", "edges", "phi"] (upSp K sp_law_path_ok) := ok_law_path_ok m_len m_range G_law_draw g_law_draw F_law_draw B_law_draw F_law_path_ok
  have G_law_judged_ok : FnOk P w K mg base CX0 15 _ fd_law_judged_ok ["st", "edges", "phi"] (upSp K sp_law_judged_ok) := ok_law_judged_ok m_list m_tuple G_law_path_ok g_law_path_ok F_law_path_ok B_law_path_ok G_law_same g_law_same F_law_same B_law_same G_heights_hold g_heights_hold F_heights_hold B_heights_hold G_law_holds g_law_holds F_law_holds B_law_holds F_law_judged_ok
  have G_law : FnOk P w K mg base CX0 16 _ fd_law ["script"] (upSp K sp_law) := ok_law m_range G_law_judged_ok g_law_judged_ok F_law_judged_ok B_law_judged_ok G_law_bent g_law_bent F_law_bent B_law_bent G_law_drawn_heights g_law_drawn_heights F_law_drawn_heights B_law_drawn_heights G_law_least g_law_least F_law_least B_law_least G_law_graph g_law_graph F_law_graph B_law_graph G_law_start g_law_start F_law_start B_law_start F_law
  exact G_law
end K21
open PySem PySem.W PySem.Calls PyProof.Rows
theorem PySem.Challenge.cw_scorestead_k21_heights_judged_holds : PySem.Challenge.rw_scorestead_k21_heights_judged.Holds := by
  w_on; o_law
  refine HandSHeadRun.head_any (r := OpenLaw.row PySem.Challenge.rw_scorestead_k21_heights_judged) (q := view (OpenLaw.row PySem.Challenge.rw_scorestead_k21_heights_judged).prog [18]) (H := K21.hk) (ob := K21.ob) (M := 20000) (loose := K21.names) (d := HandSHeadRun.topDef (OpenLaw.row PySem.Challenge.rw_scorestead_k21_heights_judged).prog 18) (kwd := []) K21.ob_eq
    (by kernel_rfl) (fun s => by kernel_rfl) K21.run (by kernel_rfl) (by kernel_rfl) (by kernel_rfl) (by rfl) (by first | assumption | decide +kernel) (by decide +kernel) ⟨rfl, rfl, rfl, rfl, rfl, by decide +kernel⟩ ?hw ?hc
  case hw => w_witness2
  case hc =>
    refine L2.walk_ofE (l := PySem.Challenge.rw_scorestead_k21_heights_judged) (n := 63) (k := 16) (x := "script") (CX := L2.CX0) rfl (by decide) (by kernel_rfl) ⟨rfl, by decide, by decide⟩ ?F (fun _ _ _ _ z => z)
    intro w mg fa h Y G hmg0
    obtain ⟨K, KX, c⟩ := Y
    have hmg : mg ("law" : PySem.Str) = some (.ref fa) := by
      have e : (HandSHeadRun.topDef (OpenLaw.row PySem.Challenge.rw_scorestead_k21_heights_judged).prog 18).name = ("law" : PySem.Str) := by kernel_rfl
      rw [← e]
      exact hmg0
    obtain ⟨fd, hb, hF⟩ := K21.facts (P := (PySem.Challenge.rw_scorestead_k21_heights_judged).prog) (w := w) KX G hmg c
    exact ⟨K, fd, Sc.upSp K K21.sp_law, KX, hb, fun H a ns hl ho hS => Sc.law_sp ⟨ns, hl, rfl, rfl⟩ ho hS, hF⟩
