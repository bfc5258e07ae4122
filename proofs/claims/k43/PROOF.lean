import PyProof.Rows.All
import HandS.ForMost
import HandS.IsInst
import HandS.Wide
import HandS.Flow
import HandS.Exc
import HandS.HeadHook2
import HandS.TupAny
import HandS.Conv
import HandS.Deep
import HandS.TupLe
import HandS.More
import HandS.Rev
import HandS.TryOnly
import HandS.Defaults
import HandS.ExcOwn
import HandS.HeadEnd
import HandS.HeadHook4
import HandS.Head2
import HandS.ExcInit
import HandS.ExcField
import HandS.TryMany
import HandS.NestedK
import KE.KExcSuper
import HandS.HeadNt
import HandS.Zip
import HandS.Style
import HandS.Text
import HandS.Replace
import HandS.Call
import KE.DataMinMax
import KE.SortData
import KE.GoesMore
import HandS.SetBool
import HandS.Strs
import PySem.Challenge.RW_scorestead_k43_whole_rings
set_option Elab.async false
set_option linter.all false
set_option maxRecDepth 100000
/-! Sc1: plain data over the hand layer: data D, cells, the relation to the abstract heap, the judgements lifted. -/
namespace Sc
open PySem PySem.Spec PyProof.Rows L2

/-- plain data: a value without addresses -/
inductive D where
  | non | bl (b : Bool) | int (i : Int) | str (x : Str) | tup (xs : List D) | lst (xs : List D) | klst (xs : List D) | rng
/-- a list of the def's own that it changes; one that it has given up -/
inductive Cell where
  | lst (xs : List D)
  | gone
/-- a member of a tuple that holds cells: data, or the k-th cell -/
inductive Mb where
  | d (x : D) | r (k : Nat)
/-- a value: data, or the k-th cell -/
inductive P where
  | d (x : D) | ref (k : Nat)
  /-- the exception that a suite holds: its fields, their values -/
  | ex (fl : List Str) (xs : List D)
  /-- a tuple that holds cells -/
  | tc (ms : List Mb)
abbrev Sl := List (Option P)
abbrev Hl := List Cell
/-- what is wished of an exception over data: the class's number, the arguments -/
abbrev GW := Nat → List D → Sl → Hl → Prop
/-- the classes: name, parameters (each kept as a field) -/
abbrev ET := Nat → Str × List Str
/-- what a run carries along: the wish for exceptions, the same over data, the exception that a suite holds -/
structure Gh where
  wx : WX
  gw : GW
  xa : Addr × Addr
/-- cells of the callers; pa: those that the def was handed, its first cells -/
structure Fo where
  p : Addr → Prop
  pa : List Addr
instance : CoeFun Fo (fun _ => Addr → Prop) := ⟨Fo.p⟩
structure Wd where
  /-- the def's own cells -/
  al : List (Option Addr)
  /-- states of draws -/
  rg : List (Addr × Addr)
  /-- cells of the callers -/
  fo : Fo
  gh : Gh
def Wd.own (W : Wd) (a : Addr) : Prop := (∃ k : Nat, W.al[k]? = some (some a)) ∨ (∃ p ∈ W.rg, a = p.1 ∨ a = p.2) ∨ W.fo a

def zipR : List Str → List V → List (Str × V) → List (Str × V)
  | f :: fl, y :: ys, acc => zipR fl ys ((f, y) :: acc)
  | _, _, acc => acc
section
variable (K : PySem.W.Frag)
def QT (own : Addr → Prop) (H : Hp) (a : Addr) (ys : List V) : Prop :=
  (Rd H a (.tup ys) ∧ ¬ own a) ∨
    ∃ (o : Obj) (its : Array Value) (n : Nat), K.lookup a = some o ∧ o.cls = .type "tuple" ∧ o.data = .seq its n ∧ its.size ≤ sizeLine ∧ Vals ys its.toList
def QL (own : Addr → Prop) (H : Hp) (a : Addr) (ys : List V) : Prop := H a = some (.lst ys) ∧ ¬ own a
def QK (own : Addr → Prop) (H : Hp) (a : Addr) (ys : List V) : Prop :=
  (Rd H a (.lst ys) ∧ ¬ own a) ∨
    ∃ (o : Obj) (its : Array Value) (n : Nat), K.lookup a = some o ∧ o.cls = .type "list" ∧ o.dict = none ∧ o.data = .seq its n ∧ its.size ≤ sizeLine ∧ Vals ys its.toList
mutual
/-- what stands for the data -/
def RD (own : Addr → Prop) (rg : List (Addr × Addr)) (H : Hp) : D → V → Prop
  | .non, v => v = .non
  | .bl b, v => v = .bl b
  | .int i, v => v = .int i
  | .str x, v => v = .str x
  | .tup xs, v => ∃ a ys, v = .ref a ∧ QT K own H a ys ∧ RDs own rg H xs ys
  | .lst xs, v => ∃ a ys, v = .ref a ∧ QL own H a ys ∧ RDs own rg H xs ys
  | .klst xs, v => ∃ a ys, v = .ref a ∧ QK K own H a ys ∧ RDs own rg H xs ys
  | .rng, v => ∃ a g, v = .ref a ∧ (a, g) ∈ rg
def RDs (own : Addr → Prop) (rg : List (Addr × Addr)) (H : Hp) : List D → List V → Prop
  | [], ys => ys = []
  | x :: xs, ys => ∃ y r, ys = y :: r ∧ RD own rg H x y ∧ RDs own rg H xs r
end
/-- the dict of an exception -/
def RF (own : Addr → Prop) (rg : List (Addr × Addr)) (H : Hp) (fl : List Str) (xs : List D) (d : Addr) : Prop := ∃ ys, H d = some (.xd (zipR fl ys [])) ∧ ¬ own d ∧ RDs K own rg H xs ys ∧ xs.length = fl.length
def RC (own : Addr → Prop) (rg : List (Addr × Addr)) (H : Hp) : Cell → Option Addr → Prop
  | .lst xs, some a => ∃ ys, H a = some (.lst ys) ∧ RDs K own rg H xs ys
  | .gone, none => True
  | _, _ => False
def RM (W : Wd) (H : Hp) : Mb → V → Prop
  | .d x, v => RD K W.own W.rg H x v
  | .r k, v => ∃ a, v = .ref a ∧ W.al[k]? = some (some a)
def RMs (W : Wd) (H : Hp) : List Mb → List V → Prop
  | [], vs => vs = []
  | m :: ms, vs => ∃ y r, vs = y :: r ∧ RM K W H m y ∧ RMs W H ms r
def RP (W : Wd) (H : Hp) : P → V → Prop
  | .d x, v => RD K W.own W.rg H x v
  | .ref k, v => ∃ a, v = .ref a ∧ W.al[k]? = some (some a)
  | .ex fl xs, v => v = .ref W.gh.xa.1 ∧ RF K W.own W.rg H fl xs W.gh.xa.2
  | .tc ms, v => ∃ a ys, v = .ref a ∧ QT K W.own H a ys ∧ RMs K W H ms ys
def RngOk (H : Hp) (a g : Addr) : Prop := ∃ (s c : Int) (gs : List Int), H a = some (.lst [.int s, .int c, .ref g]) ∧ H g = some (.lst (gs.map V.int)) ∧ (∀ x ∈ gs, 0 ≤ x) ∧ gs.length ≤ 1000
/-- the world fits the heap -/
structure Pre0 (W : Wd) (H : Hp) (h : Hl) : Prop where
  len : W.al.length = h.length
  cel : ∀ (k : Nat) c oa, h[k]? = some c → W.al[k]? = some oa → RC K W.own W.rg H c oa
  rng : ∀ p ∈ W.rg, RngOk H p.1 p.2
  nd1 : ∀ (i j : Nat) a, W.al[i]? = some (some a) → W.al[j]? = some (some a) → i = j
  nd2 : ∀ (i : Nat) a, W.al[i]? = some (some a) → ∀ p ∈ W.rg, a ≠ p.1 ∧ a ≠ p.2
  nd3 : ∀ p ∈ W.rg, ∀ q ∈ W.rg, p.1 ≠ q.2 ∧ (p.1 = q.1 → p = q) ∧ (p.2 = q.2 → p = q)
  fo : ∀ a, W.fo a → ∃ xs, H a = some (.lst xs)
  nd4 : ∀ (i : Nat) a, W.al[i]? = some (some a) → ¬ W.fo a
  nd5 : ∀ p ∈ W.rg, ¬ W.fo p.1 ∧ ¬ W.fo p.2
  pas : ∀ (i : Nat) a, W.fo.pa[i]? = some a → W.al[i]? = some none ∨ W.al[i]? = some (some a)
structure Sg (W : Wd) (H : Hp) (σ : Sl) (τ : L2.St) : Prop where
  len : σ.length = τ.length
  val : ∀ (i : Nat) p, σ[i]? = some (some p) → ∃ v, τ[i]? = some (some v) ∧ RP K W H p v
end
structure ExS (W W' : Wd) (H H' : Hp) : Prop where
  keep : ∀ a o, H a = some o → ¬ W.own a → H' a = some o
  keepF : ∀ a o, H a = some o → W.fo a → H' a = some o
  new : ∀ a, W'.own a → W.own a ∨ H a = none
  rg : ∀ p ∈ W.rg, p ∈ W'.rg
  fo : W'.fo = W.fo
  gh : W'.gh = W.gh
/-- data stay data -/
structure Tr (own : Addr → Prop) (rg : List (Addr × Addr)) (H : Hp) (own' : Addr → Prop) (rg' : List (Addr × Addr)) (H' : Hp) : Prop where
  keep : ∀ a o, H a = some o → ¬ own a → H' a = some o ∧ ¬ own' a
  rg : ∀ p ∈ rg, p ∈ rg'
structure Ext (W W' : Wd) (H H' : Hp) : Prop extends ExS W W' H H' where
  al : ∀ (k : Nat) a, W.al[k]? = some (some a) → W'.al[k]? = some (some a)
section
variable {K : PySem.W.Frag} {W W' W2 : Wd} {H H' H2 : Hp} {h : Hl}
theorem ExS.refl : ExS W W H H := ⟨fun _ _ e _ => e, fun _ _ e _ => e, fun _ q => .inl q, fun _ q => q, rfl, rfl⟩
theorem Ext.refl : Ext W W H H := ⟨ExS.refl, fun _ _ e => e⟩
theorem ExS.out (x : ExS W W' H H') {a : Addr} {o : HO} (e : H a = some o) (n : ¬ W.own a) : ¬ W'.own a := fun q => by
  rcases x.new a q with q | q
  · exact n q
  · rw [e] at q; cases q
theorem ExS.trans (x : ExS W W' H H') (y : ExS W' W2 H' H2) : ExS W W2 H H2 where
  keep a o e n := y.keep a o (x.keep a o e n) (x.out e n)
  keepF a o e n := y.keepF a o (x.keepF a o e n) (by rw [x.fo]; exact n)
  fo := y.fo.trans x.fo
  gh := y.gh.trans x.gh
  new a q := by
    rcases y.new a q with q | q
    · exact x.new a q
    · by_cases n : W.own a
      · exact .inl n
      · cases e : H a with
        | none => exact .inr rfl
        | some o => rw [x.keep a o e n] at q; cases q
  rg p q := y.rg p (x.rg p q)
theorem Ext.trans (x : Ext W W' H H') (y : Ext W' W2 H' H2) : Ext W W2 H H2 := ⟨x.toExS.trans y.toExS, fun k a e => y.al k a (x.al k a e)⟩
theorem ExS.tr (x : ExS W W' H H') : Tr W.own W.rg H W'.own W'.rg H' := ⟨fun a o e n => ⟨x.keep a o e n, x.out e n⟩, x.rg⟩
section
variable {own own' : Addr → Prop} {rg rg' : List (Addr × Addr)}
theorem Rd.keep {a : Addr} {o : HO} (x : Tr own rg H own' rg' H') (r : Rd H a o) (n : ¬ own a) : Rd H' a o ∧ ¬ own' a := by
  rcases r with r | ⟨ob, r⟩
  · exact ⟨.inl (x.keep _ _ r n).1, (x.keep _ _ r n).2⟩
  · exact ⟨.inr ⟨ob, (x.keep _ _ r n).1⟩, (x.keep _ _ r n).2⟩
mutual
theorem RD.tr (x : Tr own rg H own' rg' H') : ∀ (d : D) (v : V), RD K own rg H d v → RD K own' rg' H' d v
  | .non, _, r => by simpa only [RD] using r
  | .bl _, _, r => by simpa only [RD] using r
  | .int _, _, r => by simpa only [RD] using r
  | .str _, _, r => by simpa only [RD] using r
  | .tup xs, _, r => by
    simp only [RD] at r ⊢
    obtain ⟨a, ys, e, q, r⟩ := r
    refine ⟨a, ys, e, ?_, RDs.tr x xs ys r⟩
    rcases q with ⟨q, n⟩ | q
    · exact .inl (Rd.keep x q n)
    · exact .inr q
  | .lst xs, _, r => by
    simp only [RD] at r ⊢
    obtain ⟨a, ys, e, q, r⟩ := r
    exact ⟨a, ys, e, x.keep _ _ q.1 q.2, RDs.tr x xs ys r⟩
  | .klst xs, _, r => by
    simp only [RD] at r ⊢
    obtain ⟨a, ys, e, q, r⟩ := r
    refine ⟨a, ys, e, ?_, RDs.tr x xs ys r⟩
    rcases q with ⟨q, n⟩ | q
    · exact .inl (Rd.keep x q n)
    · exact .inr q
  | .rng, _, r => by
    simp only [RD] at r ⊢
    obtain ⟨a, g, e, q⟩ := r
    exact ⟨a, g, e, x.rg _ q⟩
theorem RDs.tr (x : Tr own rg H own' rg' H') : ∀ (ds : List D) (vs : List V), RDs K own rg H ds vs → RDs K own' rg' H' ds vs
  | [], _, r => by simpa only [RDs] using r
  | d :: ds, _, r => by
    simp only [RDs] at r ⊢
    obtain ⟨y, q, e, r, s⟩ := r
    exact ⟨y, q, e, RD.tr x d y r, RDs.tr x ds q s⟩
end
end
theorem RF.tr {K : PySem.W.Frag} {H H' : Hp} {own own' : Addr → Prop} {rg rg' : List (Addr × Addr)} (x : Tr own rg H own' rg' H') {fl : List Str} {xs : List D} {d : Addr} (r : RF K own rg H fl xs d) : RF K own' rg' H' fl xs d := by
  obtain ⟨ys, h1, h2, h3, h4⟩ := r
  exact ⟨ys, (x.keep _ _ h1 h2).1, (x.keep _ _ h1 h2).2, RDs.tr x _ _ h3, h4⟩
theorem RD.ext (x : ExS W W' H H') (d : D) (v : V) (r : RD K W.own W.rg H d v) : RD K W'.own W'.rg H' d v := RD.tr x.tr d v r
theorem RDs.ext (x : ExS W W' H H') (ds : List D) (vs : List V) (r : RDs K W.own W.rg H ds vs) : RDs K W'.own W'.rg H' ds vs := RDs.tr x.tr ds vs r
theorem RMs.re {H H' : Hp} (hd : ∀ x v, RD K W.own W.rg H x v → RD K W'.own W'.rg H' x v) (hr : ∀ (k : Nat) a, W.al[k]? = some (some a) → W'.al[k]? = some (some a)) : ∀ {ms : List Mb} {ys : List V}, RMs K W H ms ys → RMs K W' H' ms ys
  | [], _, r => r
  | m :: ms, _, ⟨y, r, e, h1, h2⟩ => ⟨y, r, e, (match m, h1 with
    | .d d, h1 => hd d y h1
    | .r k, ⟨a, e, q⟩ => ⟨a, e, hr k a q⟩), RMs.re hd hr h2⟩
theorem QT.tr {own own' : Addr → Prop} {rg rg' : List (Addr × Addr)} {a : Addr} {ys : List V} (x : Tr own rg H own' rg' H') (q : QT K own H a ys) : QT K own' H' a ys := by
  rcases q with ⟨q, n⟩ | q
  · exact .inl (Rd.keep x q n)
  · exact .inr q
theorem RMs.map {ms : List Mb} {ys : List V} {H' : Hp} {f : Nat → Mb} (hd : ∀ x v, RD K W.own W.rg H x v → RD K W'.own W'.rg H' x v) (hr : ∀ k v, RM K W H (.r k) v → RM K W' H' (f k) v) : RMs K W H ms ys → RMs K W' H' (ms.map fun m => match m with
    | .d x => .d x
    | .r k => f k) ys := by
  induction ms generalizing ys with
  | nil => intro r; exact r
  | cons m ms ih =>
    rintro ⟨y, r, rfl, h1, h2⟩
    refine ⟨y, r, rfl, ?_, ih h2⟩
    cases m with
    | d x => exact hd x y h1
    | r k => exact hr k y h1
theorem RMs.ext (x : Ext W W' H H') : ∀ {ms : List Mb} {ys : List V}, RMs K W H ms ys → RMs K W' H' ms ys
  | [], _, r => r
  | m :: ms, _, ⟨y, r, e, h1, h2⟩ => ⟨y, r, e, (match m, h1 with
    | .d d, h1 => RD.ext x.toExS d y h1
    | .r k, ⟨a, e, q⟩ => ⟨a, e, x.al k a q⟩), RMs.ext x h2⟩
theorem RP.ext (x : Ext W W' H H') : ∀ (p : P) (v : V), RP K W H p v → RP K W' H' p v
  | .d d, v, r => RD.ext x.toExS d v r
  | .ref k, _, ⟨a, e, q⟩ => ⟨a, e, x.al k a q⟩
  | .ex fl xs, v, r => by
    refine ⟨by rw [x.gh]; exact r.1, ?_⟩
    rw [x.gh]
    exact RF.tr x.tr r.2
  | .tc ms, v, r => by
    obtain ⟨a, ys, e, q, s⟩ := r
    exact ⟨a, ys, e, QT.tr x.tr q, RMs.ext x s⟩
theorem Sg.ext {σ : Sl} {τ : L2.St} (x : Ext W W' H H') (g : Sg K W H σ τ) : Sg K W' H' σ τ :=
  ⟨g.len, fun i p e => by
    obtain ⟨v, e2, r⟩ := g.val i p e
    exact ⟨v, e2, RP.ext x p v r⟩⟩
theorem RDs.len : ∀ {xs : List D} {ys : List V} {own : Addr → Prop} {rg : List (Addr × Addr)}, RDs K own rg H xs ys → xs.length = ys.length
  | [], _, _, _, r => by simp only [RDs] at r; subst r; rfl
  | x :: xs, _, _, _, r => by
    simp only [RDs] at r
    obtain ⟨y, q, rfl, _, s⟩ := r
    rw [List.length_cons, List.length_cons, RDs.len s]
theorem RDs.get : ∀ {xs : List D} {ys : List V} {own : Addr → Prop} {rg : List (Addr × Addr)} {i : Nat} {x : D}, RDs K own rg H xs ys → xs[i]? = some x → ∃ y, ys[i]? = some y ∧ RD K own rg H x y
  | [], _, _, _, _, _, _, e => by simp at e
  | z :: xs, _, _, _, 0, x, r, e => by
    simp only [RDs] at r
    obtain ⟨y, q, rfl, r, s⟩ := r
    simp at e; subst e
    exact ⟨y, by simp, r⟩
  | z :: xs, _, _, _, i + 1, x, r, e => by
    simp only [RDs] at r
    obtain ⟨y, q, rfl, r, s⟩ := r
    obtain ⟨v, e1, e2⟩ := RDs.get (i := i) s (by simpa using e)
    exact ⟨v, by simpa using e1, e2⟩
theorem RDs.get' : ∀ {xs : List D} {ys : List V} {own : Addr → Prop} {rg : List (Addr × Addr)} {i : Nat} {y : V}, RDs K own rg H xs ys → ys[i]? = some y → ∃ x, xs[i]? = some x ∧ RD K own rg H x y := by
  intro xs ys own rg i y r e
  have hl := r.len
  cases q : xs[i]? with
  | none =>
    have h1 : xs.length ≤ i := List.getElem?_eq_none_iff.mp q
    have h2 : i < ys.length := by
      rcases List.getElem?_eq_some_iff.mp e with ⟨h, _⟩
      exact h
    omega
  | some x =>
    obtain ⟨v, e1, e2⟩ := r.get q
    rw [e] at e1
    cases e1
    exact ⟨x, rfl, e2⟩
theorem RDs.app : ∀ {xs zs : List D} {ys ws : List V} {own : Addr → Prop} {rg : List (Addr × Addr)}, RDs K own rg H xs ys → RDs K own rg H zs ws → RDs K own rg H (xs ++ zs) (ys ++ ws)
  | [], _, _, _, _, _, r, s => by simp only [RDs] at r; subst r; exact s
  | x :: xs, _, _, _, _, _, r, s => by
    simp only [RDs] at r
    obtain ⟨y, q, rfl, r, t⟩ := r
    show RDs K _ _ H (x :: (xs ++ _)) _
    simp only [RDs]
    exact ⟨y, q ++ _, rfl, r, RDs.app t s⟩
theorem RDs.nil {own : Addr → Prop} {rg : List (Addr × Addr)} : RDs K own rg H [] [] := by simp only [RDs]
theorem RDs.one {own : Addr → Prop} {rg : List (Addr × Addr)} {x : D} {v : V} (r : RD K own rg H x v) : RDs K own rg H [x] [v] := by
  simp only [RDs]
  exact ⟨v, [], rfl, r, rfl⟩
theorem RDs.cons {own : Addr → Prop} {rg : List (Addr × Addr)} {x : D} {v : V} {xs : List D} {vs : List V} (r : RD K own rg H x v) (s : RDs K own rg H xs vs) : RDs K own rg H (x :: xs) (v :: vs) := by
  simp only [RDs]
  exact ⟨v, vs, rfl, r, s⟩
theorem RDs.take {own : Addr → Prop} {rg : List (Addr × Addr)} : ∀ {xs : List D} {ys : List V} (n : Nat), RDs K own rg H xs ys → RDs K own rg H (xs.take n) (ys.take n)
  | _, _, 0, _ => by simp only [List.take_zero]; exact RDs.nil
  | [], _, n + 1, r => by simp only [RDs] at r; subst r; simp only [List.take_nil]; exact RDs.nil
  | x :: xs, _, n + 1, r => by
    simp only [RDs] at r
    obtain ⟨y, q, rfl, r, s⟩ := r
    simp only [List.take_succ_cons]
    exact RDs.cons r (RDs.take n s)
theorem RDs.drop {own : Addr → Prop} {rg : List (Addr × Addr)} : ∀ {xs : List D} {ys : List V} (n : Nat), RDs K own rg H xs ys → RDs K own rg H (xs.drop n) (ys.drop n)
  | _, _, 0, r => r
  | [], _, n + 1, r => by simp only [RDs] at r; subst r; simp only [List.drop_nil]; exact RDs.nil
  | x :: xs, _, n + 1, r => by
    simp only [RDs] at r
    obtain ⟨y, q, rfl, r, s⟩ := r
    simp only [List.drop_succ_cons]
    exact RDs.drop n s
theorem RDs.set {own : Addr → Prop} {rg : List (Addr × Addr)} {z : D} {v : V} (rz : RD K own rg H z v) : ∀ {xs : List D} {ys : List V} (n : Nat), RDs K own rg H xs ys → RDs K own rg H (xs.set n z) (ys.set n v)
  | [], _, n, r => by simp only [RDs] at r; subst r; simp only [List.set_nil]; exact RDs.nil
  | x :: xs, _, 0, r => by
    simp only [RDs] at r
    obtain ⟨y, q, rfl, r, s⟩ := r
    simp only [List.set_cons_zero]
    exact RDs.cons rz s
  | x :: xs, _, n + 1, r => by
    simp only [RDs] at r
    obtain ⟨y, q, rfl, r, s⟩ := r
    simp only [List.set_cons_succ]
    exact RDs.cons r (RDs.set rz n s)
theorem RDs.rev {own : Addr → Prop} {rg : List (Addr × Addr)} : ∀ {xs : List D} {ys : List V}, RDs K own rg H xs ys → RDs K own rg H xs.reverse ys.reverse
  | [], _, r => by simp only [RDs] at r; subst r; exact RDs.nil
  | x :: xs, _, r => by
    simp only [RDs] at r
    obtain ⟨y, q, rfl, r, s⟩ := r
    simp only [List.reverse_cons]
    exact RDs.app (RDs.rev s) (RDs.one r)
theorem QT.sq {own : Addr → Prop} {a : Addr} {ys : List V} (q : QT K own H a ys) : SqT K H a ys := q.elim (fun z => .inl z.1) .inr
theorem QK.sq {own : Addr → Prop} {a : Addr} {ys : List V} (q : QK K own H a ys) : SqL K H a ys := q.elim (fun z => .inl z.1) .inr
theorem QL.sq {own : Addr → Prop} {a : Addr} {ys : List V} (q : QL own H a ys) : SqL K H a ys := SqL.of q.1
theorem Pre0.there (p : Pre0 K W H h) {a : Addr} (o : W.own a) : ∃ xs, H a = some (.lst xs) := by
  rcases o with ⟨k, e⟩ | ⟨q, m, e⟩ | e
  · have hk : k < h.length := by
      rw [← p.len]
      exact (List.getElem?_eq_some_iff.mp e).1
    have r := p.cel k _ _ (List.getElem?_eq_getElem hk) e
    cases hc : h[k] with
    | lst xs => rw [hc] at r; obtain ⟨ys, q, _⟩ := r; exact ⟨_, q⟩
    | gone => rw [hc] at r; exact r.elim
  · obtain ⟨s, c, gs, h1, h2, _⟩ := p.rng q m
    rcases e with rfl | rfl
    · exact ⟨_, h1⟩
    · exact ⟨_, h2⟩
  · exact p.fo a e
theorem Pre0.free (p : Pre0 K W H h) {a : Addr} (e : H a = none) : ¬ W.own a := fun o => by
  obtain ⟨xs, q⟩ := p.there o
  rw [e] at q
  cases q
theorem RC.ext (x : ExS W W' H H') {c : Cell} {oa : Option Addr} (e : ∀ a ys, oa = some a → H a = some (.lst ys) → H' a = some (.lst ys)) (r : RC K W.own W.rg H c oa) : RC K W'.own W'.rg H' c oa := by
  cases c with
  | gone => cases oa with
    | none => trivial
    | some a => exact r
  | lst xs =>
    cases oa with
    | none => exact r
    | some a =>
      obtain ⟨ys, q, s⟩ := r
      exact ⟨ys, e a ys rfl q, RDs.ext x xs ys s⟩
/-- a new object that is no cell -/
theorem Pre0.pal (p : Pre0 K W H h) : W.fo.pa.length ≤ h.length := by
  rw [← p.len]
  by_cases c : W.al.length < W.fo.pa.length
  · have e := List.getElem?_eq_getElem c
    rcases p.pas _ _ e with z | z <;> (have := (List.getElem?_eq_some_iff.mp z).1; omega)
  · omega
theorem Ext.laid0 (p : Pre0 K W H h) {a : Addr} {o : HO} (e : H a = none) : Ext W W H (upd H a o) := by
  refine ⟨⟨fun b u q n => ?_, fun b u q n => ?_, fun b q => .inl q, fun _ q => q, rfl, rfl⟩, fun _ _ q => q⟩
  all_goals
    rw [upd_ne (ne_of_none q e)]
    exact q
theorem Pre0.laid (p : Pre0 K W H h) {a : Addr} {o : HO} (e : H a = none) : Pre0 K W (upd H a o) h := by
  have x := Ext.laid0 (o := o) p e
  refine ⟨p.len, fun k c oa h1 h2 => RC.ext x.toExS (fun b ys _ q => ?_) (p.cel k c oa h1 h2), fun q m => ?_, p.nd1, p.nd2, p.nd3, fun b fb => ?_, p.nd4, p.nd5, p.pas⟩
  · rw [upd_ne (ne_of_none q e)]; exact q
  rotate_left
  · obtain ⟨xs, q⟩ := p.fo b fb
    exact ⟨xs, by rw [upd_ne (ne_of_none q e)]; exact q⟩
  · obtain ⟨s, c, gs, h1, h2, h3⟩ := p.rng q m
    refine ⟨s, c, gs, ?_, ?_, h3⟩
    · rw [upd_ne (ne_of_none h1 e)]; exact h1
    · rw [upd_ne (ne_of_none h2 e)]; exact h2
/-- a new cell -/
def Wd.add (W : Wd) (a : Addr) : Wd := ⟨W.al ++ [some a], W.rg, W.fo, W.gh⟩
theorem Wd.add_own {a b : Addr} : (W.add a).own b ↔ W.own b ∨ b = a := by
  constructor
  · rintro (⟨k, e⟩ | q)
    · have e' : (W.al ++ [some a])[k]? = some (some b) := e
      rw [List.getElem?_append] at e'
      by_cases hk : k < W.al.length
      · rw [if_pos hk] at e'
        exact .inl (.inl ⟨k, e'⟩)
      · rw [if_neg hk] at e'
        cases hz : k - W.al.length with
        | zero => rw [hz] at e'; simp at e'; exact .inr e'.symm
        | succ n => rw [hz] at e'; simp at e'
    · exact .inl (.inr q)
  · rintro ((⟨k, e⟩ | q) | rfl)
    · refine .inl ⟨k, ?_⟩
      show (W.al ++ [some a])[k]? = _
      rw [List.getElem?_append_left (List.getElem?_eq_some_iff.mp e).1]
      exact e
    · exact .inr q
    · refine .inl ⟨W.al.length, ?_⟩
      show (W.al ++ [some _])[_]? = _
      simp
theorem Ext.cell0 (p : Pre0 K W H h) {a : Addr} {o : HO} (e : H a = none) : Ext W (W.add a) H (upd H a o) := by
  refine ⟨⟨fun b u q n => ?_, fun b u q n => ?_, fun b q => ?_, fun _ q => q, rfl, rfl⟩, fun k b q => ?_⟩
  · rw [upd_ne (ne_of_none q e)]; exact q
  · rw [upd_ne (ne_of_none q e)]; exact q
  · rcases Wd.add_own.mp q with q | rfl
    · exact .inl q
    · exact .inr e
  · show (W.al ++ [some a])[k]? = _
    rw [List.getElem?_append_left (List.getElem?_eq_some_iff.mp q).1]
    exact q
theorem get_snoc {α : Type} {l : List α} {x y : α} {k : Nat} (e : (l ++ [x])[k]? = some y) : (k < l.length ∧ l[k]? = some y) ∨ (k = l.length ∧ y = x) := by
  rw [List.getElem?_append] at e
  by_cases hk : k < l.length
  · rw [if_pos hk] at e; exact .inl ⟨hk, e⟩
  · rw [if_neg hk] at e
    cases hz : k - l.length with
    | zero => rw [hz] at e; simp at e; exact .inr ⟨by omega, e.symm⟩
    | succ n => rw [hz] at e; simp at e
theorem app_keep {α : Type} {l m : List α} {i : Nat} {x : α} (e : l[i]? = some x) : (l ++ m)[i]? = some x := by
  rw [List.getElem?_append_left (List.getElem?_eq_some_iff.mp e).1]
  exact e
theorem Pre0.cell (p : Pre0 K W H h) {a : Addr} {xs : List D} {ys : List V} (e : H a = none) (r : RDs K W.own W.rg H xs ys) : Pre0 K (W.add a) (upd H a (.lst ys)) (h ++ [.lst xs]) := by
  have x := Ext.cell0 (o := .lst ys) p e
  have na : ∀ k : Nat, W.al[k]? ≠ some (some a) := fun k q => p.free e (.inl ⟨k, q⟩)
  refine ⟨?_, fun k c oa h1 h2 => ?_, fun q m => ?_, fun i j b h1 h2 => ?_, fun i b h1 q m => ?_, p.nd3, fun b fb => ?_, fun i b h1 => ?_, p.nd5, fun i b e => (p.pas i b e).imp app_keep app_keep⟩
  rotate_right
  · rcases get_snoc h1 with ⟨k1, h1⟩ | ⟨k1, q1⟩
    · exact p.nd4 i b h1
    · cases q1
      exact fun z => p.free e (.inr (.inr z))
  rotate_right
  · obtain ⟨xs, q⟩ := p.fo b fb
    exact ⟨xs, by rw [upd_ne (ne_of_none q e)]; exact q⟩
  · show (W.al ++ [some a]).length = _
    rw [List.length_append, List.length_append, p.len]
    rfl
  · rcases get_snoc h1 with ⟨k1, h1⟩ | ⟨k1, rfl⟩
    · rcases get_snoc h2 with ⟨k2, h2⟩ | ⟨k2, rfl⟩
      · refine RC.ext x.toExS (fun b ys _ q => ?_) (p.cel k c oa h1 h2)
        rw [upd_ne (ne_of_none q e)]; exact q
      · rw [p.len] at k2; omega
    · rcases get_snoc h2 with ⟨k2, h2⟩ | ⟨k2, rfl⟩
      · rw [p.len] at k2; omega
      · exact ⟨ys, upd_same, RDs.ext x.toExS xs ys r⟩
  · obtain ⟨s, c, gs, h1, h2, h3⟩ := p.rng q m
    refine ⟨s, c, gs, ?_, ?_, h3⟩
    · rw [upd_ne (ne_of_none h1 e)]; exact h1
    · rw [upd_ne (ne_of_none h2 e)]; exact h2
  · rcases get_snoc h1 with ⟨k1, h1⟩ | ⟨k1, q1⟩ <;> rcases get_snoc h2 with ⟨k2, h2⟩ | ⟨k2, q2⟩
    · exact p.nd1 i j b h1 h2
    · cases q2; exact (na i h1).elim
    · cases q1; exact (na j h2).elim
    · omega
  · rcases get_snoc h1 with ⟨k1, h1⟩ | ⟨k1, q1⟩
    · exact p.nd2 i b h1 q m
    · cases q1
      exact ⟨fun z => p.free e (.inr (.inl ⟨q, m, .inl z⟩)), fun z => p.free e (.inr (.inl ⟨q, m, .inr z⟩))⟩
/-- a cell is written -/
theorem Ext.set0 (p : Pre0 K W H h) {k : Nat} {a : Addr} {o : HO} (e : W.al[k]? = some (some a)) : Ext W W H (upd H a o) := by
  refine ⟨⟨fun b u q n => ?_, fun b u q n => ?_, fun b q => .inl q, fun _ q => q, rfl, rfl⟩, fun _ _ q => q⟩
  · have hb : b ≠ a := by
      intro z
      subst z
      exact n (.inl ⟨k, e⟩)
    rw [upd_ne hb]
    exact q
  · have hb : b ≠ a := by
      intro z
      subst z
      exact p.nd4 k b e n
    rw [upd_ne hb]
    exact q
theorem Pre0.set (p : Pre0 K W H h) {k : Nat} {a : Addr} {xs : List D} {ys : List V} (e : W.al[k]? = some (some a)) (r : RDs K W.own W.rg H xs ys) : Pre0 K W (upd H a (.lst ys)) (h.set k (.lst xs)) := by
  have x := Ext.set0 (o := .lst ys) p e
  refine ⟨by rw [List.length_set, p.len], fun j c oa h1 h2 => ?_, fun q m => ?_, p.nd1, p.nd2, p.nd3, fun b fb => ?_, p.nd4, p.nd5, p.pas⟩
  rotate_right
  · obtain ⟨xs, q⟩ := p.fo b fb
    exact ⟨xs, x.keepF _ _ q fb⟩
  · rw [List.getElem?_set] at h1
    by_cases hj : k = j
    · subst hj
      rw [if_pos rfl] at h1
      by_cases hl : k < h.length
      · rw [if_pos hl] at h1
        cases h1
        rw [e] at h2
        cases h2
        exact ⟨ys, upd_same, RDs.ext x.toExS xs ys r⟩
      · rw [if_neg hl] at h1; cases h1
    · rw [if_neg hj] at h1
      refine RC.ext x.toExS (fun b ys' hb q => ?_) (p.cel j c oa h1 h2)
      subst hb
      rw [upd_ne (fun z => hj (p.nd1 k j a e (by rw [h2, z])))]
      exact q
  · obtain ⟨s, c, gs, h1, h2, h3⟩ := p.rng q m
    have n := p.nd2 k a e q m
    refine ⟨s, c, gs, ?_, ?_, h3⟩
    · rw [upd_ne (Ne.symm n.1)]; exact h1
    · rw [upd_ne (Ne.symm n.2)]; exact h2
end
/-! ### exceptions -/
section
variable (K : PySem.W.Frag) (et : ET)
def RX (own : Addr → Prop) (rg : List (Addr × Addr)) (H : Hp) (n : Nat) (xs : List D) (d : Addr) : Prop := RF K own rg H (et n).2 xs d
/-- what is wished of exceptions, from here on -/
def FX (W : Wd) (H : Hp) : Prop := ∀ (W' : Wd) (H' : Hp) (n : Nat) (xs : List D) (σ : Sl) (h : Hl) (τ : L2.St) (d : Addr), ExS W W' H H' → W.gh.gw n xs σ h → Pre0 K W' H' h → Sg K W' H' σ τ →
  RX K et W'.own W'.rg H' n xs d → W.gh.wx (.ref (He.ga K (et n).1)) (some d) τ H'
end
/-- a written part, and what may be wished of exceptions -/
structure KX where
  fr : PySem.W.Frag
  et : ET
  tk : Gh → Prop
instance : Coe KX PySem.W.Frag := ⟨KX.fr⟩
structure Pre (K : KX) (W : Wd) (H : Hp) (h : Hl) : Prop extends Pre0 K.fr W H h where
  tk : K.tk W.gh
  fx : FX K.fr K.et W H
section
variable {K : KX} {W W' : Wd} {H H' : Hp} {h h' : Hl}
theorem FX.ext {K : PySem.W.Frag} {et : ET} (f : FX K et W H) (x : ExS W W' H H') : FX K et W' H' := fun W2 H2 n fs σ h τ d x2 q p g r => by
  have := f W2 H2 n fs σ h τ d (x.trans x2) (by rw [← x.gh]; exact q) p g r
  rw [x.gh]
  exact this
theorem Pre.step (p : Pre K W H h) (x : ExS W W' H H') (q : Pre0 K.fr W' H' h') : Pre K W' H' h' := ⟨q, by rw [x.gh]; exact p.tk, p.fx.ext x⟩
theorem Ext.laid (p : Pre K W H h) {a : Addr} {o : HO} (e : H a = none) : Ext W W H (upd H a o) := Ext.laid0 p.toPre0 e
theorem Ext.cell (p : Pre K W H h) {a : Addr} {o : HO} (e : H a = none) : Ext W (W.add a) H (upd H a o) := Ext.cell0 p.toPre0 e
theorem Ext.set (p : Pre K W H h) {k : Nat} {a : Addr} {o : HO} (e : W.al[k]? = some (some a)) : Ext W W H (upd H a o) := Ext.set0 p.toPre0 e
theorem Pre.laid (p : Pre K W H h) {a : Addr} {o : HO} (e : H a = none) : Pre K W (upd H a o) h := p.step (Ext.laid0 p.toPre0 e).toExS (p.toPre0.laid e)
theorem Pre.cell (p : Pre K W H h) {a : Addr} {xs : List D} {ys : List V} (e : H a = none) (r : RDs K W.own W.rg H xs ys) : Pre K (W.add a) (upd H a (.lst ys)) (h ++ [.lst xs]) := p.step (Ext.cell0 p.toPre0 e).toExS (p.toPre0.cell e r)
theorem Pre.set (p : Pre K W H h) {k : Nat} {a : Addr} {xs : List D} {ys : List V} (e : W.al[k]? = some (some a)) (r : RDs K W.own W.rg H xs ys) : Pre K W (upd H a (.lst ys)) (h.set k (.lst xs)) := p.step (Ext.set0 p.toPre0 e).toExS (p.toPre0.set e r)
end
instance {K : KX} {W : Wd} {H : Hp} {h : Hl} : CoeOut (Pre K W H h) (Pre0 K.fr W H h) := ⟨Pre.toPre0⟩
/-- a context with the wish over data for exceptions that leave it -/
structure CxE extends Cx where
  et : ET
  gw : GW
  xa : Addr × Addr
instance : CoeOut CxE Cx := ⟨CxE.toCx⟩
abbrev CxE.kx (X : CxE) : KX := ⟨X.K, X.et, fun g => Takes X.toCx g.wx ∧ g.gw = X.gw ∧ g.xa = X.xa⟩
end Sc

set_option Elab.async false
set_option linter.all false
set_option maxRecDepth 100000
/-! Sc2: judgements over plain data; expressions. -/
namespace Sc
open PySem PySem.Spec PyProof.Rows L2

abbrev GT := Sl → Hl → (P → Hl → Prop) → Prop
abbrev GB := Sl → Hl → (Bool → Hl → Prop) → Prop
abbrev GA := Sl → Hl → (List P → Hl → Prop) → Prop
abbrev G2 := P → P → Hl → (P → Hl → Prop) → Prop
abbrev GC := List P → Hl → (P → Hl → Prop) → Prop
structure GD where
  nx : Sl → Hl → Prop
  rt : P → Hl → Prop
  bk : Sl → Hl → Prop
  ct : Sl → Hl → Prop
abbrev GS := GD → Sl → Hl → Prop

/-- two ways -/
structure Br (b : Bool) (A B : Prop) : Prop where
  t : b = true → A
  f : b = false → B
theorem Br.ite {b : Bool} {A B : Prop} (h : Br b A B) : if b = true then A else B := by
  cases b with
  | true => exact h.t rfl
  | false => exact h.f rfl

section
variable (K : KX)
def Fin (W : Wd) (H : Hp) (post : P → Hl → Prop) (Q : VK) : Prop := ∀ p h' W' H' v, post p h' → Pre K W' H' h' → Ext W W' H H' → RP K W' H' p v → Q v H'
def up (t : GT) : TE := fun τ H Q => ∃ W h σ post, Pre K W H h ∧ Sg K W H σ τ ∧ t σ h post ∧ Fin K W H post Q
def upB (t : GB) : TT := fun τ H Q => ∃ W h σ post, Pre K W H h ∧ Sg K W H σ τ ∧ t σ h post ∧ ∀ b h' W' H', post b h' → Pre K W' H' h' → Ext W W' H H' → Q b H'
def RPs (W : Wd) (H : Hp) : List P → List V → Prop
  | [], vs => vs = []
  | p :: ps, vs => ∃ v r, vs = v :: r ∧ RP K W H p v ∧ RPs W H ps r
def upA (t : GA) : TA := fun τ H Q => ∃ W h σ post, Pre K W H h ∧ Sg K W H σ τ ∧ t σ h post ∧ ∀ ps h' W' H' vs, post ps h' → Pre K W' H' h' → Ext W W' H H' → RPs K W' H' ps vs → Q vs H'
def up2 (o : G2) : R2 := fun v w H Q => ∃ W h x y post, Pre K W H h ∧ RP K W H x v ∧ RP K W H y w ∧ o x y h post ∧ Fin K W H post Q
def upC (r : GC) : List V → Hp → VK → Prop := fun vs H Q => ∃ W h ps post, Pre K W H h ∧ RPs K W H ps vs ∧ r ps h post ∧ Fin K W H post Q
end
def E (X : CxE) (e : Expr) (t : GT) : Prop := PE X e (up X.kx t)
def EB (X : CxE) (e : Expr) (t : GB) : Prop := PT X e (upB X.kx t)
def EW (X : CxE) (e : Expr) (t : GB) : Prop := PW X e (upB X.kx t)
def EA (X : CxE) (es : List Expr) (t : GA) : Prop := PA X es (upA X.kx t)
theorem PE.weak {X : CxE} {e : Expr} {t t' : TE} (h : PE X e t) (w : ∀ τ H Q, t' τ H Q → t τ H Q) : PE X e t' := ⟨fun pins s σ H Q I q => h.run pins s σ H Q I (w _ _ _ q)⟩
theorem PT.weak {X : CxE} {e : Expr} {t t' : TT} (h : PT X e t) (w : ∀ τ H Q, t' τ H Q → t τ H Q) : PT X e t' := ⟨fun pins s σ H Q I q => h.run pins s σ H Q I (w _ _ _ q)⟩
theorem PW.weak {X : CxE} {e : Expr} {t t' : TT} (h : PW X e t) (w : ∀ τ H Q, t' τ H Q → t τ H Q) : PW X e t' := ⟨fun wh pins s σ H Q I q => h.run wh pins s σ H Q I (w _ _ _ q)⟩
theorem PA.weak {X : CxE} {e : List Expr} {t t' : TA} (h : PA X e t) (w : ∀ τ H Q, t' τ H Q → t τ H Q) : PA X e t' := ⟨fun pos pins s σ H Q I q => h.run pos pins s σ H Q I (w _ _ _ q)⟩

/-! ### names, constants -/
def slotAt : Sl → Nat → Option P
  | [], _ => none
  | c :: _, 0 => c
  | _ :: r, n + 1 => slotAt r n
theorem slotAt_eq : ∀ (σ : Sl) (i : Nat) (p : P), slotAt σ i = some p → σ[i]? = some (some p)
  | [], _, _, e => by cases e
  | c :: _, 0, p, e => by simp only [slotAt] at e; subst e; rfl
  | _ :: r, n + 1, p, e => by simp only [slotAt] at e; simpa using slotAt_eq r n p e
def cellAt : Hl → Nat → Option Cell
  | [], _ => none
  | c :: _, 0 => some c
  | _ :: r, n + 1 => cellAt r n
theorem cellAt_eq : ∀ (h : Hl) (k : Nat), cellAt h k = h[k]?
  | [], _ => by simp [cellAt]
  | c :: _, 0 => by simp [cellAt]
  | _ :: r, n + 1 => by simp [cellAt, cellAt_eq r n]
def setCell : Hl → Nat → Cell → (Hl → Prop) → Prop
  | [], _, _, k => k []
  | _ :: r, 0, c, k => k (c :: r)
  | a :: r, n + 1, c, k => setCell r n c fun q => k (a :: q)
theorem setCell_eq : ∀ (h : Hl) (n : Nat) (c : Cell) (k : Hl → Prop), setCell h n c k = k (h.set n c)
  | [], _, _, k => by simp [setCell]
  | _ :: r, 0, c, k => by simp [setCell]
  | a :: r, n + 1, c, k => by simp [setCell, setCell_eq r n c]
def addCell : Hl → Cell → (Nat → Hl → Prop) → Prop
  | [], c, k => k 0 [c]
  | a :: r, c, k => addCell r c fun n q => k (n + 1) (a :: q)
theorem addCell_eq : ∀ (h : Hl) (c : Cell) (k : Nat → Hl → Prop), addCell h c k = k h.length (h ++ [c])
  | [], c, k => by simp [addCell]
  | a :: r, c, k => by simp [addCell, addCell_eq r c]
def setSlot : Sl → Nat → P → (Sl → Prop) → Prop
  | [], _, _, k => k []
  | _ :: r, 0, c, k => k (some c :: r)
  | a :: r, n + 1, c, k => setSlot r n c fun q => k (a :: q)
theorem setSlot_eq : ∀ (h : Sl) (n : Nat) (c : P) (k : Sl → Prop), setSlot h n c k = k (h.set n (some c))
  | [], _, _, k => by simp [setSlot]
  | _ :: r, 0, c, k => by simp [setSlot]
  | a :: r, n + 1, c, k => by simp [setSlot, setSlot_eq r n c]
/-- the list that a value is (tracked) -/
def vL (h : Hl) : P → Option (List D)
  | .d (.lst xs) => some xs
  | .ref k => match cellAt h k with
    | some (.lst xs) => some xs
    | _ => none
  | _ => none
/-- the list or the tuple that a value is -/
def vS (h : Hl) : P → Option (List D)
  | .d (.lst xs) => some xs
  | .d (.tup xs) => some xs
  | .d (.klst xs) => some xs
  | .ref k => match cellAt h k with
    | some (.lst xs) => some xs
    | _ => none
  | _ => none
/-- a value as data (a cell is read) -/
def vD (h : Hl) : P → Option D
  | .d x => some x
  | .ref k => match cellAt h k with
    | some (.lst xs) => some (.lst xs)
    | _ => none
  | _ => none
section
variable {K : KX} {W : Wd} {H : Hp} {h : Hl}
theorem cell_ok (p : Pre K W H h) {k : Nat} {xs : List D} {v : V} (e : cellAt h k = some (.lst xs)) (r : RP K W H (.ref k) v) : ∃ a ys, v = .ref a ∧ W.al[k]? = some (some a) ∧ H a = some (.lst ys) ∧ RDs K W.own W.rg H xs ys := by
  obtain ⟨a, rfl, q⟩ := r
  rw [cellAt_eq] at e
  obtain ⟨ys, h1, h2⟩ := p.cel k _ _ e q
  exact ⟨a, ys, rfl, q, h1, h2⟩
theorem vL_ok (p : Pre K W H h) {x : P} {xs : List D} {v : V} (e : vL h x = some xs) (r : RP K W H x v) : ∃ a ys, v = .ref a ∧ H a = some (.lst ys) ∧ RDs K W.own W.rg H xs ys := by
  cases x with
  | ex => cases e
  | tc => cases e
  | d x =>
    cases x with
    | lst zs =>
      simp only [vL] at e
      cases e
      simp only [RP, RD] at r
      obtain ⟨a, ys, rfl, q, s⟩ := r
      exact ⟨a, ys, rfl, q.1, s⟩
    | _ => simp [vL] at e
  | ref k =>
    simp only [vL] at e
    split at e
    · rename_i q
      cases e
      obtain ⟨a, ys, h1, _, h2, h3⟩ := cell_ok p q r
      exact ⟨a, ys, h1, h2, h3⟩
    · cases e
theorem vS_ok (p : Pre K W H h) {x : P} {xs : List D} {v : V} (e : vS h x = some xs) (r : RP K W H x v) : ∃ a ys, v = .ref a ∧ (SqL K H a ys ∨ SqT K H a ys) ∧ RDs K W.own W.rg H xs ys := by
  cases x with
  | ex => cases e
  | tc => cases e
  | d x =>
    cases x with
    | lst zs =>
      simp only [vS] at e
      cases e
      simp only [RP, RD] at r
      obtain ⟨a, ys, rfl, q, s⟩ := r
      exact ⟨a, ys, rfl, .inl q.sq, s⟩
    | tup zs =>
      simp only [vS] at e
      cases e
      simp only [RP, RD] at r
      obtain ⟨a, ys, rfl, q, s⟩ := r
      exact ⟨a, ys, rfl, .inr q.sq, s⟩
    | klst zs =>
      simp only [vS] at e
      cases e
      simp only [RP, RD] at r
      obtain ⟨a, ys, rfl, q, s⟩ := r
      exact ⟨a, ys, rfl, .inl q.sq, s⟩
    | _ => simp [vS] at e
  | ref k =>
    simp only [vS] at e
    split at e
    · rename_i q
      cases e
      obtain ⟨a, ys, h1, _, h2, h3⟩ := cell_ok p q r
      exact ⟨a, ys, h1, .inl (SqL.of h2), h3⟩
    · cases e
end
def gVar (i : Nat) : GT := fun σ h Q => match slotAt σ i with
  | some p => Q p h
  | none => False
def gC (x : D) : GT := fun _ h Q => Q (.d x) h
section
variable {X : CxE} {e a b c : Expr} {es rest : List Expr} {pos : Pos} {t ta tb : GT} {u : GB}
theorem E.of {t : GT} {t' : TE} (h : PE X e t') (w : ∀ τ W H h σ post Q, Pre X.kx W H h → Sg X.kx W H σ τ → t σ h post → Fin X.kx W H post Q → t' τ H Q) : E X e t :=
  PE.weak h fun τ H Q ⟨W, h, σ, post, p, g, q, f⟩ => w τ W H h σ post Q p g q f
theorem e_var (i : Nat) {x : Str} (hN : X.N[i]? = some x := by rfl) (hv : Vis X.env.scope x := by first | exact Or.inl rfl | exact Or.inr (Or.inl rfl) | exact Or.inr (Or.inr rfl)) (hd : (x == ("__debug__" : Str)) = false := by decide)
    (hcd : (x == ("__classdict__" : Str)) = false := by decide) : E X (.Name x pos) (gVar i) := by
  refine E.of (pe_var hN hv hd hcd) fun τ W H h σ post Q p g q f => ?_
  unfold gVar at q
  split at q
  · rename_i z ez
    obtain ⟨v, h1, h2⟩ := g.val i z (slotAt_eq _ _ _ ez)
    exact ⟨v, h1, f z h W H v q p Ext.refl h2⟩
  · exact q.elim
theorem e_int {i j} : E X (.Constant (.int i) j pos) (gC (.int i)) := E.of pe_int fun τ W H h σ post Q p g q f => f _ _ W H _ q p Ext.refl (by simp only [RP, RD])
theorem e_bl {i j} : E X (.Constant (.bool i) j pos) (gC (.bl i)) := E.of pe_bl fun τ W H h σ post Q p g q f => f _ _ W H _ q p Ext.refl (by simp only [RP, RD])
theorem e_non {j} : E X (.Constant .none j pos) (gC .non) := E.of pe_non fun τ W H h σ post Q p g q f => f _ _ W H _ q p Ext.refl (by simp only [RP, RD])
theorem e_str {x j} : E X (.Constant (.str x) j pos) (gC (.str x)) := E.of pe_str fun τ W H h σ post Q p g q f => f _ _ W H _ q p Ext.refl (by simp only [RP, RD])
/-- what a name of the module holds, as data -/
def KD (K : KX) (x : D) (u : Value) : Prop := ∃ v, RelV v u ∧ ∀ W H, RD K W H (rg := []) x v
theorem e_glob {x : Str} {d : D} {v : V} {w : Value} (hg : Gl X x) (hm : X.mg x = some w) (r : RelV v w) (k : ∀ own rg H, RD X.kx own rg H d v) (hd : (x == ("__debug__" : Str)) = false := by decide) : E X (.Name x pos) (gC d) :=
  E.of (pe_glob hg hm r hd) fun τ W H h σ post Q p g q f => f _ _ W H _ q p Ext.refl (k _ _ _)

/-! ### operators -/
def gOp (o : G2) (ta tb : GT) : GT := fun σ h Q => ta σ h fun x h1 => tb σ h1 fun y h2 => o x y h2 Q
theorem op_up {o : G2} {τ : L2.St} {H : Hp} {Q : VK} (q : up X.kx (gOp o ta tb) τ H Q) : tOp (up2 X.kx o) (up X.kx ta) (up X.kx tb) τ H Q := by
  obtain ⟨W, h, σ, post, p, g, q, f⟩ := q
  refine ⟨W, h, σ, _, p, g, q, fun x h1 W1 H1 v q1 p1 x1 r1 => ?_⟩
  refine ⟨W1, h1, σ, _, p1, g.ext x1, q1, fun y h2 W2 H2 w q2 p2 x2 r2 => ?_⟩
  exact ⟨W2, h2, x, y, post, p2, RP.ext x2 _ _ r1, r2, q2, fun z h3 W3 H3 u q3 p3 x3 r3 => f z h3 W3 H3 u q3 p3 ((x1.trans x2).trans x3) r3⟩
theorem e_op {o : G2} {op : Operator} (ho : OpR X (binaryOp op) (up2 X.kx o)) (ha : E X a ta) (hb : E X b tb) : E X (.BinOp a op b pos) (gOp o ta tb) := PE.weak (pe_op ho ha hb) fun _ _ _ => op_up
theorem e_cmp {o : G2} {op : CmpOp} (ho : OpR X (compareOp op) (up2 X.kx o)) (ha : E X a ta) (hb : E X b tb) (hm : behindInMarks op b = false := by rfl) : E X (.Compare a [op] [b] pos) (gOp o ta tb) := PE.weak (pe_cmpR ho ha hb hm) fun _ _ _ => op_up
def bOf : P → Hl → (Bool → Hl → Prop) → Prop
  | .d (.bl b), h, Q => Q b h
  | _, _, _ => False
def bVal (t : GT) : GB := fun σ h Q => t σ h fun x h1 => bOf x h1 Q
theorem bOf_ok {K : KX} {x : P} {v : V} {h : Hl} {Q : Bool → Hl → Prop} {W : Wd} {H : Hp} (q : bOf x h Q) (r : RP K W H x v) : ∃ b, v = .bl b ∧ Q b h := by
  unfold bOf at q
  split at q
  · simp only [RP, RD] at r
    exact ⟨_, r, q⟩
  · exact q.elim
theorem val_up {τ : L2.St} {H : Hp} {Q : Bool → Hp → Prop} (q : upB X.kx (bVal t) τ H Q) : tB (up X.kx t) τ H Q := by
  obtain ⟨W, h, σ, post, p, g, q, f⟩ := q
  refine ⟨W, h, σ, _, p, g, q, fun x h1 W1 H1 v q1 p1 x1 r1 => ?_⟩
  obtain ⟨b, e, q2⟩ := bOf_ok q1 r1
  exact ⟨b, e, f b h1 W1 H1 q2 p1 x1⟩
theorem eb_cmp {o : G2} {op : CmpOp} (ho : OpR X (compareOp op) (up2 X.kx o)) (ha : E X a ta) (hb : E X b tb) (hm : behindInMarks op b = false := by rfl) : EB X (.Compare a [op] [b] pos) (bVal (gOp o ta tb)) :=
  PT.weak (pt_cmpR ho ha hb hm) fun τ H Q q => by
    obtain ⟨W, h, σ, post, p, g, q, f⟩ := q
    refine op_up (X := X) (ta := ta) (tb := tb) ⟨W, h, σ, _, p, g, q, fun x h1 W1 H1 v q1 p1 x1 r1 => ?_⟩
    obtain ⟨b, e, q2⟩ := bOf_ok q1 r1
    exact ⟨b, e, f b h1 W1 H1 q2 p1 x1⟩
theorem eb_val (h : E X e t) (he : ∀ whole, isTrue e X.env whole = (do let v ← whole; standAt e.pos; holding [v] (truthy v)) := by intro _; rfl) : EB X e (bVal t) := PT.weak (pt_val h he) fun _ _ _ => val_up
/-- truth of any value -/
def truD (h : Hl) : P → Option Bool
  | .d .non => some false
  | .d (.bl b) => some b
  | .d (.int i) => some (i != 0)
  | .d (.lst xs) => some (!xs.isEmpty)
  | .d (.tup xs) => some (!xs.isEmpty)
  | .ref k => match cellAt h k with
    | some (.lst xs) => some (!xs.isEmpty)
    | _ => none
  | _ => none
def bTru (t : GT) : GB := fun σ h Q => t σ h fun x h1 => match truD h1 x with
  | some b => Q b h1
  | none => False
theorem RDs.empty {K : KX} {own : Addr → Prop} {rg : List (Addr × Addr)} {H : Hp} {xs : List D} {ys : List V} (r : RDs K own rg H xs ys) : xs.isEmpty = ys.isEmpty := by
  have h := r.len
  cases xs <;> cases ys <;> simp_all
theorem truD_ok {K : KX} {W : Wd} {H : Hp} {h : Hl} {x : P} {v : V} {b : Bool} (p : Pre K W H h) (r : RP K W H x v) (e : truD h x = some b) : TruV K v H b := by
  cases x with
  | ex => cases e
  | tc => cases e
  | d x =>
    cases x with
    | non => simp only [RP, RD] at r; subst r; simp [truD] at e; first | exact e | exact e.symm
    | bl c => simp only [RP, RD] at r; subst r; simp [truD] at e; exact e.symm
    | int c => simp only [RP, RD] at r; subst r; simp only [truD, Option.some.injEq] at e; exact e.symm
    | lst xs =>
      simp only [truD, Option.some.injEq] at e
      simp only [RP, RD] at r
      obtain ⟨a, ys, rfl, q, s⟩ := r
      exact .inl ⟨ys, q.sq, by rw [← e, s.empty]⟩
    | tup xs =>
      simp only [truD, Option.some.injEq] at e
      simp only [RP, RD] at r
      obtain ⟨a, ys, rfl, q, s⟩ := r
      exact .inr (.inl ⟨ys, q.sq, by rw [← e, s.empty]⟩)
    | _ => simp [truD] at e
  | ref k =>
    simp only [truD] at e
    split at e
    · rename_i q
      simp only [Option.some.injEq] at e
      obtain ⟨a, ys, rfl, _, h2, h3⟩ := cell_ok p q r
      exact .inl ⟨ys, SqL.of h2, by rw [← e, h3.empty]⟩
    · cases e
theorem eb_tru (h : E X e t) (he : ∀ whole, isTrue e X.env whole = (do let v ← whole; standAt e.pos; holding [v] (truthy v)) := by intro _; rfl) : EB X e (bTru t) :=
  PT.weak (pt_truth h he) fun τ H Q q => by
    obtain ⟨W, h, σ, post, p, g, q, f⟩ := q
    refine ⟨W, h, σ, _, p, g, q, fun x h1 W1 H1 v q1 p1 x1 r1 => ?_⟩
    split at q1
    · rename_i b eb
      exact ⟨b, truD_ok p1 r1 eb, f b h1 W1 H1 q1 p1 x1⟩
    · exact q1.elim
def bAnd (t u : GB) : GB := fun σ h Q => t σ h fun c h1 => Br c (u σ h1 Q) (Q false h1)
def bOr (t u : GB) : GB := fun σ h Q => t σ h fun c h1 => Br c (Q true h1) (u σ h1 Q)
def bNot (t : GB) : GB := fun σ h Q => t σ h fun c h1 => Q (!c) h1
theorem EW.pt {e : Expr} (h : EW X e u) : EB X e u := PW.pt h
theorem ew_and1 (ha : EB X a u) : EW X (.BoolOp .And [a] pos) u := pw_and1 ha
theorem ew_or1 (ha : EB X a u) : EW X (.BoolOp .Or [a] pos) u := pw_or1 ha
theorem ew_and {u2 : GB} (ha : EB X a u) (hb : EW X (.BoolOp .And (b :: rest) pos) u2) : EW X (.BoolOp .And (a :: b :: rest) pos) (bAnd u u2) :=
  PW.weak (pw_and ha hb) fun τ H Q q => by
    obtain ⟨W, h, σ, post, p, g, q, f⟩ := q
    refine ⟨W, h, σ, _, p, g, q, fun c h1 W1 H1 q1 p1 x1 => ?_⟩
    cases c with
    | true => exact (if_pos rfl).mpr ⟨W1, h1, σ, post, p1, g.ext x1, q1.t rfl, fun b h2 W2 H2 q2 p2 x2 => f b h2 W2 H2 q2 p2 (x1.trans x2)⟩
    | false => exact (if_neg (by simp)).mpr (f false h1 W1 H1 (q1.f rfl) p1 x1)
theorem ew_or {u2 : GB} (ha : EB X a u) (hb : EW X (.BoolOp .Or (b :: rest) pos) u2) : EW X (.BoolOp .Or (a :: b :: rest) pos) (bOr u u2) :=
  PW.weak (pw_or ha hb) fun τ H Q q => by
    obtain ⟨W, h, σ, post, p, g, q, f⟩ := q
    refine ⟨W, h, σ, _, p, g, q, fun c h1 W1 H1 q1 p1 x1 => ?_⟩
    cases c with
    | true => exact (if_pos rfl).mpr (f true h1 W1 H1 (q1.t rfl) p1 x1)
    | false => exact (if_neg (by simp)).mpr ⟨W1, h1, σ, post, p1, g.ext x1, q1.f rfl, fun b h2 W2 H2 q2 p2 x2 => f b h2 W2 H2 q2 p2 (x1.trans x2)⟩
theorem eb_not (ha : EB X a u) : EB X (.UnaryOp .Not a pos) (bNot u) :=
  PT.weak (pt_not ha) fun τ H Q q => by
    obtain ⟨W, h, σ, post, p, g, q, f⟩ := q
    exact ⟨W, h, σ, _, p, g, q, fun c h1 W1 H1 q1 p1 x1 => f _ h1 W1 H1 q1 p1 x1⟩
def gAnd (t u : GT) : GT := fun σ h Q => t σ h fun x h1 => bOf x h1 fun c h1 => Br c (u σ h1 Q) (Q (.d (.bl false)) h1)
def gOr (t u : GT) : GT := fun σ h Q => t σ h fun x h1 => bOf x h1 fun c h1 => Br c (Q (.d (.bl true)) h1) (u σ h1 Q)
def gNot (t : GT) : GT := fun σ h Q => t σ h fun x h1 => bOf x h1 fun c h1 => Q (.d (.bl (!c))) h1
theorem e_one {op} (h : E X a t) : E X (.BoolOp op [a] pos) t := pe_one h
theorem e_and (ha : E X a ta) (hb : E X (.BoolOp .And (b :: rest) pos) tb) : E X (.BoolOp .And (a :: b :: rest) pos) (gAnd ta tb) :=
  PE.weak (pe_and ha hb) fun τ H Q q => by
    obtain ⟨W, h, σ, post, p, g, q, f⟩ := q
    refine ⟨W, h, σ, _, p, g, q, fun x h1 W1 H1 v q1 p1 x1 r1 => ?_⟩
    obtain ⟨c, e, q2⟩ := bOf_ok q1 r1
    refine ⟨c, e, ?_⟩
    cases c with
    | true => exact (if_pos rfl).mpr ⟨W1, h1, σ, post, p1, g.ext x1, q2.t rfl, fun b h2 W2 H2 v2 q2 p2 x2 r2 => f b h2 W2 H2 v2 q2 p2 (x1.trans x2) r2⟩
    | false => exact (if_neg (by simp)).mpr (f _ h1 W1 H1 _ (q2.f rfl) p1 x1 (by simp only [RP, RD]))
theorem e_or (ha : E X a ta) (hb : E X (.BoolOp .Or (b :: rest) pos) tb) : E X (.BoolOp .Or (a :: b :: rest) pos) (gOr ta tb) :=
  PE.weak (pe_or ha hb) fun τ H Q q => by
    obtain ⟨W, h, σ, post, p, g, q, f⟩ := q
    refine ⟨W, h, σ, _, p, g, q, fun x h1 W1 H1 v q1 p1 x1 r1 => ?_⟩
    obtain ⟨c, e, q2⟩ := bOf_ok q1 r1
    refine ⟨c, e, ?_⟩
    cases c with
    | true => exact (if_pos rfl).mpr (f _ h1 W1 H1 _ (q2.t rfl) p1 x1 (by simp only [RP, RD]))
    | false => exact (if_neg (by simp)).mpr ⟨W1, h1, σ, post, p1, g.ext x1, q2.f rfl, fun b h2 W2 H2 v2 q2 p2 x2 r2 => f b h2 W2 H2 v2 q2 p2 (x1.trans x2) r2⟩
theorem e_not (ha : E X a ta) : E X (.UnaryOp .Not a pos) (gNot ta) :=
  PE.weak (pe_not ha) fun τ H Q q => by
    obtain ⟨W, h, σ, post, p, g, q, f⟩ := q
    refine ⟨W, h, σ, _, p, g, q, fun x h1 W1 H1 v q1 p1 x1 r1 => ?_⟩
    obtain ⟨c, e, q2⟩ := bOf_ok q1 r1
    exact ⟨c, e, f _ h1 W1 H1 _ q2 p1 x1 (by simp only [RP, RD])⟩
def gIf (c : GB) (t u : GT) : GT := fun σ h Q => c σ h fun b h1 => Br b (t σ h1 Q) (u σ h1 Q)
theorem e_ifexp (hc : EB X c u) (ha : E X a ta) (hb : E X b tb) : E X (.IfExp c a b pos) (gIf u ta tb) :=
  PE.weak (pe_ifExp hc ha hb) fun τ H Q q => by
    obtain ⟨W, h, σ, post, p, g, q, f⟩ := q
    refine ⟨W, h, σ, _, p, g, q, fun c h1 W1 H1 q1 p1 x1 => ?_⟩
    cases c with
    | true => exact (if_pos rfl).mpr ⟨W1, h1, σ, post, p1, g.ext x1, q1.t rfl, fun b h2 W2 H2 v2 q2 p2 x2 r2 => f b h2 W2 H2 v2 q2 p2 (x1.trans x2) r2⟩
    | false => exact (if_neg (by simp)).mpr ⟨W1, h1, σ, post, p1, g.ext x1, q1.f rfl, fun b h2 W2 H2 v2 q2 p2 x2 r2 => f b h2 W2 H2 v2 q2 p2 (x1.trans x2) r2⟩
/-- a < b < c -/
def gChain (o o2 : G2) (ta tb tc : GT) : GT := fun σ h Q => ta σ h fun x h1 => tb σ h1 fun y h2 => o x y h2 fun z h3 => bOf z h3 fun k h3 => Br k (tc σ h3 fun w h4 => o2 y w h4 Q) (Q (.d (.bl false)) h3)
theorem chain_up {o o2 : G2} {tc : GT} {τ : L2.St} {H : Hp} {Q : VK} (q : up X.kx (gChain o o2 ta tb tc) τ H Q) : tChain (up2 X.kx o) (up2 X.kx o2) (up X.kx ta) (up X.kx tb) (up X.kx tc) τ H Q := by
  obtain ⟨W, h, σ, post, p, g, q, f⟩ := q
  refine ⟨W, h, σ, _, p, g, q, fun x h1 W1 H1 v q1 p1 x1 r1 => ?_⟩
  refine ⟨W1, h1, σ, _, p1, g.ext x1, q1, fun y h2 W2 H2 w q2 p2 x2 r2 => ?_⟩
  refine ⟨W2, h2, x, y, _, p2, RP.ext x2 _ _ r1, r2, q2, fun z h3 W3 H3 u q3 p3 x3 r3 => ?_⟩
  obtain ⟨c, e, q4⟩ := bOf_ok q3 r3
  refine ⟨c, e, ?_⟩
  cases c with
  | true =>
    refine (if_pos rfl).mpr ⟨W3, h3, σ, _, p3, ((g.ext x1).ext x2).ext x3, q4.t rfl, fun y' h4 W4 H4 v4 q5 p4 x4 r4 => ?_⟩
    exact ⟨W4, h4, y, y', post, p4, RP.ext x4 _ _ (RP.ext x3 _ _ r2), r4, q5, fun z h5 W5 H5 u5 q6 p5 x5 r5 => f z h5 W5 H5 u5 q6 p5 ((((x1.trans x2).trans x3).trans x4).trans x5) r5⟩
  | false => exact (if_neg (by simp)).mpr (f _ h3 W3 H3 _ (q4.f rfl) p3 ((x1.trans x2).trans x3) (by simp only [RP, RD]))
theorem e_chain {o o2 : G2} {op op' : CmpOp} {tc : GT} (ho : OpR X (compareOp op) (up2 X.kx o)) (ho' : OpR X (compareOp op') (up2 X.kx o2)) (ha : E X a ta) (hb : E X b tb) (hc : E X c tc)
    (hm : lastMarks [op, op'] [b, c] = false := by with_unfolding_all rfl) : E X (.Compare a [op, op'] [b, c] pos) (gChain o o2 ta tb tc) := PE.weak (pe_chain ho ho' ha hb hc hm) fun _ _ _ => chain_up
theorem eb_chain {o o2 : G2} {op op' : CmpOp} {tc : GT} (ho : OpR X (compareOp op) (up2 X.kx o)) (ho' : OpR X (compareOp op') (up2 X.kx o2)) (ha : E X a ta) (hb : E X b tb) (hc : E X c tc)
    (hm : lastMarks [op, op'] [b, c] = false := by with_unfolding_all rfl) : EB X (.Compare a [op, op'] [b, c] pos) (bVal (gChain o o2 ta tb tc)) :=
  PT.weak (pt_chain ho ho' ha hb hc hm) fun τ H Q q => by
    obtain ⟨W, h, σ, post, p, g, q, f⟩ := q
    refine chain_up (X := X) (ta := ta) (tb := tb) (tc := tc) ⟨W, h, σ, _, p, g, q, fun x h1 W1 H1 v q1 p1 x1 r1 => ?_⟩
    obtain ⟨b, e, q2⟩ := bOf_ok q1 r1
    exact ⟨b, e, f b h1 W1 H1 q2 p1 x1⟩

/-! ### arguments -/
theorem RPs.ext {K : KX} {W W' : Wd} {H H' : Hp} (x : Ext W W' H H') : ∀ {ps : List P} {vs : List V}, RPs K W H ps vs → RPs K W' H' ps vs
  | [], _, r => r
  | p :: ps, _, ⟨v, r, e, h1, h2⟩ => ⟨v, r, e, RP.ext x p v h1, RPs.ext x h2⟩
def gNil : GA := fun _ h Q => Q [] h
def gCons (t : GT) (r : GA) : GA := fun σ h Q => t σ h fun x h1 => r σ h1 fun xs h2 => Q (x :: xs) h2
theorem ea_nil : EA X [] gNil := PA.weak pa_nil fun τ H Q q => by
  obtain ⟨W, h, σ, post, p, g, q, f⟩ := q
  exact f _ _ W H _ q p Ext.refl rfl
theorem ea_cons {r : GA} (ha : E X e t) (hr : EA X es r) (hs : starEach (e :: es) X.env = (false, eval e X.env) :: starEach es X.env := by rfl) : EA X (e :: es) (gCons t r) :=
  PA.weak (pa_cons ha hr hs) fun τ H Q q => by
    obtain ⟨W, h, σ, post, p, g, q, f⟩ := q
    refine ⟨W, h, σ, _, p, g, q, fun x h1 W1 H1 v q1 p1 x1 r1 => ?_⟩
    refine ⟨W1, h1, σ, _, p1, g.ext x1, q1, fun ps h2 W2 H2 vs q2 p2 x2 r2 => ?_⟩
    exact f _ h2 W2 H2 _ q2 p2 (x1.trans x2) ⟨v, vs, rfl, RP.ext x2 _ _ r1, r2⟩
/-- values that are data -/
def allD : List P → (List D → Prop) → Prop
  | [], k => k []
  | .d x :: r, k => allD r fun xs => k (x :: xs)
  | _, _ => False
theorem allD_ok {K : KX} {W : Wd} {H : Hp} : ∀ {ps : List P} {vs : List V} {k : List D → Prop}, RPs K W H ps vs → allD ps k → ∃ xs, k xs ∧ RDs K W.own W.rg H xs vs
  | [], _, k, r, q => ⟨[], q, by rw [show _ = [] from r]; exact RDs.nil⟩
  | .d x :: ps, _, k, ⟨v, r, e, h1, h2⟩, q => by
    obtain ⟨xs, h3, h4⟩ := allD_ok (k := fun xs => k (x :: xs)) h2 q
    subst e
    exact ⟨x :: xs, h3, RDs.cons h1 h4⟩
  | .ref _ :: _, _, _, _, q => q.elim
  | .ex _ _ :: _, _, _, _, q => q.elim
  | .tc _ :: _, _, _, _, q => q.elim
/-- data, or cells -/
def allM : List P → (List Mb → Prop) → Prop
  | [], k => k []
  | .d x :: r, k => allM r fun ms => k (.d x :: ms)
  | .ref n :: r, k => allM r fun ms => k (.r n :: ms)
  | _, _ => False
theorem allM_ok {K : KX} {W : Wd} {H : Hp} : ∀ {ps : List P} {vs : List V} {k : List Mb → Prop}, RPs K W H ps vs → allM ps k → ∃ ms, k ms ∧ RMs K W H ms vs
  | [], _, k, r, q => ⟨[], q, r⟩
  | .d x :: ps, _, k, ⟨v, r, e, h1, h2⟩, q => by
    obtain ⟨ms, h3, h4⟩ := allM_ok (k := fun ms => k (.d x :: ms)) h2 q
    exact ⟨.d x :: ms, h3, v, r, e, h1, h4⟩
  | .ref n :: ps, _, k, ⟨v, r, e, h1, h2⟩, q => by
    obtain ⟨ms, h3, h4⟩ := allM_ok (k := fun ms => k (.r n :: ms)) h2 q
    exact ⟨.r n :: ms, h3, v, r, e, h1, h4⟩
  | .ex _ _ :: _, _, _, _, q => q.elim
  | .tc _ :: _, _, _, _, q => q.elim
/-- no cell among them -/
def tcD : List Mb → Option (List D)
  | [] => some []
  | .d x :: r => match tcD r with
    | some xs => some (x :: xs)
    | none => none
  | .r _ :: _ => none
theorem tcD_ok {K : KX} {W : Wd} {H : Hp} : ∀ {ms : List Mb} {vs : List V} {xs : List D}, RMs K W H ms vs → tcD ms = some xs → RDs K W.own W.rg H xs vs
  | [], _, _, r, e => by cases e; rw [show _ = [] from r]; exact RDs.nil
  | .d x :: ms, _, _, ⟨v, r, e1, h1, h2⟩, e => by
    unfold tcD at e
    split at e
    · rename_i zs ez
      cases e
      subst e1
      exact RDs.cons h1 (tcD_ok h2 ez)
    · cases e
  | .r _ :: _, _, _, _, e => by cases e
theorem RMs.len {K : KX} {W : Wd} {H : Hp} : ∀ {ms : List Mb} {vs : List V}, RMs K W H ms vs → ms.length = vs.length
  | [], _, r => by rw [show _ = [] from r]; rfl
  | m :: ms, _, ⟨v, r, e1, h1, h2⟩ => by subst e1; simp [RMs.len h2]
/-- displays: a tuple; a list that is given away; a list of the def's own -/
def gTup (r : GA) : GT := fun σ h Q => r σ h fun ps h1 => allD ps fun xs => xs.length ≤ sizeLine ∧ Q (.d (.tup xs)) h1
/-- a tuple with cells in it -/
def gTupC (r : GA) : GT := fun σ h Q => r σ h fun ps h1 => allM ps fun ms => ms.length ≤ sizeLine ∧ match tcD ms with
  | some xs => Q (.d (.tup xs)) h1
  | none => Q (.tc ms) h1
def gLst (r : GA) : GT := fun σ h Q => r σ h fun ps h1 => allD ps fun xs => xs.length ≤ sizeLine ∧ Q (.d (.lst xs)) h1
def gLstM (r : GA) : GT := fun σ h Q => r σ h fun ps h1 => allD ps fun xs => xs.length ≤ sizeLine ∧ addCell h1 (.lst xs) fun k h2 => Q (.ref k) h2
theorem new_lst {K : KX} {W : Wd} {H : Hp} {h : Hl} {xs : List D} {vs : List V} {a : Addr} (p : Pre K W H h) (r : RDs K W.own W.rg H xs vs) (e : H a = none) : RD K W.own W.rg (upd H a (.lst vs)) (.lst xs) (.ref a) := by
  simp only [RD]
  exact ⟨a, vs, rfl, ⟨upd_same, p.free e⟩, RDs.ext (Ext.laid p e).toExS xs vs r⟩
theorem new_tup {K : KX} {W : Wd} {H : Hp} {h : Hl} {xs : List D} {vs : List V} {a : Addr} (p : Pre K W H h) (r : RDs K W.own W.rg H xs vs) (e : H a = none) : RD K W.own W.rg (upd H a (.tup vs)) (.tup xs) (.ref a) := by
  simp only [RD]
  exact ⟨a, vs, rfl, .inl ⟨.inl upd_same, p.free e⟩, RDs.ext (Ext.laid p e).toExS xs vs r⟩
/-- a new list, given away or kept -/
theorem fin_lst {K : KX} {W : Wd} {H : Hp} {h : Hl} {post : P → Hl → Prop} {Q : VK} {xs : List D} {vs : List V} (p : Pre K W H h) (r : RDs K W.own W.rg H xs vs) (f : Fin K W H post Q) (q : post (.d (.lst xs)) h) :
    ∀ a, H a = none → Q (.ref a) (upd H a (.lst vs)) := fun a e => f _ h W _ _ q (p.laid e) (Ext.laid p e) (new_lst p r e)
theorem fin_tup {K : KX} {W : Wd} {H : Hp} {h : Hl} {post : P → Hl → Prop} {Q : VK} {xs : List D} {vs : List V} (p : Pre K W H h) (r : RDs K W.own W.rg H xs vs) (f : Fin K W H post Q) (q : post (.d (.tup xs)) h) :
    ∀ a, H a = none → Q (.ref a) (upd H a (.tup vs)) := fun a e => f _ h W _ _ q (p.laid e) (Ext.laid p e) (new_tup p r e)
theorem fin_cell {K : KX} {W : Wd} {H : Hp} {h : Hl} {post : P → Hl → Prop} {Q : VK} {xs : List D} {vs : List V} (p : Pre K W H h) (r : RDs K W.own W.rg H xs vs) (f : Fin K W H post Q) (q : addCell h (.lst xs) fun k h2 => post (.ref k) h2) :
    ∀ a, H a = none → Q (.ref a) (upd H a (.lst vs)) := fun a e => by
  rw [addCell_eq] at q
  refine f _ _ (W.add a) _ _ q (p.cell e r) (Ext.cell p e) ⟨a, rfl, ?_⟩
  show (W.al ++ [some a])[_]? = _
  rw [← p.len]
  simp
theorem e_tup {x1 : Nat} {r : GA} (h : EA X es r) : E X (.Tuple es x1 pos) (gTup r) :=
  PE.weak (pe_tup h) fun τ H Q q => by
    obtain ⟨W, h, σ, post, p, g, q, f⟩ := q
    refine ⟨W, h, σ, _, p, g, q, fun ps h1 W1 H1 vs q1 p1 x1 r1 => ?_⟩
    obtain ⟨xs, ⟨hl, q2⟩, r2⟩ := allD_ok r1 q1
    exact ⟨by rw [← r2.len]; exact hl, fin_tup p1 r2 (fun z h2 W2 H2 v q p2 x2 r => f z h2 W2 H2 v q p2 (x1.trans x2) r) q2⟩
theorem e_tupC {x1 : Nat} {r : GA} (h : EA X es r) : E X (.Tuple es x1 pos) (gTupC r) :=
  PE.weak (pe_tup h) fun τ H Q q => by
    obtain ⟨W, h, σ, post, p, g, q, f⟩ := q
    refine ⟨W, h, σ, _, p, g, q, fun ps h1 W1 H1 vs q1 p1 x1 r1 => ?_⟩
    obtain ⟨ms, ⟨hl, q2⟩, r2⟩ := allM_ok r1 q1
    refine ⟨by rw [← RMs.len r2]; exact hl, ?_⟩
    split at q2
    · rename_i xs ex
      exact fin_tup p1 (tcD_ok r2 ex) (fun z h2 W2 H2 v q p2 x2 r => f z h2 W2 H2 v q p2 (x1.trans x2) r) q2
    · intro a e
      exact f _ _ W1 _ _ q2 (p1.laid e) (x1.trans (Ext.laid p1 e)) ⟨a, vs, rfl, .inl ⟨.inl upd_same, p1.toPre0.free e⟩, RMs.ext (Ext.laid p1 e) r2⟩
theorem e_lst {r : GA} (h : EA X es r) : E X (.List es pos) (gLst r) :=
  PE.weak (pe_lst h) fun τ H Q q => by
    obtain ⟨W, h, σ, post, p, g, q, f⟩ := q
    refine ⟨W, h, σ, _, p, g, q, fun ps h1 W1 H1 vs q1 p1 x1 r1 => ?_⟩
    obtain ⟨xs, ⟨hl, q2⟩, r2⟩ := allD_ok r1 q1
    exact ⟨by rw [← r2.len]; exact hl, fin_lst p1 r2 (fun z h2 W2 H2 v q p2 x2 r => f z h2 W2 H2 v q p2 (x1.trans x2) r) q2⟩
theorem e_lstM {r : GA} (h : EA X es r) : E X (.List es pos) (gLstM r) :=
  PE.weak (pe_lst h) fun τ H Q q => by
    obtain ⟨W, h, σ, post, p, g, q, f⟩ := q
    refine ⟨W, h, σ, _, p, g, q, fun ps h1 W1 H1 vs q1 p1 x1 r1 => ?_⟩
    obtain ⟨xs, ⟨hl, q2⟩, r2⟩ := allD_ok r1 q1
    exact ⟨by rw [← r2.len]; exact hl, fin_cell p1 r2 (fun z h2 W2 H2 v q p2 x2 r => f z h2 W2 H2 v q p2 (x1.trans x2) r) q2⟩
end
end Sc

set_option Elab.async false
set_option linter.all false
set_option maxRecDepth 100000
/-! Sc3: operators and comparisons. -/
namespace Sc
open PySem PySem.Spec PyProof.Rows L2

theorem PL {K : KX} {W : Wd} {H : Hp} {x : D} {v : V} : RP K W H (.d x) v = RD K W.own W.rg H x v := rfl
/-- a product that the machine reckons -/
def MulX (i j : Int) : Prop := CMul i j ∨ CMulW i j
def DivX (j : Int) : Prop := 0 < j ∧ j.natAbs < 2 ^ 8000
theorem log2_lt {n k : Nat} (hk : 0 < k) (h : n < 2 ^ k) : n.log2 < k := by
  by_cases h0 : n = 0
  · subst h0; simpa using hk
  · exact (Nat.log2_lt h0).mpr h
theorem DivX.ok {i j : Int} (h : DivX j) : CDivW i j := wide_div (b := 8000) h.1 h.2 (by decide) (by decide)
def oAdd : G2 := fun x y h Q => match x, y with
  | .d (.int i), .d (.int j) => Q (.d (.int (i + j))) h
  | .d (.str a), .d (.str b) => a.length + b.length ≤ sizeLine ∧ Q (.d (.str (a ++ b))) h
  | .d (.tup a), .d (.tup b) => a.length + b.length ≤ sizeLine ∧ Q (.d (.tup (a ++ b))) h
  | x, y => match vL h x, vL h y with
    | some a, some b => a.length + b.length ≤ sizeLine ∧ Q (.d (.lst (a ++ b))) h
    | _, _ => False
def oAddM : G2 := fun x y h Q => match vL h x, vL h y with
    | some a, some b => a.length + b.length ≤ sizeLine ∧ addCell h (.lst (a ++ b)) fun k h2 => Q (.ref k) h2
    | _, _ => False
def oSub : G2 := fun x y h Q => match x, y with
  | .d (.int i), .d (.int j) => Q (.d (.int (i - j))) h
  | _, _ => False
def repD (k : Nat) (xs : List D) : List D := (List.replicate k xs).flatten
def oMul : G2 := fun x y h Q => match x, y with
  | .d (.int i), .d (.int j) => MulX i j ∧ Q (.d (.int (i * j))) h
  | x, .d (.int k) => match vL h x with
    | some a => (-(2 ^ 63) ≤ k ∧ k < 2 ^ 63 ∧ a.length * k.toNat ≤ sizeLine) ∧ Q (.d (.lst (repD k.toNat a))) h
    | none => False
  | _, _ => False
def oMulM : G2 := fun x y h Q => match y with
  | .d (.int k) => match vL h x with
    | some a => (-(2 ^ 63) ≤ k ∧ k < 2 ^ 63 ∧ a.length * k.toNat ≤ sizeLine) ∧ addCell h (.lst (repD k.toNat a)) fun k h2 => Q (.ref k) h2
    | none => False
  | _ => False
def oFdiv : G2 := fun x y h Q => match x, y with
  | .d (.int i), .d (.int j) => DivX j ∧ Q (.d (.int (i / j))) h
  | _, _ => False
def oMod : G2 := fun x y h Q => match x, y with
  | .d (.int i), .d (.int j) => 0 < j ∧ Q (.d (.int (i % j))) h
  | _, _ => False
def oPow : G2 := fun x y h Q => match x, y with
  | .d (.int i), .d (.int j) => CPow i j ∧ Q (.d (.int (i ^ j.toNat))) h
  | _, _ => False
def oShl : G2 := fun x y h Q => match x, y with
  | .d (.int i), .d (.int j) => CPow i j ∧ Q (.d (.int (i * 2 ^ j.toNat))) h
  | _, _ => False
def oShr : G2 := fun x y h Q => match x, y with
  | .d (.int i), .d (.int j) => 0 ≤ j ∧ Q (.d (.int (i / 2 ^ j.toNat))) h
  | _, _ => False
def oNeg (x : P) (h : Hl) (Q : P → Hl → Prop) : Prop := match x with
  | .d (.int i) => Q (.d (.int (-i))) h
  | _ => False
section
variable {X : CxE} {e a b : Expr} {pos : Pos} {t ta tb : GT}
theorem fin0 {K : KX} {W : Wd} {H : Hp} {h : Hl} {post : P → Hl → Prop} {Q : VK} {x : D} {v : V} (p : Pre K W H h) (f : Fin K W H post Q) (q : post (.d x) h) (r : RD K W.own W.rg H x v) : Q v H := f _ h W H v q p Ext.refl r
theorem OpR.sub {f : Value → Value → Sem Value} {r r' : R2} (h : OpR X f r) (w : ∀ x y H Q, r' x y H Q → r x y H Q) : OpR X f r' := fun pins s σ H x y v u Q I rx ry q => h pins s σ H x y v u Q I rx ry (w _ _ _ _ q)
theorem int_of {K : KX} {W : Wd} {H : Hp} {i : Int} {v : V} (r : RP K W H (.d (.int i)) v) : v = .int i := by simpa only [RP, RD] using r
theorem str_of {K : KX} {W : Wd} {H : Hp} {i : Str} {v : V} (r : RP K W H (.d (.str i)) v) : v = .str i := by simpa only [RP, RD] using r
theorem bl_of {K : KX} {W : Wd} {H : Hp} {i : Bool} {v : V} (r : RP K W H (.d (.bl i)) v) : v = .bl i := by simpa only [RP, RD] using r
theorem non_of {K : KX} {W : Wd} {H : Hp} {v : V} (r : RP K W H (.d .non) v) : v = .non := by simpa only [RP, RD] using r
theorem rd_int {K : KX} {own : Addr → Prop} {rg : List (Addr × Addr)} {H : Hp} {i : Int} : RD K own rg H (.int i) (.int i) := by simp only [RD]
theorem rd_str {K : KX} {own : Addr → Prop} {rg : List (Addr × Addr)} {H : Hp} {i : Str} : RD K own rg H (.str i) (.str i) := by simp only [RD]
theorem rd_bl {K : KX} {own : Addr → Prop} {rg : List (Addr × Addr)} {H : Hp} {i : Bool} : RD K own rg H (.bl i) (.bl i) := by simp only [RD]
theorem rd_non {K : KX} {own : Addr → Prop} {rg : List (Addr × Addr)} {H : Hp} : RD K own rg H .non .non := by simp only [RD]
theorem og_add : OpR X (binaryOp .Add) (up2 X.kx oAdd) := by
  refine OpR.sub (((op_add.or op_add_str).or op_catA).or op_cat) ?_
  rintro v w H Q ⟨W, h, x, y, post, p, rx, ry, q, f⟩
  unfold oAdd at q
  split at q
  · rw [int_of rx, int_of ry]
    exact .inl (.inl (.inl ⟨_, _, rfl, rfl, fin0 p f q rd_int⟩))
  · rw [str_of rx, str_of ry]
    exact .inl (.inl (.inr ⟨_, _, rfl, rfl, q.1, fin0 p f q.2 rd_str⟩))
  · rw [PL] at rx ry
    have rx0 := rx
    have ry0 := ry
    simp only [RD] at rx ry
    obtain ⟨a, ys, rfl, q1, s1⟩ := rx
    obtain ⟨b, zs, rfl, q2, s2⟩ := ry
    refine .inl (.inr ⟨a, b, ys, zs, rfl, rfl, q1.sq, q2.sq, by rw [← s1.len, ← s2.len]; exact q.1, ?_⟩)
    have l1 := s1.len
    have l2 := s2.len
    rename_i as bs
    by_cases e1 : ys = []
    · have ea : as = [] := by
        subst e1
        exact List.length_eq_zero_iff.mp l1
      subst ea
      refine ⟨fun _ => ?_, fun n => (n e1).elim, fun n => (n e1).elim⟩
      exact fin0 p f q.2 ry0
    · refine ⟨fun n => (e1 n).elim, fun _ e2 => ?_, fun _ e2 => ?_⟩
      · have eb : bs = [] := by
          subst e2
          exact List.length_eq_zero_iff.mp l2
        subst eb
        rw [List.append_nil] at q
        exact fin0 p f q.2 rx0
      · exact fin_tup p (s1.app s2) f q.2
  · split at q
    · rename_i as bs e1 e2
      obtain ⟨a, ys, rfl, h1, s1⟩ := vL_ok p e1 rx
      obtain ⟨b, zs, rfl, h2, s2⟩ := vL_ok p e2 ry
      exact .inr ⟨a, b, ys, zs, rfl, rfl, h1, h2, by rw [← s1.len, ← s2.len]; exact q.1, fin_lst p (s1.app s2) f q.2⟩
    · exact q.elim
theorem og_addM : OpR X (binaryOp .Add) (up2 X.kx oAddM) := by
  refine OpR.sub op_cat ?_
  rintro v w H Q ⟨W, h, x, y, post, p, rx, ry, q, f⟩
  unfold oAddM at q
  split at q
  · rename_i as bs e1 e2
    obtain ⟨a, ys, rfl, h1, s1⟩ := vL_ok p e1 rx
    obtain ⟨b, zs, rfl, h2, s2⟩ := vL_ok p e2 ry
    exact ⟨a, b, ys, zs, rfl, rfl, h1, h2, by rw [← s1.len, ← s2.len]; exact q.1, fin_cell p (s1.app s2) f q.2⟩
  · exact q.elim
theorem og_sub : OpR X (binaryOp .Sub) (up2 X.kx oSub) := by
  refine OpR.sub op_sub ?_
  rintro v w H Q ⟨W, h, x, y, post, p, rx, ry, q, f⟩
  unfold oSub at q
  split at q
  · rw [int_of rx, int_of ry]
    exact ⟨_, _, rfl, rfl, fin0 p f q rd_int⟩
  · exact q.elim
theorem RDs.repl {K : KX} {own : Addr → Prop} {rg : List (Addr × Addr)} {H : Hp} {xs : List D} {ys : List V} (r : RDs K own rg H xs ys) : ∀ k : Nat, RDs K own rg H (repD k xs) ((List.replicate k ys).flatten)
  | 0 => RDs.nil
  | k + 1 => by
    unfold repD
    rw [List.replicate_succ, List.replicate_succ, List.flatten_cons, List.flatten_cons]
    exact r.app (RDs.repl r k)
theorem og_mul : OpR X (binaryOp .Mult) (up2 X.kx oMul) := by
  refine OpR.sub ((op_mul.or op_mulW).or op_rep) ?_
  rintro v w H Q ⟨W, h, x, y, post, p, rx, ry, q, f⟩
  unfold oMul at q
  split at q
  · rw [int_of rx, int_of ry]
    rcases q.1 with c | c
    · exact .inl (.inl ⟨_, _, rfl, rfl, c, fin0 p f q.2 rd_int⟩)
    · exact .inl (.inr ⟨_, _, rfl, rfl, c, fin0 p f q.2 rd_int⟩)
  · split at q
    · rename_i as e1
      obtain ⟨a, ys, rfl, h1, s1⟩ := vL_ok p e1 rx
      rw [int_of ry]
      exact .inr ⟨a, _, ys, rfl, rfl, h1, q.1.1, q.1.2.1, by rw [← s1.len]; exact q.1.2.2, fin_lst p (s1.repl _) f q.2⟩
    · exact q.elim
  · exact q.elim
theorem og_mulM : OpR X (binaryOp .Mult) (up2 X.kx oMulM) := by
  refine OpR.sub op_rep ?_
  rintro v w H Q ⟨W, h, x, y, post, p, rx, ry, q, f⟩
  unfold oMulM at q
  split at q
  · split at q
    · rename_i as e1
      obtain ⟨a, ys, rfl, h1, s1⟩ := vL_ok p e1 rx
      rw [int_of ry]
      exact ⟨a, _, ys, rfl, rfl, h1, q.1.1, q.1.2.1, by rw [← s1.len]; exact q.1.2.2, fin_cell p (s1.repl _) f q.2⟩
    · exact q.elim
  · exact q.elim
theorem og_fdiv : OpR X (binaryOp .FloorDiv) (up2 X.kx oFdiv) := by
  refine OpR.sub op_fdivW ?_
  rintro v w H Q ⟨W, h, x, y, post, p, rx, ry, q, f⟩
  unfold oFdiv at q
  split at q
  · rw [int_of rx, int_of ry]
    exact ⟨_, _, rfl, rfl, q.1.ok, fin0 p f q.2 rd_int⟩
  · exact q.elim
theorem og_mod : OpR X (binaryOp .Mod) (up2 X.kx oMod) := by
  refine OpR.sub op_mod ?_
  rintro v w H Q ⟨W, h, x, y, post, p, rx, ry, q, f⟩
  unfold oMod at q
  split at q
  · rw [int_of rx, int_of ry]
    exact ⟨_, _, rfl, rfl, q.1, fin0 p f q.2 rd_int⟩
  · exact q.elim
theorem og_pow : OpR X (binaryOp .Pow) (up2 X.kx oPow) := by
  refine OpR.sub op_pow ?_
  rintro v w H Q ⟨W, h, x, y, post, p, rx, ry, q, f⟩
  unfold oPow at q
  split at q
  · rw [int_of rx, int_of ry]
    exact ⟨_, _, rfl, rfl, q.1, fin0 p f q.2 rd_int⟩
  · exact q.elim
theorem og_shl : OpR X (binaryOp .LShift) (up2 X.kx oShl) := by
  refine OpR.sub op_shl ?_
  rintro v w H Q ⟨W, h, x, y, post, p, rx, ry, q, f⟩
  unfold oShl at q
  split at q
  · rw [int_of rx, int_of ry]
    exact ⟨_, _, rfl, rfl, q.1, fin0 p f q.2 rd_int⟩
  · exact q.elim
theorem og_shr : OpR X (binaryOp .RShift) (up2 X.kx oShr) := by
  refine OpR.sub op_shr ?_
  rintro v w H Q ⟨W, h, x, y, post, p, rx, ry, q, f⟩
  unfold oShr at q
  split at q
  · rw [int_of rx, int_of ry]
    exact ⟨_, _, rfl, rfl, q.1, fin0 p f q.2 rd_int⟩
  · exact q.elim
def gUn (o : P → Hl → (P → Hl → Prop) → Prop) (t : GT) : GT := fun σ h Q => t σ h fun x h1 => o x h1 Q
theorem e_neg (ha : E X a t) : E X (.UnaryOp .USub a pos) (gUn oNeg t) :=
  PE.weak (pe_un un_neg ha) fun τ H Q q => by
    obtain ⟨W, h, σ, post, p, g, q, f⟩ := q
    refine ⟨W, h, σ, _, p, g, q, fun x h1 W1 H1 v q1 p1 x1 r1 => ?_⟩
    unfold oNeg at q1
    split at q1
    · rw [int_of r1]
      exact ⟨_, rfl, f _ h1 W1 H1 _ q1 p1 x1 (rd_int : RD X.kx W1.own W1.rg H1 _ _)⟩
    · exact q1.elim

/-! ### comparisons -/
mutual
def D.py : D → PyData
  | .non => .none
  | .bl b => .bool b
  | .int i => .int i
  | .str x => .str x
  | .tup xs => .tuple (D.pys xs)
  | .lst xs => .list (D.pys xs)
  | .klst xs => .list (D.pys xs)
  | .rng => .none
def D.pys : List D → List PyData
  | [] => []
  | x :: xs => x.py :: D.pys xs
end
mutual
/-- no state of draws in it, and not deeper than n -/
def D.flat : Nat → D → Bool
  | _, .non => true
  | _, .bl _ => true
  | _, .int _ => true
  | _, .str _ => true
  | n, .tup xs => n != 0 && D.flats (n - 1) xs
  | n, .lst xs => n != 0 && D.flats (n - 1) xs
  | n, .klst xs => n != 0 && D.flats (n - 1) xs
  | _, .rng => false
def D.flats : Nat → List D → Bool
  | _, [] => true
  | n, x :: xs => D.flat n x && D.flats n xs
end
def D.eqv (x y : D) : Bool := PyData.eqv x.py y.py
end
end Sc

set_option Elab.async false
set_option linter.all false
set_option maxRecDepth 100000
/-! Sc4: comparisons, subscripts, slices, built-in calls, methods of lists. -/
namespace Sc
open PySem PySem.Spec PyProof.Rows L2

mutual
/-- every text in it is a text of code points -/
def D.okS : D → Bool
  | .str x => PyData.strOk x
  | .tup xs => D.okSs xs
  | .lst xs => D.okSs xs
  | .klst xs => D.okSs xs
  | _ => true
def D.okSs : List D → Bool
  | [] => true
  | x :: xs => D.okS x && D.okSs xs
end
mutual
theorem py_lay : ∀ (n : Nat) (x : D), x.flat n = true → x.okS = true → x.py.canLay0 = true ∧ x.py.depth ≤ n
  | n, .non, _, _ => ⟨rfl, Nat.zero_le _⟩
  | n, .bl _, _, _ => ⟨rfl, Nat.zero_le _⟩
  | n, .int _, _, _ => ⟨rfl, Nat.zero_le _⟩
  | n, .str x, _, h => ⟨by simpa [D.py, PyData.canLay0, D.okS] using h, Nat.zero_le _⟩
  | n, .tup xs, h, k => by
    simp only [D.flat, Bool.and_eq_true, bne_iff_ne, ne_eq, D.okS] at h k
    obtain ⟨a, b⟩ := pys_lay (n - 1) xs h.2 k
    simp only [D.py, PyData.canLay0, PyData.depth]
    exact ⟨a, by omega⟩
  | n, .lst xs, h, k => by
    simp only [D.flat, Bool.and_eq_true, bne_iff_ne, ne_eq, D.okS] at h k
    obtain ⟨a, b⟩ := pys_lay (n - 1) xs h.2 k
    simp only [D.py, PyData.canLay0, PyData.depth]
    exact ⟨a, by omega⟩
  | n, .klst xs, h, k => by
    simp only [D.flat, Bool.and_eq_true, bne_iff_ne, ne_eq, D.okS] at h k
    obtain ⟨a, b⟩ := pys_lay (n - 1) xs h.2 k
    simp only [D.py, PyData.canLay0, PyData.depth]
    exact ⟨a, by omega⟩
  | n, .rng, h, _ => by simp [D.flat] at h
theorem pys_lay : ∀ (n : Nat) (xs : List D), D.flats n xs = true → D.okSs xs = true → PyData.canLayAll0 (D.pys xs) = true ∧ PyData.depthAll (D.pys xs) ≤ n
  | n, [], _, _ => ⟨rfl, Nat.zero_le _⟩
  | n, x :: xs, h, k => by
    simp only [D.flats, D.okSs, Bool.and_eq_true] at h k
    obtain ⟨a, b⟩ := py_lay n x h.1 k.1
    obtain ⟨c, d⟩ := pys_lay n xs h.2 k.2
    simp only [D.pys, PyData.canLayAll0, PyData.depthAll, Bool.and_eq_true]
    exact ⟨⟨a, c⟩, by omega⟩
end
/-- data that the machine compares -/
structure Cmp (x : D) : Prop where
  f : x.flat 60 = true
  s : x.okS = true
theorem Cmp.shaped {x : D} (c : Cmp x) : SeqAt.shaped x.py = true := by
  obtain ⟨a, b⟩ := py_lay 60 x c.f c.s
  unfold SeqAt.shaped
  rw [a]
  simp only [Bool.true_and, decide_eq_true_eq]
  omega
mutual
theorem RD.dp {K : KX} {own : Addr → Prop} {rg : List (Addr × Addr)} {H : Hp} : ∀ (n : Nat) (x : D) (v : V), RD K own rg H x v → x.flat n = true → Dp K H v x.py
  | _, .non, _, r, _ => by simp only [RD] at r; subst r; exact .non
  | _, .bl b, _, r, _ => by simp only [RD] at r; subst r; exact .bl b
  | _, .int b, _, r, _ => by simp only [RD] at r; subst r; exact .int b
  | _, .str b, _, r, _ => by simp only [RD] at r; subst r; exact .str b
  | n, .tup xs, _, r, f => by
    simp only [RD] at r
    simp only [D.flat, Bool.and_eq_true] at f
    obtain ⟨a, ys, rfl, q, s⟩ := r
    simp only [D.py]
    exact .tup q.sq (RDs.dp (n - 1) xs ys s f.2)
  | n, .lst xs, _, r, f => by
    simp only [RD] at r
    simp only [D.flat, Bool.and_eq_true] at f
    obtain ⟨a, ys, rfl, q, s⟩ := r
    simp only [D.py]
    exact .lst q.sq (RDs.dp (n - 1) xs ys s f.2)
  | n, .klst xs, _, r, f => by
    simp only [RD] at r
    simp only [D.flat, Bool.and_eq_true] at f
    obtain ⟨a, ys, rfl, q, s⟩ := r
    simp only [D.py]
    exact .lst q.sq (RDs.dp (n - 1) xs ys s f.2)
  | _, .rng, _, _, f => by simp [D.flat] at f
theorem RDs.dp {K : KX} {own : Addr → Prop} {rg : List (Addr × Addr)} {H : Hp} : ∀ (n : Nat) (xs : List D) (vs : List V), RDs K own rg H xs vs → D.flats n xs = true → DpAll K H vs (D.pys xs)
  | _, [], _, r, _ => by simp only [RDs] at r; subst r; exact .nil
  | n, x :: xs, _, r, f => by
    simp only [RDs] at r
    simp only [D.flats, Bool.and_eq_true] at f
    obtain ⟨y, q, rfl, r, s⟩ := r
    simp only [D.pys]
    exact .cons (RD.dp n x y r f.1) (RDs.dp n xs q s f.2)
end
theorem vD_dp {K : KX} {W : Wd} {H : Hp} {h : Hl} (p : Pre K W H h) {x : P} {d : D} {v : V} (e : vD h x = some d) (r : RP K W H x v) (c : Cmp d) : Dp K H v d.py := by
  cases x with
  | ex => cases e
  | tc => cases e
  | d x =>
    simp only [vD, Option.some.injEq] at e
    subst e
    exact RD.dp _ _ _ r c.f
  | ref k =>
    simp only [vD] at e
    split at e
    · rename_i xs q
      simp only [Option.some.injEq] at e
      subst e
      obtain ⟨a, ys, rfl, _, h2, h3⟩ := cell_ok p q r
      have f := c.f
      simp only [D.flat, Bool.and_eq_true] at f
      simp only [D.py]
      exact .lst (SqL.of h2) (RDs.dp _ _ _ h3 f.2)
    · cases e
def oEq : G2 := fun x y h Q => match x, y with
  | .d (.int i), .d (.int j) => Q (.d (.bl (decide (i = j)))) h
  | .d (.str i), .d (.str j) => Q (.d (.bl (decide (i = j)))) h
  | .d (.bl i), .d (.bl j) => Q (.d (.bl (decide (i = j)))) h
  | x, y => match vD h x, vD h y with
    | some a, some b => (Cmp a ∧ Cmp b) ∧ Q (.d (.bl (D.eqv a b))) h
    | _, _ => False
def oNe : G2 := fun x y h Q => match x, y with
  | .d (.int i), .d (.int j) => Q (.d (.bl (!decide (i = j)))) h
  | .d (.str i), .d (.str j) => Q (.d (.bl (!decide (i = j)))) h
  | .d (.bl i), .d (.bl j) => Q (.d (.bl (!decide (i = j)))) h
  | x, y => match vD h x, vD h y with
    | some a, some b => (Cmp a ∧ Cmp b) ∧ Q (.d (.bl (!D.eqv a b))) h
    | _, _ => False
def oLt : G2 := fun x y h Q => match x, y with
  | .d (.int i), .d (.int j) => Q (.d (.bl (decide (i < j)))) h
  | _, _ => False
def oLe : G2 := fun x y h Q => match x, y with
  | .d (.int i), .d (.int j) => Q (.d (.bl (decide (i ≤ j)))) h
  | _, _ => False
def oGt : G2 := fun x y h Q => match x, y with
  | .d (.int i), .d (.int j) => Q (.d (.bl (decide (j < i)))) h
  | _, _ => False
def oGe : G2 := fun x y h Q => match x, y with
  | .d (.int i), .d (.int j) => Q (.d (.bl (decide (j ≤ i)))) h
  | _, _ => False
def isNon : P → Bool
  | .d .non => true
  | _ => false
def oIs : G2 := fun x y h Q => match y with
  | .d .non => Q (.d (.bl (isNon x))) h
  | _ => False
def oIsNot : G2 := fun x y h Q => match y with
  | .d .non => Q (.d (.bl (!isNon x))) h
  | _ => False
def strIn (a b : Str) : Bool := !(Builtin.Str.occurrences b a 0 b.length 1).isEmpty
def D.scal : D → Bool
  | .non => true
  | .bl _ => true
  | .int _ => true
  | .str _ => true
  | _ => false
def inD (x : D) (xs : List D) : Bool := xs.any fun y => D.eqv y x
/-- x in xs: of flat things over any sequence; of any data over a list -/
def InOk (x : D) (y : P) (xs : List D) : Prop := (x.scal = true ∧ xs.all D.scal = true) ∨ (Cmp x ∧ Cmp (.lst xs) ∧ ∀ zs, y ≠ .d (.tup zs))
def oIn : G2 := fun x y h Q => match x, y with
  | .d (.str a), .d (.str b) => Q (.d (.bl (strIn a b))) h
  | .d x, y => match vS h y with
    | some xs => InOk x y xs ∧ Q (.d (.bl (inD x xs))) h
    | none => False
  | _, _ => False
def oNotIn : G2 := fun x y h Q => match x, y with
  | .d (.str a), .d (.str b) => Q (.d (.bl (!strIn a b))) h
  | .d x, y => match vS h y with
    | some xs => InOk x y xs ∧ Q (.d (.bl (!inD x xs))) h
    | none => False
  | _, _ => False
section
variable {X : CxE}
theorem og_eq (hu : X.A.units + 64 < cLine) : OpR X (compareOp .Eq) (up2 X.kx oEq) := by
  refine OpR.sub (op_eq.or (op_eqD hu)) ?_
  rintro v w H Q ⟨W, h, x, y, post, p, rx, ry, q, f⟩
  unfold oEq at q
  split at q
  · rw [int_of rx, int_of ry]
    refine .inl ⟨rfl, ?_⟩
    rw [dec_int]
    exact fin0 p f (by simpa [beq_iff_eq, Bool.beq_eq_decide_eq] using q) rd_bl
  · rw [str_of rx, str_of ry]
    refine .inl ⟨rfl, ?_⟩
    rw [dec_str]
    exact fin0 p f (by simpa [beq_iff_eq, Bool.beq_eq_decide_eq] using q) rd_bl
  · rw [bl_of rx, bl_of ry]
    refine .inl ⟨rfl, ?_⟩
    rw [dec_bl]
    exact fin0 p f (by simpa [beq_iff_eq, Bool.beq_eq_decide_eq] using q) rd_bl
  · split at q
    · rename_i a b e1 e2
      exact .inr ⟨_, _, vD_dp p e1 rx q.1.1, vD_dp p e2 ry q.1.2, q.1.1.shaped, q.1.2.shaped, fin0 p f q.2 rd_bl⟩
    · exact q.elim
theorem og_ne (hu : X.A.units + 64 < cLine) : OpR X (compareOp .NotEq) (up2 X.kx oNe) := by
  refine OpR.sub (op_ne.or (op_neD hu)) ?_
  rintro v w H Q ⟨W, h, x, y, post, p, rx, ry, q, f⟩
  unfold oNe at q
  split at q
  · rw [int_of rx, int_of ry]
    refine .inl ⟨rfl, ?_⟩
    rw [dec_int]
    exact fin0 p f (by simpa [beq_iff_eq, Bool.beq_eq_decide_eq] using q) rd_bl
  · rw [str_of rx, str_of ry]
    refine .inl ⟨rfl, ?_⟩
    rw [dec_str]
    exact fin0 p f (by simpa [beq_iff_eq, Bool.beq_eq_decide_eq] using q) rd_bl
  · rw [bl_of rx, bl_of ry]
    refine .inl ⟨rfl, ?_⟩
    rw [dec_bl]
    exact fin0 p f (by simpa [beq_iff_eq, Bool.beq_eq_decide_eq] using q) rd_bl
  · split at q
    · rename_i a b e1 e2
      exact .inr ⟨_, _, vD_dp p e1 rx q.1.1, vD_dp p e2 ry q.1.2, q.1.1.shaped, q.1.2.shaped, fin0 p f q.2 rd_bl⟩
    · exact q.elim
theorem og_lt : OpR X (compareOp .Lt) (up2 X.kx oLt) := by
  refine OpR.sub op_lt ?_
  rintro v w H Q ⟨W, h, x, y, post, p, rx, ry, q, f⟩
  unfold oLt at q
  split at q
  · rw [int_of rx, int_of ry]
    exact ⟨_, _, rfl, rfl, fin0 p f q rd_bl⟩
  · exact q.elim
theorem og_le : OpR X (compareOp .LtE) (up2 X.kx oLe) := by
  refine OpR.sub op_le ?_
  rintro v w H Q ⟨W, h, x, y, post, p, rx, ry, q, f⟩
  unfold oLe at q
  split at q
  · rw [int_of rx, int_of ry]
    exact ⟨_, _, rfl, rfl, fin0 p f q rd_bl⟩
  · exact q.elim
theorem og_gt : OpR X (compareOp .Gt) (up2 X.kx oGt) := by
  refine OpR.sub op_gt ?_
  rintro v w H Q ⟨W, h, x, y, post, p, rx, ry, q, f⟩
  unfold oGt at q
  split at q
  · rw [int_of rx, int_of ry]
    exact ⟨_, _, rfl, rfl, fin0 p f q rd_bl⟩
  · exact q.elim
theorem og_ge : OpR X (compareOp .GtE) (up2 X.kx oGe) := by
  refine OpR.sub op_ge ?_
  rintro v w H Q ⟨W, h, x, y, post, p, rx, ry, q, f⟩
  unfold oGe at q
  split at q
  · rw [int_of rx, int_of ry]
    exact ⟨_, _, rfl, rfl, fin0 p f q rd_bl⟩
  · exact q.elim
theorem isNon_ok {K : KX} {W : Wd} {H : Hp} {x : P} {v : V} (r : RP K W H x v) : decide (v = .non) = isNon x := by
  cases x with
  | ex =>
    rw [r.1]
    rfl
  | tc => obtain ⟨a, ys, rfl, _⟩ := r; rfl
  | d x =>
    cases x with
    | non => rw [non_of r]; rfl
    | bl b => rw [bl_of r]; rfl
    | int b => rw [int_of r]; rfl
    | str b => rw [str_of r]; rfl
    | rng => simp only [RP, RD] at r; obtain ⟨a, g, rfl, _⟩ := r; rfl
    | _ => simp only [RP, RD] at r; obtain ⟨a, ys, rfl, _⟩ := r; rfl
  | ref k => obtain ⟨a, rfl, _⟩ := r; rfl
theorem og_is : OpR X (compareOp .Is) (up2 X.kx oIs) := by
  refine OpR.sub op_isN ?_
  rintro v w H Q ⟨W, h, x, y, post, p, rx, ry, q, f⟩
  unfold oIs at q
  split at q
  · refine ⟨non_of ry, ?_⟩
    rw [isNon_ok rx]
    exact fin0 p f q rd_bl
  · exact q.elim
theorem og_isnot : OpR X (compareOp .IsNot) (up2 X.kx oIsNot) := by
  refine OpR.sub op_notN ?_
  rintro v w H Q ⟨W, h, x, y, post, p, rx, ry, q, f⟩
  unfold oIsNot at q
  split at q
  · refine ⟨non_of ry, ?_⟩
    rw [isNon_ok rx]
    exact fin0 p f q rd_bl
  · exact q.elim
theorem scal_flat {K : KX} {own : Addr → Prop} {rg : List (Addr × Addr)} {H : Hp} {x : D} {v : V} (r : RD K own rg H x v) (s : x.scal = true) : flatV v = true := by
  cases x <;> simp only [RD] at r <;> first | (subst r; rfl) | (simp [D.scal] at s)
theorem eqv_V {K : KX} {own : Addr → Prop} {rg : List (Addr × Addr)} {H : Hp} {x y : D} {v w : V} (r : RD K own rg H x v) (s : x.scal = true) (r2 : RD K own rg H y w) (s2 : y.scal = true) : eqV v w = D.eqv x y := by
  cases x <;> simp only [RD] at r <;> first | (simp [D.scal] at s; done) | (subst r; cases y <;> simp only [RD] at r2 <;> first | (simp [D.scal] at s2; done) | (subst r2; simp [eqV, D.eqv, D.py, PyData.eqv]))
theorem scals_flat {K : KX} {own : Addr → Prop} {rg : List (Addr × Addr)} {H : Hp} : ∀ {xs : List D} {vs : List V}, RDs K own rg H xs vs → xs.all D.scal = true → vs.all flatV = true
  | [], _, r, _ => by simp only [RDs] at r; subst r; rfl
  | x :: xs, _, r, s => by
    simp only [RDs] at r
    obtain ⟨y, q, rfl, r, t⟩ := r
    simp only [List.all_cons, Bool.and_eq_true] at s ⊢
    exact ⟨scal_flat r s.1, scals_flat t s.2⟩
theorem inD_V {K : KX} {own : Addr → Prop} {rg : List (Addr × Addr)} {H : Hp} {x : D} {v : V} (rx : RD K own rg H x v) (sx : x.scal = true) : ∀ {xs : List D} {vs : List V}, RDs K own rg H xs vs → xs.all D.scal = true → inV v vs = inD x xs
  | [], _, r, _ => by simp only [RDs] at r; subst r; rfl
  | z :: xs, _, r, s => by
    simp only [RDs] at r
    obtain ⟨y, q, rfl, r, t⟩ := r
    simp only [List.all_cons, Bool.and_eq_true] at s
    have h1 := eqv_V r s.1 rx sx
    have h2 := inD_V rx sx t s.2
    unfold inV inD at h2 ⊢
    rw [List.any_cons, List.any_cons, h1, h2]
theorem pys_any (x : D) : ∀ xs : List D, ((D.pys xs).any fun z => PyData.eqv z x.py) = inD x xs
  | [] => rfl
  | y :: ys => by
    have := pys_any x ys
    unfold inD at this ⊢
    simp only [D.pys, List.any_cons, this]
    rfl
theorem in_dp {K : KX} {W : Wd} {H : Hp} {h : Hl} (p : Pre K W H h) {y : P} {xs : List D} {w : V} (e : vS h y = some xs) (r : RP K W H y w) (c : Cmp (.lst xs)) (n : ∀ zs, y ≠ .d (.tup zs)) : Dp K H w (D.lst xs).py := by
  have f := c.f
  simp only [D.flat, Bool.and_eq_true] at f
  obtain ⟨a, ys, rfl, q, s⟩ := vS_ok p e r
  simp only [D.py]
  cases y with
  | ex => cases e
  | tc => cases e
  | d y =>
    cases y with
    | lst zs =>
      simp only [vS, Option.some.injEq] at e
      subst e
      simp only [RP, RD] at r
      obtain ⟨a', ys', e', q', s'⟩ := r
      cases e'
      exact .lst q'.sq (RDs.dp _ _ _ s' f.2)
    | klst zs =>
      simp only [vS, Option.some.injEq] at e
      subst e
      simp only [RP, RD] at r
      obtain ⟨a', ys', e', q', s'⟩ := r
      cases e'
      exact .lst q'.sq (RDs.dp _ _ _ s' f.2)
    | tup zs => exact (n zs rfl).elim
    | _ => simp [vS] at e
  | ref k =>
    simp only [vS] at e
    split at e
    · rename_i q2
      cases e
      obtain ⟨a', ys', e', _, h2, h3⟩ := cell_ok p q2 r
      cases e'
      exact .lst (SqL.of h2) (RDs.dp _ _ _ h3 f.2)
    · cases e
theorem og_in (hu : X.A.units + 65 < cLine) : OpR X (compareOp .In) (up2 X.kx oIn) := by
  refine OpR.sub ((op_in_str.or op_in_seq).or (op_inD hu)) ?_
  rintro v w H Q ⟨W, h, x, y, post, p, rx, ry, q, f⟩
  unfold oIn at q
  split at q
  · rw [str_of rx, str_of ry]
    exact .inl (.inl ⟨_, _, rfl, rfl, fin0 p f q rd_bl⟩)
  · split at q
    · rename_i xs e1
      rcases q.1 with ⟨s1, s2⟩ | ⟨c1, c2, n⟩
      · obtain ⟨a, ys, rfl, q2, s⟩ := vS_ok p e1 ry
        refine .inl (.inr ⟨a, ys, rfl, q2, scal_flat rx s1, scals_flat s s2, ?_⟩)
        rw [if_neg (by simp), inD_V rx s1 s s2]
        exact fin0 p f q.2 rd_bl
      · refine .inr ⟨_, _, RD.dp _ _ _ rx c1.f, in_dp p e1 ry c2 n, c1.shaped, c2.shaped, ?_⟩
        rw [pys_any]
        exact fin0 p f q.2 rd_bl
    · exact q.elim
  · exact q.elim
theorem og_notin (hu : X.A.units + 65 < cLine) : OpR X (compareOp .NotIn) (up2 X.kx oNotIn) := by
  refine OpR.sub ((op_notin_str.or op_notIn_seq).or (op_notInD hu)) ?_
  rintro v w H Q ⟨W, h, x, y, post, p, rx, ry, q, f⟩
  unfold oNotIn at q
  split at q
  · rw [str_of rx, str_of ry]
    exact .inl (.inl ⟨_, _, rfl, rfl, fin0 p f q rd_bl⟩)
  · split at q
    · rename_i xs e1
      rcases q.1 with ⟨s1, s2⟩ | ⟨c1, c2, n⟩
      · obtain ⟨a, ys, rfl, q2, s⟩ := vS_ok p e1 ry
        refine .inl (.inr ⟨a, ys, rfl, q2, scal_flat rx s1, scals_flat s s2, ?_⟩)
        rw [if_pos rfl, inD_V rx s1 s s2]
        exact fin0 p f q.2 rd_bl
      · refine .inr ⟨_, _, RD.dp _ _ _ rx c1.f, in_dp p e1 ry c2 n, c1.shaped, c2.shaped, ?_⟩
        rw [pys_any]
        exact fin0 p f q.2 rd_bl
    · exact q.elim
  · exact q.elim

/-! ### subscripts, slices -/
def getD? (xs : List D) (i : Int) : Option D := atI xs i
/-- the item at an int -/
structure At (xs : List D) (i : Int) (k : D → Prop) : Prop where
  ex : ∃ x, atI xs i = some x ∧ k x
/-- the i-th member of a tuple that holds cells -/
def nthM : List Mb → Nat → Option P
  | [], _ => none
  | .d x :: _, 0 => some (.d x)
  | .r k :: _, 0 => some (.ref k)
  | _ :: r, n + 1 => nthM r n
theorem nthM_ok {K : KX} {W : Wd} {H : Hp} : ∀ {ms : List Mb} {ys : List V} {n : Nat} {p : P}, RMs K W H ms ys → nthM ms n = some p → ∃ v, ys[n]? = some v ∧ RP K W H p v
  | [], _, _, _, _, e => by simp [nthM] at e
  | .d x :: _, _, 0, _, ⟨v, r, e1, h1, _⟩, e => by simp only [nthM, Option.some.injEq] at e; subst e e1; exact ⟨v, by simp, h1⟩
  | .r k :: _, _, 0, _, ⟨v, r, e1, h1, _⟩, e => by simp only [nthM, Option.some.injEq] at e; subst e e1; exact ⟨v, by simp, h1⟩
  | m :: ms, _, n + 1, pp, ⟨v, r, e1, _, h2⟩, e => by
    subst e1
    have e' : nthM ms n = some pp := by cases m <;> exact e
    obtain ⟨w, h3, h4⟩ := nthM_ok h2 e'
    exact ⟨w, by simpa using h3, h4⟩
def oIx : G2 := fun x y h Q => match x, y with
  | .tc ms, .d (.int i) => match i with
    | .ofNat n => match nthM ms n with
      | some p => Q p h
      | none => False
    | _ => False
  | .d (.str z), .d (.int i) => z.length ≤ sizeLine ∧ ∃ c, atI z.cps.toList i = some c ∧ Q (.d (.str ⟨#[c]⟩)) h
  | x, .d (.int i) => match vS h x with
    | some xs => At xs i fun z => Q (.d z) h
    | none => False
  | _, _ => False
theorem RDs.atI {K : KX} {own : Addr → Prop} {rg : List (Addr × Addr)} {H : Hp} {xs : List D} {vs : List V} {i : Int} {x : D} (r : RDs K own rg H xs vs) (e : L2.atI xs i = some x) : ∃ v, L2.atI vs i = some v ∧ RD K own rg H x v := by
  unfold L2.atI at e ⊢
  rw [← r.len]
  cases hi : ixN xs.length i with
  | none => rw [hi] at e; cases e
  | some j =>
    rw [hi] at e
    exact r.get (show xs[j]? = some x from e)
theorem IxR.sub {r r' : R2} (h : IxR X r) (w : ∀ x y H Q, r' x y H Q → r x y H Q) : IxR X r' := fun va sl pins s σ H x y v u Q I rx ry q e => h va sl pins s σ H x y v u Q I rx ry (w _ _ _ _ q) e
theorem og_ix : IxR X (up2 X.kx oIx) := by
  refine IxR.sub ix_seq ?_
  rintro v w H Q ⟨W, h, x, y, post, p, rx, ry, q, f⟩
  unfold oIx at q
  split at q
  · split at q
    · rename_i n
      split at q
      · rename_i pm em
        obtain ⟨a, ys, rfl, q2, s⟩ := rx
        obtain ⟨v, e3, r3⟩ := nthM_ok s em
        rw [int_of ry]
        refine .inr (.inl ⟨a, ys, _, v, rfl, rfl, q2.sq, ?_, f _ h W H v q p Ext.refl r3⟩)
        unfold L2.atI
        have hn : n < ys.length := (List.getElem?_eq_some_iff.mp e3).1
        have : ixN ys.length (Int.ofNat n) = some n := by
          unfold ixN
          rw [if_pos (show (0 : Int) ≤ Int.ofNat n from Int.natCast_nonneg n), if_pos (show (Int.ofNat n) < (ys.length : Int) from Int.ofNat_lt.mpr hn)]
          rfl
        rw [this]
        exact e3
      · exact q.elim
    · exact q.elim
  · obtain ⟨hz, c, e, q⟩ := q
    rw [str_of rx, int_of ry]
    exact .inr (.inr ⟨_, _, _, rfl, rfl, hz, e, fin0 p f q rd_str⟩)
  · split at q
    · rename_i xs e1
      obtain ⟨z, e2, q⟩ := q
      obtain ⟨a, ys, rfl, q2, s⟩ := vS_ok p e1 rx
      obtain ⟨v, e3, r3⟩ := s.atI e2
      rw [int_of ry]
      rcases q2 with q2 | q2
      · exact .inl ⟨a, ys, _, v, rfl, rfl, q2, e3, fin0 p f q r3⟩
      · exact .inr (.inl ⟨a, ys, _, v, rfl, rfl, q2, e3, fin0 p f q r3⟩)
    · exact q.elim
  · exact q.elim
theorem e_ix {a b : Expr} {ta tb : GT} {pos : Pos} (ha : E X a ta) (hb : E X b tb) (hs : PlainIx b := by exact fun _ _ => rfl) : E X (.Subscript a b pos) (gOp oIx ta tb) := PE.weak (pe_ix og_ix ha hb hs) fun _ _ _ => op_up
abbrev GO := Sl → Hl → (Option Int → Hl → Prop) → Prop
def upO (K : KX) (t : GO) : TO := fun τ H Q => ∃ W h σ post, Pre K W H h ∧ Sg K W H σ τ ∧ t σ h post ∧ ∀ o h' W' H', post o h' → Pre K W' H' h' → Ext W W' H H' → Q o H'
def EO (X : CxE) (e : Option Expr) (t : GO) : Prop := PO X e (upO X.kx t)
def gNoPart : GO := fun _ h Q => Q none h
def gPart (t : GT) : GO := fun σ h Q => t σ h fun x h1 => match x with
  | .d (.int i) => Q (some i) h1
  | _ => False
theorem PO.weak {e : Option Expr} {t t' : TO} (h : PO X e t) (w : ∀ τ H Q, t' τ H Q → t τ H Q) : PO X e t' := ⟨fun pins s σ H Q I q => h.run pins s σ H Q I (w _ _ _ q)⟩
theorem eo_none : EO X none gNoPart := PO.weak po_none fun τ H Q q => by
  obtain ⟨W, h, σ, post, p, g, q, f⟩ := q
  exact f _ _ W H q p Ext.refl
theorem eo_some {e : Expr} {t : GT} (h : E X e t) : EO X (some e) (gPart t) := PO.weak (po_some h) fun τ H Q q => by
  obtain ⟨W, h, σ, post, p, g, q, f⟩ := q
  refine ⟨W, h, σ, _, p, g, q, fun x h1 W1 H1 v q1 p1 x1 r1 => ?_⟩
  split at q1
  · exact ⟨_, int_of r1, f _ h1 W1 H1 q1 p1 x1⟩
  · exact q1.elim
def cutD {α : Type} (xs : List α) (lo hi : Option Int) : List α := (xs.drop (HT.sIx xs.length 0 lo)).take (HT.sIx xs.length xs.length hi - HT.sIx xs.length 0 lo)
abbrev G3 := P → Option Int → Option Int → Hl → (P → Hl → Prop) → Prop
def oSl : G3 := fun x lo hi h Q => match x with
  | .d (.str z) => z.length ≤ sizeLine ∧ Q (.d (.str (cutS z lo hi))) h
  | .d (.tup xs) => Q (.d (.tup (cutD xs lo hi))) h
  | .d (.klst xs) => Q (.d (.lst (cutD xs lo hi))) h
  | x => match vL h x with
    | some xs => Q (.d (.lst (cutD xs lo hi))) h
    | none => False
def oSlM : G3 := fun x lo hi h Q => match vL h x with
    | some xs => addCell h (.lst (cutD xs lo hi)) fun k h2 => Q (.ref k) h2
    | none => False
def up3 (K : KX) (o : G3) : V → Option Int → Option Int → Hp → VK → Prop := fun v lo hi H Q => ∃ W h x post, Pre K W H h ∧ RP K W H x v ∧ o x lo hi h post ∧ Fin K W H post Q
theorem RDs.cut {K : KX} {own : Addr → Prop} {rg : List (Addr × Addr)} {H : Hp} {xs : List D} {vs : List V} (r : RDs K own rg H xs vs) (lo hi : Option Int) : RDs K own rg H (cutD xs lo hi) (cutV vs lo hi) := by
  unfold cutD cutV
  rw [r.len]
  exact (r.drop _).take _
theorem SlR.sub {r r' : V → Option Int → Option Int → Hp → VK → Prop} (h : SlR X r) (w : ∀ x lo hi H Q, r' x lo hi H Q → r x lo hi H Q) : SlR X r' := fun pins s σ H x v vl vu lo hi sl Q I rx hs pl pu q => h pins s σ H x v vl vu lo hi sl Q I rx hs pl pu (w _ _ _ _ _ q)
theorem whole_cut {α : Type} {xs : List α} {lo hi : Option Int} (c : HT.sIx xs.length 0 lo = 0 ∧ HT.sIx xs.length xs.length hi = xs.length) : cutD xs lo hi = xs := by
  unfold cutD
  rw [c.1, c.2]
  simp
theorem sg_sl : SlR X (up3 X.kx oSl) := by
  refine SlR.sub ((sl_str.or sl_tupA).or sl_list) ?_
  rintro v lo hi H Q ⟨W, h, x, post, p, rx, q, f⟩
  unfold oSl at q
  split at q
  · rw [str_of rx]
    exact .inl (.inl ⟨_, rfl, q.1, fin0 p f q.2 rd_str⟩)
  · rename_i xs
    have rx0 := rx
    rw [PL] at rx0
    simp only [RP, RD] at rx
    obtain ⟨a, ys, rfl, q2, s⟩ := rx
    refine .inl (.inr ⟨a, ys, rfl, q2.sq, fun c => ?_, fun n => ?_⟩)
    · rw [← s.len] at c
      rw [whole_cut c] at q
      exact fin0 p f q rx0
    · exact fin_tup p (s.cut lo hi) f q
  · simp only [RP, RD] at rx
    obtain ⟨a, ys, rfl, q2, s⟩ := rx
    exact .inr ⟨a, ys, rfl, q2.sq, fin_lst p (s.cut lo hi) f q⟩
  · split at q
    · rename_i xs e1
      obtain ⟨a, ys, rfl, h1, s⟩ := vL_ok p e1 rx
      exact .inr ⟨a, ys, rfl, SqL.of h1, fin_lst p (s.cut lo hi) f q⟩
    · exact q.elim
theorem sg_slM : SlR X (up3 X.kx oSlM) := by
  refine SlR.sub sl_list ?_
  rintro v lo hi H Q ⟨W, h, x, post, p, rx, q, f⟩
  unfold oSlM at q
  split at q
  · rename_i xs e1
    obtain ⟨a, ys, rfl, h1, s⟩ := vL_ok p e1 rx
    exact ⟨a, ys, rfl, SqL.of h1, fin_cell p (s.cut lo hi) f q⟩
  · exact q.elim
def gSl (o : G3) (t : GT) (lo hi : GO) : GT := fun σ h Q => t σ h fun x h1 => lo σ h1 fun l h2 => hi σ h2 fun u h3 => o x l u h3 Q
theorem e_slice {o : G3} {e : Expr} {lo hi : Option Expr} {t : GT} {tl th : GO} {p2 pos : Pos} (hr : SlR X (up3 X.kx o)) (he : E X e t) (hl : EO X lo tl) (hu : EO X hi th) : E X (.Subscript e (.Slice lo hi none p2) pos) (gSl o t tl th) :=
  PE.weak (pe_slice hr he hl hu) fun τ H Q q => by
    obtain ⟨W, h, σ, post, p, g, q, f⟩ := q
    refine ⟨W, h, σ, _, p, g, q, fun x h1 W1 H1 v q1 p1 x1 r1 => ?_⟩
    refine ⟨W1, h1, σ, _, p1, g.ext x1, q1, fun l h2 W2 H2 q2 p2 x2 => ?_⟩
    refine ⟨W2, h2, σ, _, p2, (g.ext x1).ext x2, q2, fun u h3 W3 H3 q3 p3 x3 => ?_⟩
    exact ⟨W3, h3, x, post, p3, RP.ext x3 _ _ (RP.ext x2 _ _ r1), q3, fun z h4 W4 H4 v4 q4 p4 x4 r4 => f z h4 W4 H4 v4 q4 p4 (((x1.trans x2).trans x3).trans x4) r4⟩

/-! ### built-in calls -/
theorem CallR.sub {f : Value} {r r' : List V → Hp → VK → Prop} (h : CallR X f r) (w : ∀ xs H Q, r' xs H Q → r xs H Q) : CallR X f r' := fun pins s σ H xs us Q I rv q => h pins s σ H xs us Q I rv (w _ _ _ q)
def gCB (r : GC) (t : GA) : GT := fun σ h Q => t σ h fun ps h1 => r ps h1 Q
theorem cb_up {r : GC} {t : GA} {τ : L2.St} {H : Hp} {Q : VK} (q : up X.kx (gCB r t) τ H Q) : tCB (upC X.kx r) (upA X.kx t) τ H Q := by
  obtain ⟨W, h, σ, post, p, g, q, f⟩ := q
  refine ⟨W, h, σ, _, p, g, q, fun ps h1 W1 H1 vs q1 p1 x1 r1 => ?_⟩
  exact ⟨W1, h1, ps, post, p1, r1, q1, fun z h2 W2 H2 v q p2 x2 r => f z h2 W2 H2 v q p2 (x1.trans x2) r⟩
section
variable {x : Str} {p pos : Pos} {e : Expr} {es : List Expr} {t : GA} {id T : String} {r : GC}
theorem e_cb (hc : CallR X (.builtin id) (upC X.kx r)) (hg : Gl X x) (hm : X.mg x = none) (hv : bootBuiltins x = some (.builtin id)) (ha : EA X (e :: es) t) (hn : x ≠ "__name__" := by decide) (hdb : (x == ("__debug__" : Str)) = false := by decide)
    (he : starEach (e :: es) X.env = (false, eval e X.env) :: starEach es X.env := by rfl) (hpl : (backTo pos (starEach es X.env)).any (·.1) = false := by rfl) : E X (.Call (.Name x p) (e :: es) [] pos) (gCB r t) :=
  PE.weak (pe_callB hc hg hm hv ha hn hdb he hpl) fun _ _ _ => cb_up
theorem e_ct (hc : CallR X (.type T) (upC X.kx r)) (hg : Gl X x) (hm : X.mg x = none) (hv : bootBuiltins x = some (.type T)) (ha : EA X (e :: es) t) (hn : x ≠ "__name__" := by decide) (hdb : (x == ("__debug__" : Str)) = false := by decide)
    (he : starEach (e :: es) X.env = (false, eval e X.env) :: starEach es X.env := by rfl) (hpl : (backTo pos (starEach es X.env)).any (·.1) = false := by rfl) : E X (.Call (.Name x p) (e :: es) [] pos) (gCB r t) :=
  PE.weak (pe_callTy hc hg hm hv ha hn hdb he hpl) fun _ _ _ => cb_up
end
theorem RPs.one {K : KX} {W : Wd} {H : Hp} {x : P} {vs : List V} (r : RPs K W H [x] vs) : ∃ v, vs = [v] ∧ RP K W H x v := by
  obtain ⟨v, q, rfl, h1, h2⟩ := r
  rw [show q = [] from h2]
  exact ⟨v, rfl, h1⟩
theorem RPs.two {K : KX} {W : Wd} {H : Hp} {x y : P} {vs : List V} (r : RPs K W H [x, y] vs) : ∃ v w, vs = [v, w] ∧ RP K W H x v ∧ RP K W H y w := by
  obtain ⟨v, q, rfl, h1, h2⟩ := r
  obtain ⟨w, rfl, h3⟩ := RPs.one h2
  exact ⟨v, w, rfl, h1, h3⟩
def cLen : GC := fun ps h Q => match ps with
  | [.d (.str z)] => z.length ≤ sizeLine ∧ Q (.d (.int z.length)) h
  | [x] => match vS h x with
    | some xs => xs.length ≤ 16777216 → Q (.d (.int xs.length)) h
    | none => False
  | _ => False
theorem cg_len : CallR X (.builtin "len") (upC X.kx cLen) := by
  rintro pins s σ H vs us Q J rv ⟨W, h, ps, post, p, rr, q, f⟩
  unfold cLen at q
  split at q
  · obtain ⟨v, rfl, r⟩ := rr.one
    rw [str_of r] at rv
    exact call_len_str pins s σ H _ us Q J rv ⟨_, rfl, q.1, fin0 p f q.2 rd_int⟩
  · split at q
    · rename_i xs e1
      obtain ⟨v, rfl, r⟩ := rr.one
      obtain ⟨a, ys, rfl, q2, s2⟩ := vS_ok p e1 r
      have hl : ys.length ≤ sizeLine := by
        rcases q2 with q3 | q3
        · exact (J.list q3).choose_spec.2.2
        · exact (J.tuple q3).choose_spec.2.2
      refine call_len_seq pins s σ H _ us Q J rv ⟨a, ys, rfl, q2, ?_⟩
      rw [← s2.len] at hl ⊢
      exact fin0 p f (q (by rw [sizeLine_eq] at hl; exact hl)) rd_int
    · exact q.elim
  · exact q.elim
def iabs (i : Int) : Int := if i < 0 then -i else i
def imax (i j : Int) : Int := if j > i then j else i
def imin (i j : Int) : Int := if j < i then j else i
def cAbs : GC := fun ps h Q => match ps with
  | [.d (.int i)] => Q (.d (.int (iabs i))) h
  | _ => False
theorem cg_abs : CallR X (.builtin "abs") (upC X.kx cAbs) := by
  refine CallR.sub call_abs ?_
  rintro vs H Q ⟨W, h, ps, post, p, rr, q, f⟩
  unfold cAbs at q
  split at q
  · obtain ⟨v, rfl, r⟩ := rr.one
    rw [int_of r]
    exact ⟨_, rfl, fin0 p f q rd_int⟩
  · exact q.elim
def cMax2 : GC := fun ps h Q => match ps with
  | [.d (.int i), .d (.int j)] => Q (.d (.int (imax i j))) h
  | _ => False
theorem cg_max2 (hc : X.calm = true) : CallR X (.builtin "max") (upC X.kx cMax2) := by
  refine CallR.sub (call_max2 hc) ?_
  rintro vs H Q ⟨W, h, ps, post, p, rr, q, f⟩
  unfold cMax2 at q
  split at q
  · obtain ⟨v, w, rfl, r, r2⟩ := rr.two
    rw [int_of r, int_of r2]
    exact ⟨_, _, rfl, fin0 p f q rd_int⟩
  · exact q.elim
def cMin2 : GC := fun ps h Q => match ps with
  | [.d (.int i), .d (.int j)] => Q (.d (.int (imin i j))) h
  | _ => False
theorem cg_min2 (hc : X.calm = true) : CallR X (.builtin "min") (upC X.kx cMin2) := by
  refine CallR.sub (call_min2 hc) ?_
  rintro vs H Q ⟨W, h, ps, post, p, rr, q, f⟩
  unfold cMin2 at q
  split at q
  · obtain ⟨v, w, rfl, r, r2⟩ := rr.two
    rw [int_of r, int_of r2]
    exact ⟨_, _, rfl, fin0 p f q rd_int⟩
  · exact q.elim
def b2i' (b : Bool) : Int := if b then 1 else 0
def cInt : GC := fun ps h Q => match ps with
  | [.d (.int i)] => Q (.d (.int i)) h
  | [.d (.bl b)] => Q (.d (.int (b2i' b))) h
  | _ => False
theorem cg_int : CallR X (.type "int") (upC X.kx cInt) := by
  refine CallR.sub call_int1 ?_
  rintro vs H Q ⟨W, h, ps, post, p, rr, q, f⟩
  unfold cInt at q
  split at q
  · obtain ⟨v, rfl, r⟩ := rr.one
    rw [int_of r]
    exact .inl ⟨_, rfl, fin0 p f q rd_int⟩
  · obtain ⟨v, rfl, r⟩ := rr.one
    rw [bl_of r]
    exact .inr ⟨_, rfl, fin0 p f q rd_int⟩
  · exact q.elim
def cList : GC := fun ps h Q => match ps with
  | [x] => match vS h x with
    | some xs => Q (.d (.lst xs)) h
    | none => False
  | _ => False
theorem cg_list : CallR X (.type "list") (upC X.kx cList) := by
  refine CallR.sub call_list_of ?_
  rintro vs H Q ⟨W, h, ps, post, p, rr, q, f⟩
  unfold cList at q
  split at q
  · split at q
    · rename_i xs e1
      obtain ⟨v, rfl, r⟩ := rr.one
      obtain ⟨a, ys, rfl, q2, s⟩ := vS_ok p e1 r
      exact ⟨a, ys, rfl, q2, fin_lst p s f q⟩
    · exact q.elim
  · exact q.elim
def cListM : GC := fun ps h Q => match ps with
  | [x] => match vS h x with
    | some xs => addCell h (.lst xs) fun k h2 => Q (.ref k) h2
    | none => False
  | _ => False
theorem cg_listM : CallR X (.type "list") (upC X.kx cListM) := by
  refine CallR.sub call_list_of ?_
  rintro vs H Q ⟨W, h, ps, post, p, rr, q, f⟩
  unfold cListM at q
  split at q
  · split at q
    · rename_i xs e1
      obtain ⟨v, rfl, r⟩ := rr.one
      obtain ⟨a, ys, rfl, q2, s⟩ := vS_ok p e1 r
      exact ⟨a, ys, rfl, q2, fin_cell p s f q⟩
    · exact q.elim
  · exact q.elim
def cTuple : GC := fun ps h Q => match ps with
  | [x] => match vS h x with
    | some xs => Q (.d (.tup xs)) h
    | none => False
  | _ => False
theorem cg_tuple : CallR X (.type "tuple") (upC X.kx cTuple) := by
  refine CallR.sub call_tuple_of ?_
  rintro vs H Q ⟨W, h, ps, post, p, rr, q, f⟩
  unfold cTuple at q
  split at q
  · split at q
    · rename_i xs e1
      obtain ⟨v, rfl, r⟩ := rr.one
      rename_i x _
      cases x with
      | ex => cases e1
      | tc => cases e1
      | d x =>
        cases x with
        | lst zs =>
          simp only [vS, Option.some.injEq] at e1
          subst e1
          simp only [RP, RD] at r
          obtain ⟨a, ys, rfl, q2, s⟩ := r
          exact ⟨a, ys, rfl, .inl ⟨q2.sq, fin_tup p s f q⟩⟩
        | klst zs =>
          simp only [vS, Option.some.injEq] at e1
          subst e1
          simp only [RP, RD] at r
          obtain ⟨a, ys, rfl, q2, s⟩ := r
          exact ⟨a, ys, rfl, .inl ⟨q2.sq, fin_tup p s f q⟩⟩
        | tup zs =>
          simp only [vS, Option.some.injEq] at e1
          subst e1
          have r0 := r
          rw [PL] at r0
          simp only [RP, RD] at r
          obtain ⟨a, ys, rfl, q2, s⟩ := r
          exact ⟨a, ys, rfl, .inr ⟨q2.sq, fin0 p f q r0⟩⟩
        | _ => simp [vS] at e1
      | ref k =>
        simp only [vS] at e1
        split at e1
        · rename_i q3
          cases e1
          obtain ⟨a, ys, rfl, _, h2, h3⟩ := cell_ok p q3 r
          exact ⟨a, ys, rfl, .inl ⟨SqL.of h2, fin_tup p h3 f q⟩⟩
        · cases e1
    · exact q.elim
  · exact q.elim
/-- the ints that the data are -/
def intsD : List D → Option (List Int)
  | [] => some []
  | .int i :: r => (intsD r).map (i :: ·)
  | _ => none
def boolsD : List D → Option (List Bool)
  | [] => some []
  | .bl i :: r => (boolsD r).map (i :: ·)
  | _ => none
theorem intsD_ok {K : KX} {own : Addr → Prop} {rg : List (Addr × Addr)} {H : Hp} : ∀ {xs : List D} {ns : List Int} {vs : List V}, intsD xs = some ns → RDs K own rg H xs vs → vs = ns.map V.int
  | [], _, _, e, r => by simp only [intsD] at e; cases e; simp only [RDs] at r; subst r; rfl
  | x :: xs, _, _, e, r => by
    simp only [RDs] at r
    obtain ⟨y, q, rfl, r, s⟩ := r
    cases x <;> simp only [intsD] at e <;> try cases e
    cases h : intsD xs with
    | none => rw [h] at e; cases e
    | some ns =>
      rw [h] at e
      cases e
      simp only [RD] at r
      subst r
      rw [intsD_ok h s]
      rfl
theorem bools_ok {K : KX} {own : Addr → Prop} {rg : List (Addr × Addr)} {H : Hp} : ∀ {xs : List D} {ns : List Bool} {vs : List V}, boolsD xs = some ns → RDs K own rg H xs vs → vs = ns.map V.bl
  | [], _, _, e, r => by simp only [boolsD] at e; cases e; simp only [RDs] at r; subst r; rfl
  | x :: xs, _, _, e, r => by
    simp only [RDs] at r
    obtain ⟨y, q, rfl, r, s⟩ := r
    cases x <;> simp only [boolsD] at e <;> try cases e
    cases h : boolsD xs with
    | none => rw [h] at e; cases e
    | some ns =>
      rw [h] at e
      cases e
      simp only [RD] at r
      subst r
      rw [bools_ok h s]
      rfl
theorem intsD_map : ∀ ns : List Int, intsD (ns.map D.int) = some ns
  | [] => rfl
  | n :: ns => by simp only [List.map_cons, intsD, intsD_map ns]; rfl
theorem bools_map : ∀ ns : List Bool, boolsD (ns.map D.bl) = some ns
  | [] => rfl
  | n :: ns => by simp only [List.map_cons, boolsD, bools_map ns]; rfl
/-- ∃ with an equation: the intsD of a list -/
structure Ints (xs : List D) (k : List Int → Prop) : Prop where
  ex : ∃ ns, intsD xs = some ns ∧ k ns
structure Bools (xs : List D) (k : List Bool → Prop) : Prop where
  ex : ∃ ns, boolsD xs = some ns ∧ k ns
def kL (h : Hl) : P → Option (List D)
  | .d (.klst xs) => some xs
  | x => vL h x
theorem kL_ok {K : KX} {W : Wd} {H : Hp} {h : Hl} (p : Pre K W H h) {x : P} {xs : List D} {v : V} (e : kL h x = some xs) (r : RP K W H x v) : ∃ a ys, v = .ref a ∧ SqL K H a ys ∧ RDs K W.own W.rg H xs ys := by
  unfold kL at e
  split at e
  · cases e
    simp only [RP, RD] at r
    obtain ⟨a, ys, rfl, q2, s⟩ := r
    exact ⟨a, ys, rfl, q2.sq, s⟩
  · obtain ⟨a, ys, rfl, h1, s⟩ := vL_ok p e r
    exact ⟨a, ys, rfl, SqL.of h1, s⟩
def cSum : GC := fun ps h Q => match ps with
  | [x] => match kL h x with
    | some xs => Ints xs fun ns => Q (.d (.int ns.sum)) h
    | none => False
  | _ => False
theorem cg_sum (hc : X.calm = true) : CallR X (.builtin "sum") (upC X.kx cSum) := by
  refine CallR.sub (cr_sum hc) ?_
  rintro vs H Q ⟨W, h, ps, post, p, rr, q, f⟩
  unfold cSum at q
  split at q
  · split at q
    · rename_i xs e1
      obtain ⟨v, rfl, r⟩ := rr.one
      obtain ⟨a, ys, rfl, q2, s⟩ := kL_ok p e1 r
      obtain ⟨ns, e2, q⟩ := q.ex
      rw [intsD_ok e2 s] at q2
      exact ⟨a, ns, rfl, q2, fin0 p f q rd_int⟩
    · exact q.elim
  · exact q.elim
def cMaxL : GC := fun ps h Q => match ps with
  | [x] => match kL h x with
    | some xs => Ints xs fun ns => 0 < ns.length ∧ ∀ m, m ∈ ns → (∀ y, y ∈ ns → y ≤ m) → Q (.d (.int m)) h
    | none => False
  | _ => False
theorem cg_maxL (hc : X.calm = true) : CallR X (.builtin "max") (upC X.kx cMaxL) := by
  refine CallR.sub (cr_max hc) ?_
  rintro vs H Q ⟨W, h, ps, post, p, rr, q, f⟩
  unfold cMaxL at q
  split at q
  · split at q
    · rename_i xs e1
      obtain ⟨v, rfl, r⟩ := rr.one
      obtain ⟨a, ys, rfl, q2, s⟩ := kL_ok p e1 r
      obtain ⟨ns, e2, q⟩ := q.ex
      rw [intsD_ok e2 s] at q2
      exact ⟨a, ns, rfl, q2, q.1, fun m h1 h2 => fin0 p f (q.2 m h1 h2) rd_int⟩
    · exact q.elim
  · exact q.elim
def cMinL : GC := fun ps h Q => match ps with
  | [x] => match kL h x with
    | some xs => Ints xs fun ns => 0 < ns.length ∧ ∀ m, m ∈ ns → (∀ y, y ∈ ns → m ≤ y) → Q (.d (.int m)) h
    | none => False
  | _ => False
theorem cg_minL (hc : X.calm = true) : CallR X (.builtin "min") (upC X.kx cMinL) := by
  refine CallR.sub (cr_min hc) ?_
  rintro vs H Q ⟨W, h, ps, post, p, rr, q, f⟩
  unfold cMinL at q
  split at q
  · split at q
    · rename_i xs e1
      obtain ⟨v, rfl, r⟩ := rr.one
      obtain ⟨a, ys, rfl, q2, s⟩ := kL_ok p e1 r
      obtain ⟨ns, e2, q⟩ := q.ex
      rw [intsD_ok e2 s] at q2
      exact ⟨a, ns, rfl, q2, q.1, fun m h1 h2 => fin0 p f (q.2 m h1 h2) rd_int⟩
    · exact q.elim
  · exact q.elim
def cAll : GC := fun ps h Q => match ps with
  | [x] => match kL h x with
    | some xs => Bools xs fun bs => Q (.d (.bl (bs.all id))) h
    | none => False
  | _ => False
theorem cg_all (hc : X.calm = true) : CallR X (.builtin "all") (upC X.kx cAll) := by
  refine CallR.sub (cr_all hc) ?_
  rintro vs H Q ⟨W, h, ps, post, p, rr, q, f⟩
  unfold cAll at q
  split at q
  · split at q
    · rename_i xs e1
      obtain ⟨v, rfl, r⟩ := rr.one
      obtain ⟨a, ys, rfl, q2, s⟩ := kL_ok p e1 r
      obtain ⟨ns, e2, q⟩ := q.ex
      rw [bools_ok e2 s] at q2
      exact ⟨a, ns, rfl, q2, fin0 p f q rd_bl⟩
    · exact q.elim
  · exact q.elim
def cAny : GC := fun ps h Q => match ps with
  | [x] => match kL h x with
    | some xs => Bools xs fun bs => Q (.d (.bl (bs.any id))) h
    | none => False
  | _ => False
theorem cg_any (hc : X.calm = true) : CallR X (.builtin "any") (upC X.kx cAny) := by
  refine CallR.sub (cr_any hc) ?_
  rintro vs H Q ⟨W, h, ps, post, p, rr, q, f⟩
  unfold cAny at q
  split at q
  · split at q
    · rename_i xs e1
      obtain ⟨v, rfl, r⟩ := rr.one
      obtain ⟨a, ys, rfl, q2, s⟩ := kL_ok p e1 r
      obtain ⟨ns, e2, q⟩ := q.ex
      rw [bools_ok e2 s] at q2
      exact ⟨a, ns, rfl, q2, fin0 p f q rd_bl⟩
    · exact q.elim
  · exact q.elim
end
end Sc

set_option Elab.async false
set_option linter.all false
set_option maxRecDepth 100000
/-! Sc5: methods of lists, statements, targets. -/
namespace Sc
open PySem PySem.Spec PyProof.Rows L2

/-! ### methods of the def's own lists -/
abbrev GM := P → List P → Hl → (P → Hl → Prop) → Prop
def upM (K : KX) (r : GM) : V → List V → Hp → VK → Prop := fun v vs H Q => ∃ W h x ps post, Pre K W H h ∧ RP K W H x v ∧ RPs K W H ps vs ∧ r x ps h post ∧ Fin K W H post Q
def gLM (r : GM) (to : GT) (t : GA) : GT := fun σ h Q => to σ h fun x h1 => match x with
  | .ref k => match cellAt h1 k with
    | some (.lst _) => t σ h1 fun ps h2 => r (.ref k) ps h2 Q
    | _ => False
  | _ => False
section
variable {X : CxE}
theorem MtR.sub {id : String} {r r' : V → List V → Hp → VK → Prop} (hh : MtR X id r) (w : ∀ x xs H Q, r' x xs H Q → r x xs H Q) : MtR X id r' := fun pins s σ H x xs v us Q I rx rv q => hh pins s σ H x xs v us Q I rx rv (w _ _ _ _ q)
theorem lm_up {r : GM} {to : GT} {t : GA} {τ : L2.St} {H : Hp} {Q : VK} (q : up X.kx (gLM r to t) τ H Q) : tBM X.kx "list" (upM X.kx r) (up X.kx to) (upA X.kx t) τ H Q := by
  obtain ⟨W, hl, σ, post, p, g, q, f⟩ := q
  refine ⟨W, hl, σ, _, p, g, q, fun x h1 W1 H1 v q1 p1 x1 r1 => ?_⟩
  split at q1
  · split at q1
    · rename_i k _ xs e1
      obtain ⟨a, ys, rfl, h2, h3, h4⟩ := cell_ok p1 e1 r1
      refine ⟨.inl ⟨rfl, ys, SqL.of h3⟩, W1, h1, σ, _, p1, g.ext x1, q1, fun ps h5 W2 H2 vs q2 p2 x2 r2 => ?_⟩
      exact ⟨W2, h5, _, ps, post, p2, RP.ext x2 _ _ r1, r2, q2, fun z h6 W3 H3 v3 q3 p3 x3 r3 => f z h6 W3 H3 v3 q3 p3 ((x1.trans x2).trans x3) r3⟩
    · exact q1.elim
  · exact q1.elim
theorem e_lm {o e : Expr} {es : List Expr} {to : GT} {t : GA} {name : Str} {apos cpos : Pos} {id : String} {r : GM} (slot : Slot "list" name id) (hty : typeOf (.builtin id) = pure (.type "method_descriptor")) (hm : MtR X id (upM X.kx r)) (ho : E X o to) (ha : EA X (e :: es) t)
    (hbase : attributeBase o name X.env (eval o X.env) = eval o X.env := by rfl)
    (hfew : ((backTo cpos (starEach (e :: es) X.env)).all (fun x => !x.1) && (backToKw cpos (keywordEach [] X.env)).all (fun x => x.1.isSome)
      && decide ((e :: es).length + ([] : List Keyword).length + (if ([] : List Keyword).isEmpty then 0 else 1) < 30)) = true := by rfl)
    (hline : (apos.endLine == cpos.line) = true := by rfl) (hs : starEach (e :: es) X.env = (false, eval e X.env) :: starEach es X.env := by rfl) (hplain : (backTo cpos (starEach es X.env)).any (·.1) = false := by rfl) :
    E X (.Call (.Attribute o name apos) (e :: es) [] cpos) (gLM r to t) := PE.weak (pe_bm PySem.F.plainAttrs_list slot hty hm ho ha hbase hfew hline hs hplain) fun _ _ _ => lm_up
theorem lm0_up {r : GM} {to : GT} {τ : L2.St} {H : Hp} {Q : VK} (q : up X.kx (gLM r to gNil) τ H Q) : tBM0 X.kx "list" (upM X.kx r) (up X.kx to) τ H Q := by
  obtain ⟨W, hl, σ, post, p, g, q, f⟩ := q
  refine ⟨W, hl, σ, _, p, g, q, fun x h1 W1 H1 v q1 p1 x1 r1 => ?_⟩
  split at q1
  · split at q1
    · rename_i k _ xs e1
      obtain ⟨a, ys, rfl, h2, h3, h4⟩ := cell_ok p1 e1 r1
      refine ⟨.inl ⟨rfl, ys, SqL.of h3⟩, W1, h1, _, [], post, p1, r1, rfl, q1, fun z h6 W3 H3 v3 q3 p3 x3 r3 => f z h6 W3 H3 v3 q3 p3 (x1.trans x3) r3⟩
    · exact q1.elim
  · exact q1.elim
theorem e_lm0 {o : Expr} {to : GT} {name : Str} {apos cpos : Pos} {id : String} {r : GM} (slot : Slot "list" name id) (hty : typeOf (.builtin id) = pure (.type "method_descriptor")) (hm : MtR X id (upM X.kx r)) (ho : E X o to)
    (hbase : attributeBase o name X.env (eval o X.env) = eval o X.env := by rfl) (hline : (apos.endLine == cpos.line) = true := by rfl) : E X (.Call (.Attribute o name apos) [] [] cpos) (gLM r to gNil) :=
  PE.weak (pe_bm0 PySem.F.plainAttrs_list slot hty hm ho hbase hline) fun _ _ _ => lm0_up
/-- the k-th cell is written -/
theorem fin_set {K : KX} {W : Wd} {H : Hp} {h : Hl} {post : P → Hl → Prop} {Q : VK} {xs : List D} {vs : List V} {k : Nat} {a : Addr} {x : D} {v : V} (p : Pre K W H h) (e : W.al[k]? = some (some a)) (r : RDs K W.own W.rg H xs vs) (f : Fin K W H post Q)
    (q : setCell h k (.lst xs) fun h2 => post (.d x) h2) (rx : RD K W.own W.rg H x v) : Q v (upd H a (.lst vs)) := by
  rw [setCell_eq] at q
  have x1 : Ext W W H (upd H a (.lst vs)) := Ext.set p e
  exact f _ _ W _ _ q (p.set e r) x1 (RD.ext x1.toExS _ _ rx)
theorem ref_at {K : KX} {W : Wd} {H : Hp} {k : Nat} {v : V} (r : RP K W H (.ref k) v) : ∃ a, v = .ref a ∧ W.al[k]? = some (some a) := r
def mAppend : GM := fun x ps h Q => match x, ps with
  | .ref k, [.d y] => match cellAt h k with
    | some (.lst xs) => xs.length < sizeLine ∧ setCell h k (.lst (xs ++ [y])) fun h2 => Q (.d .non) h2
    | _ => False
  | _, _ => False
theorem mg_append : MtR X "list.append" (upM X.kx mAppend) := by
  refine MtR.sub mt_append ?_
  rintro v vs H Q ⟨W, h, x, ps, post, p, rx, rr, q, f⟩
  unfold mAppend at q
  split at q
  · split at q
    · rename_i xs e1
      obtain ⟨w, rfl, rw'⟩ := rr.one
      obtain ⟨a, ys, rfl, h2, h3, h4⟩ := cell_ok p e1 rx
      exact ⟨a, ys, w, rfl, rfl, h3, by rw [← h4.len]; exact q.1, fin_set p h2 (h4.app (RDs.one rw')) f q.2 rd_non⟩
    · exact q.elim
  · exact q.elim
def mExtend : GM := fun x ps h Q => match x, ps with
  | .ref k, [y] => match cellAt h k, vL h y with
    | some (.lst xs), some zs => xs.length + zs.length ≤ sizeLine ∧ setCell h k (.lst (xs ++ zs)) fun h2 => Q (.d .non) h2
    | _, _ => False
  | _, _ => False
theorem mg_extend : MtR X "list.extend" (upM X.kx mExtend) := by
  refine MtR.sub mt_extend ?_
  rintro v vs H Q ⟨W, h, x, ps, post, p, rx, rr, q, f⟩
  unfold mExtend at q
  split at q
  · split at q
    · rename_i xs zs e1 e2
      obtain ⟨w, rfl, rw'⟩ := rr.one
      obtain ⟨a, ys, rfl, h2, h3, h4⟩ := cell_ok p e1 rx
      obtain ⟨b, ws, rfl, h5, h6⟩ := vL_ok p e2 rw'
      exact ⟨a, b, ys, ws, rfl, rfl, h3, h5, by rw [← h4.len, ← h6.len]; exact q.1, fin_set p h2 (h4.app h6) f q.2 rd_non⟩
    · exact q.elim
  · exact q.elim
theorem RDs.dropLast {K : KX} {own : Addr → Prop} {rg : List (Addr × Addr)} {H : Hp} {xs : List D} {ys : List V} (r : RDs K own rg H xs ys) : RDs K own rg H xs.dropLast ys.dropLast := by
  rw [List.dropLast_eq_take, List.dropLast_eq_take, r.len]
  exact r.take _
def mPop : GM := fun x ps h Q => match x, ps with
  | .ref k, [] => match cellAt h k with
    | some (.lst xs) => At xs (-1) fun y => setCell h k (.lst xs.dropLast) fun h2 => Q (.d y) h2
    | _ => False
  | _, _ => False
theorem at_last {α : Type} {xs : List α} {y : α} (e : atI xs (-1) = some y) : xs[xs.length - 1]? = some y := by
  unfold atI ixN at e
  rw [if_neg (by decide)] at e
  by_cases h0 : -(xs.length : Int) ≤ -1
  · rw [if_pos h0] at e
    have e2 : xs[((-1 : Int) + (xs.length : Int)).toNat]? = some y := e
    rw [show xs.length - 1 = ((-1 : Int) + (xs.length : Int)).toNat by omega]
    exact e2
  · rw [if_neg h0] at e
    cases e
theorem mg_pop : MtR X "list.pop" (upM X.kx mPop) := by
  refine MtR.sub mt_pop ?_
  rintro v vs H Q ⟨W, h, x, ps, post, p, rx, rr, q, f⟩
  unfold mPop at q
  split at q
  · split at q
    · rename_i xs e1
      have ev : vs = [] := rr
      subst ev
      obtain ⟨y, ey, q⟩ := q.ex
      obtain ⟨a, ys, rfl, h2, h3, h4⟩ := cell_ok p e1 rx
      obtain ⟨w, h5, h6⟩ := h4.get (at_last ey)
      rw [h4.len] at h5
      exact ⟨a, ys, w, rfl, rfl, h3, h5, fin_set p h2 h4.dropLast f q h6⟩
    · exact q.elim
  · exact q.elim
theorem RDs.erase {K : KX} {own : Addr → Prop} {rg : List (Addr × Addr)} {H : Hp} : ∀ {xs : List D} {ys : List V} (n : Nat), RDs K own rg H xs ys → RDs K own rg H (xs.eraseIdx n) (ys.eraseIdx n)
  | [], _, n, r => by simp only [RDs] at r; subst r; exact RDs.nil
  | x :: xs, _, 0, r => by
    simp only [RDs] at r
    obtain ⟨y, q, rfl, r, s⟩ := r
    exact s
  | x :: xs, _, n + 1, r => by
    simp only [RDs] at r
    obtain ⟨y, q, rfl, r, s⟩ := r
    simp only [List.eraseIdx_cons_succ]
    exact RDs.cons r (RDs.erase n s)
/-- the place that an int names -/
structure Ix (n : Nat) (i : Int) (k : Nat → Prop) : Prop where
  ex : ∃ j, ixN n i = some j ∧ k j
theorem ixN_lt {n : Nat} {i : Int} {j : Nat} (h : ixN n i = some j) : j < n := (ixN_seq h).2.1
def mPopAt : GM := fun x ps h Q => match x, ps with
  | .ref k, [.d (.int i)] => match cellAt h k with
    | some (.lst xs) => (-(2 ^ 63) ≤ i ∧ i < 2 ^ 63) ∧ Ix xs.length i fun j => ∃ y, xs[j]? = some y ∧ setCell h k (.lst (xs.eraseIdx j)) fun h2 => Q (.d y) h2
    | _ => False
  | _, _ => False
theorem mg_popAt : MtR X "list.pop" (upM X.kx mPopAt) := by
  refine MtR.sub mt_popAt ?_
  rintro v vs H Q ⟨W, h, x, ps, post, p, rx, rr, q, f⟩
  unfold mPopAt at q
  split at q
  · split at q
    · rename_i xs e1
      obtain ⟨w, rfl, rw'⟩ := rr.one
      obtain ⟨hb, ⟨j, ej, y, ey, q⟩⟩ := q
      obtain ⟨a, ys, rfl, h2, h3, h4⟩ := cell_ok p e1 rx
      obtain ⟨z, h5, h6⟩ := h4.get ey
      rw [int_of rw']
      refine ⟨a, ys, _, j, z, rfl, rfl, h3, hb.1, hb.2, ?_, h5, fin_set p h2 (h4.erase j) f q h6⟩
      rw [← h4.len]
      exact (ixN_seq ej).1
    · exact q.elim
  · exact q.elim
def mInsert : GM := fun x ps h Q => match x, ps with
  | .ref k, [.d (.int i), .d y] => match cellAt h k with
    | some (.lst xs) => (xs.length < sizeLine ∧ 0 ≤ i ∧ i < 2 ^ 63) ∧ setCell h k (.lst (xs.take i.toNat ++ [y] ++ xs.drop i.toNat)) fun h2 => Q (.d .non) h2
    | _ => False
  | _, _ => False
theorem mg_insert : MtR X "list.insert" (upM X.kx mInsert) := by
  refine MtR.sub mt_insert ?_
  rintro v vs H Q ⟨W, h, x, ps, post, p, rx, rr, q, f⟩
  unfold mInsert at q
  split at q
  · split at q
    · rename_i xs e1
      obtain ⟨w, z, rfl, r1, r2⟩ := rr.two
      obtain ⟨a, ys, rfl, h2, h3, h4⟩ := cell_ok p e1 rx
      rw [int_of r1]
      exact ⟨a, ys, _, z, rfl, rfl, h3, by rw [← h4.len]; exact q.1.1, q.1.2.1, q.1.2.2, fin_set p h2 (((h4.take _).app (RDs.one r2)).app (h4.drop _)) f q.2 rd_non⟩
    · exact q.elim
  · exact q.elim
def mReverse : GM := fun x ps h Q => match x, ps with
  | .ref k, [] => match cellAt h k with
    | some (.lst xs) => setCell h k (.lst xs.reverse) fun h2 => Q (.d .non) h2
    | _ => False
  | _, _ => False
theorem mg_reverse : MtR X "list.reverse" (upM X.kx mReverse) := by
  refine MtR.sub mt_reverse ?_
  rintro v vs H Q ⟨W, h, x, ps, post, p, rx, rr, q, f⟩
  unfold mReverse at q
  split at q
  · split at q
    · rename_i xs e1
      have ev : vs = [] := rr
      subst ev
      obtain ⟨a, ys, rfl, h2, h3, h4⟩ := cell_ok p e1 rx
      exact ⟨a, ys, rfl, rfl, h3, fin_set p h2 h4.rev f q rd_non⟩
    · exact q.elim
  · exact q.elim
def mClear : GM := fun x ps h Q => match x, ps with
  | .ref k, [] => match cellAt h k with
    | some (.lst xs) => setCell h k (.lst []) fun h2 => Q (.d .non) h2
    | _ => False
  | _, _ => False
theorem mg_clear : MtR X "list.clear" (upM X.kx mClear) := by
  refine MtR.sub mt_clear ?_
  rintro v vs H Q ⟨W, h, x, ps, post, p, rx, rr, q, f⟩
  unfold mClear at q
  split at q
  · split at q
    · rename_i xs e1
      have ev : vs = [] := rr
      subst ev
      obtain ⟨a, ys, rfl, h2, h3, h4⟩ := cell_ok p e1 rx
      exact ⟨a, ys, rfl, rfl, h3, fin_set p h2 RDs.nil f q rd_non⟩
    · exact q.elim
  · exact q.elim
end

/-! ### statements -/
structure FinS (K : KX) (W : Wd) (H : Hp) (G : GD) (D : Ends) : Prop where
  nx : ∀ σ h W' H' τ, G.nx σ h → Pre K W' H' h → ExS W W' H H' → Sg K W' H' σ τ → D.nx τ H'
  rt : ∀ p h W' H' v, G.rt p h → Pre K W' H' h → ExS W W' H H' → RP K W' H' p v → D.rt v H'
  bk : ∀ σ h W' H' τ, G.bk σ h → Pre K W' H' h → ExS W W' H H' → Sg K W' H' σ τ → D.bk τ H'
  ct : ∀ σ h W' H' τ, G.ct σ h → Pre K W' H' h → ExS W W' H H' → Sg K W' H' σ τ → D.ct τ H'
def upS (K : KX) (t : GS) : TS := fun D τ H => ∃ W h σ G, Pre K W H h ∧ Sg K W H σ τ ∧ t G σ h ∧ FinS K W H G D
def S (X : CxE) (st : Stmt) (t : GS) : Prop := PS X st (upS X.kx t)
def Ss (X : CxE) (sts : List Stmt) (t : GS) : Prop := PSs X sts (upS X.kx t)
theorem PS.weak {X : CxE} {e : Stmt} {t t' : TS} (h : PS X e t) (w : ∀ D τ H, t' D τ H → t D τ H) : PS X e t' := ⟨fun pins s σ H D I q => h.run pins s σ H D I (w _ _ _ q)⟩
theorem PSs.weak {X : CxE} {e : List Stmt} {t t' : TS} (h : PSs X e t) (w : ∀ D τ H, t' D τ H → t D τ H) : PSs X e t' := ⟨fun pins s σ H D I q => h.run pins s σ H D I (w _ _ _ q)⟩
theorem FinS.ext {K : KX} {W W' : Wd} {H H' : Hp} {G : GD} {D : Ends} (f : FinS K W H G D) (x : ExS W W' H H') : FinS K W' H' G D :=
  ⟨fun σ h W2 H2 τ q p y g => f.nx σ h W2 H2 τ q p (x.trans y) g, fun p h W2 H2 v q pr y g => f.rt p h W2 H2 v q pr (x.trans y) g, fun σ h W2 H2 τ q p y g => f.bk σ h W2 H2 τ q p (x.trans y) g, fun σ h W2 H2 τ q p y g => f.ct σ h W2 H2 τ q p (x.trans y) g⟩
/-- the statement of the given line comes next -/
structure Ln (n : Nat) (A : Prop) : Prop where
  go : A
def gNext : GS := fun D σ h => D.nx σ h
def gSeq (n : Nat) (t u : GS) : GS := fun D σ h => t { D with nx := fun σ' h' => Ln n (u D σ' h') } σ h
def gBreak : GS := fun D σ h => D.bk σ h
def gCont : GS := fun D σ h => D.ct σ h
def gDrop (t : GT) : GS := fun D σ h => t σ h fun _ h1 => D.nx σ h1
def gRet (t : GT) : GS := fun D σ h => t σ h D.rt
def gRetN : GS := fun D _ h => D.rt (.d .non) h
def gIfS (c : GB) (t u : GS) : GS := fun D σ h => c σ h fun b h1 => Br b (t D σ h1) (u D σ h1)
section
variable {X : CxE} {st : Stmt} {rest a b : List Stmt} {t u : GS} {e c : Expr} {te : GT} {pos : Pos}
theorem ss_nil : Ss X [] gNext := PSs.weak pss_nil fun D τ H ⟨W, h, σ, G, p, g, q, f⟩ => f.nx σ h W H τ q p ExS.refl g
theorem ss_cons (n : Nat) (h1 : S X st t) (h2 : Ss X rest u) : Ss X (st :: rest) (gSeq n t u) := PSs.weak (pss_cons h1 h2) fun D τ H ⟨W, h, σ, G, p, g, q, f⟩ =>
  ⟨W, h, σ, _, p, g, q, ⟨fun σ2 hh W2 H2 τ2 q2 p2 x2 g2 => ⟨W2, hh, σ2, G, p2, g2, q2.go, f.ext x2⟩, f.rt, f.bk, f.ct⟩⟩
theorem ss_one (h1 : S X st t) : Ss X [st] t := PSs.weak (pss_one h1) fun _ _ _ q => q
theorem s_pass : S X (.Pass pos) gNext := PS.weak ps_pass fun D τ H ⟨W, h, σ, G, p, g, q, f⟩ => f.nx σ h W H τ q p ExS.refl g
theorem s_break : S X (.Break pos) gBreak := PS.weak ps_break fun D τ H ⟨W, h, σ, G, p, g, q, f⟩ => f.bk σ h W H τ q p ExS.refl g
theorem s_continue : S X (.Continue pos) gCont := PS.weak ps_continue fun D τ H ⟨W, h, σ, G, p, g, q, f⟩ => f.ct σ h W H τ q p ExS.refl g
theorem s_expr (he : E X e te) (hs : swapsWith e none pos.line X.env = pure false := by rfl) : S X (.Expr e pos) (gDrop te) := PS.weak (ps_expr he hs) fun D τ H ⟨W, h, σ, G, p, g, q, f⟩ =>
  ⟨W, h, σ, _, p, g, q, fun z h1 W1 H1 v q1 p1 x1 r1 => f.nx σ h1 W1 H1 τ q1 p1 x1.toExS (g.ext x1)⟩
theorem s_ret (he : E X e te) : S X (.Return (some e) pos) (gRet te) := PS.weak (ps_ret he) fun D τ H ⟨W, h, σ, G, p, g, q, f⟩ =>
  ⟨W, h, σ, _, p, g, q, fun z h1 W1 H1 v q1 p1 x1 r1 => f.rt z h1 W1 H1 v q1 p1 x1.toExS r1⟩
theorem s_retN : S X (.Return none pos) gRetN := PS.weak ps_retN fun D τ H ⟨W, h, σ, G, p, g, q, f⟩ => f.rt _ h W H _ q p ExS.refl (rd_non : RD X.kx W.own W.rg H _ _)
theorem s_if {tc : GB} (hc : EB X c tc) (ha : Ss X a t) (hb : Ss X b u) : S X (.If c a b pos) (gIfS tc t u) := PS.weak (ps_if hc ha hb) fun D τ H ⟨W, h, σ, G, p, g, q, f⟩ => by
  refine ⟨W, h, σ, _, p, g, q, fun b h1 W1 H1 q1 p1 x1 => ?_⟩
  cases b with
  | true => exact (if_pos rfl).mpr ⟨W1, h1, σ, G, p1, g.ext x1, q1.t rfl, f.ext x1.toExS⟩
  | false => exact (if_neg (by simp)).mpr ⟨W1, h1, σ, G, p1, g.ext x1, q1.f rfl, f.ext x1.toExS⟩
end

/-! ### targets -/
abbrev GG := P → Sl → Hl → (Sl → Hl → Prop) → Prop
abbrev GGs := List D → Sl → Hl → (Sl → Hl → Prop) → Prop
def FinG (K : KX) (W : Wd) (H : Hp) (post : Sl → Hl → Prop) (Q : L2.St → Hp → Prop) : Prop := ∀ σ h W' H' τ, post σ h → Pre K W' H' h → ExS W W' H H' → Sg K W' H' σ τ → Q τ H'
def upG (K : KX) (t : GG) : TG := fun v τ H Q => ∃ W h σ p post, Pre K W H h ∧ Sg K W H σ τ ∧ RP K W H p v ∧ t p σ h post ∧ FinG K W H post Q
def upGs (K : KX) (t : GGs) : TGs := fun vs τ H Q => ∃ W h σ xs post, Pre K W H h ∧ Sg K W H σ τ ∧ RDs K W.own W.rg H xs vs ∧ t xs σ h post ∧ FinG K W H post Q
def G (X : CxE) (tg : Expr) (t : GG) : Prop := PG X tg (upG X.kx t)
def Gs (X : CxE) (ts : List Expr) (t : GGs) : Prop := PGs X ts (upGs X.kx t)
theorem PG.weak {X : CxE} {e : Expr} {t t' : TG} (h : PG X e t) (w : ∀ v τ H Q, t' v τ H Q → t v τ H Q) : PG X e t' := ⟨fun pins s σ H v u Q I r q => h.run pins s σ H v u Q I r (w _ _ _ _ q)⟩
theorem PGs.weak {X : CxE} {e : List Expr} {t t' : TGs} (h : PGs X e t) (w : ∀ v τ H Q, t' v τ H Q → t v τ H Q) : PGs X e t' := ⟨fun pins s σ H v u Q I r q => h.run pins s σ H v u Q I r (w _ _ _ _ q)⟩
theorem PG.or {X : CxE} {e : Expr} {t t' : TG} (h : PG X e t) (h' : PG X e t') : PG X e (fun v τ H Q => t v τ H Q ∨ t' v τ H Q) := ⟨fun pins s σ H v u Q I r q => q.elim (h.run pins s σ H v u Q I r) (h'.run pins s σ H v u Q I r)⟩
theorem Sg.set {K : KX} {W : Wd} {H : Hp} {σ : Sl} {τ : L2.St} {i : Nat} {p : P} {v : V} (g : Sg K W H σ τ) (r : RP K W H p v) : Sg K W H (σ.set i (some p)) (τ.set i (some v)) := by
  refine ⟨by rw [List.length_set, List.length_set, g.len], fun j q e => ?_⟩
  rw [List.getElem?_set] at e ⊢
  by_cases hj : i = j
  · subst hj
    rw [if_pos rfl] at e ⊢
    by_cases hl : i < σ.length
    · rw [if_pos hl] at e
      rw [if_pos (by rw [← g.len]; exact hl)]
      cases e
      exact ⟨v, rfl, r⟩
    · rw [if_neg hl] at e; cases e
  · rw [if_neg hj] at e ⊢
    exact g.val j q e
def gName (i : Nat) : GG := fun p σ h Q => setSlot σ i p fun σ' => Q σ' h
def gsNil : GGs := fun xs σ h Q => match xs with
  | [] => Q σ h
  | _ => False
def gsCons (t : GG) (r : GGs) : GGs := fun xs σ h Q => match xs with
  | x :: ys => t (.d x) σ h fun σ' h' => r ys σ' h' Q
  | [] => False
def gTupG (n : Nat) (r : GGs) : GG := fun p σ h Q => match vS h p with
  | some xs => xs.length = n ∧ r xs σ h Q
  | none => False
def gSub (to ti : GT) : GG := fun p σ h Q => match p with
  | .d y => to σ h fun o h1 => ti σ h1 fun i h2 => match o, i with
    | .ref k, .d (.int j) => match cellAt h2 k with
      | some (.lst xs) => Ix xs.length j fun m => setCell h2 k (.lst (xs.set m y)) fun h3 => Q σ h3
      | _ => False
    | _, _ => False
  | _ => False
section
variable {X : CxE} {pos : Pos}
theorem g_name {i : Nat} {x : Str} (hN : X.N.Nodup) (hi : X.N[i]? = some x := by rfl) (hx : Loc X.env.scope x := by first | exact .inl rfl | exact .inr rfl) (hf : X.fn x = true ∨ X.env.scope.names.lookup x = some .local := by first | exact .inl rfl | exact .inr rfl | assumption) : G X (.Name x pos) (gName i) :=
  PG.weak (pg_name hN hi hx hf) fun v τ H Q ⟨W, h, σ, p, post, pr, g, r, q, f⟩ => by
    unfold gName at q
    rw [setSlot_eq] at q
    exact f _ h W H _ q pr ExS.refl (g.set r)
theorem gs_nil : Gs X [] gsNil := PGs.weak pgs_nil fun v τ H Q ⟨W, h, σ, xs, post, pr, g, r, q, f⟩ => by
  unfold gsNil at q
  split at q
  · simp only [RDs] at r
    exact ⟨r, f _ h W H _ q pr ExS.refl g⟩
  · exact q.elim
theorem gs_cons {e : Expr} {es : List Expr} {t : GG} {u : GGs} (h1 : G X e t) (h2 : Gs X es u)
    (hs : (assignEach (e :: es) X.env).map (·.2) = assign e X.env :: (assignEach es X.env).map (·.2) := by rfl) : Gs X (e :: es) (gsCons t u) := PGs.weak (pgs_cons h1 h2 hs) fun v τ H Q ⟨W, h, σ, xs, post, pr, g, r, q, f⟩ => by
  unfold gsCons at q
  split at q
  · rename_i x ys
    simp only [RDs] at r
    obtain ⟨y, vs, rfl, r1, r2⟩ := r
    refine ⟨y, vs, rfl, W, h, σ, .d x, _, pr, g, r1, q, fun σ2 h2 W2 H2 τ2 q2 p2 x2 g2 => ?_⟩
    exact ⟨W2, h2, σ2, ys, post, p2, g2, RDs.ext x2 _ _ r2, q2, fun σ3 h3 W3 H3 τ3 q3 p3 x3 g3 => f σ3 h3 W3 H3 τ3 q3 p3 (x2.trans x3) g3⟩
  · exact q.elim
theorem g_tup {es : List Expr} {k : Nat} {t : GGs} {n : Nat} (hc : X.calm = true) (h : Gs X es t)
    (hn : (assignEach es X.env).length = n := by rfl) (hst : (assignEach es X.env).findIdx? (·.1) = none := by rfl) : G X (.Tuple es k pos) (gTupG n t) :=
  PG.weak (PG.or (pg_tup hc h hn hst) (pg_lst hc h hn hst)) fun v τ H Q ⟨W, h, σ, p, post, pr, g, r, q, f⟩ => by
    unfold gTupG at q
    split at q
    · rename_i xs e1
      obtain ⟨a, ys, rfl, q2, s⟩ := vS_ok pr e1 r
      have hl : ys.length = n := by rw [← s.len]; exact q.1
      rcases q2 with q2 | q2
      · exact .inr ⟨a, ys, rfl, q2, hl, W, h, σ, xs, post, pr, g, s, q.2, f⟩
      · exact .inl ⟨a, ys, rfl, q2, hl, W, h, σ, xs, post, pr, g, s, q.2, f⟩
    · exact q.elim
theorem g_sub {o i : Expr} {to ti : GT} (ho : E X o to) (hi : E X i ti)
    (ha : ∀ v, assign (.Subscript o i pos) X.env v = (do
      let ov ← holding [v] (eval o X.env)
      let iv ← holding [v, ov] (eval i X.env)
      standAt pos
      holding [v, ov, iv] (setItem ov iv v)
      release [v, ov, iv] []) := by intro _; rfl) : G X (.Subscript o i pos) (gSub to ti) :=
  PG.weak (pg_sub ho hi set_list ha) fun v τ H Q ⟨W, h, σ, p, post, pr, g, r, q, f⟩ => by
    unfold gSub at q
    split at q
    · rename_i y
      refine ⟨W, h, σ, _, pr, g, q, fun z h1 W1 H1 v1 q1 p1 x1 r1 => ?_⟩
      refine ⟨W1, h1, σ, _, p1, g.ext x1, q1, fun w h2 W2 H2 v2 q2 p2 x2 r2 => ?_⟩
      split at q2
      · split at q2
        · rename_i k j _ xs e1
          obtain ⟨m, em, q3⟩ := q2
          rw [setCell_eq] at q3
          obtain ⟨a, ys, rfl, h5, h6, h7⟩ := cell_ok p2 e1 (RP.ext x2 _ _ r1)
          have x12 := x1.trans x2
          have ry : RD X.kx W2.own W2.rg H2 y v := RD.ext x12.toExS _ _ r
          refine ⟨a, ys, j, m, rfl, int_of r2, h6, by rw [← h7.len]; exact em, ?_⟩
          have x3 : Ext W2 W2 H2 (upd H2 a (.lst (ys.set m v))) := Ext.set p2 h5
          exact f _ _ W2 _ _ q3 (p2.set h5 (RDs.set ry m h7)) (x12.trans x3).toExS (((g.ext x1).ext x2).ext x3)
        · exact q2.elim
      · exact q2.elim
    · exact q.elim
def gAsg (te : GT) (g : GG) : GS := fun D σ h => te σ h fun x h1 => g x σ h1 D.nx
theorem asg_up {te : GT} {g : GG} {D : Ends} {τ : L2.St} {H : Hp} (q : upS X.kx (gAsg te g) D τ H) : tAsg (up X.kx te) (upG X.kx g) D τ H := by
  obtain ⟨W, h, σ, Gd, p, gg, q, f⟩ := q
  refine ⟨W, h, σ, _, p, gg, q, fun z h1 W1 H1 v q1 p1 x1 r1 => ?_⟩
  exact ⟨W1, h1, σ, z, _, p1, gg.ext x1, r1, q1, fun σ2 h2 W2 H2 τ2 q2 p2 x2 g2 => f.nx σ2 h2 W2 H2 τ2 q2 p2 (x1.toExS.trans x2) g2⟩
theorem s_asg {tg e : Expr} {te : GT} {g : GG} (he : E X e te) (hg : G X tg g) (hs : swapsWithSole [tg] e pos.line X.env = pure false := by rfl) (hw : swappedStores [tg] e X.env = pure none := by rfl)
    (h1 : (assignEach [tg] X.env).map (·.2) = [assign tg X.env] := by rfl) : S X (.Assign [tg] e pos) (gAsg te g) := PS.weak (ps_asg he hg hs hw h1) fun _ _ _ => asg_up
theorem s_set {i : Nat} {x : Str} {e : Expr} {te : GT} {pos' : Pos} (hN : X.N.Nodup) (he : E X e te) (hi : X.N[i]? = some x := by rfl) (hx : Loc X.env.scope x := by first | exact .inl rfl | exact .inr rfl) (hs : swapsWith e (some (.Name x pos')) pos.line X.env = pure false := by rfl) (hf : X.fn x = true ∨ X.env.scope.names.lookup x = some .local := by first | exact .inl rfl | exact .inr rfl | assumption) :
    S X (.Assign [.Name x pos'] e pos) (gAsg te (gName i)) := PS.weak (ps_set hN hi hx he hs hf) fun D τ H q => by
      obtain ⟨W, h, σ, Gd, p, gg, q, f⟩ := q
      refine ⟨W, h, σ, _, p, gg, q, fun z h1 W1 H1 v q1 p1 x1 r1 => ?_⟩
      unfold gName at q1
      rw [setSlot_eq] at q1
      exact f.nx _ h1 W1 H1 _ q1 p1 x1.toExS ((gg.ext x1).set r1)
/-- a, b = x, y -/
def gPar (i j : Nat) (ta : GA) : GS := fun D σ h => ta σ h fun ps h1 => match ps with
  | [v, w] => setSlot σ i v fun σ' => setSlot σ' j w fun σ2 => D.nx σ2 h1
  | _ => False
theorem s_par {i j : Nat} {x y : Str} {a b : Expr} {ta : GA} {px py pt : Pos} {kt k2 : Nat} {pt2 : Pos} (hc : X.calm = true) (hN : X.N.Nodup) (hij : i ≠ j) (ha : EA X [a, b] ta) (hi : X.N[i]? = some x := by rfl) (hj : X.N[j]? = some y := by rfl)
    (hx : X.env.scope.names.lookup x = some .local := by rfl) (hy : X.env.scope.names.lookup y = some .local := by rfl)
    (hw : swappedStores [.Tuple [.Name x px, .Name y py] kt pt] (.Tuple [a, b] k2 pt2) X.env = pure (some [x, y]) := by rfl)
    (hs : swapsWithSole [.Tuple [.Name x px, .Name y py] kt pt] (.Tuple [a, b] k2 pt2) pos.line X.env = pure false := by rfl) :
    S X (.Assign [.Tuple [.Name x px, .Name y py] kt pt] (.Tuple [a, b] k2 pt2) pos) (gPar i j ta) := PS.weak (ps_par hc hN hi hj hij hx hy ha hw hs) fun D τ H q => by
      obtain ⟨W, h, σ, Gd, p, gg, q, f⟩ := q
      refine ⟨W, h, σ, _, p, gg, q, fun ps h1 W1 H1 vs q1 p1 x1 r1 => ?_⟩
      split at q1
      · obtain ⟨v, w, rfl, r2, r3⟩ := r1.two
        rw [setSlot_eq, setSlot_eq] at q1
        exact ⟨v, w, rfl, f.nx _ h1 W1 H1 _ q1 p1 x1.toExS (((gg.ext x1).set r2).set r3)⟩
      · exact q1.elim
def gAug (i : Nat) (te : GT) (o : G2) : GS := fun D σ h => match slotAt σ i with
  | some x => te σ h fun y h1 => o x y h1 fun z h2 => setSlot σ i z fun σ' => D.nx σ' h2
  | none => False
theorem s_aug {i : Nat} {x : Str} {e : Expr} {te : GT} {op : Operator} {o : G2} {pos' : Pos} (hN : X.N.Nodup) (he : E X e te) (ho : OpR X (inplaceOp op) (up2 X.kx o)) (hi : X.N[i]? = some x := by rfl) (hx : Loc X.env.scope x := by first | exact .inl rfl | exact .inr rfl) (hf : X.fn x = true ∨ X.env.scope.names.lookup x = some .local := by first | exact .inl rfl | exact .inr rfl | assumption) :
    S X (.AugAssign (.Name x pos') op e pos) (gAug i te o) := PS.weak (ps_aug hN hi hx he ho hf) fun D τ H q => by
      obtain ⟨W, h, σ, Gd, p, gg, q, f⟩ := q
      unfold gAug at q
      split at q
      · rename_i z ez
        obtain ⟨v, h1, h2⟩ := gg.val i z (slotAt_eq _ _ _ ez)
        refine ⟨v, h1, W, h, σ, _, p, gg, q, fun y h3 W1 H1 w q1 p1 x1 r1 => ?_⟩
        refine ⟨W1, h3, z, y, _, p1, RP.ext x1 _ _ h2, r1, q1, fun u h4 W2 H2 v2 q2 p2 x2 r2 => ?_⟩
        rw [setSlot_eq] at q2
        exact f.nx _ h4 W2 H2 _ q2 p2 (x1.trans x2).toExS (((gg.ext x1).ext x2).set r2)
      · exact q.elim
end
end Sc

set_option Elab.async false
set_option linter.all false
set_option maxRecDepth 100000
/-! Sc6: loops, comprehensions, what is given up, calls, defs. -/
namespace Sc
open PySem PySem.Spec PyProof.Rows L2

/-! ### cutting back -/
/-- the cells of the tuple are below n -/
def tcLt (n : Nat) : List Mb → Bool
  | [] => true
  | .d _ :: r => tcLt n r
  | .r k :: r => match Nat.blt k n with
    | true => tcLt n r
    | false => false
def cutS1 (n : Nat) : Sl → (Sl → Prop) → Prop
  | [], k => k []
  | some (.ref j) :: r, k => match Nat.blt j n with
    | true => cutS1 n r fun q => k (some (.ref j) :: q)
    | false => cutS1 n r fun q => k (none :: q)
  | some (.d x) :: r, k => cutS1 n r fun q => k (some (.d x) :: q)
  | some (.ex fl xs) :: r, k => cutS1 n r fun q => k (some (.ex fl xs) :: q)
  | some (.tc ms) :: r, k => match tcLt n ms with
    | true => cutS1 n r fun q => k (some (.tc ms) :: q)
    | false => cutS1 n r fun q => k (none :: q)
  | none :: r, k => cutS1 n r fun q => k (none :: q)
def cutP (n : Nat) : Option P → Option P
  | some (.ref j) => match Nat.blt j n with
    | true => some (.ref j)
    | false => none
  | some (.tc ms) => match tcLt n ms with
    | true => some (.tc ms)
    | false => none
  | o => o
theorem cutS1_eq (n : Nat) : ∀ (σ : Sl) (k : Sl → Prop), cutS1 n σ k = k (σ.map (cutP n))
  | [], k => rfl
  | some (.ref j) :: r, k => by
    simp only [cutS1, List.map_cons, cutP]
    cases h : Nat.blt j n <;> simp only <;> rw [cutS1_eq n r]
  | some (.d x) :: r, k => by
    simp only [cutS1, List.map_cons, cutP]
    rw [cutS1_eq n r]
  | some (.ex fl xs) :: r, k => by
    simp only [cutS1, List.map_cons, cutP]
    rw [cutS1_eq n r]
  | some (.tc ms) :: r, k => by
    simp only [cutS1, List.map_cons, cutP]
    cases h : tcLt n ms <;> simp only <;> rw [cutS1_eq n r]
  | none :: r, k => by
    simp only [cutS1, List.map_cons, cutP]
    rw [cutS1_eq n r]
def takeH : Nat → Hl → (Hl → Prop) → Prop
  | 0, _, k => k []
  | _ + 1, [], k => k []
  | n + 1, c :: r, k => takeH n r fun q => k (c :: q)
theorem takeH_eq : ∀ (n : Nat) (h : Hl) (k : Hl → Prop), takeH n h k = k (h.take n)
  | 0, _, k => by simp [takeH]
  | _ + 1, [], k => by simp [takeH]
  | n + 1, c :: r, k => by simp only [takeH, takeH_eq n r, List.take_succ_cons]
def lenH : Hl → (Nat → Prop) → Prop
  | [], k => k 0
  | _ :: r, k => lenH r fun n => k (n + 1)
theorem lenH_eq : ∀ (h : Hl) (k : Nat → Prop), lenH h k = k h.length
  | [], k => rfl
  | _ :: r, k => by simp only [lenH, lenH_eq r, List.length_cons]
def kill1 : Sl → Nat → (Sl → Prop) → Prop
  | [], _, k => k []
  | _ :: r, 0, k => k (none :: r)
  | a :: r, n + 1, k => kill1 r n fun q => k (a :: q)
theorem kill1_eq : ∀ (σ : Sl) (n : Nat) (k : Sl → Prop), kill1 σ n k = k (σ.set n none)
  | [], _, k => by simp [kill1]
  | _ :: r, 0, k => by simp [kill1]
  | a :: r, n + 1, k => by simp [kill1, kill1_eq r n]
def killS : List Nat → Sl → (Sl → Prop) → Prop
  | [], σ, k => k σ
  | i :: is, σ, k => kill1 σ i fun q => killS is q k
def trunc (n : Nat) (σ : Sl) (h : Hl) (k : Sl → Hl → Prop) : Prop := cutS1 n σ fun q => takeH n h fun r => k q r
section
variable {K : KX} {W : Wd} {H : Hp} {h : Hl} {σ : Sl} {τ : L2.St}
theorem Sg.none (g : Sg K W H σ τ) (i : Nat) : Sg K W H (σ.set i none) τ := by
  refine ⟨by rw [List.length_set, g.len], fun j p e => g.val j p ?_⟩
  rw [List.getElem?_set] at e
  by_cases hj : i = j
  · rw [if_pos hj] at e
    by_cases hl : i < σ.length
    · rw [if_pos hl] at e; cases e
    · rw [if_neg hl] at e; cases e
  · rw [if_neg hj] at e
    exact e
theorem killS_ok : ∀ {is : List Nat} {σ : Sl} {k : Sl → Prop}, killS is σ k → Sg K W H σ τ → ∃ σ', k σ' ∧ Sg K W H σ' τ
  | [], σ, k, q, g => ⟨σ, q, g⟩
  | i :: is, σ, k, q, g => by
    unfold killS at q
    rw [kill1_eq] at q
    exact killS_ok q (g.none i)
def Wd.cut (W : Wd) (n : Nat) : Wd := ⟨W.al.take n, W.rg, W.fo, W.gh⟩
theorem Wd.cut_own {n : Nat} {a : Addr} (o : (W.cut n).own a) : W.own a := by
  rcases o with ⟨k, e⟩ | q
  · have e' : (W.al.take n)[k]? = some (some a) := e
    rw [List.getElem?_take] at e'
    split at e'
    · exact .inl ⟨k, e'⟩
    · cases e'
  · exact .inr q
theorem ExS.cut {n : Nat} : ExS W (W.cut n) H H := ⟨fun _ _ e _ => e, fun _ _ e _ => e, fun a o => .inl (Wd.cut_own o), fun _ q => q, rfl, rfl⟩
theorem cut_al {n k : Nat} {o : Option Addr} (e : (W.cut n).al[k]? = some o) : W.al[k]? = some o := by
  have e' : (W.al.take n)[k]? = some o := e
  rw [List.getElem?_take] at e'
  split at e'
  · exact e'
  · cases e'
theorem Pre0.cut {K : PySem.W.Frag} (p : Pre0 K W H h) (n : Nat) (hn : W.fo.pa.length ≤ n) : Pre0 K (W.cut n) H (h.take n) := by
  refine ⟨?_, fun k c oa h1 h2 => ?_, p.rng, fun i j a h1 h2 => p.nd1 i j a (cut_al h1) (cut_al h2), fun i a h1 => p.nd2 i a (cut_al h1), p.nd3, p.fo, fun i a h1 => p.nd4 i a (cut_al h1), p.nd5, fun i a e => by
    have hi : i < n := by have := (List.getElem?_eq_some_iff.mp e).1; have e2 : (W.cut n).fo.pa = W.fo.pa := rfl; rw [e2] at this; omega
    have k : ∀ o, W.al[i]? = some o → (W.al.take n)[i]? = some o := fun o z => by rw [List.getElem?_take, if_pos hi]; exact z
    exact (p.pas i a e).imp (k _) (k _)⟩
  · show (W.al.take n).length = _
    rw [List.length_take, List.length_take, p.len]
  · have h3 : h[k]? = some c := by
      rw [List.getElem?_take] at h1
      split at h1
      · exact h1
      · cases h1
    exact RC.ext ExS.cut (fun b ys _ q => q) (p.cel k c oa h3 (cut_al h2))
theorem Pre.cut (p : Pre K W H h) (n : Nat) (hn : W.fo.pa.length ≤ n) : Pre K (W.cut n) H (h.take n) := p.step ExS.cut (p.toPre0.cut n hn)
theorem Sg.cut (g : Sg K W H σ τ) (n : Nat) : Sg K (W.cut n) H (σ.map (cutP n)) τ := by
  refine ⟨by rw [List.length_map, g.len], fun i p e => ?_⟩
  rw [List.getElem?_map] at e
  cases h1 : σ[i]? with
  | none => rw [h1] at e; cases e
  | some o =>
    rw [h1] at e
    simp only [Option.map_some, Option.some.injEq] at e
    cases o with
    | none => cases e
    | some q =>
      cases q with
      | d x =>
        simp only [cutP, Option.some.injEq] at e
        subst e
        obtain ⟨v, h2, h3⟩ := g.val i _ h1
        exact ⟨v, h2, RD.ext ExS.cut _ _ h3⟩
      | ex =>
        simp only [cutP, Option.some.injEq] at e
        subst e
        obtain ⟨v, h2, h3⟩ := g.val i _ h1
        exact ⟨v, h2, h3.1, RF.tr (ExS.cut (W := W) (n := n) (H := H)).tr h3.2⟩
      | tc ms =>
        simp only [cutP] at e
        split at e
        · rename_i hb
          cases e
          obtain ⟨v, h2, a, ys, h3, h4, h5⟩ := g.val i _ h1
          refine ⟨v, h2, a, ys, h3, QT.tr (ExS.cut (W := W) (n := n) (H := H)).tr h4, ?_⟩
          clear h1 h2 h3 h4
          induction ms generalizing ys with
          | nil => exact h5
          | cons m ms ih =>
            obtain ⟨y, r, e1, h6, h7⟩ := h5
            cases m with
            | d x => exact ⟨y, r, e1, RD.ext ExS.cut _ _ h6, ih hb r h7⟩
            | r k =>
              simp only [tcLt] at hb
              split at hb
              · rename_i hk
                refine ⟨y, r, e1, ?_, ih hb r h7⟩
                obtain ⟨a2, h8, h9⟩ := h6
                refine ⟨a2, h8, ?_⟩
                show (W.al.take n)[k]? = _
                rw [List.getElem?_take, if_pos (by simpa using hk)]
                exact h9
              · cases hb
        · cases e
      | ref j =>
        simp only [cutP] at e
        split at e
        · rename_i hb
          cases e
          obtain ⟨v, h2, a, h3, h4⟩ := g.val i _ h1
          refine ⟨v, h2, a, h3, ?_⟩
          show (W.al.take n)[j]? = _
          rw [List.getElem?_take, if_pos (by simpa using hb)]
          exact h4
        · cases e
theorem trunc_ok {n : Nat} {k : Sl → Hl → Prop} (q : trunc n σ h k) (p : Pre K W H h) (g : Sg K W H σ τ) (hn : W.fo.pa.length ≤ n) : ∃ σ' h', k σ' h' ∧ Pre K (W.cut n) H h' ∧ Sg K (W.cut n) H σ' τ ∧ ExS W (W.cut n) H H := by
  unfold trunc at q
  rw [cutS1_eq, takeH_eq] at q
  exact ⟨_, _, q, p.cut n hn, g.cut n, ExS.cut⟩
end
/-- the end of a turn: what is not needed is forgotten -/
def turnEnd (ks : List Nat) (n : Nat) (k : Sl → Hl → Prop) : Sl → Hl → Prop := fun σ h => killS ks σ fun q => trunc n q h k
theorem turnEnd_ok {K : KX} {W : Wd} {H : Hp} {h : Hl} {σ : Sl} {τ : L2.St} {ks : List Nat} {n : Nat} {k : Sl → Hl → Prop} (q : turnEnd ks n k σ h) (p : Pre K W H h) (g : Sg K W H σ τ) (hn : W.fo.pa.length ≤ n) :
    ∃ σ' h', k σ' h' ∧ Pre K (W.cut n) H h' ∧ Sg K (W.cut n) H σ' τ ∧ ExS W (W.cut n) H H := by
  obtain ⟨σ1, q, g⟩ := killS_ok q g
  exact trunc_ok q p g hn

/-! ### while -/
structure WhileP (ks : List Nat) (n : Nat) (c : GB) (b : GS) (D : GD) (σ : Sl) (h : Hl) : Prop where
  ex : ∃ Pv : Nat → Sl → Hl → Prop, (∃ m, Pv m σ h) ∧ ∀ m σ h, Pv m σ h → c σ h fun t h1 => Br t
    (b { nx := turnEnd ks n fun σ' h' => ∃ m', m' < m ∧ Pv m' σ' h', ct := turnEnd ks n fun σ' h' => ∃ m', m' < m ∧ Pv m' σ' h', bk := D.nx, rt := D.rt } σ h1) (D.nx σ h1)
def gWhile (ks : List Nat) (c : GB) (b : GS) : GS := fun D σ h => killS ks σ fun q => lenH h fun n => WhileP ks n c b D q h
theorem s_while {X : CxE} {c : Expr} {body : List Stmt} {tc : GB} {tb : GS} {pos : Pos} (ks : List Nat) (hp : PassesOwn (model X.prog X.w) X.A X.env X.xe) (hc : EB X c tc) (hb : Ss X body tb) : S X (.While c body [] pos) (gWhile ks tc tb) :=
  PS.weak (ps_while hp hc hb) fun D τ H ⟨W, h, σ, Gd, p, g, q, f⟩ => by
    obtain ⟨σ0, q, g⟩ := killS_ok q g
    rw [lenH_eq] at q
    obtain ⟨Pv, ⟨m0, q0⟩, qs⟩ := q.ex
    refine ⟨fun m τ' H' => ∃ W' h' σ', Pre X.kx W' H' h' ∧ Sg X.kx W' H' σ' τ' ∧ ExS W W' H H' ∧ Pv m σ' h', ⟨m0, W, h, σ0, p, g, ExS.refl, q0⟩, ?_⟩
    rintro m τ1 H1 ⟨W1, h1, σ1, p1, g1, x1, q1⟩
    refine ⟨W1, h1, σ1, _, p1, g1, qs m σ1 h1 q1, fun t h2 W2 H2 q2 p2 x2 => ?_⟩
    cases t with
    | false => exact (if_neg (by simp)).mpr (f.nx _ h2 W2 H2 τ1 (q2.f rfl) p2 (x1.trans x2.toExS) (g1.ext x2))
    | true =>
      refine (if_pos rfl).mpr ⟨fun τ' H' => ∃ m', m' < m ∧ ∃ W' h' σ', Pre X.kx W' H' h' ∧ Sg X.kx W' H' σ' τ' ∧ ExS W W' H H' ∧ Pv m' σ' h', fun τ' H' z => z, ?_⟩
      refine ⟨W2, h2, σ1, _, p2, g1.ext x2, q2.t rfl, ⟨fun σ3 h3 W3 H3 τ3 q3 p3 x3 g3 => ?_, fun z h3 W3 H3 v q3 p3 x3 r3 => f.rt z h3 W3 H3 v q3 p3 ((x1.trans x2.toExS).trans x3) r3, fun σ3 h3 W3 H3 τ3 q3 p3 x3 g3 => f.nx _ h3 W3 H3 τ3 q3 p3 ((x1.trans x2.toExS).trans x3) g3, fun σ3 h3 W3 H3 τ3 q3 p3 x3 g3 => ?_⟩⟩
      all_goals
        obtain ⟨σ4, h4, ⟨m', hm, q4⟩, p4, g4, x4⟩ := turnEnd_ok q3 p3 g3 (by rw [((x1.trans x2.toExS).trans x3).fo]; exact p.toPre0.pal)
        exact ⟨m', hm, _, h4, σ4, p4, g4, ((x1.trans x2.toExS).trans x3).trans x4, q4⟩

/-! ### what is walked -/
structure SrcOk (K : KX) (W0 : Wd) (H0 : Hp) (J : It) (its : List D) : Prop where
  go : ∀ W H h, Pre K W H h → ExS W0 W H0 H → ∀ i, i < its.length → J.go i H
  stop : ∀ W H h, Pre K W H h → ExS W0 W H0 H → J.stop its.length H
  yld : ∀ W H h, Pre K W H h → ExS W0 W H0 H → ∀ i v H', J.yld i H v H' → i < its.length → ∃ x, its[i]? = some x ∧ Pre K W H' h ∧ Ext W W H H' ∧ RD K W.own W.rg H' x v
abbrev GI := Sl → Hl → (List D → Hl → Prop) → Prop
def upI (K : KX) (t : GI) : TI := fun τ H R => ∃ W h σ post, Pre K W H h ∧ Sg K W H σ τ ∧ t σ h post ∧ ∀ its h' W' H' J, post its h' → Pre K W' H' h' → Ext W W' H H' → SrcOk K W' H' J its → R J H'
def I (X : CxE) (tg e : Expr) (t : GI) : Prop := PI X tg e (upI X.kx t)
theorem PI.weak {X : CxE} {tg e : Expr} {t t' : TI} (h : PI X tg e t) (w : ∀ τ H Q, t' τ H Q → t τ H Q) : PI X tg e t' := ⟨fun pins s σ H Q I q => h.run pins s σ H Q I (w _ _ _ q)⟩
/-- by the value -/
def iVal (K : KX) (te : TE) : TI := fun σ H R => te σ H fun x H1 =>
  (∃ a, x = .ref a ∧ (∃ xs, SqL K H1 a xs) ∧ R (Itl K a) H1) ∨ (∃ a, x = .ref a ∧ (∃ xs, SqT K H1 a xs) ∧ R (Itt K a) H1) ∨ ∃ z, x = .str z ∧ R (Its z) H1
theorem pi_val {X : CxE} {tg e : Expr} {te : TE} (he : PE X e te) : PI X tg e (iVal X.kx te) := by
  refine ⟨fun pins s σ H R J h => ?_⟩
  refine thn (he.run pins s σ H _ J h) fun v s1 ⟨x, H1, J1, r1, q1⟩ => ?_
  rcases q1 with ⟨a, rfl, ⟨xs, hq⟩, q⟩ | ⟨a, rfl, ⟨xs, hq⟩, q⟩ | ⟨z, rfl, q⟩
  · cases r1
    obtain ⟨us, rv, pl, hz⟩ := J1.list hq
    exact wpAny_pyIter_list pl.isList (pi_one (tk := s1.toks) J1 _ (turn_list a _) ⟨_, Heap.get?_push_size _ rfl, rfl, rfl⟩ q)
  · cases r1
    obtain ⟨us, rv, pl, hz⟩ := J1.tuple hq
    exact wpAny_pyIter_tuple (show s1.heap.IsTuple a us.toArray from pl) (pi_one (tk := s1.toks) J1 _ (turn_tuple a _) ⟨_, Heap.get?_push_size _ rfl, rfl, rfl⟩ q)
  · obtain ⟨t, rfl⟩ := r1
    cases ha : z.cps.all (· < 128)
    · exact wpAny_pyIter_wide ha (pi_one (tk := s1.toks) J1 _ (turn_str _ z t "str_iterator" (.inr rfl)) ⟨_, Heap.get?_push_size _ rfl, rfl, rfl⟩ q)
    · exact wpAny_pyIter_ascii ha (pi_one (tk := s1.toks) J1 _ (turn_str _ z t "str_ascii_iterator" (.inl rfl)) ⟨_, Heap.get?_push_size _ rfl, rfl, rfl⟩ q)
section
variable {K : KX} {W : Wd} {H : Hp}
theorem src_seqL {a : Addr} {its : List D} {ys : List V} (st : ∀ W' H', ExS W W' H H' → SqL K H' a ys) (r : RDs K W.own W.rg H its ys) : SrcOk K W H (Itl K a) its where
  go W' H' h p x i hi := ⟨ys, ys[i]'(by rw [← r.len]; exact hi), st W' H' x, List.getElem?_eq_getElem _⟩
  stop W' H' h p x := ⟨ys, st W' H' x, by rw [r.len]; exact Nat.le_refl _⟩
  yld W' H' h p x i v H2 q hi := by
    obtain ⟨rfl, q⟩ := q
    obtain ⟨z, e1, e2⟩ := (RDs.ext x _ _ r).get' (q ys (st W' H2 x))
    exact ⟨z, e1, p, Ext.refl, e2⟩
theorem src_seqT {a : Addr} {its : List D} {ys : List V} (st : ∀ W' H', ExS W W' H H' → SqT K H' a ys) (r : RDs K W.own W.rg H its ys) : SrcOk K W H (Itt K a) its where
  go W' H' h p x i hi := ⟨ys, ys[i]'(by rw [← r.len]; exact hi), st W' H' x, List.getElem?_eq_getElem _⟩
  stop W' H' h p x := ⟨ys, st W' H' x, by rw [r.len]; exact Nat.le_refl _⟩
  yld W' H' h p x i v H2 q hi := by
    obtain ⟨rfl, q⟩ := q
    obtain ⟨z, e1, e2⟩ := (RDs.ext x _ _ r).get' (q ys (st W' H2 x))
    exact ⟨z, e1, p, Ext.refl, e2⟩
def signsD (z : Str) : List D := z.cps.toList.map fun c => .str ⟨#[c]⟩
theorem src_str (z : Str) : SrcOk K W H (Its z) (signsD z) where
  go W' H' h p x i hi := by
    show i < z.cps.size
    simpa [signsD] using hi
  stop W' H' h p x := by
    show z.cps.size ≤ _
    simp [signsD]
  yld W' H' h p x i v H2 q hi := by
    obtain ⟨rfl, c, e1, rfl⟩ := q
    refine ⟨.str ⟨#[c]⟩, ?_, p, Ext.refl, rd_str⟩
    unfold signsD
    rw [List.getElem?_map, Array.getElem?_toList, e1]
    rfl
def rangeD (lo : Int) (n : Nat) : List D := (List.range n).map fun i => .int (lo + (i : Nat))
theorem rangeD_len (lo : Int) (n : Nat) : (rangeD lo n).length = n := by simp [rangeD]
theorem rangeD_get {lo : Int} {n i : Nat} (h : i < n) : (rangeD lo n)[i]? = some (.int (lo + i)) := by
  unfold rangeD
  rw [List.getElem?_map, List.getElem?_range h]
  rfl
theorem src_range (lo : Int) (n : Nat) : SrcOk K W H (Itr lo n) (rangeD lo n) where
  go W' H' h p x i hi := by
    rw [rangeD_len] at hi
    exact hi
  stop W' H' h p x := by
    rw [rangeD_len]
    exact Nat.le_refl n
  yld W' H' h p x i v H2 q hi := by
    obtain ⟨rfl, rfl⟩ := q
    rw [rangeD_len] at hi
    exact ⟨_, rangeD_get hi, p, Ext.refl, rd_int⟩
def rangeC (lo c : Int) (n : Nat) : List D := (List.range n).map fun i => .int (lo + (i : Nat) * c)
theorem src_rangeC (lo c : Int) (n : Nat) : SrcOk K W H (Itc lo c n) (rangeC lo c n) where
  go W' H' h p x i hi := by
    have : i < n := by simpa [rangeC] using hi
    exact this
  stop W' H' h p x := by
    show n ≤ _
    simp [rangeC]
  yld W' H' h p x i v H2 q hi := by
    obtain ⟨rfl, rfl⟩ := q
    have hi' : i < n := by simpa [rangeC] using hi
    refine ⟨.int (lo + (i : Nat) * c), ?_, p, Ext.refl, rd_int⟩
    unfold rangeC
    rw [List.getElem?_map, List.getElem?_range hi']
    rfl
end
/-- the items of a value: a frozen list, a tuple, a text -/
def itsOf (h : Hl) : P → Option (List D)
  | .d (.lst xs) => some xs
  | .d (.tup xs) => some xs
  | .d (.klst xs) => some xs
  | .d (.str z) => some (signsD z)
  | _ => none
def gSrc (t : GT) : GI := fun σ h Q => t σ h fun x h1 => match itsOf h1 x with
  | some xs => Q xs h1
  | none => False
theorem QL.st {K : KX} {W W' : Wd} {H H' : Hp} {a : Addr} {ys : List V} (q : QL W.own H a ys) (x : ExS W W' H H') : SqL K H' a ys := SqL.of (x.keep _ _ q.1 q.2)
theorem QK.st {K : KX} {W W' : Wd} {H H' : Hp} {a : Addr} {ys : List V} (q : QK K W.own H a ys) (x : ExS W W' H H') : SqL K H' a ys := q.elim (fun z => .inl (Rd.keep x.tr z.1 z.2).1) .inr
theorem QT.st {K : KX} {W W' : Wd} {H H' : Hp} {a : Addr} {ys : List V} (q : QT K W.own H a ys) (x : ExS W W' H H') : SqT K H' a ys := q.elim (fun z => .inl (Rd.keep x.tr z.1 z.2).1) .inr
section
variable {X : CxE} {tg e : Expr} {t : GT} {pos p0 : Pos}
theorem i_val (he : E X e t) : I X tg e (gSrc t) := PI.weak (pi_val he) fun τ H R ⟨W, h, σ, post, p, g, q, f⟩ => by
  refine ⟨W, h, σ, _, p, g, q, fun x h1 W1 H1 v q1 p1 x1 r1 => ?_⟩
  cases x with
  | ref k => exact q1.elim
  | ex => exact q1.elim
  | tc => exact q1.elim
  | d x =>
    cases x with
    | lst xs =>
      simp only [RP, RD] at r1
      obtain ⟨a, ys, rfl, q2, s⟩ := r1
      exact .inl ⟨a, rfl, ⟨ys, q2.sq⟩, f xs h1 W1 H1 _ q1 p1 x1 (src_seqL (fun _ _ => q2.st) s)⟩
    | klst xs =>
      simp only [RP, RD] at r1
      obtain ⟨a, ys, rfl, q2, s⟩ := r1
      exact .inl ⟨a, rfl, ⟨ys, q2.sq⟩, f xs h1 W1 H1 _ q1 p1 x1 (src_seqL (fun _ _ => q2.st) s)⟩
    | tup xs =>
      simp only [RP, RD] at r1
      obtain ⟨a, ys, rfl, q2, s⟩ := r1
      exact .inr (.inl ⟨a, rfl, ⟨ys, q2.sq⟩, f xs h1 W1 H1 _ q1 p1 x1 (src_seqT (fun _ _ => q2.st) s)⟩)
    | str z => exact .inr (.inr ⟨z, str_of r1, f _ h1 W1 H1 _ q1 p1 x1 (src_str z)⟩)
    | _ => exact q1.elim
def RgOk (i : Int) : Prop := -(2 ^ 62) ≤ i ∧ i < 2 ^ 62
def gRng1 (t : GA) : GI := fun σ h Q => t σ h fun ps h1 => match ps with
  | [.d (.int j)] => RgOk j ∧ Q (rangeD 0 j.toNat) h1
  | _ => False
def gRng2 (t : GA) : GI := fun σ h Q => t σ h fun ps h1 => match ps with
  | [.d (.int i), .d (.int j)] => (RgOk i ∧ RgOk j) ∧ Q (rangeD i (j - i).toNat) h1
  | _ => False
theorem i_rng1 {a : Expr} {ta : GA} (hm : X.mg "range" = none) (ha : EA X [a] ta) (hg : Gl X "range" := by rfl) (hs : starEach [a] X.env = [(false, eval a X.env)] := by rfl) : I X tg (.Call (.Name "range" p0) [a] [] pos) (gRng1 ta) :=
  PI.weak (pi_range1 hg hm ha hs) fun τ H R ⟨W, h, σ, post, p, g, q, f⟩ => by
    refine ⟨W, h, σ, _, p, g, q, fun ps h1 W1 H1 vs q1 p1 x1 rr => ?_⟩
    split at q1
    · obtain ⟨v, rfl, r1⟩ := rr.one
      rw [int_of r1]
      exact ⟨_, rfl, q1.1.1, q1.1.2, f _ h1 W1 H1 _ q1.2 p1 x1 (src_range 0 _)⟩
    · exact q1.elim
theorem i_rng2 {a b : Expr} {ta : GA} (hm : X.mg "range" = none) (ha : EA X [a, b] ta) (hg : Gl X "range" := by rfl) (hs : starEach [a, b] X.env = [(false, eval a X.env), (false, eval b X.env)] := by rfl) (hs2 : starEach [b] X.env = [(false, eval b X.env)] := by rfl) :
    I X tg (.Call (.Name "range" p0) [a, b] [] pos) (gRng2 ta) :=
  PI.weak (pi_range2 hg hm ha hs hs2) fun τ H R ⟨W, h, σ, post, p, g, q, f⟩ => by
    refine ⟨W, h, σ, _, p, g, q, fun ps h1 W1 H1 vs q1 p1 x1 rr => ?_⟩
    split at q1
    · obtain ⟨v, w, rfl, r1, r2⟩ := rr.two
      rw [int_of r1, int_of r2]
      exact ⟨_, _, rfl, ⟨q1.1.1.1, q1.1.1.2, q1.1.2.1, q1.1.2.2⟩, f _ h1 W1 H1 _ q1.2 p1 x1 (src_range _ _)⟩
    · exact q1.elim
def enumD (xs : List D) : List D := (List.range xs.length).map fun i => .tup [.int (i : Nat), xs.getD i .non]
def gEnum (t : GA) : GI := fun σ h Q => t σ h fun ps h1 => match ps with
  | [.d (.lst xs)] => Q (enumD xs) h1
  | [.d (.klst xs)] => Q (enumD xs) h1
  | _ => False
theorem src_enum {K : KX} {W : Wd} {H : Hp} {a : Addr} {its : List D} {ys : List V} (st : ∀ W' H', ExS W W' H H' → SqL K H' a ys) (r : RDs K W.own W.rg H its ys) : SrcOk K W H (Ite K a) (enumD its) where
  go W' H' h p x i hi := by
    have hi' : i < its.length := by simpa [enumD] using hi
    exact ⟨ys, ys[i]'(by rw [← r.len]; exact hi'), st W' H' x, List.getElem?_eq_getElem _⟩
  stop W' H' h p x := ⟨ys, st W' H' x, by simp [enumD, r.len]⟩
  yld W' H' h p x i v H2 q hi := by
    have hi' : i < its.length := by simpa [enumD] using hi
    obtain ⟨T, y, rfl, nT, rfl, q⟩ := q
    obtain ⟨z, e1, e2⟩ := (RDs.ext x _ _ r).get' (q ys (st W' H' x))
    refine ⟨.tup [.int (i : Nat), z], ?_, p.laid nT, Ext.laid p nT, new_tup p (RDs.cons rd_int (RDs.one e2)) nT⟩
    unfold enumD
    rw [List.getElem?_map, List.getElem?_range hi']
    simp [List.getD, e1]
theorem i_enum {a : Expr} {ta : GA} {elts : List Expr} {kk : Nat} {tpos : Pos} (hm : X.mg "enumerate" = none) (ha : EA X [a] ta) (hg : Gl X "enumerate" := by rfl) (hs : starEach [a] X.env = [(false, eval a X.env)] := by rfl) :
    I X (.Tuple elts kk tpos) (.Call (.Name "enumerate" p0) [a] [] pos) (gEnum ta) :=
  PI.weak (pi_enum hg hm ha hs) fun τ H R ⟨W, h, σ, post, p, g, q, f⟩ => by
    refine ⟨W, h, σ, _, p, g, q, fun ps h1 W1 H1 vs q1 p1 x1 rr => ?_⟩
    split at q1
    · obtain ⟨v, rfl, r1⟩ := rr.one
      simp only [RP, RD] at r1
      obtain ⟨a, ys, rfl, q2, s⟩ := r1
      exact ⟨a, ys, rfl, q2.sq, f _ h1 W1 H1 _ q1 p1 x1 (src_enum (fun _ _ => q2.st) s)⟩
    · obtain ⟨v, rfl, r1⟩ := rr.one
      simp only [RP, RD] at r1
      obtain ⟨a, ys, rfl, q2, s⟩ := r1
      exact ⟨a, ys, rfl, q2.sq, f _ h1 W1 H1 _ q1 p1 x1 (src_enum (fun _ _ => q2.st) s)⟩
    · exact q1.elim
end

/-! ### for -/
structure ForP (its : List D) (ks : List Nat) (n : Nat) (g : GG) (b : GS) (D : GD) (σ : Sl) (h : Hl) : Prop where
  ex : ∃ Pv : Nat → Sl → Hl → Prop, Pv 0 σ h ∧ (∀ (i : Nat) x σ h, its[i]? = some x → Pv i σ h → g (.d x) σ h fun σ2 h2 =>
    b { nx := turnEnd ks n (Pv (i + 1)), ct := turnEnd ks n (Pv (i + 1)), bk := D.nx, rt := D.rt } σ2 h2) ∧ ∀ σ h, Pv its.length σ h → D.nx σ h
def gFor (ks : List Nat) (src : GI) (g : GG) (b : GS) : GS := fun D σ h => src σ h fun its h1 => killS ks σ fun q => lenH h1 fun n => ForP its ks n g b D q h1
theorem s_for {X : CxE} {tg iter : Expr} {body : List Stmt} {src : GI} {g : GG} {tb : GS} {pos : Pos} (ks : List Nat) (hp : PassesOwn (model X.prog X.w) X.A X.env X.xe) (hc : X.calm = true) (hi : I X tg iter src) (hg : G X tg g) (hb : Ss X body tb)
    (hs : ∀ x, foldedSetIterable iter X.env x = pure x := by intro _; rfl) : S X (.For tg iter body [] pos) (gFor ks src g tb) :=
  PS.weak (ps_for hp hc hi hg hb hs) fun D τ H ⟨W, h, σ, Gd, p, gg, q, f⟩ => by
    refine ⟨W, h, σ, _, p, gg, q, fun its h1 W1 H1 J q1 p1 x1 so => ?_⟩
    obtain ⟨σ0, q1, g0⟩ := killS_ok q1 (gg.ext x1)
    rw [lenH_eq] at q1
    obtain ⟨Pv, q0, qs, qd⟩ := q1.ex
    refine ⟨fun i m τ' H' => i + m = its.length ∧ ∃ W' h' σ', Pre X.kx W' H' h' ∧ Sg X.kx W' H' σ' τ' ∧ ExS W1 W' H1 H' ∧ Pv i σ' h', ⟨its.length, Nat.zero_add _, W1, h1, σ0, p1, g0, ExS.refl, q0⟩, ?_⟩
    rintro i m τ2 H2 ⟨em, W2, h2, σ2, p2, g2, x2, q2⟩
    have x12 := x1.toExS.trans x2
    cases m with
    | zero =>
      have ei : i = its.length := by omega
      subst ei
      exact .inl ⟨so.stop W2 H2 h2 p2 x2, f.nx _ h2 W2 H2 τ2 (qd _ _ q2) p2 x12 g2⟩
    | succ m =>
      have hi : i < its.length := by omega
      refine .inr ⟨so.go W2 H2 h2 p2 x2 i hi, fun τ' H' => ∃ W' h' σ', Pre X.kx W' H' h' ∧ Sg X.kx W' H' σ' τ' ∧ ExS W1 W' H1 H' ∧ Pv (i + 1) σ' h', fun τ' H' ⟨W', h', σ', a1, a2, a3, a4⟩ => ⟨m, Nat.lt_succ_self m, by omega, W', h', σ', a1, a2, a3, a4⟩, fun v H3 hy => ?_⟩
      obtain ⟨z, ez, p3, x3, r3⟩ := so.yld W2 H2 h2 p2 x2 i v H3 hy hi
      refine ⟨W2, h2, σ2, .d z, _, p3, g2.ext x3, r3, qs i z σ2 h2 ez q2, fun σ4 h4 W4 H4 τ4 q4 p4 x4 g4 => ?_⟩
      have x24 := x3.toExS.trans x4
      refine ⟨W4, h4, σ4, _, p4, g4, q4, ⟨fun σ5 h5 W5 H5 τ5 q5 p5 x5 g5 => ?_, fun u h5 W5 H5 w q5 p5 x5 r5 => f.rt u h5 W5 H5 w q5 p5 ((x12.trans x24).trans x5) r5, fun σ5 h5 W5 H5 τ5 q5 p5 x5 g5 => f.nx _ h5 W5 H5 τ5 q5 p5 ((x12.trans x24).trans x5) g5, fun σ5 h5 W5 H5 τ5 q5 p5 x5 g5 => ?_⟩⟩
      all_goals
        obtain ⟨σ6, h6, q6, p6, g6, x6⟩ := turnEnd_ok q5 p5 g5 (by rw [((x2.trans x24).trans x5).fo]; exact p1.toPre0.pal)
        exact ⟨_, h6, σ6, p6, g6, ((x2.trans x24).trans x5).trans x6, q6⟩

/-! ### lists that are given up -/
def replM (k : Nat) (x : D) : List Mb → List Mb
  | [] => []
  | .d y :: r => .d y :: replM k x r
  | .r j :: r => match Nat.beq j k with
    | true => .d x :: replM k x r
    | false => .r j :: replM k x r
def replS (k : Nat) (x : D) : Sl → (Sl → Prop) → Prop
  | [], c => c []
  | some (.ref j) :: r, c => match Nat.beq j k with
    | true => replS k x r fun q => c (some (.d x) :: q)
    | false => replS k x r fun q => c (some (.ref j) :: q)
  | some (.d y) :: r, c => replS k x r fun q => c (some (.d y) :: q)
  | some (.ex fl xs) :: r, c => replS k x r fun q => c (some (.ex fl xs) :: q)
  | some (.tc ms) :: r, c => replS k x r fun q => c (some (.tc (replM k x ms)) :: q)
  | none :: r, c => replS k x r fun q => c (none :: q)
def replP (k : Nat) (x : D) : Option P → Option P
  | some (.ref j) => match Nat.beq j k with
    | true => some (.d x)
    | false => some (.ref j)
  | some (.tc ms) => some (.tc (replM k x ms))
  | o => o
theorem replS_eq (k : Nat) (x : D) : ∀ (σ : Sl) (c : Sl → Prop), replS k x σ c = c (σ.map (replP k x))
  | [], c => rfl
  | some (.ref j) :: r, c => by
    simp only [replS, List.map_cons, replP]
    cases h : Nat.beq j k <;> simp only <;> rw [replS_eq k x r]
  | some (.d y) :: r, c => by
    simp only [replS, List.map_cons, replP]
    rw [replS_eq k x r]
  | some (.ex fl xs) :: r, c => by
    simp only [replS, List.map_cons, replP]
    rw [replS_eq k x r]
  | some (.tc ms) :: r, c => by
    simp only [replS, List.map_cons, replP]
    rw [replS_eq k x r]
  | none :: r, c => by
    simp only [replS, List.map_cons, replP]
    rw [replS_eq k x r]
def frz (i : Nat) (σ : Sl) (h : Hl) (c : Sl → Hl → Prop) : Prop := match slotAt σ i with
  | some (.ref k) => match cellAt h k with
    | some (.lst xs) => setCell h k .gone fun h' => replS k (.lst xs) σ fun q => c q h'
    | _ => False
  | _ => c σ h
def frzAll : List Nat → Sl → Hl → (Sl → Hl → Prop) → Prop
  | [], σ, h, c => c σ h
  | i :: is, σ, h, c => frz i σ h fun σ' h' => frzAll is σ' h' c
section
variable {K : KX} {W : Wd} {H : Hp} {h : Hl} {σ : Sl} {τ : L2.St}
def Wd.gone (W : Wd) (k : Nat) : Wd := ⟨W.al.set k none, W.rg, W.fo, W.gh⟩
theorem gone_al {k j : Nat} {a : Addr} (e : (W.gone k).al[j]? = some (some a)) : j ≠ k ∧ W.al[j]? = some (some a) := by
  have e' : (W.al.set k none)[j]? = some (some a) := e
  rw [List.getElem?_set] at e'
  by_cases hj : k = j
  · rw [if_pos hj] at e'
    split at e' <;> cases e'
  · rw [if_neg hj] at e'
    exact ⟨fun z => hj z.symm, e'⟩
theorem ExS.gone {k : Nat} : ExS W (W.gone k) H H := ⟨fun _ _ e _ => e, fun _ _ e _ => e, fun a o => .inl (by
  rcases o with ⟨j, e⟩ | q
  · exact .inl ⟨j, (gone_al e).2⟩
  · exact .inr q), fun _ q => q, rfl, rfl⟩
theorem Pre.gone (p : Pre K W H h) (k : Nat) : Pre K (W.gone k) H (h.set k .gone) := by
  refine p.step ExS.gone ?_
  refine ⟨?_, fun j c oa h1 h2 => ?_, p.rng, fun i j a h1 h2 => p.nd1 i j a (gone_al h1).2 (gone_al h2).2, fun i a h1 => p.nd2 i a (gone_al h1).2, p.nd3, p.fo, fun i a h1 => p.nd4 i a (gone_al h1).2, p.nd5, fun i a e => ?_⟩
  · show (W.al.set k none).length = _
    rw [List.length_set, List.length_set, p.len]
  · have h2' : (W.al.set k none)[j]? = some oa := h2
    rw [List.getElem?_set] at h1 h2'
    by_cases hj : k = j
    · rw [if_pos hj] at h1 h2'
      split at h1
      · split at h2'
        · cases h1; cases h2'; trivial
        · cases h2'
      · cases h1
    · rw [if_neg hj] at h1 h2'
      exact RC.ext ExS.gone (fun b ys _ q => q) (p.cel j c oa h1 h2')
  · show (W.al.set k none)[i]? = some none ∨ (W.al.set k none)[i]? = some (some a)
    have q := p.pas i a e
    rw [List.getElem?_set]
    by_cases hk : k = i
    · subst hk
      have hl : k < W.al.length := by rcases q with z | z <;> exact (List.getElem?_eq_some_iff.mp z).1
      rw [if_pos rfl, if_pos hl]
      exact .inl rfl
    · rw [if_neg hk]
      exact q
theorem frz_ok {i : Nat} {c : Sl → Hl → Prop} (q : frz i σ h c) (p : Pre K W H h) (g : Sg K W H σ τ) : ∃ σ' h' W', c σ' h' ∧ Pre K W' H h' ∧ Sg K W' H σ' τ ∧ ExS W W' H H := by
  unfold frz at q
  split at q
  · split at q
    · rename_i k e1 _ xs e2
      rw [setCell_eq, replS_eq] at q
      refine ⟨_, _, W.gone k, q, p.gone k, ⟨by rw [List.length_map, g.len], fun j z e => ?_⟩, ExS.gone⟩
      rw [List.getElem?_map] at e
      cases h1 : σ[j]? with
      | none => rw [h1] at e; cases e
      | some o =>
        rw [h1] at e
        simp only [Option.map_some, Option.some.injEq] at e
        cases o with
        | none => cases e
        | some y =>
          obtain ⟨v, h2, h3⟩ := g.val j y h1
          refine ⟨v, h2, ?_⟩
          cases y with
          | d y =>
            simp only [replP, Option.some.injEq] at e
            subst e
            exact RD.ext ExS.gone _ _ h3
          | ex =>
            simp only [replP, Option.some.injEq] at e
            subst e
            exact ⟨h3.1, RF.tr (ExS.gone (W := W) (k := k) (H := H)).tr h3.2⟩
          | tc ms =>
            simp only [replP, Option.some.injEq] at e
            subst e
            obtain ⟨a, us, e0, h4, h5⟩ := h3
            refine ⟨a, us, e0, QT.tr (ExS.gone (W := W) (k := k) (H := H)).tr h4, ?_⟩
            clear h1 h2 e0 h4
            induction ms generalizing us with
            | nil => exact h5
            | cons m ms ih =>
              obtain ⟨y, r, ez, h6, h7⟩ := h5
              cases m with
              | d x => exact ⟨y, r, ez, RD.ext ExS.gone _ _ h6, ih r h7⟩
              | r m =>
                simp only [replM]
                split
                · rename_i hb
                  have em : m = k := Nat.eq_of_beq_eq_true hb
                  subst em
                  refine ⟨y, r, ez, ?_, ih r h7⟩
                  obtain ⟨a, rfl, h4⟩ := h6
                  obtain ⟨a', ys, e5, e6, e7, e8⟩ := cell_ok p e2 (⟨a, rfl, h4⟩ : RP K W H (.ref m) (.ref a))
                  cases e5
                  show RD K _ _ H (.lst xs) _
                  simp only [RD]
                  refine ⟨a, ys, rfl, ⟨e7, fun o => ?_⟩, RDs.ext ExS.gone _ _ e8⟩
                  rcases o with ⟨j2, e9⟩ | ⟨z2, m2, e9⟩ | e9
                  · exact (gone_al e9).1 (p.nd1 _ _ a (gone_al e9).2 h4)
                  · have n := p.nd2 m a h4 z2 m2
                    exact e9.elim n.1 n.2
                  · exact p.nd4 m a h4 e9
                · rename_i hb
                  refine ⟨y, r, ez, ?_, ih r h7⟩
                  obtain ⟨a, rfl, h4⟩ := h6
                  refine ⟨a, rfl, ?_⟩
                  show (W.al.set k none)[m]? = _
                  rw [List.getElem?_set, if_neg (fun z => by subst z; rw [Nat.beq_refl] at hb; cases hb)]
                  exact h4
          | ref m =>
            obtain ⟨a, rfl, h4⟩ := h3
            simp only [replP] at e
            split at e
            · rename_i hb
              have em : m = k := Nat.eq_of_beq_eq_true hb
              subst em
              cases e
              obtain ⟨a', ys, e5, e6, e7, e8⟩ := cell_ok p e2 (⟨a, rfl, h4⟩ : RP K W H (.ref m) (.ref a))
              cases e5
              show RD K _ _ H (.lst xs) _
              simp only [RD]
              refine ⟨a, ys, rfl, ⟨e7, fun o => ?_⟩, RDs.ext ExS.gone _ _ e8⟩
              rcases o with ⟨j2, e9⟩ | ⟨z2, m2, e9⟩ | e9
              · exact (gone_al e9).1 (p.nd1 _ _ a (gone_al e9).2 h4)
              · have n := p.nd2 m a h4 z2 m2
                exact e9.elim n.1 n.2
              · exact p.nd4 m a h4 e9
            · rename_i hb
              cases e
              refine ⟨a, rfl, ?_⟩
              show (W.al.set k none)[m]? = _
              rw [List.getElem?_set, if_neg (fun z => by subst z; rw [Nat.beq_refl] at hb; cases hb)]
              exact h4
    · exact q.elim
  · exact ⟨σ, h, W, q, p, g, ExS.refl⟩
theorem frzAll_ok : ∀ {is : List Nat} {σ : Sl} {h : Hl} {W : Wd} {c : Sl → Hl → Prop}, frzAll is σ h c → Pre K W H h → Sg K W H σ τ → ∃ σ' h' W', c σ' h' ∧ Pre K W' H h' ∧ Sg K W' H σ' τ ∧ ExS W W' H H
  | [], σ, h, W, c, q, p, g => ⟨σ, h, W, q, p, g, ExS.refl⟩
  | i :: is, σ, h, W, c, q, p, g => by
    obtain ⟨σ1, h1, W1, q1, p1, g1, x1⟩ := frz_ok q p g
    obtain ⟨σ2, h2, W2, q2, p2, g2, x2⟩ := frzAll_ok q1 p1 g1
    exact ⟨σ2, h2, W2, q2, p2, g2, x1.trans x2⟩
end
def gFrz (is : List Nat) (u : GS) : GS := fun D σ h => frzAll is σ h fun σ' h' => u D σ' h'
theorem ss_frz {X : CxE} {sts : List Stmt} {u : GS} (is : List Nat) (hh : Ss X sts u) : Ss X sts (gFrz is u) := PSs.weak hh fun D τ H ⟨W, h, σ, Gd, p, g, q, f⟩ => by
  obtain ⟨σ1, h1, W1, q1, p1, g1, x1⟩ := frzAll_ok q p g
  exact ⟨W1, h1, σ1, Gd, p1, g1, q1, f.ext x1⟩
theorem s_frz {X : CxE} {st : Stmt} {u : GS} (is : List Nat) (hh : S X st u) : S X st (gFrz is u) := PS.weak hh fun D τ H ⟨W, h, σ, Gd, p, g, q, f⟩ => by
  obtain ⟨σ1, h1, W1, q1, p1, g1, x1⟩ := frzAll_ok q p g
  exact ⟨W1, h1, σ1, Gd, p1, g1, q1, f.ext x1⟩
end Sc

set_option Elab.async false
set_option linter.all false
set_option maxRecDepth 100000
/-! Sc7: comprehensions, calls, defs. -/
namespace Sc
open PySem PySem.Spec PyProof.Rows L2

/-! ### comprehensions -/
inductive Tgt where
  | one (i : Nat) | tup (is : List Nat)
def Tgt.is : Tgt → List Nat
  | .one i => [i]
  | .tup is => is
def setAll : List Nat → List D → Sl → (Sl → Prop) → Prop
  | [], [], σ, k => k σ
  | i :: is, x :: xs, σ, k => setSlot σ i (.d x) fun q => setAll is xs q k
  | _, _, _, _ => False
def Tgt.set (t : Tgt) (x : D) (σ : Sl) (k : Sl → Prop) : Prop := match t with
  | .one i => setSlot σ i (.d x) k
  | .tup is => match x with
    | .tup xs => setAll is xs σ k
    | .lst xs => setAll is xs σ k
    | _ => False
def tgNames : List Nat → TGs
  | [] => L2.gNil
  | i :: is => L2.gCons (L2.gName i) (tgNames is)
def Tgt.tg (K : PySem.W.Frag) : Tgt → TG
  | .one i => L2.gName i
  | .tup is => fun v σ H Q => L2.gTup K is.length (tgNames is) v σ H Q ∨ L2.gLst K is.length (tgNames is) v σ H Q
theorem wipe_set : ∀ (vs : List Nat) (τ : L2.St) (i : Nat) (o : Option V), i ∈ vs → wipe (τ.set i o) vs = wipe τ vs
  | [], _, _, _, h => by cases h
  | v :: vs, τ, i, o, h => by
    by_cases hv : i ∈ vs
    · simp only [wipe, wipe_set vs τ i o hv]
    · have e : i = v := by
        cases h with
        | head => rfl
        | tail _ h => exact (hv h).elim
      subst e
      simp only [wipe]
      exact wipe_comm vs τ i o
where
  wipe_comm : ∀ (vs : List Nat) (τ : L2.St) (i : Nat) (o : Option V), (wipe (τ.set i o) vs).set i none = (wipe τ vs).set i none
    | [], τ, i, o => by simp [wipe]
    | v :: vs, τ, i, o => by
      simp only [wipe]
      by_cases e : v = i
      · subst e
        rw [List.set_set, List.set_set]
        exact wipe_comm vs τ v o
      · rw [List.set_comm _ _ e, List.set_comm _ _ e, wipe_comm vs τ i o]
theorem wipe_idem : ∀ (vs us : List Nat) (τ : L2.St), (∀ i ∈ vs, i ∈ us) → wipe (wipe τ vs) us = wipe τ us
  | [], _, _, _ => rfl
  | v :: vs, us, τ, h => by
    simp only [wipe]
    rw [wipe_set us _ v none (h v List.mem_cons_self)]
    exact wipe_idem vs us τ fun i hi => h i (List.mem_cons_of_mem _ hi)
section
variable {K : KX} {W : Wd} {H : Hp} {σ : Sl} {τ : L2.St}
theorem setAll_ok (vs : List Nat) : ∀ (is : List Nat) (xs : List D) (us : List V) (σ : Sl) (τ : L2.St) (k : Sl → Prop) (Q : L2.St → Hp → Prop), (∀ i ∈ is, i ∈ vs) → RDs K W.own W.rg H xs us → Sg K W H σ τ → setAll is xs σ k →
    (∀ σ' τ', k σ' → Sg K W H σ' τ' → wipe τ' vs = wipe τ vs → Q τ' H) → tgNames is us τ H Q ∧ us.length = is.length
  | [], [], us, σ, τ, k, Q, hi, r, g, q, f => by
    simp only [RDs] at r
    subst r
    exact ⟨⟨rfl, f σ τ q g rfl⟩, rfl⟩
  | i :: is, x :: xs, us, σ, τ, k, Q, hi, r, g, q, f => by
    simp only [RDs] at r
    obtain ⟨y, ys, rfl, r1, r2⟩ := r
    simp only [setAll] at q
    rw [setSlot_eq] at q
    have h0 : i ∈ vs := hi i (List.mem_cons_self)
    obtain ⟨a, b⟩ := setAll_ok vs is xs ys (σ.set i (some (.d x))) (τ.set i (some y)) k Q (fun j hj => hi j (List.mem_cons_of_mem _ hj)) r2 (g.set r1) q (fun σ' τ' z1 z2 z3 => f σ' τ' z1 z2 (by rw [z3, wipe_set vs τ i _ h0]))
    exact ⟨⟨y, ys, rfl, a⟩, by rw [List.length_cons, List.length_cons, b]⟩
  | [], _ :: _, _, _, _, _, _, _, _, _, q, _ => q.elim
  | _ :: _, [], _, _, _, _, _, _, _, _, q, _ => q.elim
theorem Tgt.ok {h : Hl} {t : Tgt} {x : D} {v : V} {vs : List Nat} {k : Sl → Prop} {Q : L2.St → Hp → Prop} (hi : ∀ i ∈ t.is, i ∈ vs) (p : Pre K W H h) (r : RD K W.own W.rg H x v) (g : Sg K W H σ τ) (q : t.set x σ k)
    (f : ∀ σ' τ', k σ' → Sg K W H σ' τ' → wipe τ' vs = wipe τ vs → Q τ' H) : t.tg K v τ H Q := by
  cases t with
  | one i =>
    simp only [Tgt.set] at q
    rw [setSlot_eq] at q
    exact f _ _ q (g.set (p := .d x) r) (wipe_set vs τ i _ (hi i (List.mem_singleton.mpr rfl)))
  | tup is =>
    cases x with
    | tup xs =>
      simp only [RD] at r
      obtain ⟨a, ys, rfl, q2, s⟩ := r
      obtain ⟨h1, h2⟩ := setAll_ok vs is xs ys σ τ k Q hi s g q f
      exact .inl ⟨a, ys, rfl, q2.sq, h2, h1⟩
    | lst xs =>
      simp only [RD] at r
      obtain ⟨a, ys, rfl, q2, s⟩ := r
      obtain ⟨h1, h2⟩ := setAll_ok vs is xs ys σ τ k Q hi s g q f
      exact .inr ⟨a, ys, rfl, q2.sq, h2, h1⟩
    | _ => exact q.elim
theorem Sg.wipe (g : Sg K W H σ τ) : ∀ vs : List Nat, ∀ k : Sl → Prop, killS vs σ k → ∃ σ', k σ' ∧ Sg K W H σ' (L2.wipe τ vs) := by
  have one : ∀ (vs : List Nat) (σ : Sl) (τ : L2.St), Sg K W H σ τ → (∀ i ∈ vs, ∀ p, σ[i]? ≠ some (some p)) → Sg K W H σ (L2.wipe τ vs) := by
    intro vs
    induction vs with
    | nil => intro σ τ g _; exact g
    | cons v vs ih =>
      intro σ τ g n
      have g1 := ih σ τ g fun i hi => n i (List.mem_cons_of_mem _ hi)
      refine ⟨by simp only [L2.wipe, List.length_set]; exact g1.len, fun j p e => ?_⟩
      obtain ⟨u, h1, h2⟩ := g1.val j p e
      refine ⟨u, ?_, h2⟩
      simp only [L2.wipe]
      rw [List.getElem?_set, if_neg (fun z => n j (by rw [z]; exact List.mem_cons_self) p e)]
      exact h1
  have two : ∀ (vs : List Nat) (σ : Sl) (k : Sl → Prop), killS vs σ k → ∃ σ', k σ' ∧ σ'.length = σ.length ∧ (∀ i ∈ vs, ∀ p, σ'[i]? ≠ some (some p)) ∧ ∀ (i : Nat) p, σ'[i]? = some (some p) → σ[i]? = some (some p) := by
    intro vs
    induction vs with
    | nil =>
      intro σ k q
      refine ⟨σ, q, rfl, ?_, fun i p e => e⟩
      intro i hi
      cases hi
    | cons v vs ih =>
      intro σ k q
      unfold killS at q
      rw [kill1_eq] at q
      obtain ⟨σ', h1, h2, h3, h4⟩ := ih _ k q
      refine ⟨σ', h1, by rw [h2, List.length_set], fun i hi p e => ?_, fun i p e => ?_⟩
      · cases hi with
        | head =>
          have := h4 _ p e
          rw [List.getElem?_set, if_pos rfl] at this
          split at this <;> cases this
        | tail _ hi => exact h3 i hi p e
      · have := h4 i p e
        rw [List.getElem?_set] at this
        split at this
        · split at this <;> cases this
        · exact this
  intro vs k q
  obtain ⟨σ', h1, h2, h3, h4⟩ := two vs σ k q
  exact ⟨σ', h1, one vs σ' τ ⟨by rw [h2, g.len], fun i p e => g.val i p (h4 i p e)⟩ h3⟩
end
structure CompP (its : List D) (n : Nat) (tg : Tgt) (tt : GB) (te : GT) (σ : Sl) (h : Hl) (Qf : List D → Hl → Prop) : Prop where
  ex : ∃ Pv : Nat → List D → Hl → Prop, Pv 0 [] h ∧ (∀ (i : Nat) x ys h, its[i]? = some x → Pv i ys h → tg.set x σ fun σ2 => addCell h (.lst ys) fun _ h1 => tt σ2 h1 fun b h3 => Br b
    (te σ2 h3 fun y h4 => match y, cellAt h4 n with
      | .d z, some (.lst zs) => zs.length < sizeLine ∧ takeH n h4 fun h5 => Pv (i + 1) (zs ++ [z]) h5
      | _, _ => False)
    (match cellAt h3 n with
      | some (.lst zs) => takeH n h3 fun h5 => Pv (i + 1) zs h5
      | _ => False)) ∧ ∀ ys h, Pv its.length ys h → Qf ys h
def gLc (src : GI) (vs : List Nat) (tg : Tgt) (tt : GB) (te : GT) : GT := fun σ h Q => src σ h fun its h1 => killS vs σ fun q => lenH h1 fun n => CompP its n tg tt te q h1 fun ys h2 => Q (.d (.lst ys)) h2
def gLcM (src : GI) (vs : List Nat) (tg : Tgt) (tt : GB) (te : GT) : GT := fun σ h Q => src σ h fun its h1 => killS vs σ fun q => lenH h1 fun n => CompP its n tg tt te q h1 fun ys h2 => addCell h2 (.lst ys) fun k h3 => Q (.ref k) h3
def bYes : GB := fun _ h Q => Q true h
def ETs (X : CxE) (ifs : List Expr) (t : GB) : Prop := PTs X ifs (upB X.kx t)
theorem PTs.weak {X : CxE} {e : List Expr} {t t' : TT} (h : PTs X e t) (w : ∀ τ H Q, t' τ H Q → t τ H Q) : PTs X e t' := ⟨fun pins s σ H Q I q => h.run pins s σ H Q I (w _ _ _ q)⟩
theorem ets_nil {X : CxE} : ETs X [] bYes := PTs.weak pts_nil fun τ H Q ⟨W, h, σ, post, p, g, q, f⟩ => f true h W H q p Ext.refl
theorem ets_one {X : CxE} {c : Expr} {t : GB} (hc : EB X c t) : ETs X [c] t := pts_one hc
theorem gt_names {X : CxE} : ∀ {es : List Expr} {is : List Nat}, PGs X es (tgNames is) → PGs X es (tgNames is) := id
/-- the comprehension's own target -/
def CT (X : CxE) (tgx : Expr) (t : Tgt) : Prop := PG X tgx (t.tg X.kx)
theorem ct_one {X : CxE} {i : Nat} {x : Str} {pos : Pos} (hN : X.N.Nodup) (hi : X.N[i]? = some x := by rfl) (hx : Loc X.env.scope x := by first | exact .inl rfl | exact .inr rfl) (hf : X.fn x = true ∨ X.env.scope.names.lookup x = some .local := by first | exact .inl rfl | exact .inr rfl | assumption) : CT X (.Name x pos) (.one i) := pg_name hN hi hx hf
theorem ct_tup {X : CxE} {es : List Expr} {k : Nat} {pos : Pos} {is : List Nat} (hc : X.calm = true) (hh : PGs X es (tgNames is)) (hn : (assignEach es X.env).length = is.length := by rfl) (hst : (assignEach es X.env).findIdx? (·.1) = none := by rfl) : CT X (.Tuple es k pos) (.tup is) :=
  PG.or (pg_tup hc hh hn hst) (pg_lst hc hh hn hst)
theorem cn_nil {X : CxE} : PGs X [] (tgNames []) := pgs_nil
theorem cn_cons {X : CxE} {i : Nat} {is : List Nat} {x : Str} {p0 : Pos} {es : List Expr} (hN : X.N.Nodup) (hr : PGs X es (tgNames is)) (hi : X.N[i]? = some x := by rfl) (hx : Loc X.env.scope x := by first | exact .inl rfl | exact .inr rfl) (hf : X.fn x = true ∨ X.env.scope.names.lookup x = some .local := by first | exact .inl rfl | exact .inr rfl | assumption)
    (hs : (assignEach (.Name x p0 :: es) X.env).map (·.2) = assign (.Name x p0) X.env :: (assignEach es X.env).map (·.2) := by rfl) : PGs X (.Name x p0 :: es) (tgNames (i :: is)) := pgs_cons (pg_name hN hi hx hf) hr hs
/-! ### another wish for exceptions: none -/
def Wd.re (W : Wd) (g : Gh) : Wd := ⟨W.al, W.rg, W.fo, g⟩
theorem re_own {W : Wd} {g : Gh} {a : Addr} : (W.re g).own a ↔ W.own a := Iff.rfl
theorem Pre0.re {K : PySem.W.Frag} {W : Wd} {H : Hp} {h : Hl} (p : Pre0 K W H h) (g : Gh) : Pre0 K (W.re g) H h := ⟨p.len, p.cel, p.rng, p.nd1, p.nd2, p.nd3, p.fo, p.nd4, p.nd5, p.pas⟩
theorem RP.re {K : PySem.W.Frag} {W : Wd} {H : Hp} {g : Gh} (e : g.xa = W.gh.xa) : ∀ {p : P} {v : V}, RP K W H p v → RP K (W.re g) H p v
  | .d _, _, r => r
  | .ref _, _, r => r
  | .ex fl xs, v, r => by
    refine ⟨by rw [show (W.re g).gh.xa = W.gh.xa from e]; exact r.1, ?_⟩
    rw [show (W.re g).gh.xa = W.gh.xa from e]
    exact r.2
  | .tc ms, v, ⟨a, ys, e, q, s⟩ => ⟨a, ys, e, q, RMs.re (W := W) (W' := W.re g) (fun _ _ r => r) (fun _ _ r => r) s⟩
theorem Sg.re {K : PySem.W.Frag} {W : Wd} {H : Hp} {σ : Sl} {τ : L2.St} {g : Gh} (e : g.xa = W.gh.xa) (s : Sg K W H σ τ) : Sg K (W.re g) H σ τ := ⟨s.len, fun i p z => by
  obtain ⟨v, h1, h2⟩ := s.val i p z
  exact ⟨v, h1, RP.re e h2⟩⟩
theorem Ext.re {W W' : Wd} {H H' : Hp} {g : Gh} (x : Ext (W.re g) W' H H') : Ext W (W'.re W.gh) H H' := ⟨⟨x.keep, x.keepF, x.new, x.rg, x.fo, rfl⟩, x.al⟩
/-- the wish that nothing is raised -/
def noGh (xa : Addr × Addr) : Gh := ⟨fun _ _ _ _ => False, fun _ _ _ _ => False, xa⟩
theorem FX.no {K : PySem.W.Frag} {et : ET} {W : Wd} {H : Hp} {xa : Addr × Addr} : FX K et (W.re (noGh xa)) H := fun _ _ _ _ _ _ _ _ _ q _ _ _ => q.elim
theorem takes_no {X : Cx} : Takes X fun _ _ _ _ => False := fun _ _ ⟨_, _, _, _, _, _, _, _, _, _, _, _, _, _, _, _, w⟩ => w.elim
section
variable {K K' : KX}
theorem Pre.no {W : Wd} {H : Hp} {h : Hl} (e : K'.fr = K.fr) (p : Pre K W H h) (t : K'.tk (noGh W.gh.xa)) : Pre K' (W.re (noGh W.gh.xa)) H h := ⟨by rw [e]; exact p.toPre0.re _, t, FX.no⟩
theorem Pre.un {W W' : Wd} {H H' : Hp} {h h' : Hl} {g : Gh} (e : K'.fr = K.fr) (p : Pre K W H h) (x : Ext (W.re g) W' H H') (p' : Pre K' W' H' h') : Pre K (W'.re W.gh) H' h' := p.step x.re.toExS (by rw [← e]; exact p'.toPre0.re _)
theorem up_no {t : GT} {τ : L2.St} {H : Hp} {Q : VK} (e : K'.fr = K.fr) (tk : ∀ g, K.tk g → K'.tk (noGh g.xa)) (q : up K t τ H Q) : up K' t τ H Q := by
  obtain ⟨W, h, σ, post, p, g, q, f⟩ := q
  refine ⟨W.re (noGh W.gh.xa), h, σ, post, p.no e (tk _ p.tk), by rw [e]; exact g.re rfl, q, fun z h1 W1 H1 v q1 p1 x1 r1 => ?_⟩
  exact f z h1 _ H1 v q1 (p.un e x1 p1) x1.re (RP.re (by show W.gh.xa = W1.gh.xa; rw [x1.gh]; rfl) (by rw [← e]; exact r1))
theorem upB_no {t : GB} {τ : L2.St} {H : Hp} {Q : Bool → Hp → Prop} (e : K'.fr = K.fr) (tk : ∀ g, K.tk g → K'.tk (noGh g.xa)) (q : upB K t τ H Q) : upB K' t τ H Q := by
  obtain ⟨W, h, σ, post, p, g, q, f⟩ := q
  refine ⟨W.re (noGh W.gh.xa), h, σ, post, p.no e (tk _ p.tk), by rw [e]; exact g.re rfl, q, fun b h1 W1 H1 q1 p1 x1 => ?_⟩
  exact f b h1 _ H1 q1 (p.un e x1 p1) x1.re
end
/-- a comprehension's block: nothing is raised there -/
abbrev CxE.blk (X : CxE) (s : Shared) (H : Hp) (scope : Scope) (cenv : Env) (fp : List Addr) : CxE := ⟨X.toCx.blk s H scope cenv fp, X.et, fun _ _ _ _ => False, X.xa⟩
theorem blk_tk {X : CxE} {s : Shared} {H : Hp} {scope : Scope} {cenv : Env} {fp : List Addr} : ∀ g, X.kx.tk g → (X.blk s H scope cenv fp).kx.tk (noGh g.xa) := fun g t => ⟨takes_no, rfl, t.2.2⟩
section
variable {X : CxE} {elt tg iter : Expr} {ifs : List Expr} {scope : Scope} {own : List (Str × Nat)} {pos : Pos} {src : GI} {t : Tgt} {tt : GB} {te : GT}
/-- the list in the making is the n-th cell -/
structure Mkg (K : KX) (W1 : Wd) (H1 : Hp) (Da : Addr) (n : Nat) (Pv : List D → Hl → Prop) (H : Hp) : Prop where
  ex : ∃ W h ys, Pre K W H (h ++ [.lst ys]) ∧ h.length = n ∧ W.al[n]? = some (some Da) ∧ Ext W1 W H1 H ∧ Pv ys h
theorem cell_n {W : Wd} {H : Hp} {h : Hl} {n : Nat} {Da : Addr} {zs : List D} (p : Pre X.kx W H h) (e : cellAt h n = some (.lst zs)) (a : W.al[n]? = some (some Da)) : ∃ vs, H Da = some (.lst vs) ∧ RDs X.kx W.own W.rg H zs vs ∧ n < h.length := by
  rw [cellAt_eq] at e
  obtain ⟨vs, h1, h2⟩ := p.cel n _ _ e a
  exact ⟨vs, h1, h2, (List.getElem?_eq_some_iff.mp e).1⟩
theorem take_snoc {α : Type} {l : List α} {n : Nat} {x : α} (h : n < l.length) : (l.set n x).take (n + 1) = l.take n ++ [x] := by
  rw [List.take_set, List.take_succ_eq_append_getElem h, List.set_append]
  simp [Nat.min_eq_left (Nat.le_of_lt h)]
theorem ext_cut {W1 W : Wd} {H1 H : Hp} {n : Nat} (x : Ext W1 W H1 H) (hn : W1.al.length ≤ n) : Ext W1 (W.cut n) H1 H :=
  ⟨x.toExS.trans ExS.cut, fun k a e => by
    show (W.al.take n)[k]? = _
    rw [List.getElem?_take, if_pos (Nat.lt_of_lt_of_le (List.getElem?_eq_some_iff.mp e).1 hn)]
    exact x.al k a e⟩
theorem mkg_next {W1 W : Wd} {H1 H : Hp} {Da : Addr} {n : Nat} {Pv : List D → Hl → Prop} {h : Hl} {zs : List D} {z : D} {v : V} (hn : W1.al.length = n) (hq : W1.fo.pa.length ≤ n) (p : Pre X.kx W H h) (a : W.al[n]? = some (some Da)) (x : Ext W1 W H1 H) (e : cellAt h n = some (.lst zs)) (r : RD X.kx W.own W.rg H z v)
    (q : Pv (zs ++ [z]) (h.take n)) : ∃ vs, H Da = some (.lst vs) ∧ vs.length = zs.length ∧ Mkg X.kx W1 H1 Da n Pv (upd H Da (.lst (vs ++ [v]))) := by
  obtain ⟨vs, h1, h2, h3⟩ := cell_n p e a
  refine ⟨vs, h1, h2.len.symm, ⟨W.cut (n + 1), h.take n, _, ?_, ?_, ?_, ?_, q⟩⟩
  · have := (p.set a (h2.app (RDs.one r))).cut (n + 1) (by rw [x.fo]; omega)
    rw [take_snoc h3] at this
    exact this
  · rw [List.length_take, Nat.min_eq_left (Nat.le_of_lt h3)]
  · show (W.al.take (n + 1))[n]? = _
    rw [List.getElem?_take, if_pos (Nat.lt_succ_self n)]
    exact a
  · exact ext_cut (x.trans (Ext.set p a)) (by rw [hn]; exact Nat.le_succ n)
theorem mkg_skip {W1 W : Wd} {H1 H : Hp} {Da : Addr} {n : Nat} {Pv : List D → Hl → Prop} {h : Hl} {zs : List D} (hn : W1.al.length = n) (hq : W1.fo.pa.length ≤ n) (p : Pre X.kx W H h) (a : W.al[n]? = some (some Da)) (x : Ext W1 W H1 H) (e : cellAt h n = some (.lst zs))
    (q : Pv zs (h.take n)) : Mkg X.kx W1 H1 Da n Pv H := by
  obtain ⟨vs, h1, h2, h3⟩ := cell_n p e a
  refine ⟨W.cut (n + 1), h.take n, zs, ?_, ?_, ?_, ?_, q⟩
  · have := p.cut (n + 1) (by rw [x.fo]; omega)
    rw [List.take_succ_eq_append_getElem h3] at this
    rw [cellAt_eq, List.getElem?_eq_getElem h3, Option.some.injEq] at e
    rw [e] at this
    exact this
  · rw [List.length_take, Nat.min_eq_left (Nat.le_of_lt h3)]
  · show (W.al.take (n + 1))[n]? = _
    rw [List.getElem?_take, if_pos (Nat.lt_succ_self n)]
    exact a
  · exact ext_cut x (by rw [hn]; exact Nat.le_succ n)
theorem lc_up (hi : ∀ i ∈ t.is, i ∈ own.map (·.2)) {τ : L2.St} {H : Hp} {Q : VK} {fin : (P → Hl → Prop) → List D → Hl → Prop}
    (hf : ∀ W1 H1 Da n post (Q : VK) H, W1.al.length = n → W1.fo.pa.length ≤ n → Mkg X.kx W1 H1 Da n (fin post) H → Fin X.kx W1 H1 post Q → Q (.ref Da) H)
    (q : up X.kx (fun σ h Q => src σ h fun its h1 => killS (own.map (·.2)) σ fun q => lenH h1 fun n => CompP its n t tt te q h1 fun ys h2 => fin Q ys h2) τ H Q) :
    tLc (upI X.kx src) (t.tg X.kx) (upB X.kx tt) (up X.kx te) (own.map (·.2)) τ H Q := by
  obtain ⟨W, h, σ, post, p, g, q, f⟩ := q
  refine ⟨W, h, σ, _, p, g, q, fun its h1 W1 H1 J q1 p1 x1 so => ?_⟩
  intro Da nD
  obtain ⟨σ0, q1, g0⟩ := (g.ext x1).wipe _ _ q1
  rw [lenH_eq] at q1
  obtain ⟨Pv, q0, qs, qd⟩ := q1.ex
  have hn : W1.al.length = h1.length := p1.len
  refine ⟨fun i m H' => i + m = its.length ∧ Mkg X.kx W1 H1 Da h1.length (Pv i) H', ⟨its.length, Nat.zero_add _, ⟨W1.add Da, h1, [], p1.cell nD RDs.nil, rfl, ?_, Ext.cell p1 nD, q0⟩⟩, ?_⟩
  · show (W1.al ++ [some Da])[_]? = _
    rw [← hn]
    simp
  rintro i m H2 ⟨em, mk⟩
  cases m with
  | zero =>
    have ei : i = its.length := by omega
    subst ei
    refine .inl ⟨?_, ?_⟩
    · obtain ⟨W2, h2, ys, p2, l2, a2, x2, q2⟩ := mk.ex
      exact so.stop W2 _ _ p2 x2.toExS
    · refine hf W1 H1 Da h1.length post Q H2 hn p1.toPre0.pal ?_ (fun z h3 W3 H3 v q3 p3 x3 r3 => f z h3 W3 H3 v q3 p3 (x1.trans x3) r3)
      obtain ⟨W2, h2, ys, p2, l2, a2, x2, q2⟩ := mk.ex
      exact ⟨W2, h2, ys, p2, l2, a2, x2, qd ys h2 q2⟩
  | succ m =>
    have hlt : i < its.length := by omega
    obtain ⟨W2, h2, ys, p2, l2, a2, x2, q2⟩ := mk.ex
    refine .inr ⟨so.go W2 _ _ p2 x2.toExS i hlt, Mkg X.kx W1 H1 Da h1.length (Pv (i + 1)), fun H' z => ⟨m, Nat.lt_succ_self m, by omega, z⟩, fun v H3 hy => ?_⟩
    obtain ⟨z, ez, p3, x3, r3⟩ := so.yld W2 _ _ p2 x2.toExS i v H3 hy hlt
    have q4 := qs i z ys h2 ez q2
    refine Tgt.ok hi p3 r3 ((g0.ext x2).ext x3) q4 fun σ4 τ4 q5 g4 hw => ⟨hw.trans (wipe_idem _ _ _ fun _ z => z), ?_⟩
    rw [addCell_eq] at q5
    refine ⟨W2, _, σ4, _, p3, g4, q5, fun b h5 W5 H5 q6 p5 x5 => ?_⟩
    have a5 : W5.al[h1.length]? = some (some Da) := x5.al _ _ a2
    have x15 := (x2.trans x3).trans x5
    cases b with
    | true =>
      refine (if_pos rfl).mpr ⟨W5, h5, σ4, _, p5, g4.ext x5, q6.t rfl, fun y h6 W6 H6 w q7 p6 x6 r6 => ?_⟩
      split at q7
      · rename_i zz zs e6
        rw [takeH_eq] at q7
        obtain ⟨vs, h7, h8, h9⟩ := mkg_next (Pv := Pv (i + 1)) hn p1.toPre0.pal p6 (x6.al _ _ a5) (x15.trans x6) e6 r6 q7.2
        exact ⟨vs, h7, by rw [h8]; exact q7.1, h9⟩
      · exact q7.elim
    | false =>
      refine (if_neg (by simp)).mpr ?_
      have q7 := q6.f rfl
      split at q7
      · rename_i zs e6
        rw [takeH_eq] at q7
        exact mkg_skip hn p1.toPre0.pal p5 a5 x15 e6 q7
      · exact q7.elim
theorem fin_lc {W1 : Wd} {H1 : Hp} {Da : Addr} {n : Nat} {post : P → Hl → Prop} {Q : VK} {H : Hp} (hn : W1.al.length = n) (hq : W1.fo.pa.length ≤ n) (mk : Mkg X.kx W1 H1 Da n (fun ys h => post (.d (.lst ys)) h) H) (f : Fin X.kx W1 H1 post Q) : Q (.ref Da) H := by
  obtain ⟨W, h, ys, p, l, a, x, q⟩ := mk.ex
  have e : (h ++ [Cell.lst ys])[n]? = some (.lst ys) := by rw [← l]; simp
  obtain ⟨vs, h1, h2⟩ := p.cel n _ _ e a
  have pc := p.cut n (by rw [x.fo]; exact hq)
  have et : (h ++ [Cell.lst ys]).take n = h := by rw [← l]; simp
  rw [et] at pc
  refine f _ h (W.cut n) H _ q pc (ext_cut x (Nat.le_of_eq hn)) ?_
  show RD X.kx _ _ H (.lst ys) _
  simp only [RD]
  refine ⟨Da, vs, rfl, ⟨h1, fun o => ?_⟩, RDs.ext ExS.cut _ _ h2⟩
  rcases o with ⟨j, e9⟩ | ⟨z2, m2, e9⟩ | e9
  · have e8 := cut_al e9
    have ej := p.nd1 _ _ Da e8 a
    have e7 : (W.al.take n)[j]? = some (some Da) := e9
    rw [List.getElem?_take, if_neg (by omega)] at e7
    cases e7
  · have nn := p.nd2 n Da a z2 m2
    exact e9.elim nn.1 nn.2
  · exact p.nd4 n Da a e9
theorem fin_lcM {W1 : Wd} {H1 : Hp} {Da : Addr} {n : Nat} {post : P → Hl → Prop} {Q : VK} {H : Hp} (hn : W1.al.length = n) (hq : W1.fo.pa.length ≤ n) (mk : Mkg X.kx W1 H1 Da n (fun ys h => addCell h (.lst ys) fun k h3 => post (.ref k) h3) H) (f : Fin X.kx W1 H1 post Q) : Q (.ref Da) H := by
  obtain ⟨W, h, ys, p, l, a, x, q⟩ := mk.ex
  rw [addCell_eq, l] at q
  exact f _ _ W H _ q p x ⟨Da, rfl, a⟩
theorem e_lc (own : List (Str × Nat)) (hc : X.calm = true) (hN : X.N.Nodup) (hi : I X tg iter src) (ok : BlkOk X.N X.env.scope scope own) (ht : ∀ i ∈ t.is, i ∈ own.map (·.2))
    (hg : ∀ (s : Shared) (H : Hp) (C : Addr) (cl : List (Str × Addr)) (fp : List Addr), CT (X.blk s H scope (compEnvC scope cl C X.env) fp) tg t) (hts : ∀ (s : Shared) (H : Hp) (C : Addr) (cl : List (Str × Addr)) (fp : List Addr), ETs (X.blk s H scope (compEnvC scope cl C X.env) fp) ifs tt)
    (he : ∀ (s : Shared) (H : Hp) (C : Addr) (cl : List (Str × Addr)) (fp : List Addr), E (X.blk s H scope (compEnvC scope cl C X.env) fp) elt te) (hs : ∀ x, foldedSetIterable iter X.env x = pure x := by intro _; rfl) :
    E X (.ListComp elt [⟨tg, iter, ifs, 0⟩] scope pos) (gLc src (own.map (·.2)) t tt te) :=
  PE.weak (pe_lc (g := t.tg X.kx) (tt := upB X.kx tt) (te := up X.kx te) hc hN hi ok hg (fun s H C cl fp => PTs.weak (hts s H C cl fp) fun _ _ _ q => upB_no (K := X.kx) rfl blk_tk q) (fun s H C cl fp => PE.weak (he s H C cl fp) fun _ _ _ q => up_no (K := X.kx) rfl blk_tk q) hs) fun τ H Q q => lc_up (fin := fun post ys h => post (.d (.lst ys)) h) ht (fun W1 H1 Da n post Q H hn mk f => fin_lc hn mk f) q
theorem e_lcM (own : List (Str × Nat)) (hc : X.calm = true) (hN : X.N.Nodup) (hi : I X tg iter src) (ok : BlkOk X.N X.env.scope scope own) (ht : ∀ i ∈ t.is, i ∈ own.map (·.2))
    (hg : ∀ (s : Shared) (H : Hp) (C : Addr) (cl : List (Str × Addr)) (fp : List Addr), CT (X.blk s H scope (compEnvC scope cl C X.env) fp) tg t) (hts : ∀ (s : Shared) (H : Hp) (C : Addr) (cl : List (Str × Addr)) (fp : List Addr), ETs (X.blk s H scope (compEnvC scope cl C X.env) fp) ifs tt)
    (he : ∀ (s : Shared) (H : Hp) (C : Addr) (cl : List (Str × Addr)) (fp : List Addr), E (X.blk s H scope (compEnvC scope cl C X.env) fp) elt te) (hs : ∀ x, foldedSetIterable iter X.env x = pure x := by intro _; rfl) :
    E X (.ListComp elt [⟨tg, iter, ifs, 0⟩] scope pos) (gLcM src (own.map (·.2)) t tt te) :=
  PE.weak (pe_lc (g := t.tg X.kx) (tt := upB X.kx tt) (te := up X.kx te) hc hN hi ok hg (fun s H C cl fp => PTs.weak (hts s H C cl fp) fun _ _ _ q => upB_no (K := X.kx) rfl blk_tk q) (fun s H C cl fp => PE.weak (he s H C cl fp) fun _ _ _ q => up_no (K := X.kx) rfl blk_tk q) hs) fun τ H Q q => lc_up (fin := fun post ys h => addCell h (.lst ys) fun k h3 => post (.ref k) h3) ht (fun W1 H1 Da n post Q H hn mk f => fin_lcM hn mk f) q
/-- y = [..] -/
theorem s_setLc {i : Nat} {y : Str} {py spos : Pos} (own : List (Str × Nat)) (hc : X.calm = true) (hN : X.N.Nodup) (hsw : swapsWith (.ListComp elt [⟨tg, iter, ifs, 0⟩] scope pos) (some (.Name y py)) spos.line X.env = pure true) (hi : I X tg iter src) (ok : BlkOk X.N X.env.scope scope own) (ht : ∀ i ∈ t.is, i ∈ own.map (·.2))
    (hg : ∀ (s : Shared) (H : Hp) (C : Addr) (cl : List (Str × Addr)) (fp : List Addr), CT (X.blk s H scope (compEnvC scope cl C X.env) fp) tg t) (hts : ∀ (s : Shared) (H : Hp) (C : Addr) (cl : List (Str × Addr)) (fp : List Addr), ETs (X.blk s H scope (compEnvC scope cl C X.env) fp) ifs tt)
    (he : ∀ (s : Shared) (H : Hp) (C : Addr) (cl : List (Str × Addr)) (fp : List Addr), E (X.blk s H scope (compEnvC scope cl C X.env) fp) elt te) (hy : X.N[i]? = some y := by rfl) (hyl : X.env.scope.names.lookup y = some .local := by rfl) (hs : ∀ x, foldedSetIterable iter X.env x = pure x := by intro _; rfl) :
    S X (.Assign [.Name y py] (.ListComp elt [⟨tg, iter, ifs, 0⟩] scope pos) spos) (gAsg (gLc src (own.map (·.2)) t tt te) (gName i)) :=
  PS.weak (ps_setLc (g := t.tg X.kx) (tt := upB X.kx tt) (te := up X.kx te) hc hN hy hyl hsw hi ok hg (fun s H C cl fp => PTs.weak (hts s H C cl fp) fun _ _ _ q => upB_no (K := X.kx) rfl blk_tk q) (fun s H C cl fp => PE.weak (he s H C cl fp) fun _ _ _ q => up_no (K := X.kx) rfl blk_tk q) hs) fun D τ H ⟨W, h, σ, Gd, p, gg, q, f⟩ => by
    refine lc_up (X := X) (own := own) (fin := fun post ys h => post (.d (.lst ys)) h) ht (fun W1 H1 Da n post Q H hn mk f => fin_lc hn mk f) ⟨W, h, σ, fun z h1 => gName i z σ h1 Gd.nx, p, gg, q, fun z h1 W1 H1 v q1 p1 x1 r1 => ?_⟩
    have q2 : setSlot σ i z fun σ' => Gd.nx σ' h1 := q1
    rw [setSlot_eq] at q2
    exact f.nx _ h1 W1 H1 _ q2 p1 x1.toExS ((gg.ext x1).set r1)
theorem s_setLcM {i : Nat} {y : Str} {py spos : Pos} (own : List (Str × Nat)) (hc : X.calm = true) (hN : X.N.Nodup) (hsw : swapsWith (.ListComp elt [⟨tg, iter, ifs, 0⟩] scope pos) (some (.Name y py)) spos.line X.env = pure true) (hi : I X tg iter src) (ok : BlkOk X.N X.env.scope scope own) (ht : ∀ i ∈ t.is, i ∈ own.map (·.2))
    (hg : ∀ (s : Shared) (H : Hp) (C : Addr) (cl : List (Str × Addr)) (fp : List Addr), CT (X.blk s H scope (compEnvC scope cl C X.env) fp) tg t) (hts : ∀ (s : Shared) (H : Hp) (C : Addr) (cl : List (Str × Addr)) (fp : List Addr), ETs (X.blk s H scope (compEnvC scope cl C X.env) fp) ifs tt)
    (he : ∀ (s : Shared) (H : Hp) (C : Addr) (cl : List (Str × Addr)) (fp : List Addr), E (X.blk s H scope (compEnvC scope cl C X.env) fp) elt te) (hy : X.N[i]? = some y := by rfl) (hyl : X.env.scope.names.lookup y = some .local := by rfl) (hs : ∀ x, foldedSetIterable iter X.env x = pure x := by intro _; rfl) :
    S X (.Assign [.Name y py] (.ListComp elt [⟨tg, iter, ifs, 0⟩] scope pos) spos) (gAsg (gLcM src (own.map (·.2)) t tt te) (gName i)) :=
  PS.weak (ps_setLc (g := t.tg X.kx) (tt := upB X.kx tt) (te := up X.kx te) hc hN hy hyl hsw hi ok hg (fun s H C cl fp => PTs.weak (hts s H C cl fp) fun _ _ _ q => upB_no (K := X.kx) rfl blk_tk q) (fun s H C cl fp => PE.weak (he s H C cl fp) fun _ _ _ q => up_no (K := X.kx) rfl blk_tk q) hs) fun D τ H ⟨W, h, σ, Gd, p, gg, q, f⟩ => by
    refine lc_up (X := X) (own := own) (fin := fun post ys h => addCell h (.lst ys) fun k h3 => post (.ref k) h3) ht (fun W1 H1 Da n post Q H hn mk f => fin_lcM hn mk f) ⟨W, h, σ, fun z h1 => gName i z σ h1 Gd.nx, p, gg, q, fun z h1 W1 H1 v q1 p1 x1 r1 => ?_⟩
    have q2 : setSlot σ i z fun σ' => Gd.nx σ' h1 := q1
    rw [setSlot_eq] at q2
    exact f.nx _ h1 W1 H1 _ q2 p1 x1.toExS ((gg.ext x1).set r1)
end
end Sc

set_option Elab.async false
set_option linter.all false
set_option maxRecDepth 100000
/-! Sc8: calls, defs. -/
namespace Sc
open PySem PySem.Spec PyProof.Rows L2

/-- what a def promises over data: what it hands back, with the cell that this is -/
abbrev GSp := List D → (P → Hl → Prop) → Prop
/-- .. or raises: the class's number and the arguments -/
abbrev GSpX := List D → (P → Hl → Prop) → (Nat → List D → Prop) → Prop
def P.noEx : P → Prop
  | .ex _ _ => False
  | _ => True
def upSpX (K : PySem.W.Frag) (et : ET) (sp : GSpX) : Sp := fun vs H Q E => ∃ W xs post ex, W.al = [] ∧ Pre0 K W H [] ∧ RDs K W.own W.rg H xs vs ∧ sp xs post ex ∧
  (∀ p hr W' H' v, p.noEx → post p hr → Pre0 K W' H' hr → ExS W W' H H' → RP K W' H' p v → Q v H') ∧
  ∀ n ys W' H' d, ex n ys → Pre0 K W' H' [] → ExS W W' H H' → RX K et W'.own W'.rg H' n ys d → E (.ref (He.ga K (et n).1)) (some d) H'
abbrev upSp (K : PySem.W.Frag) (et : ET) (sp : GSp) : Sp := upSpX K et fun xs Q _ => sp xs Q
/-- the members, the cells named anew -/
def reM (f : Nat → Nat) : List Mb → List Mb
  | [] => []
  | .d x :: r => .d x :: reM f r
  | .r k :: r => .r (f k) :: reM f r
/-- the members as data, each cell holding xs -/
def reD (xs : List D) : List Mb → List D
  | [] => []
  | .d x :: r => x :: reD xs r
  | .r _ :: r => .lst xs :: reD xs r
/-- all cells among the members are the k-th -/
def isR (k : Nat) : List Mb → Bool
  | [] => true
  | .d _ :: r => isR k r
  | .r j :: r => match Nat.beq j k with
    | true => isR k r
    | false => false
/-- the first cell among the members -/
def fstR : List Mb → Option Nat
  | [] => none
  | .d _ :: r => fstR r
  | .r j :: _ => some j
def putR (h : Hl) (Q : P → Hl → Prop) : P → Hl → Prop := fun p hr => match p, hr with
  | .d x, [] => Q (.d x) h
  | .ref 0, [c] => addCell h c fun k h2 => Q (.ref k) h2
  | .tc ms, [c] => isR 0 ms = true ∧ addCell h c fun k h2 => Q (.tc (reM (fun _ => k) ms)) h2
  | _, _ => False
/-- .. given up at once -/
def putF (h : Hl) (Q : P → Hl → Prop) : P → Hl → Prop := fun p hr => match p, hr with
  | .d x, [] => Q (.d x) h
  | .ref 0, [.lst xs] => Q (.d (.lst xs)) h
  | .tc ms, [.lst xs] => isR 0 ms = true ∧ Q (.d (.tup (reD xs ms))) h
  | _, _ => False
def gCallX (gw : GW) (sp : GSpX) (t : GA) : GT := fun σ h Q => t σ h fun ps h1 => allD ps fun xs => sp xs (putR h1 Q) fun n ys => gw n ys σ h1
def gCallFX (gw : GW) (sp : GSpX) (t : GA) : GT := fun σ h Q => t σ h fun ps h1 => allD ps fun xs => sp xs (putF h1 Q) fun n ys => gw n ys σ h1
def gCall (sp : GSp) (t : GA) : GT := fun σ h Q => t σ h fun ps h1 => allD ps fun xs => sp xs (putR h1 Q)
def gCallF (sp : GSp) (t : GA) : GT := fun σ h Q => t σ h fun ps h1 => allD ps fun xs => sp xs (putF h1 Q)
section
variable {K : PySem.W.Frag} {W W' : Wd} {H H' : Hp} {h : Hl}
def Wd.base (W : Wd) : Wd := ⟨[], W.rg, ⟨fun a => W.fo a ∨ ∃ k : Nat, W.al[k]? = some (some a), []⟩, W.gh⟩
theorem no_nil {α : Type} {j : Nat} {x : α} (e : ([] : List α)[j]? = some x) : False := by simp at e
theorem base_own {a : Addr} : W.base.own a ↔ W.own a := by
  constructor
  · rintro (⟨k, e⟩ | q | q | q)
    · exact (no_nil e).elim
    · exact .inr (.inl q)
    · exact .inr (.inr q)
    · exact .inl q
  · rintro (q | q | q)
    · exact .inr (.inr (.inr q))
    · exact .inr (.inl q)
    · exact .inr (.inr (.inl q))
theorem Pre0.base (p : Pre0 K W H h) : Pre0 K W.base H [] where
  len := rfl
  cel k c oa h1 _ := (no_nil h1).elim
  rng := p.rng
  nd1 i j a h1 _ := (no_nil h1).elim
  nd2 i a h1 := (no_nil h1).elim
  nd3 := p.nd3
  fo a f := p.there (base_own.mp (.inr (.inr f)))
  nd4 i a h1 := (no_nil h1).elim
  nd5 q m := by
    refine ⟨fun f => ?_, fun f => ?_⟩
    · rcases f with f | ⟨k, e⟩
      · exact (p.nd5 q m).1 f
      · exact (p.nd2 k _ e q m).1 rfl
    · rcases f with f | ⟨k, e⟩
      · exact (p.nd5 q m).2 f
      · exact (p.nd2 k _ e q m).2 rfl
  pas i a e := (no_nil e).elim
/-- the caller's cells beside what came back -/
def Wd.with (W W' : Wd) : Wd := ⟨W.al ++ W'.al, W'.rg, W.fo, W.gh⟩
theorem get_app {α : Type} {l m : List α} {k : Nat} {x : α} (e : (l ++ m)[k]? = some x) : (k < l.length ∧ l[k]? = some x) ∨ (l.length ≤ k ∧ m[k - l.length]? = some x) := by
  rw [List.getElem?_append] at e
  split at e
  · rename_i hk; exact .inl ⟨hk, e⟩
  · rename_i hk; exact .inr ⟨by omega, e⟩
theorem with_own (x : ExS W.base W' H H') {a : Addr} : (W.with W').own a ↔ W'.own a := by
  have hf : W'.fo a ↔ (W.fo a ∨ ∃ k : Nat, W.al[k]? = some (some a)) := by
    rw [x.fo]
    exact Iff.rfl
  constructor
  · rintro (⟨k, e⟩ | q | q)
    · have e' : (W.al ++ W'.al)[k]? = some (some a) := e
      rcases get_app e' with ⟨_, e2⟩ | ⟨_, e2⟩
      · exact .inr (.inr (hf.mpr (.inr ⟨k, e2⟩)))
      · exact .inl ⟨_, e2⟩
    · exact .inr (.inl q)
    · exact .inr (.inr (hf.mpr (.inl q)))
  · rintro (⟨k, e⟩ | q | q)
    · refine .inl ⟨W.al.length + k, ?_⟩
      show (W.al ++ W'.al)[_]? = _
      rw [List.getElem?_append_right (Nat.le_add_right _ _), Nat.add_sub_cancel_left]
      exact e
    · exact .inr (.inl q)
    · rcases hf.mp q with q | ⟨k, e⟩
      · exact .inr (.inr q)
      · refine .inl ⟨k, ?_⟩
        show (W.al ++ W'.al)[k]? = _
        rw [List.getElem?_append_left (List.getElem?_eq_some_iff.mp e).1]
        exact e
theorem Ext.with (x : ExS W.base W' H H') : Ext W (W.with W') H H' where
  keep a o e n := x.keep a o e fun z => n (base_own.mp z)
  keepF a o e n := x.keepF a o e (.inl n)
  new a o := by
    rcases x.new a ((with_own x).mp o) with q | q
    · exact .inl (base_own.mp q)
    · exact .inr q
  rg := x.rg
  fo := rfl
  gh := rfl
  al k a e := by
    show (W.al ++ W'.al)[k]? = _
    rw [List.getElem?_append_left (List.getElem?_eq_some_iff.mp e).1]
    exact e
theorem tr_with (x : ExS W.base W' H H') : Tr W'.own W'.rg H' (W.with W').own (W.with W').rg H' := ⟨fun a o e n => ⟨e, fun z => n ((with_own x).mp z)⟩, fun _ q => q⟩
theorem Pre0.with (p : Pre0 K W H h) {hr : Hl} (p2 : Pre0 K W' H' hr) (x : ExS W.base W' H H') : Pre0 K (W.with W') H' (h ++ hr) := by
  have y := Ext.with x
  have fo' : ∀ (k : Nat) a, W.al[k]? = some (some a) → W'.fo a := fun k a e => by
    rw [x.fo]
    exact .inr ⟨k, e⟩
  refine ⟨?_, fun k c oa h1 h2 => ?_, p2.rng, fun i j a h1 h2 => ?_, fun i a h1 => ?_, p2.nd3, fun a fa => p2.fo a (by rw [x.fo]; exact .inl fa), fun i a h1 => ?_, fun q m => ?_, fun i a e => (p.pas i a e).imp app_keep app_keep⟩
  · show (W.al ++ W'.al).length = _
    rw [List.length_append, List.length_append, p.len, p2.len]
  · have h2' : (W.al ++ W'.al)[k]? = some oa := h2
    rcases get_app h1 with ⟨k1, h1⟩ | ⟨k1, h1⟩ <;> rcases get_app h2' with ⟨k2, h2⟩ | ⟨k2, h2⟩
    · exact RC.ext y.toExS (fun b ys eb q => by
        subst eb
        exact x.keepF b _ q (.inr ⟨k, h2⟩)) (p.cel k c oa h1 h2)
    · rw [p.len] at k2; omega
    · rw [p.len] at k2; omega
    · rw [p.len] at h2
      have r := p2.cel _ c oa h1 h2
      cases c with
      | gone => cases oa with
        | none => trivial
        | some a => exact r
      | lst xs => cases oa with
        | none => exact r
        | some a =>
          obtain ⟨ys, q, s⟩ := r
          exact ⟨ys, q, RDs.tr (tr_with x) _ _ s⟩
  · have h1' : (W.al ++ W'.al)[i]? = some (some a) := h1
    have h2' : (W.al ++ W'.al)[j]? = some (some a) := h2
    rcases get_app h1' with ⟨k1, h1⟩ | ⟨k1, h1⟩ <;> rcases get_app h2' with ⟨k2, h2⟩ | ⟨k2, h2⟩
    · exact p.nd1 i j a h1 h2
    · exact (p2.nd4 _ a h2 (fo' i a h1)).elim
    · exact (p2.nd4 _ a h1 (fo' j a h2)).elim
    · have := p2.nd1 _ _ a h1 h2
      omega
  · have h1' : (W.al ++ W'.al)[i]? = some (some a) := h1
    rcases get_app h1' with ⟨k1, h1⟩ | ⟨k1, h1⟩
    · intro q m
      have n := p2.nd5 q m
      exact ⟨fun z => n.1 (z ▸ fo' i a h1), fun z => n.2 (z ▸ fo' i a h1)⟩
    · exact p2.nd2 _ a h1
  · have h1' : (W.al ++ W'.al)[i]? = some (some a) := h1
    rcases get_app h1' with ⟨k1, h1⟩ | ⟨k1, h1⟩
    · exact p.nd4 i a h1
    · exact fun z => p2.nd4 _ a h1 (by rw [x.fo]; exact .inl z)
  · have n := p2.nd5 q m
    exact ⟨fun z => n.1 (by rw [x.fo]; exact .inl z), fun z => n.2 (by rw [x.fo]; exact .inl z)⟩
theorem rp_with (p : Pre0 K W H h) {q : P} {v : V} (x : ExS W.base W' H H') (r : RP K W' H' q v) : RP K (W.with W') H' (match q with | .d x => .d x | .ref k => .ref (h.length + k) | .ex fl xs => .ex fl xs | .tc ms => .tc (reM (fun k => h.length + k) ms)) v := by
  cases q with
  | d z => exact RD.tr (tr_with x) z v r
  | ex fl xs =>
    have e : W'.gh.xa = W.gh.xa := by rw [x.gh]; rfl
    have r1 : v = .ref W.gh.xa.1 := by rw [← e]; exact r.1
    have r2 : RF K W'.own W'.rg H' fl xs W.gh.xa.2 := by rw [← e]; exact r.2
    exact ⟨r1, RF.tr (tr_with x) r2⟩
  | ref k =>
    obtain ⟨a, rfl, e⟩ := r
    refine ⟨a, rfl, ?_⟩
    show (W.al ++ W'.al)[h.length + k]? = _
    rw [← p.len, List.getElem?_append_right (Nat.le_add_right _ _), Nat.add_sub_cancel_left]
    exact e
  | tc ms =>
    obtain ⟨a, ys, rfl, qt, s⟩ := r
    refine ⟨a, ys, rfl, QT.tr (tr_with x) qt, ?_⟩
    clear qt
    induction ms generalizing ys with
    | nil => exact s
    | cons m ms ih =>
      obtain ⟨y, r, e1, h6, h7⟩ := s
      cases m with
      | d z => exact ⟨y, r, e1, RD.tr (tr_with x) z y h6, ih r h7⟩
      | r k =>
        refine ⟨y, r, e1, ?_, ih r h7⟩
        obtain ⟨a, rfl, e⟩ := h6
        refine ⟨a, rfl, ?_⟩
        show (W.al ++ W'.al)[h.length + k]? = _
        rw [← p.len, List.getElem?_append_right (Nat.le_add_right _ _), Nat.add_sub_cancel_left]
        exact e
theorem reM_is {f g : Nat → Nat} {k : Nat} : ∀ {ms : List Mb}, isR k ms = true → f k = g k → reM f ms = reM g ms
  | [], _, _ => rfl
  | .d x :: r, i, e => by simp only [reM]; rw [reM_is (ms := r) i e]
  | .r j :: r, i, e => by
    simp only [isR] at i
    split at i
    · rename_i hb
      have em : j = k := Nat.eq_of_beq_eq_true hb
      subst em
      simp only [reM]
      rw [reM_is (ms := r) i e, e]
    · cases i
/-- a given-up list in place of the first cell -/
theorem first_gone {xs : List D} {v : V} (h0 : W.fo.pa = []) (p : Pre0 K W H [.lst xs]) (r : RP K W H (.ref 0) v) : ∃ W2, W2.al = [] ∧ Pre0 K W2 H [] ∧ ExS W W2 H H ∧ RD K W2.own W2.rg H (.lst xs) v := by
  obtain ⟨a, rfl, e⟩ := r
  obtain ⟨ys, h1, h2⟩ := p.cel 0 _ _ rfl e
  refine ⟨W.cut 0, rfl, p.cut 0 (by rw [h0]; exact Nat.le_refl _), ExS.cut, ?_⟩
  simp only [RD]
  refine ⟨a, ys, rfl, ⟨h1, fun o => ?_⟩, RDs.ext ExS.cut _ _ h2⟩
  rcases o with ⟨j, e9⟩ | ⟨z2, m2, e9⟩ | e9
  · exact no_nil e9
  · have nn := p.nd2 0 a e z2 m2
    exact e9.elim nn.1 nn.2
  · exact p.nd4 0 a e e9
/-- .. in a tuple -/
theorem first_goneC {xs : List D} {ms : List Mb} {v : V} (h0 : W.fo.pa = []) (i : isR 0 ms = true) (p : Pre0 K W H [.lst xs]) (r : RP K W H (.tc ms) v) : ∃ W2, W2.al = [] ∧ Pre0 K W2 H [] ∧ ExS W W2 H H ∧ RD K W2.own W2.rg H (.tup (reD xs ms)) v := by
  obtain ⟨a, ys, rfl, qt, s⟩ := r
  refine ⟨W.cut 0, rfl, p.cut 0 (by rw [h0]; exact Nat.le_refl _), ExS.cut, ?_⟩
  simp only [RD]
  refine ⟨a, ys, rfl, QT.tr (ExS.cut (W := W) (n := 0) (H := H)).tr qt, ?_⟩
  clear qt
  induction ms generalizing ys with
  | nil => exact s
  | cons m ms ih =>
    obtain ⟨y, r, e1, h6, h7⟩ := s
    cases m with
    | d z => subst e1; exact RDs.cons (RD.ext ExS.cut _ _ h6) (ih i r h7)
    | r k =>
      simp only [isR] at i
      split at i
      · rename_i hb
        have em : k = 0 := Nat.eq_of_beq_eq_true hb
        subst em e1
        refine RDs.cons ?_ (ih i r h7)
        obtain ⟨b, rfl, e⟩ := h6
        obtain ⟨us, h1, h2⟩ := p.cel 0 _ _ rfl e
        simp only [RD]
        refine ⟨b, us, rfl, ⟨h1, fun o => ?_⟩, RDs.ext ExS.cut _ _ h2⟩
        rcases o with ⟨j, e9⟩ | ⟨z2, m2, e9⟩ | e9
        · exact no_nil e9
        · have nn := p.nd2 0 b e z2 m2
          exact e9.elim nn.1 nn.2
        · exact p.nd4 0 b e e9
      · cases i
theorem base_tr : Tr W.own W.rg H W.base.own W.base.rg H := ⟨fun a o e n => ⟨e, fun z => n (base_own.mp z)⟩, fun _ q => q⟩
theorem Sg.with {σ : Sl} {τ : L2.St} (g : Sg K W H σ τ) (x : ExS W.base W' H H') : Sg K (W.with W') H' σ τ := g.ext (Ext.with x)
end
section
variable {K : KX} {W W' : Wd} {H H' : Hp} {h : Hl}
theorem Pre.with (p : Pre K W H h) {hr : Hl} (p2 : Pre0 K.fr W' H' hr) (x : ExS W.base W' H H') : Pre K (W.with W') H' (h ++ hr) := p.step (Ext.with x).toExS (p.toPre0.with p2 x)
theorem RX.tr {K : PySem.W.Frag} {et : ET} {own own' : Addr → Prop} {rg rg' : List (Addr × Addr)} {n : Nat} {xs : List D} {d : Addr} (x : Tr own rg H own' rg' H) (r : RX K et own rg H n xs d) : RX K et own' rg' H n xs d := RF.tr x r
theorem call_exc {σ : Sl} {τ : L2.St} {n : Nat} {ys : List D} {d : Addr} (p : Pre K W H h) (g : Sg K.fr W H σ τ) (q : W.gh.gw n ys σ h) (p2 : Pre0 K.fr W' H' []) (x : ExS W.base W' H H') (r : RX K.fr K.et W'.own W'.rg H' n ys d) :
    W.gh.wx (.ref (He.ga K.fr (K.et n).1)) (some d) τ H' := by
  have pw := p.toPre0.with p2 x
  rw [List.append_nil] at pw
  exact p.fx (W.with W') H' n ys σ h τ d (Ext.with x).toExS q pw (g.with x) (RX.tr (tr_with x) r)
theorem call_R {sp : GSpX} {xs : List D} {vs : List V} {post : P → Hl → Prop} {ex : Nat → List D → Prop} {Q : VK} {E : XK} (p : Pre K W H h) (r : RDs K.fr W.own W.rg H xs vs) (q : sp xs (putR h post) ex) (f : Fin K W H post Q)
    (fe : ∀ n ys W' H' d, ex n ys → Pre0 K.fr W' H' [] → ExS W.base W' H H' → RX K.fr K.et W'.own W'.rg H' n ys d → E (.ref (He.ga K.fr (K.et n).1)) (some d) H') : upSpX K.fr K.et sp vs H Q E := by
  refine ⟨W.base, xs, _, _, rfl, p.toPre0.base, RDs.tr base_tr _ _ r, q, fun z hr W' H' v ne q2 p2 x2 r2 => ?_, fe⟩
  have pw := p.with p2 x2
  have rw' := rp_with p.toPre0 x2 r2
  have y := Ext.with x2
  unfold putR at q2
  split at q2
  · rw [List.append_nil] at pw
    exact f _ _ _ _ _ q2 pw y rw'
  · rename_i c
    rw [addCell_eq] at q2
    exact f _ _ _ _ _ q2 pw y rw'
  · rename_i ms c
    obtain ⟨i0, q2⟩ := q2
    rw [addCell_eq] at q2
    have rw2 : RP K.fr (W.with W') H' (.tc (reM (fun k => h.length + k) ms)) v := rw'
    rw [reM_is (g := fun _ => h.length) i0 rfl] at rw2
    exact f _ _ _ _ _ q2 pw y rw2
  · exact q2.elim
theorem call_F {sp : GSpX} {xs : List D} {vs : List V} {post : P → Hl → Prop} {ex : Nat → List D → Prop} {Q : VK} {E : XK} (p : Pre K W H h) (r : RDs K.fr W.own W.rg H xs vs) (q : sp xs (putF h post) ex) (f : Fin K W H post Q)
    (fe : ∀ n ys W' H' d, ex n ys → Pre0 K.fr W' H' [] → ExS W.base W' H H' → RX K.fr K.et W'.own W'.rg H' n ys d → E (.ref (He.ga K.fr (K.et n).1)) (some d) H') : upSpX K.fr K.et sp vs H Q E := by
  refine ⟨W.base, xs, _, _, rfl, p.toPre0.base, RDs.tr base_tr _ _ r, q, fun z hr W' H' v ne q2 p2 x2 r2 => ?_, fe⟩
  unfold putF at q2
  split at q2
  · have pw := p.with p2 x2
    rw [List.append_nil] at pw
    exact f _ _ _ _ _ q2 pw (Ext.with x2) (rp_with p.toPre0 x2 r2)
  · rename_i zs
    obtain ⟨W2, e2, p3, x3, r3⟩ := first_gone (by rw [x2.fo]; rfl) p2 r2
    have x4 := x2.trans x3
    have pw := p.with p3 x4
    rw [List.append_nil] at pw
    exact f _ _ _ _ _ q2 pw (Ext.with x4) (rp_with (q := .d (.lst zs)) p.toPre0 x4 (show RP K.fr W2 H' (.d (.lst zs)) v from r3))
  · rename_i ms zs
    obtain ⟨W2, e2, p3, x3, r3⟩ := first_goneC (by rw [x2.fo]; rfl) q2.1 p2 r2
    have x4 := x2.trans x3
    have pw := p.with p3 x4
    rw [List.append_nil] at pw
    exact f _ _ _ _ _ q2.2 pw (Ext.with x4) (rp_with (q := .d (.tup (reD zs ms))) p.toPre0 x4 (show RP K.fr W2 H' (.d (.tup (reD zs ms))) v from r3))
  · exact q2.elim
end
/-- a call that lets nothing out -/
theorem passC {X : Cx} : Passes (L2.CX X.prog X.w) X E0 := fun _ _ _ _ _ _ _ ⟨_, _, _, _, _, _, _, _, _, _, _, _, w⟩ => w.elim
section
variable {X : CxE} {k : Nat} {f : Addr} {fd : FuncData} {ps : List Str} {sp : GSp} {spx : GSpX} {x : Str} {p pos : Pos} {e : Expr} {es : List Expr} {t : GA}
theorem call_up {τ : L2.St} {H : Hp} {Q : VK} (q : up X.kx (gCall sp t) τ H Q) : tCall (upSp X.K X.et sp) [] E0 (upA X.kx t) τ H Q := by
  obtain ⟨W, h, σ, post, p, g, q, f⟩ := q
  refine ⟨W, h, σ, _, p, g, q, fun ps h1 W1 H1 vs q1 p1 x1 r1 => ?_⟩
  obtain ⟨xs, q2, r2⟩ := allD_ok r1 q1
  rw [List.append_nil]
  exact call_R (ex := fun _ _ => False) p1 r2 q2 (fun z h2 W2 H2 v q p2 x2 r => f z h2 W2 H2 v q p2 (x1.trans x2) r) fun _ _ _ _ _ z => z.elim
theorem callF_up {τ : L2.St} {H : Hp} {Q : VK} (q : up X.kx (gCallF sp t) τ H Q) : tCall (upSp X.K X.et sp) [] E0 (upA X.kx t) τ H Q := by
  obtain ⟨W, h, σ, post, p, g, q, f⟩ := q
  refine ⟨W, h, σ, _, p, g, q, fun ps h1 W1 H1 vs q1 p1 x1 r1 => ?_⟩
  obtain ⟨xs, q2, r2⟩ := allD_ok r1 q1
  rw [List.append_nil]
  exact call_F (ex := fun _ _ => False) p1 r2 q2 (fun z h2 W2 H2 v q p2 x2 r => f z h2 W2 H2 v q p2 (x1.trans x2) r) fun _ _ _ _ _ z => z.elim
theorem e_call (F : FnOk X.prog X.w X.K X.mg X.base (L2.CX X.prog X.w) k f fd ps (upSp X.K X.et sp)) (hr : Room k X.A) (hm : X.mg x = some (.ref f)) (hk : PySem.W.keepIn X.K (.ref f) = true) (hb : Binds X.K fd ps []) (ha : EA X (e :: es) t) (hg : Gl X x := by rfl) (hdb : (x == ("__debug__" : Str)) = false := by decide)
    (he : starEach (e :: es) X.env = (false, eval e X.env) :: starEach es X.env := by rfl) (hpl : (backTo pos (starEach es X.env)).any (·.1) = false := by rfl) : E X (.Call (.Name x p) (e :: es) [] pos) (gCall sp t) :=
  PE.weak (pe_call F hr hg hm hk hb .nil passC ha hdb he hpl) fun _ _ _ => call_up
theorem e_callF (F : FnOk X.prog X.w X.K X.mg X.base (L2.CX X.prog X.w) k f fd ps (upSp X.K X.et sp)) (hr : Room k X.A) (hm : X.mg x = some (.ref f)) (hk : PySem.W.keepIn X.K (.ref f) = true) (hb : Binds X.K fd ps []) (ha : EA X (e :: es) t) (hg : Gl X x := by rfl) (hdb : (x == ("__debug__" : Str)) = false := by decide)
    (he : starEach (e :: es) X.env = (false, eval e X.env) :: starEach es X.env := by rfl) (hpl : (backTo pos (starEach es X.env)).any (·.1) = false := by rfl) : E X (.Call (.Name x p) (e :: es) [] pos) (gCallF sp t) :=
  PE.weak (pe_call F hr hg hm hk hb .nil passC ha hdb he hpl) fun _ _ _ => callF_up
/-- a call that may raise -/
theorem callX_up {τ : L2.St} {H : Hp} {Q : VK} {W : Wd} {h : Hl} {σ : Sl} {post : P → Hl → Prop} (p : Pre X.kx W H h) (g : Sg X.K W H σ τ) (q : gCallX X.gw spx t σ h post) (f : Fin X.kx W H post Q) : tCallS (upSpX X.K X.et spx) (WE W.gh.wx) (upA X.kx t) τ H Q := by
  refine ⟨W, h, σ, _, p, g, q, fun ps h1 W1 H1 vs q1 p1 x1 r1 => ?_⟩
  obtain ⟨xs, q2, r2⟩ := allD_ok r1 q1
  refine call_R p1 r2 q2 (fun z h2 W2 H2 v q p2 x2 r => f z h2 W2 H2 v q p2 (x1.trans x2) r) fun n ys W' H' d q3 p3 x3 r3 => ?_
  have := call_exc p1 (g.ext x1) (by rw [p1.tk.2.1]; exact q3) p3 x3 r3
  rw [x1.gh] at this
  exact this
theorem callFX_up {τ : L2.St} {H : Hp} {Q : VK} {W : Wd} {h : Hl} {σ : Sl} {post : P → Hl → Prop} (p : Pre X.kx W H h) (g : Sg X.K W H σ τ) (q : gCallFX X.gw spx t σ h post) (f : Fin X.kx W H post Q) : tCallS (upSpX X.K X.et spx) (WE W.gh.wx) (upA X.kx t) τ H Q := by
  refine ⟨W, h, σ, _, p, g, q, fun ps h1 W1 H1 vs q1 p1 x1 r1 => ?_⟩
  obtain ⟨xs, q2, r2⟩ := allD_ok r1 q1
  refine call_F p1 r2 q2 (fun z h2 W2 H2 v q p2 x2 r => f z h2 W2 H2 v q p2 (x1.trans x2) r) fun n ys W' H' d q3 p3 x3 r3 => ?_
  have := call_exc p1 (g.ext x1) (by rw [p1.tk.2.1]; exact q3) p3 x3 r3
  rw [x1.gh] at this
  exact this
theorem e_callX (F : FnOk X.prog X.w X.K X.mg X.base (L2.CX X.prog X.w) k f fd ps (upSpX X.K X.et spx)) (hr : Room k X.A) (hm : X.mg x = some (.ref f)) (hk : PySem.W.keepIn X.K (.ref f) = true) (hb : Binds X.K fd ps []) (ha : EA X (e :: es) t) (hg : Gl X x := by rfl) (hdb : (x == ("__debug__" : Str)) = false := by decide)
    (he : starEach (e :: es) X.env = (false, eval e X.env) :: starEach es X.env := by rfl) (hpl : (backTo pos (starEach es X.env)).any (·.1) = false := by rfl) : E X (.Call (.Name x p) (e :: es) [] pos) (gCallX X.gw spx t) :=
  ⟨fun pins s τ H Q I ⟨W, h, σ, post, p, g, q, f⟩ => (pe_callS (E := WE W.gh.wx) F hr hg hm hk hb (fun τ => passAt p.tk.1 τ) ha hdb he hpl).run pins s τ H Q I (callX_up p g q f)⟩
theorem e_callFX (F : FnOk X.prog X.w X.K X.mg X.base (L2.CX X.prog X.w) k f fd ps (upSpX X.K X.et spx)) (hr : Room k X.A) (hm : X.mg x = some (.ref f)) (hk : PySem.W.keepIn X.K (.ref f) = true) (hb : Binds X.K fd ps []) (ha : EA X (e :: es) t) (hg : Gl X x := by rfl) (hdb : (x == ("__debug__" : Str)) = false := by decide)
    (he : starEach (e :: es) X.env = (false, eval e X.env) :: starEach es X.env := by rfl) (hpl : (backTo pos (starEach es X.env)).any (·.1) = false := by rfl) : E X (.Call (.Name x p) (e :: es) [] pos) (gCallFX X.gw spx t) :=
  ⟨fun pins s τ H Q I ⟨W, h, σ, post, p, g, q, f⟩ => (pe_callS (E := WE W.gh.wx) F hr hg hm hk hb (fun τ => passAt p.tk.1 τ) ha hdb he hpl).run pins s τ H Q I (callFX_up p g q f)⟩
end
/-- what a def hands back: the cells that are not it are forgotten -/
def retP (post : P → Hl → Prop) : P → Hl → Prop := fun p h => match p with
  | .d x => post (.d x) []
  | .ref k => match cellAt h k with
    | some (.lst xs) => post (.ref 0) [.lst xs]
    | _ => False
  | .tc ms => match fstR ms with
    | some k => match cellAt h k with
      | some (.lst xs) => isR k ms = true ∧ post (.tc (reM (fun _ => 0) ms)) [.lst xs]
      | _ => False
    | none => False
  | .ex _ _ => False
def retG (post : P → Hl → Prop) : GD := ⟨fun _ _ => post (.d .non) [], retP post, fun _ _ => False, fun _ _ => False⟩
def startS (N : List Str) (xs : List D) : Sl := xs.map (fun x => some (.d x)) ++ List.replicate (N.length - xs.length) none
theorem sg_start {K : KX} {W : Wd} {H : Hp} {N : List Str} {xs : List D} {vs : List V} (r : RDs K W.own W.rg H xs vs) : Sg K W H (startS N xs) (L2.start N vs) := by
  refine ⟨by simp [startS, L2.start, r.len], fun i p e => ?_⟩
  unfold startS at e
  rcases get_app e with ⟨hi, e2⟩ | ⟨hi, e2⟩
  · rw [List.getElem?_map] at e2
    cases h1 : xs[i]? with
    | none => rw [h1] at e2; cases e2
    | some x =>
      rw [h1] at e2
      simp only [Option.map_some, Option.some.injEq] at e2
      subst e2
      obtain ⟨v, h2, h3⟩ := r.get h1
      refine ⟨v, ?_, h3⟩
      unfold L2.start
      rw [List.getElem?_append_left (by simpa [r.len] using hi), List.getElem?_map, h2]
      rfl
  · rw [List.getElem?_replicate] at e2
    split at e2 <;> cases e2
theorem rp_non {K : KX} {W : Wd} {H : Hp} : RP K W H (.d .non) .non := (rd_non : RD K W.own W.rg H .non .non)
theorem nil_pa {K : PySem.W.Frag} {W : Wd} {H : Hp} (p : Pre0 K W H []) : W.fo.pa = [] := List.eq_nil_of_length_eq_zero (Nat.le_zero.mp p.pal)
/-- one cell alone -/
theorem one_cell {K : PySem.W.Frag} {W' : Wd} {H' : Hp} {h : Hl} {j : Nat} {a : Addr} {zs : List D} (h0 : W'.fo.pa = []) (p2 : Pre0 K W' H' h) (e1 : cellAt h j = some (.lst zs)) (h2 : W'.al[j]? = some (some a)) :
    Pre0 K ⟨[some a], W'.rg, W'.fo, W'.gh⟩ H' [.lst zs] ∧ ExS W' ⟨[some a], W'.rg, W'.fo, W'.gh⟩ H' H' := by
  have e1' := e1
  rw [cellAt_eq] at e1'
  obtain ⟨ys, h3, h4⟩ := p2.cel j _ _ e1' h2
  have own1 : ∀ b, (⟨[some a], W'.rg, W'.fo, W'.gh⟩ : Wd).own b → W'.own b := by
    rintro b (⟨i, e⟩ | q | q)
    · have e' : ([some a] : List (Option Addr))[i]? = some (some b) := e
      cases i with
      | zero => simp at e'; subst e'; exact .inl ⟨j, h2⟩
      | succ i => simp at e'
    · exact .inr (.inl q)
    · exact .inr (.inr q)
  have x3 : ExS W' ⟨[some a], W'.rg, W'.fo, W'.gh⟩ H' H' := ⟨fun _ _ e _ => e, fun _ _ e _ => e, fun b o => .inl (own1 b o), fun _ q => q, rfl, rfl⟩
  have one : ∀ (i : Nat) b, ([some a] : List (Option Addr))[i]? = some (some b) → i = 0 ∧ b = a := fun i b e => by
    cases i with
    | zero => simp at e; exact ⟨rfl, e.symm⟩
    | succ i => simp at e
  refine ⟨⟨rfl, fun i c oa h5 h6 => ?_, p2.rng, fun i j' b h5 h6 => ?_, fun i b h5 => ?_, p2.nd3, p2.fo, fun i b h5 => ?_, p2.nd5, fun i b e => by
    have e : W'.fo.pa[i]? = some b := e
    rw [h0] at e
    exact (no_nil e).elim⟩, x3⟩
  · cases i with
    | zero =>
      simp at h5 h6
      subst h5 h6
      exact ⟨ys, h3, RDs.ext x3 _ _ h4⟩
    | succ i => simp at h5
  · rw [(one i b h5).1, (one j' b h6).1]
  · rw [(one i b h5).2]
    exact p2.nd2 j a h2
  · rw [(one i b h5).2]
    exact p2.nd4 j a h2
/-- what a def's body leaves is what its promise hands on -/
theorem fin_ret {κ : KX} {W₀ : Wd} {H : Hp} {post : P → Hl → Prop} {Q : VK} (h0 : W₀.fo.pa = []) (ff : ∀ p hr W' H' v, p.noEx → post p hr → Pre0 κ.fr W' H' hr → ExS W₀ W' H H' → RP κ.fr W' H' p v → Q v H') : FinS κ W₀ H (retG post) { nx := fun _ H' => Q .non H', rt := Q } := by
  refine ⟨fun σ h W' H' τ q2 p2 x2 g2 => ?_, fun z h W' H' v q2 p2 x2 r2 => ?_, fun σ h W' H' τ q2 => q2.elim, fun σ h W' H' τ q2 => q2.elim⟩
  · exact ff (.d .non) _ (W'.cut 0) H' .non trivial q2 (p2.toPre0.cut 0 (by rw [x2.fo, h0]; exact Nat.le_refl _)) (x2.trans ExS.cut) (rp_non (W := W'.cut 0))
  · cases z with
    | ex => exact q2.elim
    | d z => exact ff (.d z) _ (W'.cut 0) H' v trivial q2 (p2.toPre0.cut 0 (by rw [x2.fo, h0]; exact Nat.le_refl _)) (x2.trans ExS.cut) (RD.ext ExS.cut _ _ r2)
    | ref j =>
      have q3 : (match cellAt h j with
        | some (.lst xs) => post (.ref 0) [.lst xs]
        | _ => False) := q2
      split at q3
      · rename_i zs e1
        obtain ⟨a, ys, rfl, h2, h3, h4⟩ := cell_ok p2 e1 r2
        obtain ⟨p3, x3⟩ := one_cell (by rw [x2.fo]; exact h0) p2.toPre0 e1 h2
        exact ff (.ref 0) _ ⟨[some a], W'.rg, W'.fo, W'.gh⟩ H' _ trivial q3 p3 (x2.trans x3) ⟨a, rfl, rfl⟩
      · exact q3.elim
    | tc ms =>
      have q3 : (match fstR ms with
        | some k => match cellAt h k with
          | some (.lst xs) => isR k ms = true ∧ post (.tc (reM (fun _ => 0) ms)) [.lst xs]
          | _ => False
        | none => False) := q2
      split at q3
      · rename_i j ej
        split at q3
        · rename_i zs e1
          obtain ⟨i0, q3⟩ := q3
          obtain ⟨a, us, rfl, qt, s⟩ := r2
          -- the cell's address
          have ad : ∃ b, W'.al[j]? = some (some b) := by
            clear q3 i0 qt q2 x2
            induction ms generalizing us with
            | nil => cases ej
            | cons m ms ih =>
              obtain ⟨y, r, e1, h6, h7⟩ := s
              cases m with
              | d z => exact ih ej r h7
              | r k =>
                cases ej
                obtain ⟨b, _, e⟩ := h6
                exact ⟨b, e⟩
          obtain ⟨b, h2⟩ := ad
          obtain ⟨p3, x3⟩ := one_cell (by rw [x2.fo]; exact h0) p2.toPre0 e1 h2
          refine ff (.tc _) _ ⟨[some b], W'.rg, W'.fo, W'.gh⟩ H' _ trivial q3 p3 (x2.trans x3) ⟨a, us, rfl, QT.tr x3.tr qt, ?_⟩
          clear q3 q2 qt ej
          induction ms generalizing us with
          | nil => exact s
          | cons m ms ih =>
            obtain ⟨y, r, ez, h6, h7⟩ := s
            cases m with
            | d z => exact ⟨y, r, ez, RD.ext x3 _ _ h6, ih i0 r h7⟩
            | r k =>
              simp only [isR] at i0
              split at i0
              · rename_i hb
                have em : k = j := Nat.eq_of_beq_eq_true hb
                subst em
                obtain ⟨c, e2, e3⟩ := h6
                rw [h2] at e3
                cases e3
                exact ⟨y, r, ez, ⟨b, e2, rfl⟩, ih i0 r h7⟩
              · cases i0
        · exact q3.elim
      · exact q3.elim
theorem re_ExS {W W' : Wd} {g : Gh} {H H' : Hp} (x : ExS (W.re g) W' H H') : ExS W (W'.re W.gh) H H' := ⟨x.keep, x.keepF, x.new, x.rg, x.fo, rfl⟩
theorem RP.reC {K : PySem.W.Frag} {W : Wd} {H : Hp} {g : Gh} {ms : List Mb} {v : V} : RP K W H (.tc ms) v → RP K (W.re g) H (.tc ms) v := fun ⟨a, ys, e, q, s⟩ => ⟨a, ys, e, q, RMs.re (W := W) (W' := W.re g) (fun _ _ r => r) (fun _ _ r => r) s⟩
theorem RP.reg {K : PySem.W.Frag} {W : Wd} {H : Hp} {g : Gh} : ∀ {p : P} {v : V}, p.noEx → RP K W H p v → RP K (W.re g) H p v
  | .d _, _, _, r => r
  | .ref _, _, _, r => r
  | .ex _ _, _, n, _ => n.elim
  | .tc ms, v, _, ⟨a, ys, e, q, s⟩ => ⟨a, ys, e, q, RMs.re (W := W) (W' := W.re g) (fun _ _ r => r) (fun _ _ r => r) s⟩
section
variable {P₀ : Program} {w : World} {K : PySem.W.Frag} {mg : Str → Option Value} {base : Heap} {x qual : Str} {params : Arguments} {body : List Stmt} {scope : Scope} {dvs : List V} {kws : List (Str × V)} {f : Addr} {fd : FuncData} {N ps : List Str} {k : Nat} {sp : GSp} {spx : GSpX} {t : GS} {tx : GW → GS} {et : ET}
/-- a def that raises nothing -/
theorem fn_ok (F : FunD K x qual params body scope dvs kws f fd) (S : FnScope N ps scope) (len : ∀ xs post, sp xs post → xs.length = ps.length)
    (hb : ∀ (cdv : Value) (A : Around) (outer : List Env) (s : Shared) (H : Hp) (E : XK), Room k (A.deeper (envOfC qual scope s.heap.objs.size f cdv)) → Ss ⟨(cxOf (L2.CX P₀ w) P₀ w K mg base N qual scope f cdv A outer s H E).nox, et, fun _ _ _ _ => False, (0, 0)⟩ body t)
    (hp : ∀ xs post, sp xs post → t (retG post) (startS N xs) []) : FnOk P₀ w K mg base (L2.CX P₀ w) (k + 1) f fd ps (upSp K et sp) := by
  refine F.ok S (fun vs H Q E hh => ?_) (fun cdv A outer s H vs Q E hr hh => ?_)
  · obtain ⟨W, xs, post, ex, _, _, r, q, _⟩ := hh
    rw [← r.len]
    exact len xs post q
  · obtain ⟨W, xs, post, ex, ea, p, r, q, ff, _⟩ := hh
    refine ⟨_, PSs.nox (hb cdv A outer s H E hr), ?_⟩
    refine ⟨W.re (noGh (0, 0)), [], _, _, ⟨p.re _, ⟨takes_no, rfl, rfl⟩, FX.no⟩, sg_start (W := W.re (noGh (0, 0))) r, hp xs post q, fin_ret (show W.fo.pa = [] from nil_pa p) fun p hr W' H' v ne q2 p2 x2 r2 => ?_⟩
    exact ff p hr (W'.re W.gh) H' v ne q2 (p2.re _) (re_ExS x2) (RP.reg ne r2)
/-- a def that may raise -/
theorem fn_okX (F : FunD K x qual params body scope dvs kws f fd) (S : FnScope N ps scope) (len : ∀ xs post ex, spx xs post ex → xs.length = ps.length)
    (hb : ∀ (gw : GW) (cdv : Value) (A : Around) (outer : List Env) (s : Shared) (H : Hp) (E : XK), Room k (A.deeper (envOfC qual scope s.heap.objs.size f cdv)) → Ss ⟨cxOf (L2.CX P₀ w) P₀ w K mg base N qual scope f cdv A outer s H E, et, gw, (0, 0)⟩ body (tx gw))
    (hp : ∀ xs post ex, spx xs post ex → tx (fun n ys _ _ => ex n ys) (retG post) (startS N xs) []) : FnOk P₀ w K mg base (L2.CX P₀ w) (k + 1) f fd ps (upSpX K et spx) := by
  refine F.ok S (fun vs H Q E hh => ?_) (fun cdv A outer s H vs Q E hr hh => ?_)
  · obtain ⟨W, xs, post, ex, _, _, r, q, _⟩ := hh
    rw [← r.len]
    exact len xs post ex q
  · obtain ⟨W, xs, post, ex, ea, p, r, q, ff, fe⟩ := hh
    refine ⟨_, hb (fun n ys _ _ => ex n ys) cdv A outer s H E hr, ?_⟩
    have tk : Takes (cxOf (L2.CX P₀ w) P₀ w K mg base N qual scope f cdv A outer s H E) fun cls d _ H' => E cls d H' := takes_of rfl rfl rfl rfl
    refine ⟨W.re ⟨fun cls d _ H' => E cls d H', fun n ys _ _ => ex n ys, (0, 0)⟩, [], _, _, ⟨p.re _, ⟨tk, rfl, rfl⟩, fun W' H' n ys σ h τ d x2 q2 p2 g2 r2 => ?_⟩, sg_start (W := W.re _) r, hp xs post ex q, fin_ret (show W.fo.pa = [] from nil_pa p) fun p hr W' H' v ne q2 p2 x2 r2 => ?_⟩
    · refine fe n ys ((W'.re W.gh).cut 0) H' d q2 ((p2.re _).cut 0 (by
        show W'.fo.pa.length ≤ 0
        rw [x2.fo]
        exact p.pal)) ((re_ExS x2).trans ExS.cut) (RX.tr ?_ r2)
      exact (ExS.cut (W := W'.re W.gh) (n := 0) (H := H')).tr
    · exact ff p hr (W'.re W.gh) H' v ne q2 (p2.re _) (re_ExS x2) (RP.reg ne r2)
end
/-- a promise may be weakened -/
theorem fn_imp {P₀ : Program} {w : World} {K : PySem.W.Frag} {et : ET} {mg : Str → Option Value} {base : Heap} {k : Nat} {f : Addr} {fd : FuncData} {ps : List Str} {sp sp' : GSpX} (F : FnOk P₀ w K mg base (L2.CX P₀ w) k f fd ps (upSpX K et sp)) (h : ∀ xs post ex, sp' xs post ex → sp xs post ex) : FnOk P₀ w K mg base (L2.CX P₀ w) k f fd ps (upSpX K et sp') :=
  F.imp fun vs H Q E ⟨W, xs, post, ex, a, b, c, d, e⟩ => ⟨W, xs, post, ex, a, b, c, h xs post ex d, e⟩
/-- the law: the script is data -/
theorem law_spX {K : PySem.W.Frag} {et : ET} {sp : GSpX} {H : Hp} {a : Addr} {ns : List Int} (hs : sp [.klst (ns.map D.int)] (fun p _ => p = .d (.bl true)) fun _ _ => False) (ho : Only H) (hS : SqL K H a (ns.map V.int)) : upSpX K et sp [.ref a] H (fun v _ => v = .bl true) fun _ _ _ => False := by
  have nf : ∀ b, ¬ (⟨[], [], ⟨fun _ => False, []⟩, noGh (0, 0)⟩ : Wd).own b := by
    rintro b (⟨i, e⟩ | ⟨q, m, _⟩ | q)
    · exact no_nil e
    · cases m
    · exact q
  have rs : ∀ (own : Addr → Prop) (rg : List (Addr × Addr)) (H : Hp) (ns : List Int), RDs K own rg H (ns.map D.int) (ns.map V.int) := by
    intro own rg H ns
    induction ns with
    | nil => exact RDs.nil
    | cons n ns ih => exact RDs.cons (by simp only [RD]) ih
  refine ⟨⟨[], [], ⟨fun _ => False, []⟩, noGh (0, 0)⟩, _, _, _, rfl, ⟨rfl, fun k c oa h1 _ => (no_nil h1).elim, fun q m => (by cases m), fun i j a h1 _ => (no_nil h1).elim, fun i a h1 => (no_nil h1).elim, fun q m => (by cases m), fun _ f => f.elim, fun i a h1 => (no_nil h1).elim, fun q m => (by cases m), fun i a e => (no_nil e).elim⟩, ?_, hs, fun p hr W' H' v _ q p2 x2 r2 => ?_, fun _ _ _ _ _ z => z.elim⟩
  · refine RDs.one ?_
    simp only [RD]
    refine ⟨a, ns.map V.int, rfl, ?_, rs _ _ _ _⟩
    rcases hS with hS | hS
    · exact .inl ⟨hS, nf a⟩
    · exact .inr hS
  · subst q
    have r3 : RD K W'.own W'.rg H' (.bl true) v := r2
    simp only [RD] at r3
    exact r3
theorem law_sp {K : PySem.W.Frag} {et : ET} {sp : GSp} {H : Hp} {a : Addr} {ns : List Int} (hs : sp [.klst (ns.map D.int)] (fun p _ => p = .d (.bl true))) (ho : Only H) (hS : SqL K H a (ns.map V.int)) : upSp K et sp [.ref a] H (fun v _ => v = .bl true) fun _ _ _ => False := law_spX hs ho hS
end Sc

set_option Elab.async false
set_option linter.all false
set_option maxRecDepth 100000
/-! Sc9: states of draws. -/
namespace Sc
open PySem PySem.Spec PyProof.Rows L2
/-- the script, or a part of it, goes in; a state of draws comes out -/
def spStart : GSp := fun xs Q => (∃ ns : List Int, ns.length ≤ 63 ∧ (xs = [.klst (ns.map .int)] ∨ xs = [.lst (ns.map .int)])) ∧ Q (.d .rng) []
/-- any number below m -/
structure DrawP (m : Int) (k : Int → Prop) : Prop where
  ok : DivX m
  go : ∀ r, 0 ≤ r → r < m → k r
def spDraw : GSp := fun xs Q => match xs with
  | [.rng, .int m] => DrawP m fun r => Q (.d (.int r)) []
  | _ => False
theorem spDraw_of {xs : List D} {Q : P → Hl → Prop} (h : spDraw xs Q) : ∃ m : Int, xs = [.rng, .int m] ∧ DivX m ∧ ∀ r, 0 ≤ r → r < m → Q (.d (.int r)) [] := by
  unfold spDraw at h
  split at h
  · exact ⟨_, rfl, h.ok, h.go⟩
  · exact h.elim
theorem DivX.le {m : Int} (h0 : 0 < m) (h : m ≤ 1000000000000000000000000000000000000000000000000000000000000) : DivX m := by
  refine ⟨h0, ?_⟩
  have : m.natAbs ≤ 1000000000000000000000000000000000000000000000000000000000000 := by omega
  exact Nat.lt_of_le_of_lt this (by decide +kernel)
section
variable {K : PySem.W.Frag}
theorem ns_of {own : Addr → Prop} {rg : List (Addr × Addr)} {H : Hp} : ∀ {ns : List Int} {vs : List V}, RDs K own rg H (ns.map D.int) vs → vs = ns.map V.int
  | [], _, r => by simp only [List.map_nil, RDs] at r; subst r; rfl
  | n :: ns, _, r => by
    simp only [List.map_cons, RDs] at r
    obtain ⟨y, q, rfl, r1, r2⟩ := r
    rw [ns_of r2]
    simp only [RD] at r1
    subst r1
    rfl
theorem rp_rng {K : PySem.W.Frag} {W : Wd} {H : Hp} {a g : Addr} (m : (a, g) ∈ W.rg) : RP K W H (.d .rng) (.ref a) := by
  simp only [RP, RD]
  exact ⟨a, g, rfl, m⟩
theorem rp_int {K : PySem.W.Frag} {W : Wd} {H : Hp} {i : Int} : RP K W H (.d (.int i)) (.int i) := by
  simp only [RP, RD]
theorem cpow : CPow 10 18 := ⟨by decide, by decide, by decide⟩
/-- a new state of draws -/
theorem Pre0.newRng {W : Wd} {H H' : Hp} {a g : Addr} (p : Pre0 K W H []) (ha : H a = none) (hg : H g = none) (ne : a ≠ g) (ok : RngOk H' a g) (k : ∀ b o, H b = some o → H' b = some o) :
    Pre0 K ⟨W.al, (a, g) :: W.rg, W.fo, W.gh⟩ H' [] ∧ ExS W ⟨W.al, (a, g) :: W.rg, W.fo, W.gh⟩ H H' := by
  have al0 : W.al = [] := List.length_eq_zero_iff.mp p.len
  refine ⟨⟨p.len, fun k c oa h1 _ => (no_nil h1).elim, fun q m => ?_, fun i j b h1 => ?_, fun i b h1 => ?_, fun q m q' m' => ?_, fun b fb => ?_, fun i b h1 => ?_, fun q m => ?_, p.pas⟩, ⟨fun b o e _ => k b o e, fun b o e _ => k b o e, fun b o => ?_, fun q m => List.mem_cons_of_mem _ m, rfl, rfl⟩⟩
  · cases m with
    | head => exact ok
    | tail _ m =>
      obtain ⟨s, c, gs, h1, h2, h3⟩ := p.rng q m
      exact ⟨s, c, gs, k _ _ h1, k _ _ h2, h3⟩
  · have h1' : W.al[i]? = some (some b) := h1
    rw [al0] at h1'
    exact (no_nil h1').elim
  · have h1' : W.al[i]? = some (some b) := h1
    rw [al0] at h1'
    exact (no_nil h1').elim
  · have old : ∀ z ∈ W.rg, z.1 ≠ a ∧ z.1 ≠ g ∧ z.2 ≠ a ∧ z.2 ≠ g := fun z mz => by
      obtain ⟨s, c, gs, h1, h2, h3⟩ := p.rng z mz
      exact ⟨ne_of_none h1 ha, ne_of_none h1 hg, ne_of_none h2 ha, ne_of_none h2 hg⟩
    cases m with
    | head => cases m' with
      | head => exact ⟨ne, fun _ => rfl, fun _ => rfl⟩
      | tail _ m' =>
        have o := old _ m'
        exact ⟨fun e => o.2.2.1 e.symm, fun e => (o.1 e.symm).elim, fun e => (o.2.2.2 e.symm).elim⟩
    | tail _ m => cases m' with
      | head =>
        have o := old _ m
        exact ⟨fun e => o.2.1 e, fun e => (o.1 e).elim, fun e => (o.2.2.2 e).elim⟩
      | tail _ m' => exact p.nd3 q m q' m'
  · obtain ⟨xs, q⟩ := p.fo b fb
    exact ⟨xs, k _ _ q⟩
  · have h1' : W.al[i]? = some (some b) := h1
    rw [al0] at h1'
    exact (no_nil h1').elim
  · cases m with
    | head =>
      refine ⟨fun fb => ?_, fun fb => ?_⟩
      · obtain ⟨xs, q⟩ := p.fo _ fb
        rw [ha] at q; cases q
      · obtain ⟨xs, q⟩ := p.fo _ fb
        rw [hg] at q; cases q
    | tail _ m => exact p.nd5 q m
  · rcases o with ⟨i, e⟩ | ⟨q, m, e⟩ | q
    · exact .inl (.inl ⟨i, e⟩)
    · cases m with
      | head =>
        rcases e with rfl | rfl
        · exact .inr ha
        · exact .inr hg
      | tail _ m => exact .inl (.inr (.inl ⟨q, m, e⟩))
    · exact .inl (.inr (.inr q))
/-- a state of draws is changed -/
theorem Pre0.turn {W : Wd} {H H' : Hp} {a g : Addr} (p : Pre0 K W H []) (m : (a, g) ∈ W.rg) (ok : RngOk H' a g) (k : ∀ b o, b ≠ a → b ≠ g → H b = some o → H' b = some o) : Pre0 K W H' [] ∧ ExS W W H H' := by
  have al0 : W.al = [] := List.length_eq_zero_iff.mp p.len
  have fo1 : ∀ b, W.fo b → b ≠ a ∧ b ≠ g := fun b fb => ⟨fun e => (p.nd5 _ m).1 (e ▸ fb), fun e => (p.nd5 _ m).2 (e ▸ fb)⟩
  refine ⟨⟨p.len, fun k c oa h1 _ => (no_nil h1).elim, fun q mq => ?_, p.nd1, p.nd2, p.nd3, fun b fb => ?_, p.nd4, p.nd5, p.pas⟩, ⟨fun b o e n => ?_, fun b o e fb => k b o (fo1 b fb).1 (fo1 b fb).2 e, fun b o => .inl o, fun q m => m, rfl, rfl⟩⟩
  · by_cases e : q = (a, g)
    · subst e; exact ok
    · have h1 := p.nd3 q mq (a, g) m
      have h2 := p.nd3 (a, g) m q mq
      obtain ⟨s, c, gs, e1, e2, e3⟩ := p.rng q mq
      exact ⟨s, c, gs, k _ _ (fun z => e (h1.2.1 z)) h1.1 e1, k _ _ (fun z => h2.1 z.symm) (fun z => e (h1.2.2 z)) e2, e3⟩
  · obtain ⟨xs, q⟩ := p.fo b fb
    exact ⟨xs, k _ _ (fo1 b fb).1 (fo1 b fb).2 q⟩
  · exact k b o (fun z => n (.inr (.inl ⟨_, m, .inl z⟩))) (fun z => n (.inr (.inl ⟨_, m, .inr z⟩))) e
theorem mulR (i j : Int) (h : -(2 ^ 64) < j ∧ j < 2 ^ 64) : CMul i j := .inr h
theorem mulL (i j : Int) (h : -(2 ^ 64) < i ∧ i < 2 ^ 64) : CMul i j := .inl h
end
end Sc

set_option Elab.async false
set_option linter.all false
set_option maxRecDepth 100000
/-! Sc10: isinstance, promises in short, steps of a proof. -/
namespace Sc
open PySem PySem.Spec PyProof.Rows L2

inductive Ty where
  | int | bool | str | tuple | list
def Ty.nm : Ty → String
  | .int => "int" | .bool => "bool" | .str => "str" | .tuple => "tuple" | .list => "list"
def isK (t : Ty) : P → Bool
  | .d (.bl _) => match t with
    | .int => true | .bool => true | _ => false
  | .d (.int _) => match t with
    | .int => true | _ => false
  | .d (.str _) => match t with
    | .str => true | _ => false
  | .d (.tup _) => match t with
    | .tuple => true | _ => false
  | .d (.lst _) => match t with
    | .list => true | _ => false
  | .d (.klst _) => match t with
    | .list => true | _ => false
  | .d .rng => match t with
    | .list => true | _ => false
  | .ref _ => match t with
    | .list => true | _ => false
  | .d .non => false
  | .ex _ _ => false
  | .tc _ => match t with
    | .tuple => true | _ => false
def gIsi (t : Ty) (te : GT) : GT := fun σ h Q => te σ h fun x h1 => match x with
  | .d y => Q (.d (.bl (isK t (.d y)))) h1
  | .ref k => Q (.d (.bl (isK t (.ref k)))) h1
  | .tc ms => Q (.d (.bl (isK t (.tc ms)))) h1
  | .ex _ _ => False
def pyT : P → String
  | .d .non => "NoneType" | .d (.bl _) => "bool" | .d (.int _) => "int" | .d (.str _) => "str" | .d (.tup _) => "tuple" | .tc _ => "tuple" | _ => "list"
theorem pyT_ok {K : KX} {W : Wd} {H : Hp} {h : Hl} {x : P} {v : V} (p : Pre K W H h) (r : RP K W H x v) (ne : x.noEx) : TyX K H v (.type (pyT x)) := by
  have ofL : ∀ {a : Addr} {ys : List V}, Rd H a (.lst ys) → TyX K H (.ref a) (.type "list") := fun q => by
    rcases q with q | ⟨o, q⟩
    · exact .base (.lst q)
    · exact .base (.frz q)
  cases x with
  | ex => exact ne.elim
  | tc ms =>
    obtain ⟨a, ys, rfl, q, s⟩ := r
    rcases q with ⟨q | ⟨o, q⟩, n⟩ | ⟨o, its, n, q, c, _⟩
    · exact .base (.tup q)
    · exact .fTuple q
    · exact .kTuple q c
  | d x =>
    cases x with
    | non => rw [non_of r]; exact .base .non
    | bl b => rw [bl_of r]; exact .base (.bl b)
    | int b => rw [int_of r]; exact .base (.int b)
    | str b => rw [str_of r]; exact .base (.str b)
    | tup xs =>
      simp only [RP, RD] at r
      obtain ⟨a, ys, rfl, q, s⟩ := r
      rcases q with ⟨q | ⟨o, q⟩, n⟩ | ⟨o, its, n, q, c, _⟩
      · exact .base (.tup q)
      · exact .fTuple q
      · exact .kTuple q c
    | lst xs =>
      simp only [RP, RD] at r
      obtain ⟨a, ys, rfl, q, s⟩ := r
      exact ofL (.inl q.1)
    | klst xs =>
      simp only [RP, RD] at r
      obtain ⟨a, ys, rfl, q, s⟩ := r
      rcases q with ⟨q, n⟩ | ⟨o, its, n, q, c, _⟩
      · exact ofL q
      · exact .kList q c
    | rng =>
      simp only [RP, RD] at r
      obtain ⟨a, g, rfl, m⟩ := r
      obtain ⟨s, c, gs, h1, _⟩ := p.rng _ m
      exact ofL (.inl h1)
  | ref k =>
    obtain ⟨a, rfl, e⟩ := r
    obtain ⟨xs, q⟩ := p.there (.inl ⟨k, e⟩ : W.own a)
    exact ofL (.inl q)
/-- a type's name answers for every kind of data -/
def IsiOk (t : Ty) : Prop := ∀ x : P, x.noEx → kitB (pyT x) t.nm = some (isK t x)
theorem isi_ok (t : Ty) : IsiOk t := by
  intro x ne
  cases t <;> cases x with
  | ex => exact ne.elim
  | tc ms => (simp only [pyT, Ty.nm, isK]; decide +kernel)
  | ref k => (simp only [pyT, Ty.nm, isK]; decide +kernel)
  | d x => cases x <;> (simp only [pyT, Ty.nm, isK]; decide +kernel)
theorem isi_int : IsiOk .int := isi_ok _
theorem isi_bool : IsiOk .bool := isi_ok _
theorem isi_str : IsiOk .str := isi_ok _
theorem isi_tuple : IsiOk .tuple := isi_ok _
theorem isi_list : IsiOk .list := isi_ok _
theorem e_isi {X : CxE} {e : Expr} {te : GT} {t : Ty} {x : Str} {p p2 pos : Pos} (hi : X.mg "isinstance" = none) (hx : X.mg x = none) (hv : bootBuiltins x = some (.type t.nm)) (k : IsiOk t) (he : E X e te) (hg : Gl X "isinstance" := by rfl) (hg2 : Gl X x := by rfl)
    (hb : bootBuiltins "isinstance" = some (.builtin "isinstance") := by decide +kernel) (hn : x ≠ "__name__" := by decide) (hdb : (x == ("__debug__" : Str)) = false := by decide)
    (s1 : starEach [e, .Name x p2] X.env = (false, eval e X.env) :: starEach [.Name x p2] X.env := by rfl) (s2 : starEach [.Name x p2] X.env = (false, eval (.Name x p2) X.env) :: starEach [] X.env := by rfl) (hpl : (backTo pos (starEach [.Name x p2] X.env)).any (·.1) = false := by rfl) :
    E X (.Call (.Name "isinstance" p) [e, .Name x p2] [] pos) (gIsi t te) :=
  PE.weak (pe_callB call_isi hg hi hb (pa_cons he (pa_cons (pe_bltn (v := .ty t.nm) hg2 hx hv rfl hn hdb) pa_nil s2) s1) (by decide) (by decide) s1 hpl) fun τ H Q q => by
    obtain ⟨W, h, σ, post, pp, g, q, f⟩ := q
    refine ⟨W, h, σ, _, pp, g, q, fun y h1 W1 H1 v q1 p1 x1 r1 => ?_⟩
    have ne : y.noEx := by
      cases y with
      | ex => exact q1.elim
      | _ => trivial
    have q2 : post (.d (.bl (isK t y))) h1 := by
      cases y with
      | d z => exact q1
      | ref k => exact q1
      | tc ms => exact q1
      | ex => exact q1.elim
    exact ⟨v, .ty t.nm, _, _, _, rfl, .ty _, pyT_ok p1 r1 ne, kit_ty (k y ne), f _ h1 W1 H1 _ q2 p1 x1 (rd_bl : RD X.kx W1.own W1.rg H1 _ _)⟩

/-! ### promises in short -/
def sp1 (f : D → (P → Hl → Prop) → Prop) : GSp := fun xs Q => match xs with
  | [a] => f a Q
  | _ => False
def sp2 (f : D → D → (P → Hl → Prop) → Prop) : GSp := fun xs Q => match xs with
  | [a, b] => f a b Q
  | _ => False
def sp3 (f : D → D → D → (P → Hl → Prop) → Prop) : GSp := fun xs Q => match xs with
  | [a, b, c] => f a b c Q
  | _ => False
def sp4 (f : D → D → D → D → (P → Hl → Prop) → Prop) : GSp := fun xs Q => match xs with
  | [a, b, c, d] => f a b c d Q
  | _ => False
def sp5 (f : D → D → D → D → D → (P → Hl → Prop) → Prop) : GSp := fun xs Q => match xs with
  | [a, b, c, d, e] => f a b c d e Q
  | _ => False
def sp6 (f : D → D → D → D → D → D → (P → Hl → Prop) → Prop) : GSp := fun xs Q => match xs with
  | [a, b, c, d, e, g] => f a b c d e g Q
  | _ => False
theorem sp1_len {f} : ∀ xs post, sp1 f xs post → xs.length = 1 := fun xs post q => by
  unfold sp1 at q; split at q; rfl; exact q.elim
theorem sp2_len {f} : ∀ xs post, sp2 f xs post → xs.length = 2 := fun xs post q => by
  unfold sp2 at q; split at q; rfl; exact q.elim
theorem sp3_len {f} : ∀ xs post, sp3 f xs post → xs.length = 3 := fun xs post q => by
  unfold sp3 at q; split at q; rfl; exact q.elim
theorem sp4_len {f} : ∀ xs post, sp4 f xs post → xs.length = 4 := fun xs post q => by
  unfold sp4 at q; split at q; rfl; exact q.elim
theorem sp5_len {f} : ∀ xs post, sp5 f xs post → xs.length = 5 := fun xs post q => by
  unfold sp5 at q; split at q; rfl; exact q.elim
theorem sp6_len {f} : ∀ xs post, sp6 f xs post → xs.length = 6 := fun xs post q => by
  unfold sp6 at q; split at q; rfl; exact q.elim
def sp1X (f : D → (P → Hl → Prop) → (Nat → List D → Prop) → Prop) : GSpX := fun xs Q Ex => match xs with
  | [a] => f a Q Ex
  | _ => False
theorem sp1X_len {f} : ∀ xs post ex, sp1X f xs post ex → xs.length = 1 := fun xs post ex q => by
  unfold sp1X at q; split at q; rfl; exact q.elim
def sp2X (f : D → D → (P → Hl → Prop) → (Nat → List D → Prop) → Prop) : GSpX := fun xs Q Ex => match xs with
  | [a, b] => f a b Q Ex
  | _ => False
theorem sp2X_len {f} : ∀ xs post ex, sp2X f xs post ex → xs.length = 2 := fun xs post ex q => by
  unfold sp2X at q; split at q; rfl; exact q.elim
def sp3X (f : D → D → D → (P → Hl → Prop) → (Nat → List D → Prop) → Prop) : GSpX := fun xs Q Ex => match xs with
  | [a, b, c] => f a b c Q Ex
  | _ => False
theorem sp3X_len {f} : ∀ xs post ex, sp3X f xs post ex → xs.length = 3 := fun xs post ex q => by
  unfold sp3X at q; split at q; rfl; exact q.elim
def sp4X (f : D → D → D → D → (P → Hl → Prop) → (Nat → List D → Prop) → Prop) : GSpX := fun xs Q Ex => match xs with
  | [a, b, c, d] => f a b c d Q Ex
  | _ => False
theorem sp4X_len {f} : ∀ xs post ex, sp4X f xs post ex → xs.length = 4 := fun xs post ex q => by
  unfold sp4X at q; split at q; rfl; exact q.elim
def sp5X (f : D → D → D → D → D → (P → Hl → Prop) → (Nat → List D → Prop) → Prop) : GSpX := fun xs Q Ex => match xs with
  | [a, b, c, d, e] => f a b c d e Q Ex
  | _ => False
theorem sp5X_len {f} : ∀ xs post ex, sp5X f xs post ex → xs.length = 5 := fun xs post ex q => by
  unfold sp5X at q; split at q; rfl; exact q.elim
def sp6X (f : D → D → D → D → D → D → (P → Hl → Prop) → (Nat → List D → Prop) → Prop) : GSpX := fun xs Q Ex => match xs with
  | [a, b, c, d, e, g] => f a b c d e g Q Ex
  | _ => False
theorem sp6X_len {f} : ∀ xs post ex, sp6X f xs post ex → xs.length = 6 := fun xs post ex q => by
  unfold sp6X at q; split at q; rfl; exact q.elim
/-- the body keeps the promise, or raises as it says -/
def KeepsX (N : List Str) (t : GW → GS) (sp : GSpX) : Prop := ∀ xs post ex, sp xs post ex → t (fun n ys _ _ => ex n ys) (retG post) (startS N xs) []
theorem keeps1X {N : List Str} {t : GW → GS} {f} (h : ∀ a Q Ex, f a Q Ex → t (fun n ys _ _ => Ex n ys) (retG Q) (startS N [a]) []) : KeepsX N t (sp1X f) := fun xs post ex q => by
  unfold sp1X at q; split at q; exact h _ _ _ q; exact q.elim
theorem keeps2X {N : List Str} {t : GW → GS} {f} (h : ∀ a b Q Ex, f a b Q Ex → t (fun n ys _ _ => Ex n ys) (retG Q) (startS N [a, b]) []) : KeepsX N t (sp2X f) := fun xs post ex q => by
  unfold sp2X at q; split at q; exact h _ _ _ _ q; exact q.elim
theorem keeps3X {N : List Str} {t : GW → GS} {f} (h : ∀ a b c Q Ex, f a b c Q Ex → t (fun n ys _ _ => Ex n ys) (retG Q) (startS N [a, b, c]) []) : KeepsX N t (sp3X f) := fun xs post ex q => by
  unfold sp3X at q; split at q; exact h _ _ _ _ _ q; exact q.elim
theorem keeps4X {N : List Str} {t : GW → GS} {f} (h : ∀ a b c d Q Ex, f a b c d Q Ex → t (fun n ys _ _ => Ex n ys) (retG Q) (startS N [a, b, c, d]) []) : KeepsX N t (sp4X f) := fun xs post ex q => by
  unfold sp4X at q; split at q; exact h _ _ _ _ _ _ q; exact q.elim
theorem keeps5X {N : List Str} {t : GW → GS} {f} (h : ∀ a b c d e Q Ex, f a b c d e Q Ex → t (fun n ys _ _ => Ex n ys) (retG Q) (startS N [a, b, c, d, e]) []) : KeepsX N t (sp5X f) := fun xs post ex q => by
  unfold sp5X at q; split at q; exact h _ _ _ _ _ _ _ q; exact q.elim
theorem keeps6X {N : List Str} {t : GW → GS} {f} (h : ∀ a b c d e g Q Ex, f a b c d e g Q Ex → t (fun n ys _ _ => Ex n ys) (retG Q) (startS N [a, b, c, d, e, g]) []) : KeepsX N t (sp6X f) := fun xs post ex q => by
  unfold sp6X at q; split at q; exact h _ _ _ _ _ _ _ _ q; exact q.elim
/-- the body keeps the promise -/
def Keeps (N : List Str) (t : GS) (sp : GSp) : Prop := ∀ xs post, sp xs post → t (retG post) (startS N xs) []
theorem keeps1 {N : List Str} {t : GS} {f} (h : ∀ a Q, f a Q → t (retG Q) (startS N [a]) []) : Keeps N t (sp1 f) := fun xs post q => by
  unfold sp1 at q; split at q; exact h _ _ q; exact q.elim
theorem keeps2 {N : List Str} {t : GS} {f} (h : ∀ a b Q, f a b Q → t (retG Q) (startS N [a, b]) []) : Keeps N t (sp2 f) := fun xs post q => by
  unfold sp2 at q; split at q; exact h _ _ _ q; exact q.elim
theorem keeps3 {N : List Str} {t : GS} {f} (h : ∀ a b c Q, f a b c Q → t (retG Q) (startS N [a, b, c]) []) : Keeps N t (sp3 f) := fun xs post q => by
  unfold sp3 at q; split at q; exact h _ _ _ _ q; exact q.elim
theorem keeps4 {N : List Str} {t : GS} {f} (h : ∀ a b c d Q, f a b c d Q → t (retG Q) (startS N [a, b, c, d]) []) : Keeps N t (sp4 f) := fun xs post q => by
  unfold sp4 at q; split at q; exact h _ _ _ _ _ q; exact q.elim
theorem keeps5 {N : List Str} {t : GS} {f} (h : ∀ a b c d e Q, f a b c d e Q → t (retG Q) (startS N [a, b, c, d, e]) []) : Keeps N t (sp5 f) := fun xs post q => by
  unfold sp5 at q; split at q; exact h _ _ _ _ _ _ q; exact q.elim
theorem keeps6 {N : List Str} {t : GS} {f} (h : ∀ a b c d e g Q, f a b c d e g Q → t (retG Q) (startS N [a, b, c, d, e, g]) []) : Keeps N t (sp6 f) := fun xs post q => by
  unfold sp6 at q; split at q; exact h _ _ _ _ _ _ _ q; exact q.elim
theorem hu5_of {k : Nat} {A : Around} (r : Room k A) : A.units + 65 < cLine := by
  have := r.un
  omega
/-- two ways by a decision -/
theorem Br.dec {c : Prop} [Decidable c] {A B : Prop} (h1 : c → A) (h2 : ¬ c → B) : Br (decide c) A B := ⟨fun e => h1 (of_decide_eq_true e), fun e => h2 (of_decide_eq_false e)⟩
theorem Br.ndec {c : Prop} [Decidable c] {A B : Prop} (h1 : ¬ c → A) (h2 : c → B) : Br (!decide c) A B := ⟨fun e => h1 (by simpa using e), fun e => h2 (by simpa using e)⟩
theorem Br.tt {A B : Prop} (h : A) : Br true A B := ⟨fun _ => h, fun e => (nomatch e)⟩
theorem Br.ff {A B : Prop} (h : B) : Br false A B := ⟨fun e => (nomatch e), fun _ => h⟩
theorem Br.cases {b : Bool} {A B : Prop} (h1 : b = true → A) (h2 : b = false → B) : Br b A B := ⟨h1, h2⟩
theorem Br.eqr {α : Type} [DecidableEq α] {x : α} {A B : Prop} (h : A) : Br (decide (x = x)) A B := ⟨fun _ => h, fun e => (of_decide_eq_false e rfl).elim⟩
theorem Br.ner {α : Type} [DecidableEq α] {x : α} {A B : Prop} (h : B) : Br (!decide (x = x)) A B := ⟨fun e => by simp at e, fun _ => h⟩
theorem Br.joined {b c : Bool} {A : Prop} (h : A) : Br b A A := ⟨fun _ => h, fun _ => h⟩
end Sc

set_option Elab.async false
set_option linter.all false
set_option maxRecDepth 100000
/-! Sc11: the same, over data. -/
namespace Sc
open PySem PySem.Spec PyProof.Rows L2

/-- what «_law_same» promises for equal data of depth n -/
def spSame (n : Nat) : GSp := sp2 fun a b Q => b = a ∧ a.flat n = true ∧ Q (.d (.bl true)) []
def spNo : GSp := fun _ _ => False
theorem fn_no {P₀ : Program} {w : World} {K : PySem.W.Frag} {et : ET} {mg : Str → Option Value} {base : Heap} {k : Nat} {f : Addr} {fd : FuncData} {ps : List Str} : FnOk P₀ w K mg base (L2.CX P₀ w) k f fd ps (upSp K et spNo) :=
  ⟨fun _ _ _ _ ⟨_, _, _, _, _, _, _, q, _⟩ => q.elim, fun _ _ _ _ _ _ _ _ _ _ _ _ _ ⟨_, _, _, _, _, _, _, q, _⟩ => q.elim⟩
theorem D.flats_get : ∀ {n : Nat} {xs : List D} {i : Nat} {x : D}, D.flats n xs = true → xs[i]? = some x → x.flat n = true
  | n, [], i, x, _, e => by simp at e
  | n, y :: ys, 0, x, h, e => by
    simp only [D.flats, Bool.and_eq_true] at h
    simp at e
    subst e
    exact h.1
  | n, y :: ys, i + 1, x, h, e => by
    simp only [D.flats, Bool.and_eq_true] at h
    exact D.flats_get (i := i) h.2 (by simpa using e)
theorem flats_map {α : Type} {f : α → D} {n : Nat} (h : ∀ a, (f a).flat n = true) : ∀ xs : List α, D.flats n (xs.map f) = true
  | [] => rfl
  | x :: xs => by
    simp only [List.map_cons, D.flats, Bool.and_eq_true]
    exact ⟨h x, flats_map h xs⟩
theorem flats_of {n : Nat} : ∀ {xs : List D}, (∀ x ∈ xs, x.flat n = true) → D.flats n xs = true
  | [], _ => rfl
  | x :: xs, h => by
    simp only [D.flats, Bool.and_eq_true]
    exact ⟨h x List.mem_cons_self, flats_of fun y hy => h y (List.mem_cons_of_mem _ hy)⟩
theorem szb {n : Nat} (h : Nat.ble n 1000 = true) : n ≤ sizeLine := Nat.le_of_lt (small1000 (Nat.le_of_ble_eq_true h))
theorem szo {n : Nat} (h : n ≤ 1000000) : n ≤ sizeLine := by rw [sizeLine_eq]; omega
theorem szl {n : Nat} (h : n ≤ 1000000) : n < sizeLine := by rw [sizeLine_eq]; omega
/-- names that nothing reads behind the statement -/
def gKill (is : List Nat) (u : GS) : GS := fun G0 σ h => u { G0 with nx := fun σ' h' => killS is σ' fun q => G0.nx q h' } σ h
theorem s_kill {X : CxE} {st : Stmt} {u : GS} (is : List Nat) (hh : S X st u) : S X st (gKill is u) := PS.weak hh fun D τ H ⟨W, h, σ, Gd, p, g, q, f⟩ =>
  ⟨W, h, σ, _, p, g, q, ⟨fun σ1 h1 W1 H1 τ1 q1 p1 x1 g1 => by
    obtain ⟨σ2, q2, g2⟩ := killS_ok q1 g1
    exact f.nx σ2 h1 W1 H1 τ1 q2 p1 x1 g2, f.rt, f.bk, f.ct⟩⟩
/-- what holds behind a statement that forks -/
theorem seq_join {n : Nat} {t u : GS} {G0 : GD} {σ : Sl} {h : Hl} (J : Sl → Hl → Prop) (h1 : ∀ N : Sl → Hl → Prop, (∀ σ h, J σ h → N σ h) → t { G0 with nx := N } σ h) (h2 : ∀ σ h, J σ h → Ln n (u G0 σ h)) : gSeq n t u G0 σ h := h1 _ h2
theorem cut_all {α : Type} (xs : List α) : cutD xs none none = xs := by
  unfold cutD
  rw [HT.sIx_none, HT.sIx_none]
  simp
theorem cut_to {α : Type} (xs : List α) (k : Nat) : cutD xs none (some (k : Int)) = xs.take k := by
  unfold cutD
  rw [HT.sIx_none, HT.sIx_nat, Nat.sub_zero, List.drop_zero]
  by_cases h : k ≤ xs.length
  · rw [Nat.min_eq_left h]
  · rw [Nat.min_eq_right (by omega), List.take_of_length_le (by omega), List.take_of_length_le (by omega)]
theorem cut_from {α : Type} (xs : List α) (k : Nat) : cutD xs (some (k : Int)) none = xs.drop k := by
  unfold cutD
  rw [HT.sIx_none, HT.sIx_nat]
  by_cases h : k ≤ xs.length
  · rw [Nat.min_eq_left h, List.take_of_length_le (by rw [List.length_drop]; omega)]
  · rw [Nat.min_eq_right (by omega), List.drop_of_length_le (by omega), List.drop_of_length_le (by omega), List.take_nil]
/-- an end: the same answer -/
theorem fin_d {Q : P → Hl → Prop} {x y : D} {h : Hl} (q : Q (.d x) h) (e : x = y) : Q (.d y) h := e ▸ q
theorem fin_b {Q : P → Hl → Prop} {x y : Bool} {h : Hl} (q : Q (.d (.bl x)) h) (e : x = y) : Q (.d (.bl y)) h := e ▸ q
theorem fin_i {Q : P → Hl → Prop} {x y : Int} {h : Hl} (q : Q (.d (.int x)) h) (e : x = y) : Q (.d (.int y)) h := e ▸ q
/-- an item at a place known to lie within -/
theorem At.nat {xs : List D} {i : Int} {k : D → Prop} {x : D} {j : Nat} (e : i = (j : Int)) (h : xs[j]? = some x) (q : k x) : At xs i k := ⟨x, by subst e; exact atI_nat h, q⟩
theorem At.map {α : Type} {f : α → D} {xs : List α} {i : Int} {k : D → Prop} (h0 : 0 ≤ i) (h1 : i < xs.length) (q : ∀ (h : i.toNat < xs.length), k (f xs[i.toNat])) : At (xs.map f) i k := by
  have h : i.toNat < xs.length := by omega
  refine At.nat (j := i.toNat) (by omega) ?_ (q h)
  rw [List.getElem?_map, List.getElem?_eq_getElem h]
  rfl
theorem At.lit {xs : List D} {i : Int} {k : D → Prop} {x : D} (h : atI xs i = some x) (q : k x) : At xs i k := ⟨x, h, q⟩
theorem ForP.range {lo : Int} {n : Nat} {ks : List Nat} {m : Nat} {g : GG} {b : GS} {G0 : GD} {σ : Sl} {h : Hl} (Pv : Nat → Sl → Hl → Prop) (h0 : Pv 0 σ h)
    (hs : ∀ i σ h, i < n → Pv i σ h → g (.d (.int (lo + (i : Nat)))) σ h fun σ2 h2 => b { nx := turnEnd ks m (Pv (i + 1)), ct := turnEnd ks m (Pv (i + 1)), bk := G0.nx, rt := G0.rt } σ2 h2)
    (hd : ∀ σ h, Pv n σ h → G0.nx σ h) : ForP (rangeD lo n) ks m g b G0 σ h := by
  refine ⟨Pv, h0, fun i x σ h e p => ?_, fun σ h p => hd σ h (by rw [rangeD_len] at p; exact p)⟩
  have hi : i < n := by
    have := (List.getElem?_eq_some_iff.mp e).1
    rw [rangeD_len] at this
    exact this
  rw [rangeD_get hi] at e
  cases e
  exact hs i σ h hi p
theorem ForP.map {α : Type} {xs : List α} {f : α → D} {ks : List Nat} {m : Nat} {g : GG} {b : GS} {G0 : GD} {σ : Sl} {h : Hl} (Pv : Nat → Sl → Hl → Prop) (h0 : Pv 0 σ h)
    (hs : ∀ (i : Nat) a σ h, xs[i]? = some a → Pv i σ h → g (.d (f a)) σ h fun σ2 h2 => b { nx := turnEnd ks m (Pv (i + 1)), ct := turnEnd ks m (Pv (i + 1)), bk := G0.nx, rt := G0.rt } σ2 h2)
    (hd : ∀ σ h, Pv xs.length σ h → G0.nx σ h) : ForP (xs.map f) ks m g b G0 σ h := by
  refine ⟨Pv, h0, fun i x σ h e p => ?_, fun σ h p => hd σ h (by rw [List.length_map] at p; exact p)⟩
  rw [List.getElem?_map] at e
  cases q : xs[i]? with
  | none => rw [q] at e; cases e
  | some a =>
    rw [q] at e
    cases e
    exact hs i a σ h q p
/-- a comprehension over data, each item by itself, nothing kept in cells -/
theorem CompP.map {α : Type} {xs : List α} {f g : α → D} {tg : Tgt} {te : GT} {σ : Sl} {Qf : List D → Hl → Prop} (hl : xs.length ≤ 1000000)
    (he : ∀ a ∈ xs, ∀ ys (R : P → Hl → Prop), R (.d (g a)) [.lst ys] → tg.set (f a) σ fun σ2 => te σ2 [.lst ys] R) (mono : ∀ x (k k' : Sl → Prop), tg.set x σ k → (∀ s, k s → k' s) → tg.set x σ k') (q : Qf (xs.map g) []) : CompP (xs.map f) 0 tg bYes te σ [] Qf := by
  refine ⟨fun i ys h => h = [] ∧ ys = (xs.take i).map g, ⟨rfl, rfl⟩, ?_, ?_⟩
  · rintro i x ys h e ⟨rfl, rfl⟩
    rw [List.getElem?_map] at e
    cases q2 : xs[i]? with
    | none => rw [q2] at e; cases e
    | some a =>
      rw [q2] at e
      cases e
      have hlt := (List.getElem?_eq_some_iff.mp q2).1
      refine mono _ _ _ (he a (List.mem_of_getElem? q2) ((xs.take i).map g) _ ?_) fun s ks => Br.tt ks
      refine ⟨?_, rfl, ?_⟩
      · rw [List.length_map, List.length_take]
        have : (1000000 : Nat) < sizeLine := by decide +kernel
        omega
      · rw [List.take_add_one, q2, List.map_append]
        rfl
  · rintro ys h ⟨rfl, rfl⟩
    rw [List.length_map, List.take_length]
    exact q
/-- .. with a test -/
theorem CompP.filter {α : Type} {xs : List α} {f g : α → D} {p : α → Bool} {tg : Tgt} {tt : GB} {te : GT} {σ : Sl} {Qf : List D → Hl → Prop} (hl : xs.length ≤ 1000000)
    (he : ∀ a ∈ xs, ∀ ys (R : P → Hl → Prop) (S : Hl → Prop), (p a = true → R (.d (g a)) [.lst ys]) → (p a = false → S [.lst ys]) → tg.set (f a) σ fun σ2 => tt σ2 [.lst ys] fun b h3 => Br b (te σ2 h3 R) (S h3)) (q : Qf ((xs.filter p).map g) []) : CompP (xs.map f) 0 tg tt te σ [] Qf := by
  refine ⟨fun i ys h => h = [] ∧ ys = ((xs.take i).filter p).map g, ⟨rfl, rfl⟩, ?_, ?_⟩
  · rintro i x ys h e ⟨rfl, rfl⟩
    rw [List.getElem?_map] at e
    cases q2 : xs[i]? with
    | none => rw [q2] at e; cases e
    | some a =>
      rw [q2] at e
      cases e
      have hlt := (List.getElem?_eq_some_iff.mp q2).1
      refine he a (List.mem_of_getElem? q2) (((xs.take i).filter p).map g) _ _ (fun hp => ?_) (fun hp => ?_)
      · refine ⟨?_, rfl, ?_⟩
        · rw [List.length_map]
          have h1 := List.length_filter_le p (xs.take i)
          rw [List.length_take] at h1
          have : (1000000 : Nat) < sizeLine := by decide +kernel
          omega
        · rw [List.take_add_one, q2, List.filter_append, List.map_append]
          simp [hp]
      · show _ ∧ _
        refine ⟨rfl, ?_⟩
        rw [List.take_add_one, q2, List.filter_append, List.map_append]
        simp [hp]
  · rintro ys h ⟨rfl, rfl⟩
    rw [List.length_map, List.take_length]
    exact q
theorem one_mono {i : Nat} {σ : Sl} : ∀ x (k k' : Sl → Prop), (Tgt.one i).set x σ k → (∀ s, k s → k' s) → (Tgt.one i).set x σ k' := fun x k k' h hk => by
  simp only [Tgt.set] at h ⊢
  rw [setSlot_eq] at h ⊢
  exact hk _ h
end Sc

set_option Elab.async false
set_option linter.all false
set_option maxRecDepth 100000
set_option maxHeartbeats 1000000
/-! Sc12: own exceptions: an __init__ that says super().__init__(text), then stores its parameters. -/
namespace Sc
open PySem PySem.Spec PySem.Calls PyProof.Rows L2 NdefX

abbrev veT : List Value := [.type "ValueError", .type "Exception", .type "BaseException", .type "object"]
/-- what the row says of an own exception class and of its __init__ -/
structure ExI (P : Program) (K : PySem.W.Frag) (C fI cc cda : Addr) (qual : Str) (params : Arguments) (body : List Stmt) (scope : Scope) (fd : FuncData) : Prop where
  T : OexC K C
  fd_ : ∃ doc pm ct, fd = NF.fd ⟨"__init__", qual, params, body, scope, [("__class__", cc)], cda⟩ doc pm ct
  at_ : ∃ oc od osl, K.lookup fI = some ⟨oc, od, .func fd, osl⟩
  code : PySem.W.codeIn K (.ref cda) qual = true
  file : ∃ ccl cdd vs ccs file tf, K.lookup cda = some ⟨ccl, cdd, .fields vs, ccs⟩ ∧ vs[2]? = some (.str file tf) ∧ ((P.main.file : Str) == file) = true
  cell : ∃ cl cld csl, K.lookup cc = some ⟨cl, cld, .cell (some (.ref C)), csl⟩
  init : PySem.W.excInitIn K C veT "ValueError.__new__" = true
  up : PySem.W.ks_superIn K C C "__init__" = some (some (.builtin "ValueError.__init__"))
  sub : PySem.W.subIn K (.ref C) (.type "ValueError") = some true
  slf : PySem.W.mroIn K C (.ref C) = some true
  opq : PySem.W.nsIn K cStatics "thirdparty.any" = some none
  top : (P.main.scope.names.lookup ("super" : Str)).isSome = false
section
variable {X : Cx} {pins : List (Addr × Obj)} {σ : L2.St} {H : Hp} {s : Shared}
theorem pin_add (I : Inv X pins σ H s) {u : Addr} {o : Obj} (e : s.heap.get? u = some o) (n : H u = none) (nl : u ≠ X.env.locals) (nf : u ∉ X.fs) (d : ∀ v, o.data ≠ .cell v) : Inv X ((u, o) :: pins) σ H s :=
  ⟨I.ok, I.os, I.bare, I.base, I.loc, I.cell, I.free, I.freeC, fun p hp => by
    rcases List.mem_append.mp hp with hp | hp
    · exact I.pin p (List.mem_append_left _ hp)
    · rcases List.mem_cons.mp hp with rfl | hp
      · exact ⟨e, n, nl, nf, d⟩
      · exact I.pin p (List.mem_append_right _ hp), I.hok, I.len⟩
theorem pin_off {p : Addr × Obj} (I : Inv X (p :: pins) σ H s) : Inv X pins σ H s :=
  ⟨I.ok, I.os, I.bare, I.base, I.loc, I.cell, I.free, I.freeC, fun q hq => I.pin q (by
    rcases List.mem_append.mp hq with h | h
    · exact List.mem_append_left _ h
    · exact List.mem_append_right _ (.tail _ h)), I.hok, I.len⟩
/-- super().__init__(..) called -/
theorem mw_call {C a u : Addr} {rest : List Value} {A : Around} {E : Value → Shared → Prop} {Q : Value → Shared → Prop} (q : PySem.W.excInitIn X.K C veT "ValueError.__new__" = true) (I : Inv X ((u, PySem.W.kxs_mw "ValueError.__init__" a) :: pins) σ H s) (e : H a = some (exo a C none)) (hz : rest.length ≤ sizeLine)
    (h : ∀ s', Inv X pins σ H s' → Q .none s') : wpAny (model X.prog X.w) A (call (.ref u) rest) Q E s := by
  obtain ⟨nm, N', qn, bs, bm, hdct, sn, sub, ab, col, dd, k0, k1, k2, k3, k5, hC, hT⟩ := PySem.W.excInit_of I.kIn q
  obtain ⟨t1, he⟩ := exo_at I.hok e
  have hu := (I.pin _ (List.mem_append_right _ List.mem_cons_self)).1
  obtain ⟨hh, g, d, tk, os⟩ := s
  refine wpAny_call (codeAny_of_tree ?_)
  show wpAny _ A.in1 (callAny (.ref u) ⟨rest, []⟩) _ _ _
  simp only [callAny]
  refine wpAny_bind (wpAny_load hu ?_)
  simp only [PySem.W.kxs_mw, show (Value.type "method-wrapper" == Value.type "method" || Value.type "method-wrapper" == Value.type "builtin_function_or_method" || Value.type "method-wrapper" == Value.type "method-wrapper") = true by decide, if_true]
  refine PySem.W.KFB.if_so (by decide) ?_
  refine wpAny_bind (PySem.W.check_bound_init F.excBase_ValueError.toExcCallFacts hC he rfl ?_)
  refine wpAny_bind (wpAny_pure (wpAny_pure ?_))
  refine ⟨plainId_quiet F.excBase_ValueError.init.plain _, codeAny_builtin F.excBase_ValueError.initEntry ?_⟩
  refine PySem.W.exc_init_tree (cls := .ref C) (t0 := t1) (dv := none) (c2 := .none) (c3 := .none) (b4 := .bool false) he hz fun h' k hx _ => ?_
  have J := (pin_off I).write (t' := tk) (x := a) (e := a) (o := exo a C none) (by rw [e]; exact True.intro) (.inl rfl) k ⟨_, hx⟩ (exo_ok hx)
  have eu : upd H a (exo a C none) = H := by
    funext b
    by_cases hb : b = a
    · rw [hb, upd_same, e]
    · rw [upd_ne hb]
  rw [eu] at J
  exact h _ J
end

section
variable {CX : CXT} {P : Program} {w : World} {K : PySem.W.Frag} {mg : Str → Option Value} {base : Heap} {N ps : List Str} {C fI cc cda : Addr} {qual : Str} {params : Arguments} {rest : List Stmt} {scope : Scope} {fd : FuncData} {k : Nat} {sp : Sp} {txt : Str} {j : Nat} {p0 p1 p2 p3 p4 p5 : Pos} {ar : Arg} {t : TS}
abbrev iniSt (txt : Str) (j : Nat) (p0 p1 p2 p3 p4 p5 : Pos) : Stmt := .Expr (.Call (.Attribute (.Call (.Name "super" p0) [] [] p1) "__init__" p2) [.Constant (.str txt) j p3] [] p4) p5
abbrev iniEnv (qual : Str) (scope : Scope) (fI cc cda L : Addr) : Env := PySem.W.envX qual scope L fI (.ref cda) [("__class__", cc)]
theorem ini_ok (F : ExI P K C fI cc cda qual params (iniSt txt j p0 p1 p2 p3 p4 p5 :: rest) scope fd) (hms : mg "super" = none) (S : NScope N ps ["__class__"] scope) (hks : scope.names.lookup ("super" : Str) = some .globalImplicit)
    (har : (params.posonlyargs ++ params.args).head? = some ar) (hap : ps[0]? = some ar.arg)
    (hev : ∀ L, ∃ pl : Sem Bool, eval (.Call (.Attribute (.Call (.Name "super" p0) [] [] p1) "__init__" p2) [.Constant (.str txt) j p3] [] p4) (iniEnv qual scope fI cc cda L) = (do
      let ov ← attributeBase (.Call (.Name "super" p0) [] [] p1) "__init__" (iniEnv qual scope fI cc cda L) (eval (.Call (.Name "super" p0) [] [] p1) (iniEnv qual scope fI cc cda L))
      standAt p2.atName
      let (f, first) ← holding [ov] (getMethod ov "__init__" pl)
      callWith p4 f first (backTo p4 (starEach [.Constant (.str txt) j p3] (iniEnv qual scope fI cc cda L))) []))
    (hin : ∀ L, interactive (iniEnv qual scope fI cc cda L) = false)
    (hbody : ∀ (A : Around) (outer : List Env) (s : Shared) (H : Hp) (E : XK), PSs (ncx CX P w K mg base N ⟨"__init__", qual, params, iniSt txt j p0 p1 p2 p3 p4 p5 :: rest, scope, [("__class__", cc)], cda⟩ fI A outer s H E) rest t)
    (len : ∀ vs H Q E, sp vs H Q E → vs.length = ps.length)
    (hp : ∀ vs H Q E, sp vs H Q E → ∃ a ys, vs = .ref a :: ys ∧ H a = some (exo a C none) ∧ t { nx := fun _ H' => Q .non H', rt := Q } (startF N vs [some (.ref C)]) H) :
    FnOk P w K mg base CX (k + 1) fI fd ps sp := by
  refine ⟨len, fun A outer s H args us vs Q E hr e0 hb r hsp => ?_⟩
  obtain ⟨doc, pm, ct, rfl⟩ := F.fd_
  obtain ⟨oc, od, osl, lk⟩ := F.at_
  obtain ⟨a, ys, rfl, ea, hq⟩ := hp _ _ _ _ hsp
  obtain ⟨cl, cld, csl, lcc⟩ := F.cell
  obtain ⟨ccl, cdd, fvs, ccs, file, tf, lcd, hvs, hfile⟩ := F.file
  have hl := len _ _ _ _ hsp
  have KX : K.In s.heap := e0.mod.kin.keeps fun b o e => (e0.bs b o e).1
  have KB : ∀ b o, K.lookup b = some o → H b = none := fun b o e => (e0.bs b o (e0.mod.kin _ _ e)).2
  have lim : s.heap.NoLimit := e0.mod.nolimit.keeps fun b o e => (e0.bs b o e).1
  have C0 : CellsAt [("__class__", cc)] ["__class__"] [some (.ref C)] s.heap H := by
    have one : ∀ (y : Str) c, ([("__class__", cc)] : List (Str × Addr)).lookup y = some c → y = "__class__" ∧ c = cc := fun y c e => by
      by_cases hy : y = "__class__"
      · subst hy
        exact ⟨rfl, (Option.some.inj (show some cc = some c from e)).symm⟩
      · rw [List.lookup_cons] at e
        have : (y == ("__class__" : Str)) = false := by simpa using hy
        rw [this] at e
        cases e
    have hc : s.heap.IsCell cc (some (.ref C)) := ⟨_, KX _ _ lcc, rfl⟩
    refine ⟨rfl, fun y c e => ?_, fun x y c e1 e2 => (one x c e1).1.trans (one y c e2).1.symm, fun i y e => ?_⟩
    · obtain ⟨rfl, rfl⟩ := one y c e
      exact ⟨KB _ _ lcc, _, hc⟩
    · cases i with
      | zero =>
        simp at e
        subst e
        exact ⟨cc, rfl, fun v ev => by
          simp at ev
          subst ev
          exact ⟨_, rfl, hc⟩⟩
      | succ i => simp at e
  have hcell : ∀ x ∈ scope.names, x.2 ≠ .cell := S.nocell
  have hloc : ∀ x ∈ ps.zip us, scope.names.lookup x.1 = some .local := fun ⟨n, _⟩ hy => S.par n (List.of_mem_zip hy).1
  refine PySem.ks_codeAny_call_defAt (body := iniSt txt j p0 p1 p2 p3 p4 p5 :: rest) (binds := ps.zip us) hr.depth (KX _ _ lk) rfl lim (PySem.W.codeRec_of KX F.code) rfl hb hcell hloc (fun h₁ hns kp => ?_) S.co S.gen S.kind
  have I : Inv (ncx CX P w K mg base N ⟨"__init__", qual, params, iniSt txt j p0 p1 p2 p3 p4 p5 :: rest, scope, [("__class__", cc)], cda⟩ fI A outer s H E) [] (startF N (.ref a :: ys) [some (.ref C)]) H { s with heap := h₁, toks := s.toks + (ps.zip us).length } :=
    inv_startN S hr.hd e0 hl r C0 hns kp
  have ha := r
  cases ha with
  | @cons _ u0 _ ur ra rw' =>
  obtain rfl : u0 = Value.ref a := ra
  obtain ⟨nm, q, N', bs, bm, sn, sub, ab, col, dd, k0, k1, k2, k3, k5, hCK, hbm⟩ := F.T.cls
  have KI : K.In h₁ := I.kIn
  have hC := KI _ _ hCK
  obtain ⟨t1, he⟩ := exo_at I.hok ea
  have hkc : scope.names.lookup ("__class__" : Str) = some .free := S.frk _ (by simp)
  have hpa : scope.names.lookup ar.arg = some .local := S.par _ (List.mem_of_getElem? hap)
  have hlook : (ps.zip (Value.ref a :: ur)).reverse.lookup ar.arg = some (Value.ref a) := zip_look (by
    have h1 := S.nd
    have h2 : ps = N.take ps.length := by
      have := congrArg (List.take ps.length) S.pre
      rw [List.take_take, List.take_left' rfl, Nat.min_eq_left (Nat.le_add_right _ _)] at this
      exact this.symm
    exact h2 ▸ h1.sublist (List.take_sublist _ _)) hap rfl
  obtain ⟨mb, hmb, hbb⟩ := I.mod.blt
  obtain ⟨pl, hev⟩ := hev s.heap.objs.size
  refine ks_wpAt_execs_cons (ks_wpAt_Expr_any (hi := hin _) (ks_wpAt_MethodCall (he := hev) ?_))
  refine ks_wpAt_super_base (f := fI) (cc := cda) hks hkc (by decide) rfl (KI _ _ lk) rfl har rfl (KI _ _ lcd) rfl hvs hfile F.top ?_
  refine PySem.W.ks_loadName_global S.kind hks (loadGlobal_builtin (mg := mg) (mb := mb) (v := .type "super") (I.mod.glob.keeps I.bk) hms (hmb.keeps I.bk) ((hbb _ (by decide +kernel)).trans (by decide +kernel)) ⟨rfl, ?_⟩)
  refine wpAny_loadName_free S.kind hkc (c := cc) rfl ⟨_, KI _ _ lcc, rfl⟩ ?_
  refine wpAny_loadName_local S.kind hpa hns hlook ?_
  refine ks_wpAny_isType_cls hC rfl ⟨rfl, ?_⟩
  refine ks_wpAny_call_super hC rfl he rfl (fun c e => by cases e) (PySem.W.looks_mroIn KI F.slf) (fun h' e2 k2 => ?_)
  have I1 : Inv (ncx CX P w K mg base N ⟨"__init__", qual, params, iniSt txt j p0 p1 p2 p3 p4 p5 :: rest, scope, [("__class__", cc)], cda⟩ fI A outer s H E) [] (startF N (.ref a :: ys) [some (.ref C)]) H { s with heap := h', toks := s.toks + (ps.zip (Value.ref a :: ur)).length } := I.kept (t' := s.toks + (ps.zip (Value.ref a :: ur)).length) k2
  have hcl : PySem.W.clsIn K C = some { name := nm, bases := bs, mro := .ref C :: bm, ns := N', qualname := q, hasDict := true, slotNames := sn, subclasses := sub, abstract := ab, collection := col, hasDel := false } := by unfold PySem.W.clsIn; rw [hCK] <;> rfl
  have hup := F.up
  unfold PySem.W.ks_superIn at hup
  rw [hcl] at hup
  have K1 : K.In h' := I1.kIn
  have IA : PySem.W.InstAt h' a { cls := .ref C, data := .fields #[.ref t1, .none, .none, .none, .bool false, .none] } C none := ⟨k2 _ _ he, rfl, rfl, trivial⟩
  have hI : PySem.W.Looks (model P w) h' (isInstance (.ref a) (.type "ValueError")) true := IA.type.andThen (PySem.W.looks_subIn K1 F.sub)
  refine PySem.W.kxs_getMethod PySem.W.kxs_ValueError e2 (PySem.W.looks_opaque K1 F.opq) (l₀ := .ref C :: bm) (fun A Q E s k q => wpAny_bind ((PySem.W.looks_clsIn K1 hcl) A _ E s k (wpAny_pure q))) rfl K1 hup hI (PySem.W.ks_ne K1 IA hcl) (by decide) ?_
  have I2 : Inv (ncx CX P w K mg base N ⟨"__init__", qual, params, iniSt txt j p0 p1 p2 p3 p4 p5 :: rest, scope, [("__class__", cc)], cda⟩ fI A outer s H E) [] (startF N (.ref a :: ys) [some (.ref C)]) H { s with heap := h'.push (PySem.W.kxs_mw "ValueError.__init__" a), toks := s.toks + (ps.zip (Value.ref a :: ur)).length + 1 } := I1.kept (t' := s.toks + (ps.zip (Value.ref a :: ur)).length + 1) fun b o e => Heap.get?_push_of_some _ e
  have I3 := pin_add (u := h'.objs.size) (o := PySem.W.kxs_mw "ValueError.__init__" a) I2 (Heap.get?_push_size h' rfl) (I1.hok.fresh (Nat.le_refl _)) (Nat.ne_of_gt I1.lt) (I1.nofs (Nat.le_refl _)) (fun v e => by cases e)
  show wpAny _ _ (callWith p4 (.ref h'.objs.size) [] (backTo p4 (starEach [.Constant (.str txt) j p3] _)) []) _ _ _
  refine PySem.W.kxs_callWith (i := "ValueError.__init__") (x := a) rfl ?_
  refine evalArgs_plain ?_
  refine thn ((pa_cons pe_str pa_nil : PA (ncx CX P w K mg base N ⟨"__init__", qual, params, iniSt txt j p0 p1 p2 p3 p4 p5 :: rest, scope, [("__class__", cc)], cda⟩ fI A outer s H E) [.Constant (.str txt) j p3] (tCons (tC (.str txt)) tNil)).run p4 _ _ _ H (fun vs H1 => vs = [V.str txt] ∧ H = H1) I3 ⟨rfl, rfl⟩) fun us' s1 hh => ?_
  obtain ⟨vs', H1, I4, r4, ev, rfl⟩ := hh
  subst ev
  refine ⟨(I4.pin _ (List.mem_append_right _ List.mem_cons_self)).1, ?_⟩
  have hz4 : us'.length ≤ sizeLine := by
    rw [← r4.length]
    show 1 ≤ sizeLine
    rw [sizeLine_eq]
    omega
  refine mw_call F.init I4 ea hz4 fun s' J => ?_
  show PySem.wpAt _ _ _ (execs rest _) _ _ _
  refine wpAt_of_wpAny (wpAny_mono ((hbody A outer s H E).run [] s' _ H _ J hq) (fun fl s2 hs => ?_) fun e s2 hs => hs)
  have fin : ∀ {σ' : L2.St} {H' : Hp} {v : V} {u : Value}, Inv (ncx CX P w K mg base N ⟨"__init__", qual, params, iniSt txt j p0 p1 p2 p3 p4 p5 :: rest, scope, [("__class__", cc)], cda⟩ fI A outer s H E) [] σ' H' s2 → L2.RelV v u → Q v H' → CE outer P w H s Q u s2 :=
    fun {σ' H' v u} J rv q => ⟨v, H', J.os, J.bare, J.base, J.hok, rv, q⟩
  cases fl with
  | ret u =>
    obtain ⟨v, σ', H', J, rv, q⟩ := hs
    exact fin J rv q
  | next =>
    obtain ⟨σ', H', J, q⟩ := hs
    exact fin (v := V.non) (u := Value.none) J rfl q
  | brk =>
    obtain ⟨_, _, _, q⟩ := hs
    exact False.elim q
  | cont =>
    obtain ⟨_, _, _, q⟩ := hs
    exact False.elim q
end
end Sc

set_option Elab.async false
set_option linter.all false
set_option maxRecDepth 100000
set_option maxHeartbeats 1000000
/-! Sc13: try with several clauses, with and without names. -/
namespace Sc
open PySem PySem.Spec PySem.Calls PyProof.Rows L2

abbrev HdT := Value × Option Nat × (Addr → Value → Option Addr → TS)
/-- the ends of a suite whose name goes -/
def offE (i : Nat) (D : Ends) : Ends := { nx := fun σ' H' => D.nx (σ'.set i none) H', rt := D.rt, bk := fun σ' H' => D.bk (σ'.set i none) H', ct := fun σ' H' => D.ct (σ'.set i none) H' }
/-- what the clauses wish of an exception of the body -/
def wMix (K : PySem.W.Frag) (Wout : WX) (D : Ends) : List HdT → WX
  | [] => Wout
  | (c, none, ts) :: r => fun cls d σ H => ∃ b, PySem.W.exmOne K cls c = some b ∧ (b = true → ∀ a, H a = none → ts a cls d D σ H) ∧ (b = false → wMix K Wout D r cls d σ H)
  | (c, some i, ts) :: r => fun cls d σ H => ∃ b, PySem.W.exmOne K cls c = some b ∧ (b = true → ∀ a, H a = none → ts a cls d (offE i D) (σ.set i (some (.ref a))) H) ∧ (b = false → wMix K Wout D r cls d σ H)
inductive MixOk (X : Cx) : List ExceptHandler → List HdT → Prop
  | nil : MixOk X [] []
  | plain {x : Str} {c : Value} {ts : Addr → Value → Option Addr → TS} {b₀ : Stmt} {suite : List Stmt} {np pos' : Pos} {hds : List ExceptHandler} {l : List HdT} (hc : Names X x c)
      (hsu : ∀ (a : Addr) (oe : Obj) (cls : Value) (d : Option Addr) (pn : List (Addr × Obj)), Zc cls d oe → (∃ vs, oe.data = .fields vs) → PSs (X.suite a ((a, oe) :: pn)) (b₀ :: suite) (ts a cls d)) (r : MixOk X hds l) :
      MixOk X (.ExceptHandler (some (.Name x np)) none (b₀ :: suite) pos' :: hds) ((c, none, ts) :: l)
  | named {x n : Str} {i : Nat} {c : Value} {ts : Addr → Value → Option Addr → TS} {b₀ : Stmt} {suite : List Stmt} {np pos' : Pos} {hds : List ExceptHandler} {l : List HdT} (hc : Names X x c) (hN : X.N.Nodup) (hi : X.N[i]? = some n) (hln : X.env.kindOf n = some .local)
      (hsu : ∀ (a : Addr) (oe : Obj) (cls : Value) (d : Option Addr) (pn : List (Addr × Obj)), Zc cls d oe → (∃ vs, oe.data = .fields vs) → PSs (X.suite a ((a, oe) :: pn)) (b₀ :: suite) (ts a cls d)) (r : MixOk X hds l) :
      MixOk X (.ExceptHandler (some (.Name x np)) (some n) (b₀ :: suite) pos' :: hds) ((c, some i, ts) :: l)
section
variable {X : Cx} {body : List Stmt} {h₀ : ExceptHandler} {hds : List ExceptHandler} {l : List HdT} {pos : Pos} {tb : WX → TS}
theorem ps_try_mix (hs : X.stack = X.env :: X.outer) (hf : X.env.frame = some X.env.locals)
    (hb : ∀ (W : WX) (pn : List (Addr × Obj)) (xe : Value → Shared → Prop), Takes (X.tr pn xe) W → PassesOwn (model X.prog X.w) X.A X.env xe → PSs (X.tr pn xe) body (tb W))
    (hh : MixOk X (h₀ :: hds) l) : PS X (.Try body (h₀ :: hds) [] [] pos) (fun D σ H => ∃ Wout, Takes X Wout ∧ tb (wMix X.K Wout D l) D σ H) := by
  refine ⟨fun pins s σ H D I h => ?_⟩
  obtain ⟨Wout, tk, h⟩ := h
  have ok := I.ok
  have hfr : X.A.frames = some (X.env :: X.outer) := by rw [ok.frames, hs]
  have ends : ∀ {f : Flow} {s1 : Shared}, SP (X.tr (X.pn ++ pins) fun e s₁ => wpAny (model X.prog X.w) X.A (noteFrame e X.env) (fun _ s₂ => wpAny (model X.prog X.w) X.A (setFlight e none) (fun _ s₃ =>
      wpAny (model X.prog X.w) X.A (handleBy e X.env (h₀ :: hds)) (SP X pins D) X.xe s₃) X.xe s₂) X.xe s₁) [] D f s1 → SP X pins D f s1 := fun {f s1} hsp => by
    cases f with
    | ret u =>
      obtain ⟨v, σ', H', J, r, q⟩ := hsp
      exact ⟨v, σ', H', J.ofTry ok, r, q⟩
    | next => obtain ⟨σ', H', J, q⟩ := hsp; exact ⟨σ', H', J.ofTry ok, q⟩
    | brk => obtain ⟨σ', H', J, q⟩ := hsp; exact ⟨σ', H', J.ofTry ok, q⟩
    | cont => obtain ⟨σ', H', J, q⟩ := hsp; exact ⟨σ', H', J.ofTry ok, q⟩
  refine wpAny_Try_except (wpAny_mono ((hb (wMix X.K Wout D l) (X.pn ++ pins) (fun e s₁ => wpAny (model X.prog X.w) X.A (noteFrame e X.env) (fun _ s₂ => wpAny (model X.prog X.w) X.A (setFlight e none) (fun _ s₃ =>
    wpAny (model X.prog X.w) X.A (handleBy e X.env (h₀ :: hds)) (SP X pins D) X.xe s₃) X.xe s₂) X.xe s₁) (fun u s' xx => ?_) PassesOwn.looking).run [] s σ H D (I.toTry _) h) (fun f s1 hsp => ?_) (fun _ _ z => z))
  rotate_left
  · have q := ends hsp
    cases f with
    | next => exact wpAny_execs_nil q
    | ret u => exact q
    | brk => exact q
    | cont => exact q
  obtain ⟨a, B, sI, pins', σ', H', cls, d, rfl, J', nb, up, sky, na, os, ag, w⟩ := xx
  have J : Inv X pins σ' H' sI := J'.ofTry ok
  show wpAny (model X.prog X.w) X.A (noteFrame (.ref a) X.env) _ _ _
  refine Sky.land Zc.steady hfr hf (by rw [← hs]; exact sky) fun h3 fl3 up3 => ?_
  have J3 : Inv X pins σ' H' { s' with heap := h3 } := J.landed nb fl3.1 (up.trans up3) os ag
  obtain ⟨oe3, vs3, he3, hz3, hd3⟩ := fl3.there
  have nfr : a ∉ frs (X.env :: X.outer) := fun hm => by
    obtain ⟨_, o', e', hnf⟩ := fl3.2.2.1.mem hm
    rw [he3] at e'
    cases e'
    exact hnf _ hd3
  have nL : a ≠ X.env.locals := fun z => nfr (List.mem_filterMap.mpr ⟨X.env, List.mem_cons_self, by rw [hf, z]⟩)
  have nF : a ∉ X.fs := fun hm => by
    obtain ⟨e, he, q⟩ := List.mem_filterMap.mp hm
    exact nfr (List.mem_filterMap.mpr ⟨e, List.mem_cons_of_mem _ he, q⟩)
  have S3 := J3.suite he3 hd3 na nL nF
  have LT : PySem.W.Looks (model X.prog X.w) h3 (typeOf (.ref a)) cls := fun A Q E s k q => wpAny_typeOf_ref (k _ _ he3) (by rw [hz3.1]; exact q)
  have test : ∀ {x : Str} {c : Value} {np : Pos} {Q : Value → Shared → Prop} {E : Value → Shared → Prop}, Names X x c → Q c { s' with heap := h3 } → wpAny (model X.prog X.w) (X.A.mark (some (.ref a))) (eval (.Name x np) X.env) Q E { s' with heap := h3 } := fun {x c np Q E} hc q => by
    obtain ⟨hg, hdbg, hm | ⟨hm, hv, hnn⟩⟩ := hc
    · exact ld_glob (X := X.suite a ((a, oe3) :: (X.pn ++ pins))) S3 hg hm q hdbg
    · exact ld_blt (X := X.suite a ((a, oe3) :: (X.pn ++ pins))) S3 hg hm hv q hnn hdbg
  have go : ∀ {hds' : List ExceptHandler} {l' : List HdT}, MixOk X hds' l' → wMix X.K Wout D l' cls d σ' H' → wpAny (model X.prog X.w) X.A (handleBy (.ref a) X.env hds') (SP X pins D) X.xe { s' with heap := h3 } := by
    intro hds' l' hk
    induction hk with
    | nil =>
      intro w
      refine wpAny_handleBy_nil ?_
      obtain ⟨k1, k2, k3, oe, vs, T, oT, ts', he, hz, hd, h1, hr⟩ := id fl3
      unfold PySem.passOn
      refine wpAny_bind (wpAny_field he hd h1 ?_)
      rw [if_neg (show ¬ ((Value.ref T == Value.none) = true) from by simp)]
      have fin : wpAny (model X.prog X.w) X.A (setFlight (.ref a) X.env.frame) (fun _ s4 => wpAny (model X.prog X.w) X.A (throw (.ref a) : Sem Flow) (SP X pins D) X.xe s4) X.xe { s' with heap := h3 } := by
        rw [hf]
        exact HandSPX.setFlight_upZ fl3 fun h4 hh4 up4 => wpAny_throw (tk _ _ ⟨a, B, sI, pins, σ', H', cls, d, rfl, J, nb, (up.trans up3).trans up4, .inr (.inr (by rw [hs]; exact hh4)), na, os, ag, w⟩)
      first
        | exact wpAny_bind (wpAny_pure (wpAny_bind fin))
        | exact wpAny_bind fin
    | @plain x c ts b₀ suite np pos' hds2 l2 hc hsu r ih =>
      intro w
      obtain ⟨b, hb1, hyes, hno⟩ := w
      refine wpAny_handleBy_cons (codeAny_handlers_test ?_) (by intro q; cases q)
      refine test hc ((PySem.W.exm_one (M := model X.prog X.w) J3.kIn LT hb1).here ?_)
      cases b with
      | false => exact ih (hno rfl)
      | true =>
        refine codeAny_handlers_suite (HandSPX.lands_againZ fl3 fun h4 fl4 up4 => ?_)
        have J4 : Inv X pins σ' H' { s' with heap := h4 } := J.landed nb fl4.1 ((up.trans up3).trans up4) os ag
        obtain ⟨oe4, vs4, he4, hz4, hd4⟩ := fl4.there
        refine wpAny_mono ((hsu a oe4 cls d (X.pn ++ pins) hz4 ⟨_, hd4⟩).run [] _ _ H' _ (J4.suite he4 hd4 na nL nF) (hyes rfl a na)) (fun f s6 hsp => ?_) (fun _ _ z => False.elim z)
        cases f with
        | ret u => obtain ⟨v6, σ6, H6, S6, r6, q6⟩ := hsp; exact ⟨_, _, _, S6.unsuite ok, r6, q6⟩
        | next => obtain ⟨σ6, H6, S6, q6⟩ := hsp; exact ⟨_, _, S6.unsuite ok, q6⟩
        | brk => obtain ⟨σ6, H6, S6, q6⟩ := hsp; exact ⟨_, _, S6.unsuite ok, q6⟩
        | cont => obtain ⟨σ6, H6, S6, q6⟩ := hsp; exact ⟨_, _, S6.unsuite ok, q6⟩
    | @named x n i c ts b₀ suite np pos' hds2 l2 hc hN hi hln hsu r ih =>
      intro w
      obtain ⟨b, hb1, hyes, hno⟩ := w
      refine wpAny_handleBy_cons (codeAny_handlers_test ?_) (by intro q; cases q)
      refine test hc ((PySem.W.exm_one (M := model X.prog X.w) J3.kIn LT hb1).here ?_)
      cases b with
      | false => exact ih (hno rfl)
      | true =>
        refine codeAny_handlers_suite_as (HandSPX.lands_againZ fl3 fun h4 fl4 up4 => ?_)
        have J4 : Inv X pins σ' H' { s' with heap := h4 } := J.landed nb fl4.1 ((up.trans up3).trans up4) os ag
        obtain ⟨oe4, vs4, he4, hz4, hd4⟩ := fl4.there
        refine store_ok (X := X.suite a ((a, oe4) :: (X.pn ++ pins))) (v := .ref a) (J4.suite he4 hd4 na nL nF) hN hi (.inl hln) rfl (fun s5 S5 => ?_) (.inr hln)
        refine wpAny_mono ((hsu a oe4 cls d (X.pn ++ pins) hz4 ⟨_, hd4⟩).run [] s5 _ H' _ S5 (hyes rfl a na)) (fun f s6 hsp => ?_) (fun _ _ z => False.elim z)
        have last : ∀ {σ6 : L2.St} {H6 : Hp} {Q : Shared → Prop}, Inv (X.suite a ((a, oe4) :: (X.pn ++ pins))) [] σ6 H6 s6 → (∀ s7, Inv X pins (σ6.set i none) H6 s7 → Q s7) →
            wpAny (model X.prog X.w) X.A (do bindName X.env n .none; unbindBehindTheSuite X.env n pos') (fun _ s7 => Q s7) X.xe s6 := fun {σ6 H6 Q} S6 hq => gone_ok (S6.unsuite ok) hN hi hln hq
        cases f with
        | ret u => obtain ⟨v6, σ6, H6, S6, r6, q6⟩ := hsp; exact last S6 fun s7 J7 => ⟨_, _, _, J7, r6, q6⟩
        | next => obtain ⟨σ6, H6, S6, q6⟩ := hsp; exact last S6 fun s7 J7 => ⟨_, _, J7, q6⟩
        | brk => obtain ⟨σ6, H6, S6, q6⟩ := hsp; exact last S6 fun s7 J7 => ⟨_, _, J7, q6⟩
        | cont => obtain ⟨σ6, H6, S6, q6⟩ := hsp; exact last S6 fun s7 J7 => ⟨_, _, J7, q6⟩
  exact go hh w
end
end Sc

set_option Elab.async false
set_option linter.all false
set_option maxRecDepth 100000
set_option maxHeartbeats 1000000
/-! Sc14: raise, try, the fields of a caught exception, over data. -/
namespace Sc
open PySem PySem.Spec PySem.Calls PyProof.Rows L2

/-! ### an own exception is made -/
def tRk (K : PySem.W.Frag) : List Str → Nat → TS
  | [], _ => tNext
  | f :: r, k => tSeq (tOst K f (tVar 0) (tVar k)) (tRk K r (k + 1))
def iniSp (C : Addr) (fl : List Str) : Sp := fun vs H Q _ => ∃ a ys, vs = .ref a :: ys ∧ ys.length = fl.length ∧ H a = some (exo a C none) ∧
  ∀ dx, H dx = none → dx ≠ a → Q .non (upd (upd H dx (exd dx (zipR fl ys []))) a (exo a C (some dx)))
theorem upd_upd {H : Hp} {a : Addr} {o o' : HO} : upd (upd H a o) a o' = upd H a o' := by
  funext b
  by_cases h : b = a
  · rw [h, upd_same, upd_same]
  · rw [upd_ne h, upd_ne h, upd_ne h]
theorem upd_comm {H : Hp} {a b : Addr} {o o' : HO} (n : a ≠ b) : upd (upd H a o) b o' = upd (upd H b o') a o := by
  funext c
  by_cases h : c = a
  · subst h
    rw [upd_ne n, upd_same, upd_same]
  · by_cases h2 : c = b
    · subst h2
      rw [upd_same, upd_ne (Ne.symm n), upd_same]
    · rw [upd_ne h2, upd_ne h, upd_ne h, upd_ne h2]
section
variable {K : PySem.W.Frag} {C a dx : Addr} {σ : L2.St} {D : Ends}
theorem tRk_more (T : OexC K C) (h0 : σ[0]? = some (some (.ref a))) (nd : dx ≠ a) : ∀ (fl : List Str) (k : Nat) (ys : List V) (H : Hp) (gs : List (Str × V)), (∀ f ∈ fl, PySem.W.findIn K (.ref C) f = some none) → ys.length = fl.length → (∀ (j : Nat) y, ys[j]? = some y → σ[k + j]? = some (some y)) →
    H a = some (exo a C (some dx)) → H dx = some (exd dx gs) → gs.length + fl.length ≤ 900 → D.nx σ (upd H dx (exd dx (zipR fl ys gs))) → tRk K fl k D σ H
  | [], k, ys, H, gs, no, hl, hv, ha, hd, hz, q => by
    have e : upd H dx (exd dx gs) = H := by
      funext b
      by_cases hb : b = dx
      · rw [hb, upd_same, hd]
      · rw [upd_ne hb]
    have q' : D.nx σ (upd H dx (exd dx gs)) := q
    rw [e] at q'
    exact q'
  | f :: fl, k, [], H, gs, no, hl, hv, ha, hd, hz, q => by cases hl
  | f :: fl, k, y :: ys, H, gs, no, hl, hv, ha, hd, hz, q => by
    refine ⟨y, hv 0 y rfl, _, h0, a, C, rfl, T, no f List.mem_cons_self, .inr ⟨dx, gs, ha, hd, ?_, ?_⟩⟩
    · rw [List.length_cons] at hz
      omega
    · refine tRk_more T h0 nd fl (k + 1) ys _ ((f, y) :: gs) (fun g hg => no g (List.mem_cons_of_mem _ hg)) (by simpa using hl) (fun j z e => ?_) ?_ upd_same ?_ ?_
      · have := hv (j + 1) z (by simpa using e)
        rw [show k + 1 + j = k + (j + 1) by omega]
        exact this
      · rw [upd_ne (Ne.symm nd)]
        exact ha
      · rw [List.length_cons] at hz ⊢
        omega
      · rw [upd_upd]
        exact q
theorem tRk_ok (T : OexC K C) {f : Str} {fl : List Str} {ys : List V} {H : Hp} (h0 : σ[0]? = some (some (.ref a))) (no : ∀ g ∈ f :: fl, PySem.W.findIn K (.ref C) g = some none) (hl : ys.length = (f :: fl).length) (hv : ∀ (j : Nat) y, ys[j]? = some y → σ[1 + j]? = some (some y))
    (ha : H a = some (exo a C none)) (hz : fl.length ≤ 800) (q : ∀ dx, H dx = none → dx ≠ a → D.nx σ (upd (upd H dx (exd dx (zipR (f :: fl) ys []))) a (exo a C (some dx)))) : tRk K (f :: fl) 1 D σ H := by
  cases ys with
  | nil => cases hl
  | cons y ys =>
    refine ⟨y, hv 0 y rfl, _, h0, a, C, rfl, T, no f List.mem_cons_self, .inl ⟨ha, fun dx n nd => ?_⟩⟩
    refine tRk_more T h0 nd fl 2 ys _ [(f, y)] (fun g hg => no g (List.mem_cons_of_mem _ hg)) (by simpa using hl) (fun j z e => ?_) upd_same ?_ ?_ ?_
    · have := hv (j + 1) z (by simpa using e)
      rw [show 2 + j = 1 + (j + 1) by omega]
      exact this
    · rw [upd_ne nd, upd_same]
    · show 1 + fl.length ≤ 900
      omega
    · have := q dx n nd
      rw [upd_comm (Ne.symm nd), upd_upd]
      exact this
end
/-- what of an own exception class is asked where it is raised or caught -/
structure ExOk (P : Program) (w : World) (K : PySem.W.Frag) (mg : Str → Option Value) (base : Heap) (k : Nat) (nm : Str) (fl : List Str) : Prop where
  T : OexC K (He.ga K nm)
  xf : XfC K (He.ga K nm)
  no : ∀ f ∈ fl, PySem.W.findIn K (.ref (He.ga K nm)) f = some none
  g : mg nm = some (.ref (He.ga K nm))
  ini : ∃ fI fd ps, PySem.W.findIn K (.ref (He.ga K nm)) "__init__" = some (some (.ref fI)) ∧ PySem.W.typeIn K (.ref fI) = some (.type "function") ∧ FnOk P w K mg base (L2.CX P w) k fI fd ps (iniSp (He.ga K nm) fl) ∧ Binds K fd ps []
/-- the reading of raise C(..) -/
def gRaise (gw : GW) (n len : Nat) (t : GA) : GS := fun _ σ h => t σ h fun ps h1 => allD ps fun xs => xs.length = len ∧ gw n xs σ h1
section
variable {X : CxE} {k : Nat} {x : Str} {n len : Nat} {e : Expr} {es : List Expr} {t : GA} {p pos pos' : Pos}
theorem s_raise (Ex : ExOk X.prog X.w X.K X.mg X.base k (X.et n).1 (X.et n).2) (hr : Room (k + 1) X.A) (ha : EA X (e :: es) t) (hc : X.calm = true := by rfl) (hx : (X.et n).1 = x := by rfl) (hl : (X.et n).2.length = len := by rfl) (hz : len ≤ 1000 := by decide) (hg : Gl X x := by rfl)
    (hdb : (x == ("__debug__" : Str)) = false := by decide) (he : starEach (e :: es) X.env = (false, eval e X.env) :: starEach es X.env := by rfl) (hpl : (backTo pos (starEach es X.env)).any (·.1) = false := by rfl) :
    S X (.Raise (some (.Call (.Name x p) (e :: es) [] pos)) none pos') (gRaise X.gw n len t) := by
  subst hx hl
  refine ⟨fun pins s τ H D I h => ?_⟩
  obtain ⟨W, h, σ, G, pp, g, q, f⟩ := h
  obtain ⟨fI, fd, ps, iC, tI, F, hb⟩ := Ex.ini
  refine (ps_raise (pos := pos') hc pp.tk.1 (pmk_oex (pos := pos) (p := p) (dvs := []) (ds := []) Ex.T iC tI F hr hb .nil passC hg Ex.g ha hdb he hpl)).run pins s τ H D I ?_
  refine ⟨W, h, σ, _, pp, g, q, fun ps h1 W1 H1 vs q1 p1 x1 r1 => ?_⟩
  obtain ⟨xs, q2, r2⟩ := allD_ok r1 q1
  have hvs : vs.length = (X.et n).2.length := by rw [← r2.len]; exact q2.1
  refine ⟨by rw [hvs]; exact hz, fun a na => ?_⟩
  rw [List.append_nil]
  refine ⟨a, vs, rfl, hvs, upd_same, fun dx nd ne => ?_⟩
  have nd1 : H1 dx = none := by rw [upd_ne ne] at nd; exact nd
  refine ⟨rfl, dx, _, upd_same, by rw [upd_ne ne, upd_same], nd1, ?_⟩
  have e : upd (del (upd (upd (upd H1 a (exo a (He.ga X.K (X.et n).1) none)) dx (exd dx (zipR (X.et n).2 vs []))) a (exo a (He.ga X.K (X.et n).1) (some dx))) a) dx (.xd (zipR (X.et n).2 vs [])) = upd H1 dx (.xd (zipR (X.et n).2 vs [])) := by
    funext b
    by_cases hb : b = dx
    · rw [hb, upd_same, upd_same]
    · rw [upd_ne hb, upd_ne hb]
      by_cases hba : b = a
      · rw [hba, del_same, na]
      · rw [del_ne hba, upd_ne hba, upd_ne hb, upd_ne hba]
  rw [e]
  have x2 : Ext W1 W1 H1 (upd H1 dx (.xd (zipR (X.et n).2 vs []))) := Ext.laid p1 nd1
  have := p1.fx W1 _ n xs σ h1 τ dx x2.toExS (by rw [p1.tk.2.1]; exact q2.2) (p1.laid nd1).toPre0 ((g.ext x1).ext x2) ⟨vs, upd_same, p1.free nd1, RDs.ext x2.toExS _ _ r2, q2.1⟩
  rw [x1.gh] at this
  exact this
end
/-! ### try -/
def catchN : Option Nat → Nat → Bool
  | none, _ => true
  | some m, n => Nat.beq m n
/-- a clause: the number of the class (none: all of them), the slot of its name, the suite -/
abbrev HdG := Option Nat × Option Nat × GS
/-- exceptions that are held are let go -/
def dropX : Sl → (Sl → Prop) → Prop
  | [], k => k []
  | some (.ex _ _) :: r, k => dropX r fun q => k (none :: q)
  | some (.d x) :: r, k => dropX r fun q => k (some (.d x) :: q)
  | some (.ref j) :: r, k => dropX r fun q => k (some (.ref j) :: q)
  | some (.tc ms) :: r, k => dropX r fun q => k (some (.tc ms) :: q)
  | none :: r, k => dropX r fun q => k (none :: q)
def dropP : Option P → Option P
  | some (.ex _ _) => none
  | o => o
theorem dropX_eq : ∀ (σ : Sl) (k : Sl → Prop), dropX σ k = k (σ.map dropP)
  | [], k => rfl
  | some (.ex _ _) :: r, k => by simp only [dropX, List.map_cons, dropP]; rw [dropX_eq r]
  | some (.d x) :: r, k => by simp only [dropX, List.map_cons, dropP]; rw [dropX_eq r]
  | some (.ref j) :: r, k => by simp only [dropX, List.map_cons, dropP]; rw [dropX_eq r]
  | some (.tc ms) :: r, k => by simp only [dropX, List.map_cons, dropP]; rw [dropX_eq r]
  | none :: r, k => by simp only [dropX, List.map_cons, dropP]; rw [dropX_eq r]
/-- all held exceptions go, another one may be held -/
theorem Sg.drop {K : PySem.W.Frag} {W : Wd} {H : Hp} {σ : Sl} {τ : L2.St} (g : Sg K W H σ τ) (u : Gh) : Sg K (W.re u) H (σ.map dropP) τ := by
  refine ⟨by rw [List.length_map, g.len], fun i p e => ?_⟩
  rw [List.getElem?_map] at e
  cases h1 : σ[i]? with
  | none => rw [h1] at e; cases e
  | some o =>
    rw [h1] at e
    simp only [Option.map_some, Option.some.injEq] at e
    cases o with
    | none => cases e
    | some q =>
      obtain ⟨v, h2, h3⟩ := g.val i _ h1
      cases q with
      | ex fl xs => cases e
      | d x =>
        simp only [dropP, Option.some.injEq] at e
        subst e
        exact ⟨v, h2, h3⟩
      | ref j =>
        simp only [dropP, Option.some.injEq] at e
        subst e
        exact ⟨v, h2, h3⟩
      | tc ms =>
        simp only [dropP, Option.some.injEq] at e
        subst e
        exact ⟨v, h2, RP.reC h3⟩
theorem Sg.off {K : PySem.W.Frag} {W : Wd} {H : Hp} {σ : Sl} {τ : L2.St} (g : Sg K W H σ τ) (i : Nat) : Sg K W H (σ.set i Option.none) (τ.set i Option.none) := by
  refine ⟨by rw [List.length_set, List.length_set, g.len], fun j p e => ?_⟩
  rw [List.getElem?_set] at e ⊢
  by_cases hj : i = j
  · rw [if_pos hj] at e
    split at e <;> cases e
  · rw [if_neg hj] at e ⊢
    exact g.val j p e
def rtX (k : P → Hl → Prop) : P → Hl → Prop := fun p h => match p with
  | .d x => k (.d x) h
  | .ref j => k (.ref j) h
  | .tc ms => k (.tc ms) h
  | .ex _ _ => False
def offG (i : Nat) (G : GD) : GD := ⟨fun σ h => kill1 σ i fun q => dropX q fun q => G.nx q h, rtX G.rt, fun σ h => kill1 σ i fun q => dropX q fun q => G.bk q h, fun σ h => kill1 σ i fun q => dropX q fun q => G.ct q h⟩
def dispG (et : ET) (G : GD) : List HdG → GW → GW
  | [], gw => gw
  | (c, none, ts) :: r, gw => fun n xs σ h => match catchN c n with
    | true => ts G σ h
    | false => dispG et G r gw n xs σ h
  | (c, some i, ts) :: r, gw => fun n xs σ h => match catchN c n with
    | true => dropX σ fun q => setSlot q i (.ex (et n).2 xs) fun σ1 => ts (offG i G) σ1 h
    | false => dispG et G r gw n xs σ h
def gTry (et : ET) (gw : GW) (tb : GW → GS) (l : List HdG) : GS := fun G σ h => tb (dispG et G l gw) G σ h
/-- the context of a suite, over data: nothing is raised there -/
abbrev CxE.suite (X : CxE) (a : Addr) (pn : List (Addr × Obj)) (xa : Addr × Addr) : CxE := ⟨X.toCx.suite a pn, X.et, fun _ _ _ _ => False, xa⟩
abbrev CxE.tr (X : CxE) (pn : List (Addr × Obj)) (xe : Value → Shared → Prop) (gw : GW) : CxE := ⟨X.toCx.tr pn xe, X.et, gw, X.xa⟩
inductive MixG (X : CxE) : List ExceptHandler → List HdG → Prop
  | nil : MixG X [] []
  | plain {x : Str} {c : Value} {m : Option Nat} {ts : GS} {b₀ : Stmt} {suite : List Stmt} {np pos' : Pos} {hds : List ExceptHandler} {l : List HdG} (hc : Names X.toCx x c) (hx : ∀ n, PySem.W.exmOne X.K (.ref (He.ga X.K (X.et n).1)) c = some (catchN m n))
      (hsu : ∀ (a : Addr) (oe : Obj) (pn : List (Addr × Obj)), Ss (X.suite a ((a, oe) :: pn) X.xa) (b₀ :: suite) ts) (r : MixG X hds l) : MixG X (.ExceptHandler (some (.Name x np)) none (b₀ :: suite) pos' :: hds) ((m, none, ts) :: l)
  | named {x y : Str} {i m : Nat} {c : Value} {ts : GS} {b₀ : Stmt} {suite : List Stmt} {np pos' : Pos} {hds : List ExceptHandler} {l : List HdG} (hc : Names X.toCx x c) (hx : ∀ n, PySem.W.exmOne X.K (.ref (He.ga X.K (X.et n).1)) c = some (catchN (some m) n)) (hN : X.N.Nodup) (hi : X.N[i]? = some y) (hln : X.env.kindOf y = some .local)
      (hsu : ∀ (a dd : Addr) (oe : Obj) (pn : List (Addr × Obj)), Zc (.ref (He.ga X.K (X.et m).1)) (some dd) oe → (∃ vs, oe.data = .fields vs) → Ss (X.suite a ((a, oe) :: pn) (a, dd)) (b₀ :: suite) ts) (r : MixG X hds l) : MixG X (.ExceptHandler (some (.Name x np)) (some y) (b₀ :: suite) pos' :: hds) ((some m, some i, ts) :: l)
/-- only the wish that nothing is raised -/
abbrev kNo (X : CxE) (xa : Addr × Addr) : KX := ⟨X.K, X.et, fun g => g = noGh xa⟩
theorem upS_tk {κ κ' : KX} {t : GS} {D : Ends} {τ : L2.St} {H : Hp} (e : κ'.fr = κ.fr) (ee : κ'.et = κ.et) (tk : ∀ g, κ.tk g → κ'.tk g) (q : upS κ t D τ H) : upS κ' t D τ H := by
  obtain ⟨W, h, σ, G, p, g, q, f⟩ := q
  have back : ∀ {W' : Wd} {H' : Hp} {h' : Hl}, Pre κ' W' H' h' → ExS W W' H H' → Pre κ W' H' h' := fun p' x => p.step x (by rw [← e]; exact p'.toPre0)
  refine ⟨W, h, σ, G, ⟨by rw [e]; exact p.toPre0, tk _ p.tk, by rw [e, ee]; exact p.fx⟩, by rw [e]; exact g, q, ⟨?_, ?_, ?_, ?_⟩⟩
  · exact fun σ h W' H' τ q2 p2 x2 g2 => f.nx σ h W' H' τ q2 (back p2 x2) x2 (by rw [← e]; exact g2)
  · exact fun p h W' H' v q2 p2 x2 r2 => f.rt p h W' H' v q2 (back p2 x2) x2 (by rw [← e]; exact r2)
  · exact fun σ h W' H' τ q2 p2 x2 g2 => f.bk σ h W' H' τ q2 (back p2 x2) x2 (by rw [← e]; exact g2)
  · exact fun σ h W' H' τ q2 p2 x2 g2 => f.ct σ h W' H' τ q2 (back p2 x2) x2 (by rw [← e]; exact g2)
theorem ExS.reg {W0 W' : Wd} {H0 H' : Hp} (x : ExS W0 W' H0 H') (u : Gh) : ExS (W0.re u) (W'.re u) H0 H' := ⟨x.keep, x.keepF, x.new, x.rg, x.fo, rfl⟩
theorem ExS.back {W0 W1 W2 : Wd} {H0 H1 H2 : Hp} {u : Gh} (x : ExS W0 W1 H0 H1) (y : ExS (W1.re u) W2 H1 H2) : ExS W0 (W2.re W0.gh) H0 H2 := x.trans ⟨y.keep, y.keepF, y.new, y.rg, y.fo, x.gh.symm⟩
theorem RP.regX {K : PySem.W.Frag} {W : Wd} {H : Hp} {g : Gh} {p : P} {v : V} {k : P → Hl → Prop} {h : Hl} (q : rtX k p h) (r : RP K W H p v) : k p h ∧ RP K (W.re g) H p v := by
  cases p with
  | d x => exact ⟨q, r⟩
  | ref j => exact ⟨q, r⟩
  | tc ms => exact ⟨q, RP.reC r⟩
  | ex => exact q.elim
section
variable {X : CxE}
/-- the clauses over the heap do what they do over data -/
theorem mix_up : ∀ {hds : List ExceptHandler} {l : List HdG}, MixG X hds l → ∃ l2, MixOk X.toCx hds l2 ∧ ∀ (W0 : Wd) (H0 : Hp) (De : Ends) (G : GD), X.kx.tk W0.gh → FX X.K X.et W0 H0 → FinS X.kx W0 H0 G De → ∀ (W' : Wd) (H' : Hp) (n : Nat) (xs : List D) (σ : Sl) (h : Hl) (τ : L2.St) (d : Addr),
    ExS W0 W' H0 H' → dispG X.et G l X.gw n xs σ h → Pre0 X.K W' H' h → Sg X.K W' H' σ τ → RX X.K X.et W'.own W'.rg H' n xs d → wMix X.K W0.gh.wx De l2 (.ref (He.ga X.K (X.et n).1)) (some d) τ H' := by
  intro hds l m
  induction m with
  | nil => exact ⟨[], .nil, fun W0 H0 D G tk fx f W' H' n xs σ h τ d x q p g r => fx W' H' n xs σ h τ d x (by rw [tk.2.1]; exact q) p g r⟩
  | @plain x c m ts b₀ suite np pos' hds l hc hx hsu r ih =>
    obtain ⟨l2, ok, sem⟩ := ih
    refine ⟨(c, none, fun a cls d D τ H => upS (kNo X X.xa) ts D τ H) :: l2, .plain hc (fun a oe cls d pn hz hf => ⟨fun pins s τ H D I q => ?_⟩) ok, fun W0 H0 D G tk fx f W' H' n xs σ h τ d x q p g r => ⟨catchN m n, hx n, fun e a na => ?_, fun e => ?_⟩⟩
    · exact (hsu a oe pn).run pins s τ H D I (upS_tk (κ := kNo X X.xa) rfl rfl (fun g e => by subst e; exact ⟨takes_no, rfl, rfl⟩) q)
    · have q' : (match catchN m n with
        | true => ts G σ h
        | false => dispG X.et G l X.gw n xs σ h) := q
      rw [e] at q'
      have ea : W'.gh.xa = X.xa := by rw [x.gh]; exact tk.2.2
      refine ⟨W'.re (noGh X.xa), h, σ, G, ⟨p.re _, rfl, FX.no⟩, g.re ea.symm, q', ?_⟩
      have back : ∀ {W2 : Wd} {H2 : Hp} {h2 : Hl}, Pre (kNo X X.xa) W2 H2 h2 → ExS (W'.re (noGh X.xa)) W2 H' H2 → Pre X.kx (W2.re W0.gh) H2 h2 ∧ ExS W0 (W2.re W0.gh) H0 H2 := fun p2 x2 => ⟨⟨p2.toPre0.re _, tk, fx.ext (x.back x2)⟩, x.back x2⟩
      have ax : ∀ {W2 : Wd} {H2 : Hp}, ExS (W'.re (noGh X.xa)) W2 H' H2 → W0.gh.xa = W2.gh.xa := fun x2 => by rw [x2.gh]; exact tk.2.2
      exact ⟨fun σ2 h2 W2 H2 τ2 q2 p2 x2 g2 => f.nx _ _ _ _ _ q2 (back p2 x2).1 (back p2 x2).2 (g2.re (ax x2)), fun p h2 W2 H2 v q2 p2 x2 r2 => f.rt _ _ _ _ _ q2 (back p2 x2).1 (back p2 x2).2 (RP.re (ax x2) r2),
        fun σ2 h2 W2 H2 τ2 q2 p2 x2 g2 => f.bk _ _ _ _ _ q2 (back p2 x2).1 (back p2 x2).2 (g2.re (ax x2)), fun σ2 h2 W2 H2 τ2 q2 p2 x2 g2 => f.ct _ _ _ _ _ q2 (back p2 x2).1 (back p2 x2).2 (g2.re (ax x2))⟩
    · have q' : (match catchN m n with
        | true => ts G σ h
        | false => dispG X.et G l X.gw n xs σ h) := q
      rw [e] at q'
      exact sem W0 H0 D G tk fx f W' H' n xs σ h τ d x q' p g r
  | @named x y i m c ts b₀ suite np pos' hds l hc hx hN hi hln hsu r ih =>
    obtain ⟨l2, ok, sem⟩ := ih
    refine ⟨(c, some i, fun a cls d D τ H => cls = .ref (He.ga X.K (X.et m).1) ∧ ∃ dd, d = some dd ∧ upS (kNo X (a, dd)) ts D τ H) :: l2, .named hc hN hi hln (fun a oe cls d pn hz hf => ⟨fun pins s τ H D I q => ?_⟩) ok, fun W0 H0 D G tk fx f W' H' n xs σ h τ d x q p g r => ⟨catchN (some m) n, hx n, fun e a na => ?_, fun e => ?_⟩⟩
    · obtain ⟨rfl, dd, rfl, q⟩ := q
      exact (hsu a dd oe pn hz hf).run pins s τ H D I (upS_tk (κ := kNo X (a, dd)) rfl rfl (fun g e => by subst e; exact ⟨takes_no, rfl, rfl⟩) q)
    · have en : m = n := Nat.eq_of_beq_eq_true e
      subst en
      have q' : (match catchN (some m) m with
        | true => dropX σ fun q => setSlot q i (.ex (X.et m).2 xs) fun σ1 => ts (offG i G) σ1 h
        | false => dispG X.et G l X.gw m xs σ h) := q
      rw [e] at q'
      have q3 : dropX σ fun q => setSlot q i (.ex (X.et m).2 xs) fun σ1 => ts (offG i G) σ1 h := q'
      rw [dropX_eq, setSlot_eq] at q3
      refine ⟨rfl, d, rfl, W'.re (noGh (a, d)), h, _, _, ⟨p.re _, rfl, FX.no⟩, (g.drop (noGh (a, d))).set (p := .ex (X.et m).2 xs) (v := .ref a) ⟨rfl, r⟩, q3, ?_⟩
      have back : ∀ {W2 : Wd} {H2 : Hp} {h2 : Hl}, Pre (kNo X (a, d)) W2 H2 h2 → ExS (W'.re (noGh (a, d))) W2 H' H2 → Pre X.kx (W2.re W0.gh) H2 h2 ∧ ExS W0 (W2.re W0.gh) H0 H2 := fun p2 x2 => ⟨⟨p2.toPre0.re _, tk, fx.ext (x.back x2)⟩, x.back x2⟩
      refine ⟨fun σ2 h2 W2 H2 τ2 q2 p2 x2 g2 => ?_, fun z h2 W2 H2 v q2 p2 x2 r2 => ?_, fun σ2 h2 W2 H2 τ2 q2 p2 x2 g2 => ?_, fun σ2 h2 W2 H2 τ2 q2 p2 x2 g2 => ?_⟩
      · have q4 : kill1 σ2 i fun q => dropX q fun q => G.nx q h2 := q2
        rw [kill1_eq, dropX_eq] at q4
        exact f.nx _ _ _ _ _ q4 (back p2 x2).1 (back p2 x2).2 ((g2.off i).drop _)
      · obtain ⟨q4, r4⟩ := RP.regX (g := W0.gh) (h := h2) (k := G.rt) q2 r2
        exact f.rt _ _ _ _ _ q4 (back p2 x2).1 (back p2 x2).2 r4
      · have q4 : kill1 σ2 i fun q => dropX q fun q => G.bk q h2 := q2
        rw [kill1_eq, dropX_eq] at q4
        exact f.bk _ _ _ _ _ q4 (back p2 x2).1 (back p2 x2).2 ((g2.off i).drop _)
      · have q4 : kill1 σ2 i fun q => dropX q fun q => G.ct q h2 := q2
        rw [kill1_eq, dropX_eq] at q4
        exact f.ct _ _ _ _ _ q4 (back p2 x2).1 (back p2 x2).2 ((g2.off i).drop _)
    · have q' : (match catchN (some m) n with
        | true => dropX σ fun q => setSlot q i (.ex (X.et n).2 xs) fun σ1 => ts (offG i G) σ1 h
        | false => dispG X.et G l X.gw n xs σ h) := q
      rw [e] at q'
      exact sem W0 H0 D G tk fx f W' H' n xs σ h τ d x q' p g r
theorem s_try {body : List Stmt} {h₀ : ExceptHandler} {hds : List ExceptHandler} {l : List HdG} {tb : GW → GS} {pos : Pos} (hb : ∀ (gw : GW) (pn : List (Addr × Obj)) (xe : Value → Shared → Prop), PassesOwn (model X.prog X.w) X.A X.env xe → Ss (X.tr pn xe gw) body (tb gw))
    (hh : MixG X (h₀ :: hds) l) (hs : X.stack = X.env :: X.outer := by rfl) (hf : X.env.frame = some X.env.locals := by rfl) : S X (.Try body (h₀ :: hds) [] [] pos) (gTry X.et X.gw tb l) := by
  obtain ⟨l2, ok, sem⟩ := mix_up hh
  refine PS.weak (ps_try_mix (tb := fun Wx D τ H => ∃ gw, upS ⟨X.K, X.et, fun g => g.wx = Wx ∧ g.gw = gw ∧ g.xa = X.xa⟩ (tb gw) D τ H) hs hf (fun Wx pn xe tk po => ⟨fun pins s τ H D I q => ?_⟩) ok) fun D τ H q => ?_
  · obtain ⟨gw, q⟩ := q
    exact (hb gw pn xe po).run pins s τ H D I (upS_tk (κ := ⟨X.K, X.et, fun g => g.wx = Wx ∧ g.gw = gw ∧ g.xa = X.xa⟩) rfl rfl (fun g e => ⟨by rw [e.1]; exact tk, e.2.1, e.2.2⟩) q)
  · obtain ⟨W, h, σ, G, p, g, q, f⟩ := q
    refine ⟨W.gh.wx, p.tk.1, dispG X.et G l X.gw, W.re ⟨wMix X.K W.gh.wx D l2, dispG X.et G l X.gw, X.xa⟩, h, σ, G, ⟨p.toPre0.re _, ⟨rfl, rfl, rfl⟩, fun W' H' n xs σ h τ d x2 q2 p2 g2 r2 => ?_⟩, g.re p.tk.2.2.symm, q, ?_⟩
    · refine sem W H D G p.tk p.fx f (W'.re W.gh) H' n xs σ h τ d (re_ExS x2) q2 (p2.re _) (g2.re ?_) r2
      rw [x2.gh]
      exact p.tk.2.2
    · have back : ∀ {u : Gh} {W2 : Wd} {H2 : Hp} {h2 : Hl}, Pre0 X.K W2 H2 h2 → ExS (W.re u) W2 H H2 → Pre X.kx (W2.re W.gh) H2 h2 := fun p2 x2 => p.step (re_ExS x2) (p2.re _)
      have ax : ∀ {a b : _} {W2 : Wd} {H2 : Hp}, ExS (W.re ⟨a, b, X.xa⟩) W2 H H2 → W.gh.xa = W2.gh.xa := fun x2 => by rw [x2.gh]; exact p.tk.2.2
      exact ⟨fun σ2 h2 W2 H2 τ2 q2 p2 x2 g2 => f.nx _ _ _ _ _ q2 (back p2.toPre0 x2) (re_ExS x2) (g2.re (ax x2)), fun p h2 W2 H2 v q2 p2 x2 r2 => f.rt _ _ _ _ _ q2 (back p2.toPre0 x2) (re_ExS x2) (RP.re (ax x2) r2),
        fun σ2 h2 W2 H2 τ2 q2 p2 x2 g2 => f.bk _ _ _ _ _ q2 (back p2.toPre0 x2) (re_ExS x2) (g2.re (ax x2)), fun σ2 h2 W2 H2 τ2 q2 p2 x2 g2 => f.ct _ _ _ _ _ q2 (back p2.toPre0 x2) (re_ExS x2) (g2.re (ax x2))⟩
end
/-! ### the fields of a caught exception -/
def nthD : List D → Nat → Option D
  | [], _ => none
  | x :: _, 0 => some x
  | _ :: r, n + 1 => nthD r n
theorem nthD_eq : ∀ (xs : List D) (i : Nat), nthD xs i = xs[i]?
  | [], i => by simp [nthD]
  | x :: _, 0 => by simp [nthD]
  | _ :: r, n + 1 => by simp [nthD, nthD_eq r n]
/-- the i-th field of the exception at the slot, the fields being fl -/
def gXf (slot : Nat) (fl : List Str) (i : Nat) : GT := fun σ h Q => match slotAt σ slot with
  | some (.ex gl xs) => gl = fl ∧ (match nthD xs i with
    | some x => Q (.d x) h
    | none => False)
  | _ => False
theorem e_xf {X : CxE} {a dd C : Addr} {oe : Obj} {pn : List (Addr × Obj)} {xn f : Str} {p pos : Pos} {fl : List Str} (slot i : Nat) (hz : Zc (.ref C) (some dd) oe) (hf : ∃ vs, oe.data = .fields vs) (T : XfC X.K C) (hno : PySem.W.findIn X.K (.ref C) f = some none)
    (hl : ∀ ys : List V, ys.length = fl.length → (zipR fl ys []).lookup f = ys[i]?) (hN : X.N[slot]? = some xn := by rfl) (hv : Vis X.env.scope xn := by first | exact Or.inl rfl | exact Or.inr (Or.inl rfl) | exact Or.inr (Or.inr rfl))
    (hd : (xn == ("__debug__" : Str)) = false := by decide) (hcd : (xn == ("__classdict__" : Str)) = false := by decide) (hb : attributeBase (.Name xn p) f X.env (eval (.Name xn p) X.env) = eval (.Name xn p) X.env := by rfl) :
    E (X.suite a ((a, oe) :: pn) (a, dd)) (.Attribute (.Name xn p) f pos) (gXf slot fl i) :=
  PE.weak (pe_xf (d := some dd) T hno hz hf (pe_var (X := X.toCx.suite a ((a, oe) :: pn)) (i := slot) hN hv hd hcd) hb) fun τ H Q q => by
    obtain ⟨W, h, σ, post, pp, g, q, ff⟩ := q
    unfold gXf at q
    split at q
    · rename_i gl xs es
      obtain ⟨rfl, q⟩ := q
      obtain ⟨v, h1, h2, ys, h3, h4, h5, h6⟩ := g.val slot _ (slotAt_eq _ _ _ es)
      have exa : W.gh.xa = (a, dd) := pp.tk.2.2
      rw [exa] at h2 h3
      split at q
      · rename_i x ex
        rw [nthD_eq] at ex
        obtain ⟨y, h7, h8⟩ := h5.get ex
        refine ⟨v, h1, h2, rfl, dd, _, y, rfl, h3, ?_, ff _ h W H _ q pp Ext.refl h8⟩
        rw [hl ys (by rw [← h5.len]; exact h6)]
        exact h7
      · exact q.elim
    · exact q.elim
end Sc

set_option Elab.async false
set_option linter.all false
set_option maxRecDepth 100000
set_option maxHeartbeats 1000000
/-! Sc15: what the head reads of own exceptions. -/
namespace Sc
open PySem PySem.Spec PySem.Calls PyProof.Rows L2 NdefX

/-- an own exception: its name, what its __init__ is, its fields -/
structure ExD where
  nm : Str
  qual : Str
  params : Arguments
  body : List Stmt
  scope : Scope
  fl : List Str
def iAd (K : PySem.W.Frag) (nm : Str) : Addr := He.ma K (He.ga K nm) "__init__"
abbrev FnI : Type := Option (Str × Str × Arguments × FuncBody × Scope × Addr × List Str × Addr × Value × Value × Option Addr)
def fnI (K : PySem.W.Frag) (nm : Str) : FnI := match K.lookup (iAd K nm) with
  | some ⟨_, _, .func fd, _⟩ => some (fd.name, fd.qualname, fd.params, fd.body, fd.scope, fd.globals, fd.closure.map (·.1), fd.builtins, fd.defaults, fd.kwdefaults, fd.annotations)
  | _ => none
def ExD.val (e : ExD) : FnI := some ("__init__", e.qual, e.params, .stmts e.body, e.scope, mainGlobals, ["__class__"], builtinsNs, .none, .none, none)
def oexB (K : PySem.W.Frag) (C : Addr) : Bool := match K.lookup C with
  | some ⟨.type "type", _, .cls cd, sl⟩ => (match cd.mro, sl.toList with
    | .ref C' :: bm, [_, _, _, _, some (.builtin n), _] => C' == C && (n == "ValueError.__new__" && (!cd.hasDel && (cd.hasDict && PySem.HandSPX.refsVE bm)))
    | _, _ => false)
  | _ => false
theorem oexB_ok {K : PySem.W.Frag} {C : Addr} (q : oexB K C = true) : ∃ nm q N bs bm sn sub ab col dd k0 k1 k2 k3 k5, K.lookup C = some (excClassObj nm q C N bs bm true sn sub ab col dd k0 k1 k2 k3 k5 "ValueError.__new__") ∧ PySem.HandSPX.refsVE bm = true := by
  unfold oexB at q
  split at q
  · rename_i dd cd sl ho
    split at q
    · rename_i C' bm k0 k1 k2 k3 n k5 hm hs
      simp only [Bool.and_eq_true, beq_iff_eq, Bool.not_eq_true'] at q
      obtain ⟨rfl, rfl, hdel, hd, ht⟩ := q
      obtain ⟨nm, bs, mro, ns, qn, hdd, sn, sb, ab, col, del⟩ := cd
      dsimp only at hm hdel hd
      subst hm hdel hd
      have hsl : sl = #[k0, k1, k2, k3, some (.builtin "ValueError.__new__"), k5] := by
        obtain ⟨l⟩ := sl
        simp only at hs
        rw [hs]
      subst hsl
      exact ⟨nm, qn, ns, bs, bm, sn, sb, ab, col, dd, k0, k1, k2, k3, k5, ho, ht⟩
    · cases q
  · cases q
def cellB (K : PySem.W.Frag) (cc C : Addr) : Bool := match K.lookup cc with
  | some ⟨_, _, .cell (some (.ref D)), _⟩ => D == C
  | _ => false
theorem cellB_ok {K : PySem.W.Frag} {cc C : Addr} (q : cellB K cc C = true) : ∃ cl cld csl, K.lookup cc = some ⟨cl, cld, .cell (some (.ref C)), csl⟩ := by
  unfold cellB at q
  split at q
  · rename_i ho
    rw [beq_iff_eq] at q
    subst q
    exact ⟨_, _, _, ho⟩
  · cases q
def fileB (K : PySem.W.Frag) (cda : Addr) (file : Str) : Bool := match K.lookup cda with
  | some ⟨_, _, .fields vs, _⟩ => (match vs[2]? with
    | some (Value.str f _) => file == f
    | _ => false)
  | _ => false
theorem fileB_ok {K : PySem.W.Frag} {cda : Addr} {file : Str} (q : fileB K cda file = true) : ∃ ccl cdd vs ccs f tf, K.lookup cda = some ⟨ccl, cdd, .fields vs, ccs⟩ ∧ vs[2]? = some (.str f tf) ∧ (file == f) = true := by
  unfold fileB at q
  split at q
  · rename_i ho
    split at q
    · rename_i hv
      exact ⟨_, _, _, _, _, _, ho, hv, q⟩
    · cases q
  · cases q
def clcB (K : PySem.W.Frag) (nm qual file : Str) : Bool := match K.lookup (iAd K nm) with
  | some ⟨_, _, .func fd, _⟩ => (match fd.closure, fd.code with
    | [(_, cc)], .ref cda => cellB K cc (He.ga K nm) && (fileB K cda file && PySem.W.codeIn K (.ref cda) qual)
    | _, _ => false)
  | _ => false
theorem clcB_ok {K : PySem.W.Frag} {nm qual file : Str} {o : Obj} {fd : FuncData} (q : clcB K nm qual file = true) (ho : K.lookup (iAd K nm) = some o) (hd : o.data = .func fd) : ∃ (y : Str) (cc cda : Addr), fd.closure = [(y, cc)] ∧ fd.code = .ref cda ∧ cellB K cc (He.ga K nm) = true ∧ fileB K cda file = true ∧ PySem.W.codeIn K (.ref cda) qual = true := by
  obtain ⟨oc, od, dt, sl⟩ := o
  dsimp only at hd
  subst hd
  unfold clcB at q
  rw [ho] at q
  dsimp only at q
  split at q
  · rename_i e1 e2
    obtain ⟨d1, d2⟩ := He.ba q
    obtain ⟨d3, d4⟩ := He.ba d2
    exact ⟨_, _, _, e1, e2, d1, d3, d4⟩
  · cases q
/-- all of an own exception class but its __init__'s text -/
def exB (K : PySem.W.Frag) (file : Str) (e : ExD) : Bool :=
  (He.Fa.glo e.nm).ok K && (oexB K (He.ga K e.nm) && (He.eqO (PySem.W.findIn K (.ref (He.ga K e.nm)) "__setattr__") (some (some (.builtin "object.__setattr__"))) && (decide (PySem.W.subIn K (.ref (He.ga K e.nm)) (.type "BaseException") = some true) &&
  (decide (PySem.W.typeIn K (.ref (He.ga K e.nm)) = some (.type "type")) && (PySem.W.keepIn K (.ref (He.ga K e.nm)) && (xfB K (He.ga K e.nm) && ((e.fl.all fun f => He.eqO (PySem.W.findIn K (.ref (He.ga K e.nm)) f) (some none)) &&
  (He.eqO (PySem.W.findIn K (.ref (He.ga K e.nm)) "__init__") (some (some (.ref (iAd K e.nm)))) && (decide (PySem.W.typeIn K (.ref (iAd K e.nm)) = some (.type "function")) && (PySem.W.excInitIn K (He.ga K e.nm) veT "ValueError.__new__" &&
  (He.eqO (PySem.W.ks_superIn K (He.ga K e.nm) (He.ga K e.nm) "__init__") (some (some (.builtin "ValueError.__init__"))) && (decide (PySem.W.subIn K (.ref (He.ga K e.nm)) (.type "ValueError") = some true) && (decide (PySem.W.mroIn K (He.ga K e.nm) (.ref (He.ga K e.nm)) = some true) &&
  (He.eqO (PySem.W.nsIn K cStatics "thirdparty.any") (some none) && clcB K e.nm e.qual file))))))))))))))
open He (ba eqO_ok)
theorem ExD.ok {P : Program} {w : World} {K : PySem.W.Frag} {mg : Str → Option Value} {base h : Heap} {e : ExD} {N ps : List Str} {txt : Str} {j : Nat} {p0 p1 p2 p3 p4 p5 : Pos} {ar : Arg} {rest : List Stmt} {f : Str} {fl : List Str}
    (X : K.In h) (G : h.Ns mainGlobals mg) (hv : fnI K e.nm = e.val) (hb : exB K P.main.file e = true) (hms : mg "super" = none) (top : (P.main.scope.names.lookup ("super" : Str)).isSome = false)
    (hbody : e.body = iniSt txt j p0 p1 p2 p3 p4 p5 :: rest) (hfl : e.fl = f :: fl) (hz : fl.length ≤ 800) (hps : ps.length = fl.length + 2) (S : NScope N ps ["__class__"] e.scope) (hks : e.scope.names.lookup ("super" : Str) = some .globalImplicit) (har : (e.params.posonlyargs ++ e.params.args).head? = some ar) (hap : ps[0]? = some ar.arg)
    (hbind : ∀ (cc cda : Addr) (doc pm ct : Value) (us : List Value), us.length = ps.length → bindArgs (NF.fd ⟨"__init__", e.qual, e.params, e.body, e.scope, [("__class__", cc)], cda⟩ doc pm ct) ⟨us, []⟩ = pure (ps.zip us))
    (hev : ∀ cc cda L, ∃ pl : Sem Bool, eval (.Call (.Attribute (.Call (.Name "super" p0) [] [] p1) "__init__" p2) [.Constant (.str txt) j p3] [] p4) (iniEnv e.qual e.scope (iAd K e.nm) cc cda L) = (do
      let ov ← attributeBase (.Call (.Name "super" p0) [] [] p1) "__init__" (iniEnv e.qual e.scope (iAd K e.nm) cc cda L) (eval (.Call (.Name "super" p0) [] [] p1) (iniEnv e.qual e.scope (iAd K e.nm) cc cda L))
      standAt p2.atName
      let (f, first) ← holding [ov] (getMethod ov "__init__" pl)
      callWith p4 f first (backTo p4 (starEach [.Constant (.str txt) j p3] (iniEnv e.qual e.scope (iAd K e.nm) cc cda L))) []))
    (hin : ∀ cc cda L, interactive (iniEnv e.qual e.scope (iAd K e.nm) cc cda L) = false)
    (hrun : ∀ (cc cda : Addr) (A : Around) (outer : List Env) (s : Shared) (H : Hp) (E : XK), PSs (ncx (L2.CX P w) P w K mg base N ⟨"__init__", e.qual, e.params, e.body, e.scope, [("__class__", cc)], cda⟩ (iAd K e.nm) A outer s H E) rest (tRk K e.fl 1)) :
    ExOk P w K mg base 1 e.nm e.fl := by
  obtain ⟨c1, hb⟩ := ba hb
  obtain ⟨c2, hb⟩ := ba hb
  obtain ⟨c3, hb⟩ := ba hb
  obtain ⟨c4, hb⟩ := ba hb
  obtain ⟨c5, hb⟩ := ba hb
  obtain ⟨c6, hb⟩ := ba hb
  obtain ⟨c7, hb⟩ := ba hb
  obtain ⟨c8, hb⟩ := ba hb
  obtain ⟨c9, hb⟩ := ba hb
  obtain ⟨c10, hb⟩ := ba hb
  obtain ⟨c11, hb⟩ := ba hb
  obtain ⟨c12, hb⟩ := ba hb
  obtain ⟨c13, hb⟩ := ba hb
  obtain ⟨c14, hb⟩ := ba hb
  obtain ⟨c15, c16⟩ := ba hb
  have T : OexC K (He.ga K e.nm) := ⟨oexB_ok c2, eqO_ok c3, of_decide_eq_true c4, of_decide_eq_true c5, c6⟩
  have no : ∀ g ∈ e.fl, PySem.W.findIn K (.ref (He.ga K e.nm)) g = some none := fun g hg => eqO_ok (List.all_eq_true.mp c8 g hg)
  refine ⟨T, xfB_ok c7, no, He.glo_ok X G c1, ?_⟩
  unfold fnI at hv
  split at hv
  · rename_i oc od fd osl ho
    obtain ⟨y, cc, cda, ecl, ecd, d1, d3, d4⟩ := clcB_ok c16 ho rfl
    obtain ⟨n1, n2, n3, n4, n5, n6, n7, n8, n9, n10, n11, n12, n13, n14, n15⟩ := fd
    have e2 : (some (n1, n2, n3, n4, n5, n6, n7.map (·.1), n15, n8, n9, n12) : FnI) = (some ("__init__", e.qual, e.params, .stmts e.body, e.scope, mainGlobals, ["__class__"], builtinsNs, .none, .none, none) : FnI) := hv
    simp only [Option.some.injEq, Prod.mk.injEq] at e2
    obtain ⟨h1, h2, h3, h4, h5, h6, h7, h8, h9, h10, h11⟩ := e2
    subst h1 h2 h3 h4 h5 h6 h8 h9 h10 h11
    dsimp only at ecl ecd h7
    subst ecl ecd
    have ey : y = ("__class__" : Str) := by simpa using h7
    subst ey
    refine ⟨iAd K e.nm, _, ps, eqO_ok c9, of_decide_eq_true c10, ?_, Binds.all fun us hl => hbind cc cda n10 n11 n14 us hl⟩
    have I : ExI P K (He.ga K e.nm) (iAd K e.nm) cc cda e.qual e.params e.body e.scope (NF.fd ⟨"__init__", e.qual, e.params, e.body, e.scope, [("__class__", cc)], cda⟩ n10 n11 n14) :=
      ⟨T, ⟨n10, n11, n14, rfl⟩, ⟨oc, od, osl, ho⟩, d4, fileB_ok d3, cellB_ok d1, c11, eqO_ok c12, of_decide_eq_true c13, of_decide_eq_true c14, eqO_ok c15, top⟩
    have hrun' := hrun cc cda
    rw [hbody] at I hrun'
    rw [hbody]
    refine ini_ok (k := 0) I hms S hks har hap (hev cc cda) (hin cc cda) hrun' (fun vs H Q E q => ?_) (fun vs H Q E q => ?_)
    · obtain ⟨a, ys, rfl, hl, _⟩ := q
      rw [List.length_cons, hl, hfl, hps, List.length_cons]
    · obtain ⟨a, ys, rfl, hl, ha, q⟩ := q
      refine ⟨a, ys, rfl, ha, ?_⟩
      rw [hfl] at no hl q ⊢
      refine tRk_ok T rfl no hl (fun j y ey => ?_) ha hz q
      unfold startF
      have h0 : ((V.ref a :: ys).map some)[1 + j]? = some (some y) := by
        rw [List.getElem?_map, Nat.add_comm, List.getElem?_cons_succ, ey]
        rfl
      rw [List.getElem?_append_left (List.getElem?_eq_some_iff.mp h0).1]
      exact h0
  · cases hv
/-! ### the Hook -/
abbrev AlS : Type := He.AlD × List FnI × Bool
def obsS (fa : List He.Fa) (fn : List He.DefD) (ex : List ExD) (more : PySem.W.Frag → Bool) (K : PySem.W.Frag) : AlS := (He.obsD fa fn K, ex.map fun e => fnI K e.nm, more K)
def valS (fn : List He.DefD) (ex : List ExD) : AlS := (He.valD fn, ex.map ExD.val, true)
def obsSG (n : Nat) (fa : List He.Fa) (fn : List He.DefD) (ex : List ExD) (more : PySem.W.Frag → Bool) (g : Addr → Option Obj) : AlS := obsS fa fn ex more (He.frG g (He5.asA g n))
structure SaysS (fa : List He.Fa) (fn : List He.DefD) (ex : List ExD) (more : PySem.W.Frag → Bool) (K : PySem.W.Frag) : Prop where
  d : He.SaysD fa fn K
  x : ∀ (i : Nat) (e : ExD), ex[i]? = some e → fnI K e.nm = e.val
  m : more K = true
def hookS (n : Nat) (fa : List He.Fa) (fn : List He.DefD) (ex : List ExD) (more : PySem.W.Frag → Bool) : PySem.W.Hook where
  α := AlS
  obs := fun s => obsSG n fa fn ex more s.heap.get?
  val := fun _ => valS fn ex
  says := fun _ h => ∃ K : PySem.W.Frag, K.In h ∧ SaysS fa fn ex more K
  of := fun _ _ e => ⟨_, He.frG_in, ⟨congrArg (fun z : AlS => z.1) e, fun i x hx => by
    have e2 := congrArg (fun z : AlS => z.2.1[i]?) e
    have e3 : (ex.map fun e => fnI _ e.nm)[i]? = (ex.map ExD.val)[i]? := e2
    rw [List.getElem?_map, List.getElem?_map, hx] at e3
    exact Option.some.inj e3, congrArg (fun z : AlS => z.2.2) e⟩⟩
  keeps := fun _ _ _ ⟨K, hK, c⟩ k => ⟨K, PySem.W.Frag.In.keeps hK k, c⟩
theorem obsSG_eq {n : Nat} {fa : List He.Fa} {fn : List He.DefD} {ex : List ExD} {more : PySem.W.Frag → Bool} {g : Addr → Option Obj} {s : Shared} (h : ∀ a, g a = s.heap.get? a) : obsSG n fa fn ex more g = (hookS n fa fn ex more).obs s := by
  have e : g = s.heap.get? := funext h
  rw [e] <;> rfl
end Sc

set_option Elab.async false
set_option linter.all false
set_option maxRecDepth 100000
set_option maxHeartbeats 1000000
/-! Sc16: the module's constants as data. -/
namespace Sc
open PySem PySem.Spec PySem.Calls PyProof.Rows L2
section
variable (K : PySem.W.Frag)
mutual
/-- the value u of the written part is the data d -/
def rdB : D → Value → Bool
  | .non, u => (match u with | .none => true | _ => false)
  | .bl b, u => (match u with | .bool c => b == c | _ => false)
  | .int i, u => (match u with | .int j _ => decide (i = j) | _ => false)
  | .str x, u => (match u with | .str y _ => decide (x = y) | _ => false)
  | .tup xs, u => (match u with
    | .ref a => (match K.lookup a with
      | some ⟨.type c, _, .seq its _, _⟩ => decide (c = "tuple") && (decide (its.size ≤ sizeLine) && rdsB xs its.toList)
      | _ => false)
    | _ => false)
  | .klst xs, u => (match u with
    | .ref a => (match K.lookup a with
      | some ⟨.type c, none, .seq its _, _⟩ => decide (c = "list") && (decide (its.size ≤ sizeLine) && rdsB xs its.toList)
      | _ => false)
    | _ => false)
  | .lst _, _ => false
  | .rng, _ => false
def rdsB : List D → List Value → Bool
  | [], us => us.isEmpty
  | x :: xs, us => (match us with
    | u :: us => rdB x u && rdsB xs us
    | [] => false)
end
end
section
variable {K : PySem.W.Frag}
mutual
theorem rdB_ok : ∀ (d : D) (u : Value), rdB K d u = true → ∃ v, L2.RelV v u ∧ ∀ own rg H, RD K own rg H d v
  | .non, u, q => by
    unfold rdB at q
    split at q
    · exact ⟨.non, rfl, fun own rg H => by simp only [RD]⟩
    · cases q
  | .bl b, u, q => by
    unfold rdB at q
    split at q
    · rw [beq_iff_eq] at q
      subst q
      exact ⟨.bl _, rfl, fun own rg H => by simp only [RD]⟩
    · cases q
  | .int i, u, q => by
    unfold rdB at q
    split at q
    · have e := of_decide_eq_true q
      subst e
      exact ⟨.int _, ⟨_, rfl⟩, fun own rg H => by simp only [RD]⟩
    · cases q
  | .str x, u, q => by
    unfold rdB at q
    split at q
    · have e := of_decide_eq_true q
      subst e
      exact ⟨.str _, ⟨_, rfl⟩, fun own rg H => by simp only [RD]⟩
    · cases q
  | .tup xs, u, q => by
    unfold rdB at q
    split at q
    · rename_i a
      split at q
      · rename_i c od its n sl ho
        obtain ⟨h1, h2⟩ := He.ba q
        obtain ⟨h3, h4⟩ := He.ba h2
        obtain ⟨ys, h5, h6⟩ := rdsB_ok xs _ h4
        refine ⟨.ref a, rfl, fun own rg H => ?_⟩
        simp only [RD]
        exact ⟨a, ys, rfl, .inr ⟨_, its, n, ho, congrArg Value.type (of_decide_eq_true h1), rfl, of_decide_eq_true h3, h5⟩, h6 own rg H⟩
      · cases q
    · cases q
  | .klst xs, u, q => by
    unfold rdB at q
    split at q
    · rename_i a
      split at q
      · rename_i c its n sl ho
        obtain ⟨h1, h2⟩ := He.ba q
        obtain ⟨h3, h4⟩ := He.ba h2
        obtain ⟨ys, h5, h6⟩ := rdsB_ok xs _ h4
        refine ⟨.ref a, rfl, fun own rg H => ?_⟩
        simp only [RD]
        exact ⟨a, ys, rfl, .inr ⟨_, its, n, ho, congrArg Value.type (of_decide_eq_true h1), rfl, rfl, of_decide_eq_true h3, h5⟩, h6 own rg H⟩
      · cases q
    · cases q
  | .lst _, _, q => by unfold rdB at q; cases q
  | .rng, _, q => by unfold rdB at q; cases q
theorem rdsB_ok : ∀ (ds : List D) (us : List Value), rdsB K ds us = true → ∃ vs, Vals vs us ∧ ∀ own rg H, RDs K own rg H ds vs
  | [], us, q => by
    unfold rdsB at q
    cases us with
    | nil => exact ⟨[], .nil, fun _ _ _ => RDs.nil⟩
    | cons u us => cases q
  | d :: ds, us, q => by
    unfold rdsB at q
    cases us with
    | nil => cases q
    | cons u us =>
      obtain ⟨h1, h2⟩ := He.ba q
      obtain ⟨v, r1, r2⟩ := rdB_ok d u h1
      obtain ⟨vs, r3, r4⟩ := rdsB_ok ds us h2
      exact ⟨v :: vs, .cons r1 r3, fun own rg H => RDs.cons (r2 own rg H) (r4 own rg H)⟩
end
/-- the module's name x is the data d -/
def cstB (K : PySem.W.Frag) (x : Str) (d : D) : Bool := match PySem.W.nsIn K mainGlobals x with
  | some (some u) => rdB K d u
  | _ => false
theorem cstB_ok {h : Heap} {mg : Str → Option Value} {x : Str} {d : D} (X : K.In h) (G : h.Ns mainGlobals mg) (q : cstB K x d = true) : ∃ (u : Value) (v : V), mg x = some u ∧ L2.RelV v u ∧ ∀ own rg H, RD K own rg H d v := by
  unfold cstB at q
  split at q
  · rename_i u e
    obtain ⟨v, r1, r2⟩ := rdB_ok d u q
    exact ⟨u, v, PySem.W.mg_of X G e, r1, r2⟩
  · cases q
end
/-- the conjunction of such facts -/
def allB : List (PySem.W.Frag → Bool) → PySem.W.Frag → Bool
  | [], _ => true
  | f :: r, K => f K && allB r K
theorem allB_at : ∀ {l : List (PySem.W.Frag → Bool)} {K : PySem.W.Frag} (i : Nat) {f : PySem.W.Frag → Bool}, allB l K = true → l[i]? = some f → f K = true
  | [], K, i, f, _, e => by simp at e
  | g :: r, K, 0, f, q, e => by
    simp at e
    subst e
    exact (He.ba q).1
  | g :: r, K, i + 1, f, q, e => allB_at (l := r) i (He.ba q).2 (by simpa using e)
/-- how an exception lies behind a call, at any world -/
def CXA (P : Program) : CXT := fun outer H s E e s' => ∃ w, L2.CX P w outer H s E e s'
theorem fn_cxa {P : Program} {w : World} {K : PySem.W.Frag} {mg : Str → Option Value} {base : Heap} {k : Nat} {f : Addr} {fd : FuncData} {ps : List Str} {sp : Sp} (F : FnOk P w K mg base (L2.CX P w) k f fd ps sp) : FnOk P w K mg base (CXA P) k f fd ps sp :=
  ⟨F.len, fun A outer s H args us vs Q E hr e0 hb r hsp => codeAny_mono (F.run A outer s H args us vs Q E hr e0 hb r hsp) fun r s' hq => by
    cases r with
    | error e => exact ⟨w, hq⟩
    | ok fl => cases fl with
      | ret u => exact hq
      | next => exact hq
      | brk => exact hq
      | cont => exact hq⟩
theorem cxa_no {P : Program} (H : Hp) (s : Shared) (e : Value) (s' : Shared) : CXA P [] H s (fun _ _ _ => False) e s' → False := fun ⟨_, _, _, _, _, _, _, _, _, _, _, _, _, z⟩ => z
/-- data equal themselves -/
theorem Cmp.refl {x : D} (c : Cmp x) : D.eqv x x = true := by
  obtain ⟨a, _⟩ := py_lay 60 x c.f c.s
  exact PySem.SeqAt.eqv_refl x.py a
end Sc

/-! Sc17: defs and calls without arguments; promises of more parameters -/
set_option Elab.async false
set_option linter.all false
set_option maxRecDepth 100000
namespace Sc
open PySem PySem.Spec PyProof.Rows L2
def sp0 (f : (P → Hl → Prop) → Prop) : GSp := fun xs Q => match xs with
  | [] => f Q
  | _ => False
theorem sp0_len {f} : ∀ xs post, sp0 f xs post → xs.length = 0 := fun xs post q => by
  match xs, q with | [], _ => rfl
def sp0X (f : (P → Hl → Prop) → (Nat → List D → Prop) → Prop) : GSpX := fun xs Q Ex => match xs with
  | [] => f Q Ex
  | _ => False
theorem sp0X_len {f} : ∀ xs post ex, sp0X f xs post ex → xs.length = 0 := fun xs post ex q => by
  match xs, q with | [], _ => rfl
theorem keeps0 {N : List Str} {t : GS} {f} (h : ∀ Q, f Q → t (retG Q) (startS N []) []) : Keeps N t (sp0 f) := fun xs post q => by
  match xs, q with | [], q => exact h _ q
theorem keeps0X {N : List Str} {t : GW → GS} {f} (h : ∀ Q Ex, f Q Ex → t (fun n ys _ _ => Ex n ys) (retG Q) (startS N []) []) : KeepsX N t (sp0X f) := fun xs post ex q => by
  match xs, q with | [], q => exact h _ _ q
def sp7 (f : D → D → D → D → D → D → D → (P → Hl → Prop) → Prop) : GSp := fun xs Q => match xs with
  | [a, b, c, d, e, g, i] => f a b c d e g i Q
  | _ => False
theorem sp7_len {f} : ∀ xs post, sp7 f xs post → xs.length = 7 := fun xs post q => by
  match xs, q with | [_, _, _, _, _, _, _], _ => rfl
theorem keeps7 {N : List Str} {t : GS} {f} (h : ∀ a b c d e g i Q, f a b c d e g i Q → t (retG Q) (startS N [a, b, c, d, e, g, i]) []) : Keeps N t (sp7 f) := fun xs post q => by
  match xs, q with | [_, _, _, _, _, _, _], q => exact h _ _ _ _ _ _ _ _ q
def sp7X (f : D → D → D → D → D → D → D → (P → Hl → Prop) → (Nat → List D → Prop) → Prop) : GSpX := fun xs Q Ex => match xs with
  | [a, b, c, d, e, g, i] => f a b c d e g i Q Ex
  | _ => False
theorem sp7X_len {f} : ∀ xs post ex, sp7X f xs post ex → xs.length = 7 := fun xs post ex q => by
  match xs, q with | [_, _, _, _, _, _, _], _ => rfl
theorem keeps7X {N : List Str} {t : GW → GS} {f} (h : ∀ a b c d e g i Q Ex, f a b c d e g i Q Ex → t (fun n ys _ _ => Ex n ys) (retG Q) (startS N [a, b, c, d, e, g, i]) []) : KeepsX N t (sp7X f) := fun xs post ex q => by
  match xs, q with | [_, _, _, _, _, _, _], q => exact h _ _ _ _ _ _ _ _ _ q
section
variable {X : CxE} {k : Nat} {f : Addr} {fd : FuncData} {ps : List Str} {sp : GSp} {spx : GSpX} {x : Str} {p pos : Pos}
theorem nil_up {τ : L2.St} {H : Hp} {Q : List V → Hp → Prop} (q : upA X.kx gNil τ H Q) : tNil τ H Q := by
  obtain ⟨W, h, σ, post, p, g, q, f⟩ := q
  exact f _ _ W H _ q p Ext.refl rfl
theorem e_call0 (F : FnOk X.prog X.w X.K X.mg X.base (L2.CX X.prog X.w) k f fd ps (upSp X.K X.et sp)) (hr : Room k X.A) (hm : X.mg x = some (.ref f)) (hk : PySem.W.keepIn X.K (.ref f) = true) (hb : Binds X.K fd ps []) (hg : Gl X x := by rfl) (hdb : (x == ("__debug__" : Str)) = false := by decide) :
    E X (.Call (.Name x p) [] [] pos) (gCall sp gNil) :=
  PE.weak (pe_call0 F hr hg hm hk hb .nil passC hdb) fun _ _ _ q => nil_up (call_up q)
theorem e_callF0 (F : FnOk X.prog X.w X.K X.mg X.base (L2.CX X.prog X.w) k f fd ps (upSp X.K X.et sp)) (hr : Room k X.A) (hm : X.mg x = some (.ref f)) (hk : PySem.W.keepIn X.K (.ref f) = true) (hb : Binds X.K fd ps []) (hg : Gl X x := by rfl) (hdb : (x == ("__debug__" : Str)) = false := by decide) :
    E X (.Call (.Name x p) [] [] pos) (gCallF sp gNil) :=
  PE.weak (pe_call0 F hr hg hm hk hb .nil passC hdb) fun _ _ _ q => nil_up (callF_up q)
theorem pe_callS0 {sp : Sp} {E : L2.St → XK} {CX : CXT} (F : FnOk X.prog X.w X.K X.mg X.base CX k f fd ps sp) (hr : Room k X.A) (hg : Gl X x) (hm : X.mg x = some (.ref f)) (hk : PySem.W.keepIn X.K (.ref f) = true) (hb : Binds X.K fd ps []) (hx : ∀ σ, PassesAt CX X σ (E σ))
    (hdb : (x == ("__debug__" : Str)) = false := by decide) : PE X (.Call (.Name x p) [] [] pos) (tCallS sp E tNil) := by
  refine ⟨fun pins s σ H Q I h => ?_⟩
  refine wpAny_Call_Name_kw (ld_glob I hg hm ?_ hdb)
  exact PySem.W.callWith_K0 I.kIn hk (run_fnS (us := []) F hr hb (hx σ) I .nil h)
theorem e_callX0 (F : FnOk X.prog X.w X.K X.mg X.base (L2.CX X.prog X.w) k f fd ps (upSpX X.K X.et spx)) (hr : Room k X.A) (hm : X.mg x = some (.ref f)) (hk : PySem.W.keepIn X.K (.ref f) = true) (hb : Binds X.K fd ps []) (hg : Gl X x := by rfl) (hdb : (x == ("__debug__" : Str)) = false := by decide) :
    E X (.Call (.Name x p) [] [] pos) (gCallX X.gw spx gNil) :=
  ⟨fun pins s τ H Q I ⟨W, h, σ, post, p, g, q, f⟩ => (pe_callS0 (E := WE W.gh.wx) F hr hg hm hk hb (fun τ => passAt p.tk.1 τ) hdb).run pins s τ H Q I (nil_up (callX_up p g q f))⟩
theorem e_callFX0 (F : FnOk X.prog X.w X.K X.mg X.base (L2.CX X.prog X.w) k f fd ps (upSpX X.K X.et spx)) (hr : Room k X.A) (hm : X.mg x = some (.ref f)) (hk : PySem.W.keepIn X.K (.ref f) = true) (hb : Binds X.K fd ps []) (hg : Gl X x := by rfl) (hdb : (x == ("__debug__" : Str)) = false := by decide) :
    E X (.Call (.Name x p) [] [] pos) (gCallFX X.gw spx gNil) :=
  ⟨fun pins s τ H Q I ⟨W, h, σ, post, p, g, q, f⟩ => (pe_callS0 (E := WE W.gh.wx) F hr hg hm hk hb (fun τ => passAt p.tk.1 τ) hdb).run pins s τ H Q I (nil_up (callFX_up p g q f))⟩
end
end Sc

/-! Sc18: comprehensions over data, at any cells -/
set_option Elab.async false
set_option linter.all false
set_option maxRecDepth 100000
namespace Sc
open PySem PySem.Spec PyProof.Rows L2
theorem cell_last (h : Hl) (c : Cell) : cellAt (h ++ [c]) h.length = some c := by rw [cellAt_eq]; simp
theorem take_last (h : Hl) (c : Cell) (k : Hl → Prop) : takeH h.length (h ++ [c]) k = k h := by rw [takeH_eq]; simp
/-- each item makes a value of its own, any that Pd tells; tt: none is left out -/
theorem CompP.each {its : List D} {n : Nat} {tg : Tgt} {te : GT} {σ : Sl} {h : Hl} {Qf : List D → Hl → Prop} (Pd : Nat → D → Prop) (hl : its.length ≤ 1000000) (hn : n = h.length)
    (he : ∀ (i : Nat) (x : D), its[i]? = some x → ∀ ys (R : P → Hl → Prop), (∀ z, Pd i z → R (.d z) (h ++ [.lst ys])) → tg.set x σ fun σ2 => te σ2 (h ++ [.lst ys]) R) (mono : ∀ x (k k' : Sl → Prop), tg.set x σ k → (∀ s, k s → k' s) → tg.set x σ k')
    (q : ∀ ys : List D, ys.length = its.length → (∀ (i : Nat) (z : D), ys[i]? = some z → Pd i z) → Qf ys h) : CompP its n tg bYes te σ h Qf := by
  subst hn
  refine ⟨fun i ys h' => h' = h ∧ i ≤ its.length ∧ ys.length = i ∧ ∀ j z, ys[j]? = some z → Pd j z, ⟨rfl, Nat.zero_le _, rfl, fun j z e => by simp at e⟩, ?_, ?_⟩
  · rintro i x ys h' e ⟨rfl, h1, h2, h3⟩
    have hi : i < its.length := (List.getElem?_eq_some_iff.mp e).1
    refine mono _ (fun σ2 => te σ2 (h' ++ [.lst ys]) fun y h4 => match y, cellAt h4 h'.length with
      | .d z, some (.lst zs) => zs.length < sizeLine ∧ takeH h'.length h4 fun h5 => h5 = h' ∧ i + 1 ≤ its.length ∧ (zs ++ [z]).length = i + 1 ∧ ∀ j w, (zs ++ [z])[j]? = some w → Pd j w
      | _, _ => False) _ (he i x e ys _ ?_) fun s ks => by
        rw [addCell_eq]
        exact Br.tt ks
    intro z hz
    show (match (P.d z), cellAt (h' ++ [.lst ys]) h'.length with
      | .d z, some (.lst zs) => zs.length < sizeLine ∧ takeH h'.length (h' ++ [.lst ys]) fun h5 => h5 = h' ∧ i + 1 ≤ its.length ∧ (zs ++ [z]).length = i + 1 ∧ ∀ j w, (zs ++ [z])[j]? = some w → Pd j w
      | _, _ => False)
    rw [cell_last]
    show _ ∧ takeH _ _ _
    rw [take_last]
    refine ⟨szl (by omega), rfl, hi, by simp [h2], fun j w ej => ?_⟩
    by_cases c : j < ys.length
    · rw [List.getElem?_append_left c] at ej
      exact h3 j w ej
    · rw [List.getElem?_append_right (by omega)] at ej
      have hj : j = i := by
        have := (List.getElem?_eq_some_iff.mp ej).1
        simp at this
        omega
      subst hj
      rw [h2, Nat.sub_self] at ej
      cases ej
      exact hz
  · rintro ys h' ⟨rfl, _, h2, h3⟩
    exact q ys h2 h3
theorem list_eq_map {α : Type} {f : α → D} {xs : List α} {ys : List D} (hl : ys.length = xs.length) (h : ∀ (i : Nat) (z : D), ys[i]? = some z → ∃ a, xs[i]? = some a ∧ z = f a) : ys = xs.map f := by
  apply List.ext_getElem (by simp [hl])
  intro i h1 h2
  obtain ⟨a, e, z⟩ := h i _ (List.getElem?_eq_getElem h1)
  rw [z, List.getElem_map]
  have := (List.getElem?_eq_some_iff.mp e).2
  rw [this]
/-- over a range, each value told -/
theorem CompP.rng {lo : Int} {N n : Nat} {g : Nat → D} {tg : Tgt} {te : GT} {σ : Sl} {h : Hl} {Qf : List D → Hl → Prop} (hl : N ≤ 1000000) (hn : n = h.length)
    (he : ∀ i, i < N → ∀ ys (R : P → Hl → Prop), R (.d (g i)) (h ++ [.lst ys]) → tg.set (.int (lo + (i : Nat))) σ fun σ2 => te σ2 (h ++ [.lst ys]) R) (mono : ∀ x (k k' : Sl → Prop), tg.set x σ k → (∀ s, k s → k' s) → tg.set x σ k')
    (q : Qf ((List.range N).map g) h) : CompP (rangeD lo N) n tg bYes te σ h Qf := by
  refine CompP.each (fun i z => i < N ∧ z = g i) (by rw [rangeD_len]; exact hl) hn (fun i x e ys R hR => ?_) mono (fun ys h1 h2 => ?_)
  · have hi : i < N := by
      have := (List.getElem?_eq_some_iff.mp e).1
      rw [rangeD_len] at this
      exact this
    rw [rangeD_get hi] at e
    cases e
    exact he i hi ys R (hR _ ⟨hi, rfl⟩)
  · rw [rangeD_len] at h1
    rw [list_eq_map (f := g) (xs := List.range N) (ys := ys) (by simp [h1]) fun i z e => ⟨i, List.getElem?_range (h2 i z e).1, (h2 i z e).2⟩]
    exact q
/-- over a range, each value drawn: any that Pd tells -/
theorem CompP.draw {lo : Int} {N n : Nat} {tg : Tgt} {te : GT} {σ : Sl} {h : Hl} {Qf : List D → Hl → Prop} (Pd : D → Prop) (hl : N ≤ 1000000) (hn : n = h.length)
    (he : ∀ i, i < N → ∀ ys (R : P → Hl → Prop), (∀ z, Pd z → R (.d z) (h ++ [.lst ys])) → tg.set (.int (lo + (i : Nat))) σ fun σ2 => te σ2 (h ++ [.lst ys]) R) (mono : ∀ x (k k' : Sl → Prop), tg.set x σ k → (∀ s, k s → k' s) → tg.set x σ k')
    (q : ∀ ys : List D, ys.length = N → (∀ z ∈ ys, Pd z) → Qf ys h) : CompP (rangeD lo N) n tg bYes te σ h Qf := by
  refine CompP.each (fun _ z => Pd z) (by rw [rangeD_len]; exact hl) hn (fun i x e ys R hR => ?_) mono (fun ys h1 h2 => ?_)
  · have hi : i < N := by
      have := (List.getElem?_eq_some_iff.mp e).1
      rw [rangeD_len] at this
      exact this
    rw [rangeD_get hi] at e
    cases e
    exact he i hi ys R hR
  · rw [rangeD_len] at h1
    refine q ys h1 fun z hz => ?_
    obtain ⟨i, hi⟩ := List.getElem?_of_mem hz
    exact h2 i z hi
/-- over mapped data -/
theorem CompP.mp {α : Type} {xs : List α} {f g : α → D} {n : Nat} {tg : Tgt} {te : GT} {σ : Sl} {h : Hl} {Qf : List D → Hl → Prop} (hl : xs.length ≤ 1000000) (hn : n = h.length)
    (he : ∀ (i : Nat) (a : α), xs[i]? = some a → ∀ ys (R : P → Hl → Prop), R (.d (g a)) (h ++ [.lst ys]) → tg.set (f a) σ fun σ2 => te σ2 (h ++ [.lst ys]) R) (mono : ∀ x (k k' : Sl → Prop), tg.set x σ k → (∀ s, k s → k' s) → tg.set x σ k')
    (q : Qf (xs.map g) h) : CompP (xs.map f) n tg bYes te σ h Qf := by
  refine CompP.each (fun i z => ∃ a, xs[i]? = some a ∧ z = g a) (by rw [List.length_map]; exact hl) hn (fun i x e ys R hR => ?_) mono (fun ys h1 h2 => ?_)
  · rw [List.getElem?_map] at e
    cases q2 : xs[i]? with
    | none => rw [q2] at e; cases e
    | some a =>
      rw [q2] at e
      cases e
      exact he i a q2 ys R (hR _ ⟨a, q2, rfl⟩)
  · rw [List.length_map] at h1
    rw [list_eq_map (f := g) (xs := xs) (ys := ys) h1 h2]
    exact q
/-- .. with a test -/
theorem CompP.mpF {α : Type} {xs : List α} {f g : α → D} {p : α → Bool} {n : Nat} {tg : Tgt} {tt : GB} {te : GT} {σ : Sl} {h : Hl} {Qf : List D → Hl → Prop} (hl : xs.length ≤ 1000000) (hn : n = h.length)
    (he : ∀ (i : Nat) (a : α), xs[i]? = some a → ∀ ys (R : P → Hl → Prop) (S : Hl → Prop), (p a = true → R (.d (g a)) (h ++ [.lst ys])) → (p a = false → S (h ++ [.lst ys])) → tg.set (f a) σ fun σ2 => tt σ2 (h ++ [.lst ys]) fun b h3 => Br b (te σ2 h3 R) (S h3)) (mono : ∀ x (k k' : Sl → Prop), tg.set x σ k → (∀ s, k s → k' s) → tg.set x σ k')
    (q : Qf ((xs.filter p).map g) h) : CompP (xs.map f) n tg tt te σ h Qf := by
  subst hn
  refine ⟨fun i ys h' => h' = h ∧ ys = ((xs.take i).filter p).map g, ⟨rfl, rfl⟩, ?_, ?_⟩
  · rintro i x ys h' e ⟨rfl, rfl⟩
    rw [List.getElem?_map] at e
    cases q2 : xs[i]? with
    | none => rw [q2] at e; cases e
    | some a =>
      rw [q2] at e
      cases e
      have hlt := (List.getElem?_eq_some_iff.mp q2).1
      have ht : (xs.take (i + 1)).filter p = (xs.take i).filter p ++ (if p a = true then [a] else []) := by
        rw [List.take_add_one, q2, List.filter_append]
        congr 1
        show List.filter p [a] = _
        rw [List.filter_cons]
        rfl
      have hlen : (((xs.take i).filter p).map g).length < sizeLine := by
        rw [List.length_map]
        have h1 := List.length_filter_le p (xs.take i)
        rw [List.length_take] at h1
        exact szl (by omega)
      refine mono _ (fun σ2 => tt σ2 (h' ++ [.lst (((xs.take i).filter p).map g)]) fun b h3 => Br b (te σ2 h3 fun y h4 => match y, cellAt h4 h'.length with
        | .d z, some (.lst zs) => zs.length < sizeLine ∧ takeH h'.length h4 fun h5 => h5 = h' ∧ zs ++ [z] = ((xs.take (i + 1)).filter p).map g
        | _, _ => False) (match cellAt h3 h'.length with
        | some (.lst zs) => takeH h'.length h3 fun h5 => h5 = h' ∧ zs = ((xs.take (i + 1)).filter p).map g
        | _ => False)) _ (he i a q2 (((xs.take i).filter p).map g) _ (fun h3 => match cellAt h3 h'.length with
        | some (.lst zs) => takeH h'.length h3 fun h5 => h5 = h' ∧ zs = ((xs.take (i + 1)).filter p).map g
        | _ => False) (fun hp => ?_) (fun hp => ?_)) fun s ks => by
          rw [addCell_eq]
          exact ks
      · show (match (P.d (g a)), cellAt (h' ++ [.lst (((xs.take i).filter p).map g)]) h'.length with
          | .d z, some (.lst zs) => zs.length < sizeLine ∧ takeH h'.length (h' ++ [.lst (((xs.take i).filter p).map g)]) fun h5 => h5 = h' ∧ zs ++ [z] = ((xs.take (i + 1)).filter p).map g
          | _, _ => False)
        rw [cell_last]
        show _ ∧ takeH _ _ _
        rw [take_last]
        exact ⟨hlen, rfl, by rw [ht, if_pos hp, List.map_append]; rfl⟩
      · show (match cellAt (h' ++ [.lst (((xs.take i).filter p).map g)]) h'.length with
          | some (.lst zs) => takeH h'.length (h' ++ [.lst (((xs.take i).filter p).map g)]) fun h5 => h5 = h' ∧ zs = ((xs.take (i + 1)).filter p).map g
          | _ => False)
        rw [cell_last]
        show takeH _ _ _
        rw [take_last]
        exact ⟨rfl, by rw [ht, if_neg (by rw [hp]; exact Bool.false_ne_true), List.append_nil]⟩
  · rintro ys h' ⟨rfl, rfl⟩
    rw [List.length_map, List.take_length]
    exact q
theorem CompP.rngF {lo : Int} {N n : Nat} {g : Nat → D} {p : Nat → Bool} {tg : Tgt} {tt : GB} {te : GT} {σ : Sl} {h : Hl} {Qf : List D → Hl → Prop} (hl : N ≤ 1000000) (hn : n = h.length)
    (he : ∀ i, i < N → ∀ ys (R : P → Hl → Prop) (S : Hl → Prop), (p i = true → R (.d (g i)) (h ++ [.lst ys])) → (p i = false → S (h ++ [.lst ys])) → tg.set (.int (lo + (i : Nat))) σ fun σ2 => tt σ2 (h ++ [.lst ys]) fun b h3 => Br b (te σ2 h3 R) (S h3)) (mono : ∀ x (k k' : Sl → Prop), tg.set x σ k → (∀ s, k s → k' s) → tg.set x σ k')
    (q : Qf (((List.range N).filter p).map g) h) : CompP (rangeD lo N) n tg tt te σ h Qf :=
  CompP.mpF (xs := List.range N) (f := fun i => .int (lo + (i : Nat))) (by simpa using hl) hn (fun i a e ys R S h1 h2 => by
    have hi : i < N := by simpa using (List.getElem?_eq_some_iff.mp e).1
    rw [List.getElem?_range hi] at e
    cases e
    exact he i hi ys R S h1 h2) mono q
theorem draws_of {α : Type} {f : α → D} {Pd : α → Prop} : ∀ {ys : List D}, (∀ z ∈ ys, ∃ a, Pd a ∧ z = f a) → ∃ xs : List α, ys = xs.map f ∧ ∀ a ∈ xs, Pd a
  | [], _ => ⟨[], rfl, fun a h => by cases h⟩
  | y :: ys, h => by
    obtain ⟨a, p, e⟩ := h y List.mem_cons_self
    obtain ⟨xs, e2, p2⟩ := draws_of (ys := ys) fun z hz => h z (List.mem_cons_of_mem _ hz)
    exact ⟨a :: xs, by rw [e, e2]; rfl, fun b hb => by
      rcases List.mem_cons.mp hb with z | z
      · exact z ▸ p
      · exact p2 b z⟩
theorem ForP.lit {α : Type} {xs : List α} {f : α → D} {ys : List D} {ks : List Nat} {m : Nat} {g : GG} {b : GS} {G0 : GD} {σ : Sl} {h : Hl} (e : ys = xs.map f) (Pv : Nat → Sl → Hl → Prop) (h0 : Pv 0 σ h)
    (hs : ∀ (i : Nat) a σ h, xs[i]? = some a → Pv i σ h → g (.d (f a)) σ h fun σ2 h2 => b { nx := turnEnd ks m (Pv (i + 1)), ct := turnEnd ks m (Pv (i + 1)), bk := G0.nx, rt := G0.rt } σ2 h2)
    (hd : ∀ σ h, Pv xs.length σ h → G0.nx σ h) : ForP ys ks m g b G0 σ h := by subst e; exact ForP.map Pv h0 hs hd
end Sc

/-! Sc19: zip, reversed, range downwards, xs[::-1] -/
set_option Elab.async false
set_option linter.all false
set_option maxRecDepth 100000
namespace Sc
open PySem PySem.Spec PyProof.Rows L2
section
variable {K : KX} {W : Wd} {H : Hp}
theorem seq_lst {xs : List D} {v : V} (r : RP K W H (.d (.lst xs)) v) : ∃ a ys, v = .ref a ∧ (∀ W' H', ExS W W' H H' → SqL K H' a ys) ∧ RDs K W.own W.rg H xs ys := by
  simp only [RP, RD] at r
  obtain ⟨a, ys, rfl, q2, s⟩ := r
  exact ⟨a, ys, rfl, fun _ _ => q2.st, s⟩
theorem seq_klst {xs : List D} {v : V} (r : RP K W H (.d (.klst xs)) v) : ∃ a ys, v = .ref a ∧ (∀ W' H', ExS W W' H H' → SqL K H' a ys) ∧ RDs K W.own W.rg H xs ys := by
  simp only [RP, RD] at r
  obtain ⟨a, ys, rfl, q2, s⟩ := r
  exact ⟨a, ys, rfl, fun _ _ => q2.st, s⟩
theorem seq_tup {xs : List D} {v : V} (r : RP K W H (.d (.tup xs)) v) : ∃ a ys, v = .ref a ∧ (∀ W' H', ExS W W' H H' → SqT K H' a ys) ∧ RDs K W.own W.rg H xs ys := by
  simp only [RP, RD] at r
  obtain ⟨a, ys, rfl, q2, s⟩ := r
  exact ⟨a, ys, rfl, fun _ _ => q2.st, s⟩
/-- the list of a frozen or read-only list -/
def lsD : P → Option (List D)
  | .d (.lst xs) => some xs
  | .d (.klst xs) => some xs
  | _ => none
theorem lsD_ok {x : P} {xs : List D} {v : V} (e : lsD x = some xs) (r : RP K W H x v) : ∃ a ys, v = .ref a ∧ (∀ W' H', ExS W W' H H' → SqL K H' a ys) ∧ RDs K W.own W.rg H xs ys := by
  unfold lsD at e
  split at e
  · cases e; exact seq_lst r
  · cases e; exact seq_klst r
  · cases e
def tpD : P → Option (List D)
  | .d (.tup xs) => some xs
  | _ => none
theorem tpD_ok {x : P} {xs : List D} {v : V} (e : tpD x = some xs) (r : RP K W H x v) : ∃ a ys, v = .ref a ∧ (∀ W' H', ExS W W' H H' → SqT K H' a ys) ∧ RDs K W.own W.rg H xs ys := by
  unfold tpD at e
  split at e
  · cases e; exact seq_tup r
  · cases e
/-- pairs -/
def zipD (xs ys : List D) : List D := List.zipWith (fun x y => .tup [x, y]) xs ys
theorem zipD_map {α β : Type} {f : α → D} {g : β → D} {xs : List α} {ys : List β} : zipD (xs.map f) (ys.map g) = (xs.zip ys).map fun p => .tup [f p.1, g p.2] := by
  unfold zipD
  rw [List.zipWith_map, List.map_zip_eq_zipWith]
  rfl
theorem zipD_get {xs ys : List D} {i : Nat} {x y : D} (h1 : xs[i]? = some x) (h2 : ys[i]? = some y) : (zipD xs ys)[i]? = some (.tup [x, y]) := by
  unfold zipD
  rw [List.getElem?_zipWith, h1, h2]
theorem zipD_len (xs ys : List D) : (zipD xs ys).length = min xs.length ys.length := by simp [zipD]
theorem src_zipL {a b : Addr} {xs ys : List D} {us vs : List V} (s1 : ∀ W' H', ExS W W' H H' → SqL K H' a us) (r1 : RDs K W.own W.rg H xs us) (s2 : ∀ W' H', ExS W W' H H' → SqL K H' b vs) (r2 : RDs K W.own W.rg H ys vs) : SrcOk K W H (Itz K a b) (zipD xs ys) where
  go W' H' h p x i hi := by
    rw [zipD_len] at hi
    have l1 := r1.len
    have l2 := r2.len
    exact ⟨us, vs, us[i]'(by omega), vs[i]'(by omega), s1 W' H' x, s2 W' H' x, List.getElem?_eq_getElem _, List.getElem?_eq_getElem _⟩
  stop W' H' h p x := ⟨us, vs, s1 W' H' x, s2 W' H' x, by rw [zipD_len, r1.len, r2.len]; omega⟩
  yld W' H' h p x i v H2 q hi := by
    obtain ⟨T, u, w, rfl, nT, rfl, q1, q2⟩ := q
    obtain ⟨z, e1, e2⟩ := (RDs.ext x _ _ r1).get' (q1 us (s1 W' H' x))
    obtain ⟨z', e1', e2'⟩ := (RDs.ext x _ _ r2).get' (q2 vs (s2 W' H' x))
    exact ⟨.tup [z, z'], zipD_get e1 e1', p.laid nT, Ext.laid p nT, new_tup p (RDs.cons e2 (RDs.one e2')) nT⟩
theorem src_zipT {a b : Addr} {xs ys : List D} {us vs : List V} (s1 : ∀ W' H', ExS W W' H H' → SqT K H' a us) (r1 : RDs K W.own W.rg H xs us) (s2 : ∀ W' H', ExS W W' H H' → SqT K H' b vs) (r2 : RDs K W.own W.rg H ys vs) : SrcOk K W H (RZ.ItzT K a b) (zipD xs ys) where
  go W' H' h p x i hi := by
    rw [zipD_len] at hi
    have l1 := r1.len
    have l2 := r2.len
    exact ⟨us, vs, us[i]'(by omega), vs[i]'(by omega), s1 W' H' x, s2 W' H' x, List.getElem?_eq_getElem _, List.getElem?_eq_getElem _⟩
  stop W' H' h p x := ⟨us, vs, s1 W' H' x, s2 W' H' x, by rw [zipD_len, r1.len, r2.len]; omega⟩
  yld W' H' h p x i v H2 q hi := by
    obtain ⟨T, u, w, rfl, nT, rfl, q1, q2⟩ := q
    obtain ⟨z, e1, e2⟩ := (RDs.ext x _ _ r1).get' (q1 us (s1 W' H' x))
    obtain ⟨z', e1', e2'⟩ := (RDs.ext x _ _ r2).get' (q2 vs (s2 W' H' x))
    exact ⟨.tup [z, z'], zipD_get e1 e1', p.laid nT, Ext.laid p nT, new_tup p (RDs.cons e2 (RDs.one e2')) nT⟩
theorem src_revL {a : Addr} {xs : List D} {us : List V} (s1 : ∀ W' H', ExS W W' H H' → SqL K H' a us) (r1 : RDs K W.own W.rg H xs us) : SrcOk K W H (Itv K a us.length) xs.reverse where
  go W' H' h p x i hi := by
    rw [List.length_reverse] at hi
    have l1 := r1.len
    exact ⟨by omega, us, us[us.length - 1 - i]'(by omega), s1 W' H' x, List.getElem?_eq_getElem _⟩
  stop W' H' h p x := by
    show _ ≤ _
    rw [List.length_reverse, r1.len]
    exact Nat.le_refl _
  yld W' H' h p x i v H2 q hi := by
    rw [List.length_reverse] at hi
    obtain ⟨rfl, q1⟩ := q
    obtain ⟨z, e1, e2⟩ := (RDs.ext x _ _ r1).get' (q1 us (s1 W' H2 x))
    exact ⟨z, by rw [List.getElem?_reverse hi, r1.len]; exact e1, p, Ext.refl, e2⟩
theorem src_revT {a : Addr} {xs : List D} {us : List V} (s1 : ∀ W' H', ExS W W' H H' → SqT K H' a us) (r1 : RDs K W.own W.rg H xs us) : SrcOk K W H (RT.ItvT K a us.length) xs.reverse where
  go W' H' h p x i hi := by
    rw [List.length_reverse] at hi
    have l1 := r1.len
    exact ⟨by omega, us, us[us.length - 1 - i]'(by omega), s1 W' H' x, List.getElem?_eq_getElem _⟩
  stop W' H' h p x := by
    show _ ≤ _
    rw [List.length_reverse, r1.len]
    exact Nat.le_refl _
  yld W' H' h p x i v H2 q hi := by
    rw [List.length_reverse] at hi
    obtain ⟨rfl, q1⟩ := q
    obtain ⟨z, e1, e2⟩ := (RDs.ext x _ _ r1).get' (q1 us (s1 W' H2 x))
    exact ⟨z, by rw [List.getElem?_reverse hi, r1.len]; exact e1, p, Ext.refl, e2⟩
end
def gZip (t : GA) : GI := fun σ h Q => t σ h fun ps h1 => match ps with
  | [x, y] => match lsD x, lsD y with
    | some xs, some ys => Q (zipD xs ys) h1
    | _, _ => match tpD x, tpD y with
      | some xs, some ys => Q (zipD xs ys) h1
      | _, _ => False
  | _ => False
def gRev (t : GT) : GI := fun σ h Q => t σ h fun x h1 => match lsD x with
  | some xs => Q xs.reverse h1
  | _ => match tpD x with
    | some xs => Q xs.reverse h1
    | _ => False
def gRngN (t : GA) : GI := fun σ h Q => t σ h fun ps h1 => match ps with
  | [.d (.int i), .d (.int j), .d (.int c)] => c = -1 ∧ (RgOk i ∧ RgOk j) ∧ Q (rangeC i (-1) (i - j).toNat) h1
  | _ => False
theorem RPs.three {K : KX} {W : Wd} {H : Hp} {x y z : P} {vs : List V} (r : RPs K W H [x, y, z] vs) : ∃ u v w, vs = [u, v, w] ∧ RP K W H x u ∧ RP K W H y v ∧ RP K W H z w := by
  obtain ⟨u, rr, rfl, r1, r2⟩ := r
  obtain ⟨v, rr, rfl, r2, r3⟩ := r2
  obtain ⟨w, rr, rfl, r3, r4⟩ := r3
  cases r4
  exact ⟨u, v, w, rfl, r1, r2, r3⟩
section
variable {X : CxE} {tg e : Expr} {t : GT} {pos p0 : Pos}
theorem i_zip {a b : Expr} {ta : GA} {elts : List Expr} {kk : Nat} {tpos : Pos} (hm : X.mg "zip" = none) (ha : EA X [a, b] ta) (hg : Gl X "zip" := by rfl)
    (hs : starEach [a, b] X.env = (false, eval a X.env) :: starEach [b] X.env := by rfl) (hpl : (backTo pos (starEach [b] X.env)).any (·.1) = false := by rfl) :
    I X (.Tuple elts kk tpos) (.Call (.Name "zip" p0) [a, b] [] pos) (gZip ta) :=
  PI.weak (RZ.pi_zipA hg hm ha hs hpl) fun τ H R ⟨W, h, σ, post, p, g, q, f⟩ => by
    refine ⟨W, h, σ, _, p, g, q, fun ps h1 W1 H1 vs q1 p1 x1 rr => ?_⟩
    split at q1
    · rename_i x y
      obtain ⟨v, w, rfl, r1, r2⟩ := rr.two
      split at q1
      · rename_i e1 e2
        obtain ⟨a, us, rfl, s1, z1⟩ := lsD_ok e1 r1
        obtain ⟨b, ws, rfl, s2, z2⟩ := lsD_ok e2 r2
        exact ⟨a, b, us, ws, rfl, .inl ⟨s1 _ _ ExS.refl, s2 _ _ ExS.refl, f _ h1 W1 H1 _ q1 p1 x1 (src_zipL s1 z1 s2 z2)⟩⟩
      · split at q1
        · rename_i e1 e2
          obtain ⟨a, us, rfl, s1, z1⟩ := tpD_ok e1 r1
          obtain ⟨b, ws, rfl, s2, z2⟩ := tpD_ok e2 r2
          exact ⟨a, b, us, ws, rfl, .inr ⟨s1 _ _ ExS.refl, s2 _ _ ExS.refl, f _ h1 W1 H1 _ q1 p1 x1 (src_zipT s1 z1 s2 z2)⟩⟩
        · exact q1.elim
    · exact q1.elim
theorem i_rev (hm : X.mg "reversed" = none) (he : E X e t) (hg : Gl X "reversed" := by rfl) (hs : starEach [e] X.env = (false, eval e X.env) :: starEach [] X.env := by rfl) : I X tg (.Call (.Name "reversed" p0) [e] [] pos) (gRev t) :=
  PI.weak (RT.pi_revA hg hm he hs) fun τ H R ⟨W, h, σ, post, p, g, q, f⟩ => by
    refine ⟨W, h, σ, _, p, g, q, fun x h1 W1 H1 v q1 p1 x1 r1 => ?_⟩
    split at q1
    · rename_i e1
      obtain ⟨a, us, rfl, s1, z1⟩ := lsD_ok e1 r1
      exact ⟨a, us, rfl, .inl ⟨s1 _ _ ExS.refl, f _ h1 W1 H1 _ q1 p1 x1 (src_revL s1 z1)⟩⟩
    · split at q1
      · rename_i e1
        obtain ⟨a, us, rfl, s1, z1⟩ := tpD_ok e1 r1
        exact ⟨a, us, rfl, .inr ⟨s1 _ _ ExS.refl, f _ h1 W1 H1 _ q1 p1 x1 (src_revT s1 z1)⟩⟩
      · exact q1.elim
theorem i_rngN {a b c : Expr} {ta : GA} (hm : X.mg "range" = none) (ha : EA X [a, b, c] ta) (hg : Gl X "range" := by rfl)
    (hs : starEach [a, b, c] X.env = (false, eval a X.env) :: starEach [b, c] X.env := by rfl) (hpl : (backTo pos (starEach [b, c] X.env)).any (·.1) = false := by rfl) : I X tg (.Call (.Name "range" p0) [a, b, c] [] pos) (gRngN ta) :=
  PI.weak (pi_range3 hg hm ha hs hpl) fun τ H R ⟨W, h, σ, post, p, g, q, f⟩ => by
    refine ⟨W, h, σ, _, p, g, q, fun ps h1 W1 H1 vs q1 p1 x1 rr => ?_⟩
    split at q1
    · obtain ⟨u, v, w, rfl, r1, r2, r3⟩ := rr.three
      obtain ⟨rfl, ⟨g1, g2⟩, q1⟩ := q1
      rw [int_of r1, int_of r2, int_of r3]
      exact ⟨_, _, _, _, rfl, RgC.neg g1.1 g1.2 g2.1 g2.2, f _ h1 W1 H1 _ q1 p1 x1 (src_rangeC _ _ _)⟩
    · exact q1.elim
def gRevL (t : GT) : GT := fun σ h Q => t σ h fun x h1 => match lsD x with
  | some xs => Q (.d (.lst xs.reverse)) h1
  | none => False
def gRevLM (t : GT) : GT := fun σ h Q => t σ h fun x h1 => match vL h1 x with
  | some xs => addCell h1 (.lst xs.reverse) fun k h2 => Q (.ref k) h2
  | none => False
theorem e_revL {k : Nat} {p1 p2 p3 : Pos} (he : E X e t) : E X (.Subscript e (.Slice none none (some (.UnaryOp .USub (.Constant (.int 1) k p1) p2)) p3) pos) (gRevL t) :=
  E.of (pe_revL he) fun τ W H h σ post Q p g q f => by
    refine ⟨W, h, σ, _, p, g, q, fun x h1 W1 H1 v q1 p1 x1 r1 => ?_⟩
    split at q1
    · rename_i e1
      obtain ⟨a, us, rfl, s1, z1⟩ := lsD_ok e1 r1
      exact ⟨a, us, rfl, s1 _ _ ExS.refl, fin_lst p1 z1.rev (fun y h2 W2 H2 w q p x r => f y h2 W2 H2 w q p (x1.trans x) r) q1⟩
    · exact q1.elim
theorem e_revLM {k : Nat} {p1 p2 p3 : Pos} (he : E X e t) : E X (.Subscript e (.Slice none none (some (.UnaryOp .USub (.Constant (.int 1) k p1) p2)) p3) pos) (gRevLM t) :=
  E.of (pe_revL he) fun τ W H h σ post Q p g q f => by
    refine ⟨W, h, σ, _, p, g, q, fun x h1 W1 H1 v q1 p1 x1 r1 => ?_⟩
    split at q1
    · rename_i e1
      obtain ⟨a, us, rfl, s1, z1⟩ := vL_ok p1 e1 r1
      exact ⟨a, us, rfl, SqL.of s1, fin_cell p1 z1.rev (fun y h2 W2 H2 w q p x r => f y h2 W2 H2 w q p (x1.trans x) r) q1⟩
    · exact q1.elim
end
end Sc

/-! Sc20: comparing data of one form -/
set_option Elab.async false
set_option linter.all false
set_option maxRecDepth 100000
namespace Sc
open PySem PySem.Spec PyProof.Rows L2
/-- f writes values as data; equal data are equal values -/
structure Enc {α : Type} [DecidableEq α] (n : Nat) (f : α → D) : Prop where
  eqv : ∀ a b, D.eqv (f a) (f b) = decide (a = b)
  flat : ∀ a k, n ≤ k → (f a).flat k = true
  ok : ∀ a, (f a).okS = true
theorem Enc.int : Enc 0 D.int := ⟨fun a b => by
  show PyData.eqv (.int a) (.int b) = _
  rw [PyData.eqv]
  rfl, fun a k h => by cases k <;> rfl, fun a => rfl⟩
theorem Enc.bl : Enc 0 D.bl := ⟨fun a b => by cases a <;> cases b <;> rfl, fun a k h => by cases k <;> rfl, fun a => rfl⟩
theorem flats_enc {α : Type} [DecidableEq α] {n : Nat} {f : α → D} (e : Enc n f) (k : Nat) (h : n ≤ k) : ∀ xs : List α, D.flats k (xs.map f) = true
  | [] => rfl
  | x :: xs => by
    rw [List.map_cons, D.flats, e.flat x k h, flats_enc e k h xs]
    rfl
theorem okSs_enc {α : Type} [DecidableEq α] {n : Nat} {f : α → D} (e : Enc n f) : ∀ xs : List α, D.okSs (xs.map f) = true
  | [] => rfl
  | x :: xs => by
    rw [List.map_cons, D.okSs, e.ok x, okSs_enc e xs]
    rfl
theorem eqvs_enc {α : Type} [DecidableEq α] {n : Nat} {f : α → D} (e : Enc n f) : ∀ xs ys : List α, PyData.eqvAll (D.pys (xs.map f)) (D.pys (ys.map f)) = decide (xs = ys)
  | [], [] => rfl
  | [], y :: ys => rfl
  | x :: xs, [] => rfl
  | x :: xs, y :: ys => by
    have h1 := e.eqv x y
    have h2 := eqvs_enc e xs ys
    show PyData.eqvAll ((f x).py :: D.pys (xs.map f)) ((f y).py :: D.pys (ys.map f)) = _
    rw [PyData.eqvAll, h2]
    rw [D.eqv] at h1
    rw [h1]
    by_cases a : x = y <;> by_cases b : xs = ys <;> simp [a, b]
theorem Enc.lst {α : Type} [DecidableEq α] {n : Nat} {f : α → D} (e : Enc n f) : Enc (n + 1) fun xs : List α => .lst (xs.map f) := ⟨fun xs ys => by
  show PyData.eqv (.list _) (.list _) = _
  rw [PyData.eqv]
  exact eqvs_enc e xs ys, fun xs k h => by
    have h1 := flats_enc e (k - 1) (by omega) xs
    have : k ≠ 0 := by omega
    simp [D.flat, h1, this], fun xs => okSs_enc e xs⟩
theorem Enc.tup {α : Type} [DecidableEq α] {n : Nat} {f : α → D} (e : Enc n f) : Enc (n + 1) fun xs : List α => .tup (xs.map f) := ⟨fun xs ys => by
  show PyData.eqv (.tuple _) (.tuple _) = _
  rw [PyData.eqv]
  exact eqvs_enc e xs ys, fun xs k h => by
    have h1 := flats_enc e (k - 1) (by omega) xs
    have : k ≠ 0 := by omega
    simp [D.flat, h1, this], fun xs => okSs_enc e xs⟩
theorem Enc.tup2 {α β : Type} [DecidableEq α] [DecidableEq β] {n m : Nat} {f : α → D} {g : β → D} (e : Enc n f) (d : Enc m g) : Enc (max n m + 1) fun p : α × β => .tup [f p.1, g p.2] := ⟨fun p q => by
  obtain ⟨a, b⟩ := p
  obtain ⟨a', b'⟩ := q
  have h1 := e.eqv a a'
  have h2 := d.eqv b b'
  rw [D.eqv] at h1 h2
  show PyData.eqv (.tuple [(f a).py, (g b).py]) (.tuple [(f a').py, (g b').py]) = _
  rw [PyData.eqv, PyData.eqvAll, PyData.eqvAll, PyData.eqvAll, h1, h2]
  by_cases x : a = a' <;> by_cases y : b = b' <;> simp [x, y], fun p k h => by
    have h1 := e.flat p.1 (k - 1) (by omega)
    have h2 := d.flat p.2 (k - 1) (by omega)
    have : k ≠ 0 := by omega
    simp [D.flat, D.flats, h1, h2, this], fun p => by simp [D.okS, D.okSs, e.ok, d.ok]⟩
theorem Enc.tup3 {α β γ : Type} [DecidableEq α] [DecidableEq β] [DecidableEq γ] {n m l : Nat} {f : α → D} {g : β → D} {i : γ → D} (e : Enc n f) (d : Enc m g) (c : Enc l i) : Enc (max n (max m l) + 1) fun p : α × β × γ => .tup [f p.1, g p.2.1, i p.2.2] := ⟨fun p q => by
  obtain ⟨a, b, z⟩ := p
  obtain ⟨a', b', z'⟩ := q
  have h1 := e.eqv a a'
  have h2 := d.eqv b b'
  have h3 := c.eqv z z'
  rw [D.eqv] at h1 h2 h3
  show PyData.eqv (.tuple [(f a).py, (g b).py, (i z).py]) (.tuple [(f a').py, (g b').py, (i z').py]) = _
  rw [PyData.eqv, PyData.eqvAll, PyData.eqvAll, PyData.eqvAll, PyData.eqvAll, h1, h2, h3]
  by_cases x : a = a' <;> by_cases y : b = b' <;> by_cases w : z = z' <;> simp [x, y, w], fun p k h => by
    have h1 := e.flat p.1 (k - 1) (by omega)
    have h2 := d.flat p.2.1 (k - 1) (by omega)
    have h3 := c.flat p.2.2 (k - 1) (by omega)
    have : k ≠ 0 := by omega
    simp [D.flat, D.flats, h1, h2, h3, this], fun p => by simp [D.okS, D.okSs, e.ok, d.ok, c.ok]⟩
theorem Enc.cmp {α : Type} [DecidableEq α] {n : Nat} {f : α → D} (e : Enc n f) (h : n ≤ 60) (a : α) : Cmp (f a) := ⟨e.flat a 60 h, e.ok a⟩
theorem Enc.of {α : Type} [DecidableEq α] {n : Nat} {f g : α → D} (e : Enc n f) (h : ∀ a, g a = f a) : Enc n g := by
  have : g = f := funext h
  rw [this]
  exact e
theorem cmpM {α : Type} (f : α → Int) (xs : List α) : Cmp (.lst (xs.map fun a => .int (f a))) := by
  have := Enc.int.lst.cmp (by decide) (xs.map f)
  rw [List.map_map] at this
  exact this
/-- a list told as empty or not -/
theorem eqv_nil {α : Type} {f : α → D} : ∀ xs : List α, D.eqv (.lst (xs.map f)) (.lst []) = xs.isEmpty
  | [] => rfl
  | _ :: _ => rfl
theorem Enc.eq {α : Type} [DecidableEq α] {n : Nat} {f : α → D} (e : Enc n f) (h : n ≤ 60) (a b : α) {k : P → Hl → Prop} {hh : Hl} (q : k (.d (.bl (decide (a = b)))) hh) : (Cmp (f a) ∧ Cmp (f b)) ∧ k (.d (.bl (D.eqv (f a) (f b)))) hh :=
  ⟨⟨e.cmp h a, e.cmp h b⟩, by rw [e.eqv]; exact q⟩
theorem Enc.ne {α : Type} [DecidableEq α] {n : Nat} {f : α → D} (e : Enc n f) (h : n ≤ 60) (a b : α) {k : P → Hl → Prop} {hh : Hl} (q : k (.d (.bl (!decide (a = b)))) hh) : (Cmp (f a) ∧ Cmp (f b)) ∧ k (.d (.bl (!D.eqv (f a) (f b)))) hh :=
  ⟨⟨e.cmp h a, e.cmp h b⟩, by rw [e.eqv]; exact q⟩
theorem Ix.nat {n j : Nat} {i : Int} {k : Nat → Prop} (e : i = (j : Int)) (h : j < n) (q : k j) : Ix n i k := ⟨j, by
  subst e
  unfold ixN
  first | (rw [if_pos (by omega), if_pos (by omega)]; simp) | (simp; omega), q⟩
end Sc

/-! Sc21: calls with keywords, none left out -/
set_option Elab.async false
set_option linter.all false
set_option maxRecDepth 100000
namespace Sc
open PySem PySem.Spec PyProof.Rows L2
theorem kbn_plain {K : PySem.W.Frag} {x qual : Str} {params : Arguments} {body : List Stmt} {scope : Scope} {f : Addr} {fd : FuncData} {ps : List Str} (F : FunD K x qual params body scope [] [] f fd) (n : Nat) (ks : List Str)
    (h : ∀ (kV doc pm : Value) (an : Option Addr) (cdv ct : Value) (us ws : List Value), us.length = n → ws.length = ks.length → bindArgs (PySem.W.fnOf x qual params body scope .none kV doc pm an cdv ct) ⟨us, ks.zip ws⟩ = pure (ps.zip (us ++ ws))) :
    KBn K fd ps n ks (fun us ws => us ++ ws) (fun us ws => us ++ ws) := by
  obtain ⟨oc, od, dV, kV, doc, pm, an, cdv, ct, osl, rfl, lk, hcd, hD, hK⟩ := F.ex
  rcases hD with ⟨_, rfl⟩ | ⟨e, _⟩
  · exact ⟨fun s us ws _ l1 l2 => .of_eq (h kV doc pm an cdv ct us ws l1 l2), fun r1 r2 => r1.append r2⟩
  · exact absurd rfl e
def EK (X : CxE) (kws : List Keyword) (t : GA) : Prop := PK X kws (upA X.kx t)
theorem PK.weak {X : Cx} {kws : List Keyword} {t t' : TA} (h : PK X kws t) (w : ∀ τ H Q, t' τ H Q → t τ H Q) : PK X kws t' := ⟨fun pos pins s σ H Q I q => h.run pos pins s σ H Q I (w _ _ _ q)⟩
/-- the keywords' values stand behind the others -/
def gCallKF (n m : Nat) (sp : GSp) (t tk : GA) : GT := fun σ h Q => t σ h fun ps h1 => tk σ h1 fun qs h2 => allD ps fun xs => allD qs fun ys => xs.length = n ∧ ys.length = m ∧ sp (xs ++ ys) (putF h2 Q)
def gCallKFX (gw : GW) (n m : Nat) (sp : GSpX) (t tk : GA) : GT := fun σ h Q => t σ h fun ps h1 => tk σ h1 fun qs h2 => allD ps fun xs => allD qs fun ys => xs.length = n ∧ ys.length = m ∧ sp (xs ++ ys) (putF h2 Q) fun k ys => gw k ys σ h2
section
variable {X : CxE} {k n m : Nat} {f : Addr} {fd : FuncData} {ps ks : List Str} {sp : GSp} {spx : GSpX} {x : Str} {p pos kpos : Pos} {e : Expr} {es : List Expr} {kws : List Keyword} {t tk : GA} {te : GT} {nm : Option Str}
theorem ek_nil : EK X [] gNil := PK.weak pk_nil fun τ H Q q => by
  obtain ⟨W, h, σ, post, p, g, q, f⟩ := q
  exact f _ _ W H _ q p Ext.refl rfl
theorem ek_cons (ha : E X e te) (hr : EK X kws tk) : EK X (⟨nm, e, kpos⟩ :: kws) (gCons te tk) :=
  PK.weak (pk_cons ha hr) fun τ H Q q => by
    obtain ⟨W, h, σ, post, p, g, q, f⟩ := q
    refine ⟨W, h, σ, _, p, g, q, fun x h1 W1 H1 v q1 p1 x1 r1 => ?_⟩
    refine ⟨W1, h1, σ, _, p1, g.ext x1, q1, fun ps h2 W2 H2 vs q2 p2 x2 r2 => ?_⟩
    exact f _ h2 W2 H2 _ q2 p2 (x1.trans x2) ⟨v, vs, rfl, RP.ext x2 _ _ r1, r2⟩
theorem e_callKF (hb : KBn X.K fd ps n ks (fun us ws => us ++ ws) (fun us ws => us ++ ws)) (F : FnOk X.prog X.w X.K X.mg X.base (L2.CX X.prog X.w) k f fd ps (upSp X.K X.et sp)) (hr : Room k X.A) (hm : X.mg x = some (.ref f)) (hk : PySem.W.keepIn X.K (.ref f) = true) (ha : EA X (e :: es) t) (hkw : EK X kws tk) (hlm : ks.length = m := by rfl) (hg : Gl X x := by rfl)
    (hall : (backToKw pos (keywordEach kws X.env)).all (·.1.isSome) = true := by rfl) (hks : (backToKw pos (keywordEach kws X.env)).filterMap (·.1) = ks := by rfl)
    (hdb : (x == ("__debug__" : Str)) = false := by decide) (he : starEach (e :: es) X.env = (false, eval e X.env) :: starEach es X.env := by rfl)
    (hpl : ((backTo pos (starEach (e :: es) X.env)).any (·.1) || (backToKw pos (keywordEach kws X.env)).any (·.1.isNone)) = false := by rfl) : E X (.Call (.Name x p) (e :: es) kws pos) (gCallKF n m sp t tk) :=
  PE.weak (pe_callN F hr hg hm hk hb passC ha hkw hall hks hdb he hpl) fun τ H Q q => by
    obtain ⟨W, h, σ, post, p, g, q, f⟩ := q
    refine ⟨W, h, σ, _, p, g, q, fun ps h1 W1 H1 vs q1 p1 x1 r1 => ?_⟩
    refine ⟨W1, h1, σ, _, p1, g.ext x1, q1, fun qs h2 W2 H2 ws q2 p2 x2 r2 => ?_⟩
    obtain ⟨xs, q3, r3⟩ := allD_ok (RPs.ext x2 r1) q2
    obtain ⟨ys, ⟨l1, l2, q4⟩, r4⟩ := allD_ok r2 q3
    refine ⟨by rw [← l1]; exact r3.len.symm, by rw [hlm, ← l2]; exact r4.len.symm, ?_⟩
    exact call_F (ex := fun _ _ => False) p2 (r3.app r4) q4 (fun z h3 W3 H3 v q p3 x3 r => f z h3 W3 H3 v q p3 ((x1.trans x2).trans x3) r) fun _ _ _ _ _ z => z.elim
end
end Sc

/-! Sc22: a call that only looks at the def's own cells -/
set_option Elab.async false
set_option linter.all false
set_option maxRecDepth 100000
namespace Sc
open PySem PySem.Spec PyProof.Rows L2
def Wd.view (W : Wd) : Wd := ⟨[], W.rg, ⟨W.fo.p, []⟩, W.gh⟩
def Wd.unview (W W' : Wd) : Wd := ⟨[], W'.rg, W.base.fo, W'.gh⟩
section
variable {K : PySem.W.Frag} {W W' : Wd} {H H' : Hp} {h : Hl}
theorem view_sub {a : Addr} (o : W.view.own a) : W.own a := by
  rcases o with ⟨k, e⟩ | q | q
  · exact (no_nil e).elim
  · exact .inr (.inl q)
  · exact .inr (.inr q)
theorem view_cell (p : Pre0 K W H h) {k : Nat} {a : Addr} (e : W.al[k]? = some (some a)) : ¬ W.view.own a := by
  rintro (⟨k, e⟩ | ⟨q, m, z⟩ | q)
  · exact (no_nil e).elim
  · rcases z with z | z
    · exact (p.nd2 k a e q m).1 z
    · exact (p.nd2 k a e q m).2 z
  · exact p.nd4 k a e q
theorem Pre0.view (p : Pre0 K W H h) : Pre0 K W.view H [] where
  len := rfl
  cel k c oa h1 _ := (no_nil h1).elim
  rng := p.rng
  nd1 i j a h1 _ := (no_nil h1).elim
  nd2 i a h1 := (no_nil h1).elim
  nd3 := p.nd3
  fo := p.fo
  nd4 i a h1 := (no_nil h1).elim
  nd5 := p.nd5
  pas i a e := (no_nil e).elim
theorem view_tr : Tr W.own W.rg H W.view.own W.view.rg H := ⟨fun a o e n => ⟨e, fun z => n (view_sub z)⟩, fun _ q => q⟩
theorem ExS.unview (p : Pre0 K W H h) (x : ExS W.view W' H H') : ExS W.base (W.unview W') H H' where
  keep a o e n := x.keep a o e fun z => n (base_own.mpr (view_sub z))
  keepF a o e n := by
    rcases n with n | ⟨k, ek⟩
    · exact x.keepF a o e n
    · exact x.keep a o e (view_cell p ek)
  new a q := by
    rcases q with ⟨k, e⟩ | ⟨q, m, z⟩ | q
    · exact (no_nil e).elim
    · rcases x.new a (.inr (.inl ⟨q, m, z⟩)) with y | y
      · exact .inl (base_own.mpr (view_sub y))
      · exact .inr y
    · exact .inl (.inr (.inr q))
  rg := x.rg
  fo := rfl
  gh := x.gh
theorem Pre0.unview (p : Pre0 K W H h) (x : ExS W.view W' H H') (p2 : Pre0 K W' H' []) : Pre0 K (W.unview W') H' [] where
  len := rfl
  cel k c oa h1 _ := (no_nil h1).elim
  rng := p2.rng
  nd1 i j a h1 _ := (no_nil h1).elim
  nd2 i a h1 := (no_nil h1).elim
  nd3 := p2.nd3
  fo a f := by
    rcases f with f | ⟨k, ek⟩
    · exact p2.fo a (by rw [x.fo]; exact f)
    · obtain ⟨xs, e⟩ := p.there (.inl ⟨k, ek⟩)
      exact ⟨xs, x.keep a _ e (view_cell p ek)⟩
  nd4 i a h1 := (no_nil h1).elim
  nd5 q m := by
    have go : ∀ a, W'.own a → ¬ W'.fo a → ¬ W.base.fo a := fun a o nf z => by
      rcases z with z | ⟨k, ek⟩
      · exact nf (by rw [x.fo]; exact z)
      · rcases x.new a o with y | y
        · exact view_cell p ek y
        · obtain ⟨xs, e⟩ := p.there (.inl ⟨k, ek⟩)
          rw [e] at y
          cases y
    exact ⟨go _ (.inr (.inl ⟨q, m, .inl rfl⟩)) (p2.nd5 q m).1, go _ (.inr (.inl ⟨q, m, .inr rfl⟩)) (p2.nd5 q m).2⟩
  pas i a e := (no_nil e).elim
end
mutual
/-- no list in it -/
def D.noL : D → Bool
  | .lst _ => false
  | .klst _ => false
  | .rng => false
  | .tup xs => D.noLs xs
  | _ => true
def D.noLs : List D → Bool
  | [] => true
  | x :: xs => D.noL x && D.noLs xs
end
mutual
theorem RD.noL {K : PySem.W.Frag} {own own' : Addr → Prop} {rg rg' : List (Addr × Addr)} {H : Hp} (o : ∀ a, own' a → own a ∨ ∃ xs, H a = some (.lst xs)) : ∀ (d : D) (v : V), d.noL = true → RD K own rg H d v → RD K own' rg' H d v
  | .non, v, _, r => by simpa only [RD] using r
  | .bl _, v, _, r => by simpa only [RD] using r
  | .int _, v, _, r => by simpa only [RD] using r
  | .str _, v, _, r => by simpa only [RD] using r
  | .tup xs, v, h, r => by
    simp only [RD] at r ⊢
    obtain ⟨a, ys, rfl, q, s⟩ := r
    refine ⟨a, ys, rfl, ?_, RDs.noL o xs ys (by simpa only [D.noL] using h) s⟩
    rcases q with ⟨q1, q2⟩ | q
    · refine .inl ⟨q1, fun z => ?_⟩
      rcases o a z with y | ⟨zs, y⟩
      · exact q2 y
      · rcases q1 with q1 | q1
        · rw [y] at q1; cases q1
        · obtain ⟨o', q1⟩ := q1
          rw [y] at q1; cases q1
    · exact .inr q
  | .lst _, v, h, _ => by simp [D.noL] at h
  | .klst _, v, h, _ => by simp [D.noL] at h
  | .rng, v, h, _ => by simp [D.noL] at h
theorem RDs.noL {K : PySem.W.Frag} {own own' : Addr → Prop} {rg rg' : List (Addr × Addr)} {H : Hp} (o : ∀ a, own' a → own a ∨ ∃ xs, H a = some (.lst xs)) : ∀ (ds : List D) (vs : List V), D.noLs ds = true → RDs K own rg H ds vs → RDs K own' rg' H ds vs
  | [], vs, _, r => by
    cases vs with
    | nil => simp only [RDs]
    | cons => simp [RDs] at r
  | x :: xs, vs, h, r => by
    simp only [D.noLs, Bool.and_eq_true] at h
    simp only [RDs] at r ⊢
    obtain ⟨y, r', rfl, r1, r2⟩ := r
    exact ⟨y, r', rfl, RD.noL o x y h.1 r1, RDs.noL o xs r' h.2 r2⟩
end
/-- a tuple that holds cells, as it stands -/
def tcV (h : Hl) : List Mb → (List D → Prop) → Prop
  | [], k => k []
  | .d x :: r, k => tcV h r fun xs => k (x :: xs)
  | .r n :: r, k => match cellAt h n with
    | some (.lst ys) => tcV h r fun xs => k (.lst ys :: xs)
    | _ => False
theorem tcV_ok {K : KX} {W : Wd} {H : Hp} {h : Hl} (p : Pre K W H h) : ∀ {ms : List Mb} {vs : List V} {k : List D → Prop}, RMs K W H ms vs → tcV h ms k → ∃ xs, k xs ∧ RDs K.fr W.view.own W.view.rg H xs vs
  | [], vs, k, r, q => ⟨[], q, by cases r; exact RDs.nil⟩
  | .d x :: ps, vs, k, r, q => by
    obtain ⟨v, r', rfl, r1, r2⟩ := r
    obtain ⟨xs, q1, r3⟩ := tcV_ok p r2 q
    exact ⟨x :: xs, q1, RDs.cons (RD.tr view_tr x v r1) r3⟩
  | .r n :: ps, vs, k, r, q => by
    obtain ⟨v, r', rfl, r1, r2⟩ := r
    unfold tcV at q
    split at q
    · rename_i ys e
      obtain ⟨xs, q1, r3⟩ := tcV_ok p r2 q
      obtain ⟨a, us, rfl, e1, e2, e3⟩ := cell_ok p e (r1 : RP K W H (.ref n) v)
      refine ⟨.lst ys :: xs, q1, RDs.cons ?_ r3⟩
      simp only [RD]
      exact ⟨a, us, rfl, ⟨e2, view_cell p.toPre0 e1⟩, RDs.tr view_tr _ _ e3⟩
    · exact q.elim
/-- the arguments as data, the def's own lists as they stand -/
def allV (h : Hl) : List P → (List D → Prop) → Prop
  | [], k => k []
  | .d x :: r, k => allV h r fun xs => k (x :: xs)
  | .ref n :: r, k => match cellAt h n with
    | some (.lst ys) => allV h r fun xs => k (.lst ys :: xs)
    | _ => False
  | .tc ms :: r, k => tcV h ms fun ys => allV h r fun xs => k (.tup ys :: xs)
  | .ex _ _ :: _, _ => False
theorem allV_ok {K : KX} {W : Wd} {H : Hp} {h : Hl} (p : Pre K W H h) : ∀ {ps : List P} {vs : List V} {k : List D → Prop}, RPs K W H ps vs → allV h ps k → ∃ xs, k xs ∧ RDs K.fr W.view.own W.view.rg H xs vs
  | [], vs, k, r, q => ⟨[], q, by cases r; exact RDs.nil⟩
  | .d x :: ps, vs, k, r, q => by
    obtain ⟨v, r', rfl, r1, r2⟩ := r
    obtain ⟨xs, q1, r3⟩ := allV_ok p r2 q
    exact ⟨x :: xs, q1, RDs.cons (RD.tr view_tr x v r1) r3⟩
  | .ref n :: ps, vs, k, r, q => by
    obtain ⟨v, r', rfl, r1, r2⟩ := r
    unfold allV at q
    split at q
    · rename_i ys e
      obtain ⟨xs, q1, r3⟩ := allV_ok p r2 q
      obtain ⟨a, us, rfl, e1, e2, e3⟩ := cell_ok p e r1
      refine ⟨.lst ys :: xs, q1, RDs.cons ?_ r3⟩
      simp only [RD]
      exact ⟨a, us, rfl, ⟨e2, view_cell p.toPre0 e1⟩, RDs.tr view_tr _ _ e3⟩
    · exact q.elim
  | .tc ms :: ps, vs, k, r, q => by
    obtain ⟨v, r', rfl, r1, r2⟩ := r
    obtain ⟨zs, q0, r4⟩ := tcV_ok p (show RMs K W H ms r1.choose_spec.choose from r1.choose_spec.choose_spec.2.2) q
    obtain ⟨xs, q1, r3⟩ := allV_ok p r2 q0
    obtain ⟨e1, qt, _⟩ := r1.choose_spec.choose_spec
    refine ⟨.tup zs :: xs, q1, RDs.cons ?_ r3⟩
    simp only [RD]
    exact ⟨_, _, e1, QT.tr view_tr qt, r4⟩
  | .ex _ _ :: _, _, _, _, q => q.elim
/-- an answer without lists -/
def putV (h : Hl) (Q : P → Hl → Prop) : P → Hl → Prop := fun p hr => match p, hr with
  | .d x, [] => x.noL = true ∧ Q (.d x) h
  | _, _ => False
def gCallV (sp : GSp) (t : GA) : GT := fun σ h Q => t σ h fun ps h1 => allV h1 ps fun xs => sp xs (putV h1 Q)
section
variable {K : KX} {W : Wd} {H : Hp} {h : Hl}
theorem call_V {sp : GSp} {xs : List D} {vs : List V} {post : P → Hl → Prop} {Q : VK} {E : XK} (p : Pre K W H h) (r : RDs K.fr W.view.own W.view.rg H xs vs) (q : sp xs (putV h post)) (f : Fin K W H post Q) : upSp K.fr K.et sp vs H Q E := by
  refine ⟨W.view, xs, _, fun _ _ => False, rfl, p.toPre0.view, r, q, fun z hr W' H' v ne q2 p2 x2 r2 => ?_, fun _ _ _ _ _ z => z.elim⟩
  unfold putV at q2
  split at q2
  · rename_i x
    have x3 := x2.unview p.toPre0
    have p3 := Pre0.unview p.toPre0 x2 p2
    have pw := p.with p3 x3
    rw [List.append_nil] at pw
    refine f _ _ _ _ _ q2.2 pw (Ext.with x3) (rp_with (q := .d x) p.toPre0 x3 ?_)
    refine RD.noL (fun a o => ?_) x v q2.1 r2
    rcases o with ⟨k, e⟩ | ⟨q, m, z⟩ | o
    · exact (no_nil e).elim
    · exact .inl (.inr (.inl ⟨q, m, z⟩))
    · exact .inr (p3.fo a o)
  · exact q2.elim
end
section
variable {X : CxE} {k : Nat} {f : Addr} {fd : FuncData} {ps : List Str} {sp : GSp} {x : Str} {p pos : Pos} {e : Expr} {es : List Expr} {t : GA}
theorem callV_up {τ : L2.St} {H : Hp} {Q : VK} (q : up X.kx (gCallV sp t) τ H Q) : tCall (upSp X.K X.et sp) [] E0 (upA X.kx t) τ H Q := by
  obtain ⟨W, h, σ, post, p, g, q, f⟩ := q
  refine ⟨W, h, σ, _, p, g, q, fun ps h1 W1 H1 vs q1 p1 x1 r1 => ?_⟩
  obtain ⟨xs, q2, r2⟩ := allV_ok p1 r1 q1
  rw [List.append_nil]
  exact call_V p1 r2 q2 (fun z h2 W2 H2 v q p2 x2 r => f z h2 W2 H2 v q p2 (x1.trans x2) r)
theorem e_callV (F : FnOk X.prog X.w X.K X.mg X.base (L2.CX X.prog X.w) k f fd ps (upSp X.K X.et sp)) (hr : Room k X.A) (hm : X.mg x = some (.ref f)) (hk : PySem.W.keepIn X.K (.ref f) = true) (hb : Binds X.K fd ps []) (ha : EA X (e :: es) t) (hg : Gl X x := by rfl) (hdb : (x == ("__debug__" : Str)) = false := by decide)
    (he : starEach (e :: es) X.env = (false, eval e X.env) :: starEach es X.env := by rfl) (hpl : (backTo pos (starEach es X.env)).any (·.1) = false := by rfl) : E X (.Call (.Name x p) (e :: es) [] pos) (gCallV sp t) :=
  PE.weak (pe_call F hr hg hm hk hb .nil passC ha hdb he hpl) fun _ _ _ => callV_up
end
end Sc

/-! Sc23: texts: split, join, index, str -/
set_option Elab.async false
set_option linter.all false
set_option maxRecDepth 100000
namespace Sc
open PySem PySem.Spec PyProof.Rows L2
/-- a method of a text -/
def gSM (r : GM) (to : GT) (t : GA) : GT := fun σ h Q => to σ h fun x h1 => match x with
  | .d (.str z) => t σ h1 fun ps h2 => r (.d (.str z)) ps h2 Q
  | _ => False
section
variable {X : CxE}
theorem sm_up {r : GM} {to : GT} {t : GA} {τ : L2.St} {H : Hp} {Q : VK} (q : up X.kx (gSM r to t) τ H Q) : tBM X.kx "str" (upM X.kx r) (up X.kx to) (upA X.kx t) τ H Q := by
  obtain ⟨W, hl, σ, post, p, g, q, f⟩ := q
  refine ⟨W, hl, σ, _, p, g, q, fun x h1 W1 H1 v q1 p1 x1 r1 => ?_⟩
  split at q1
  · rename_i z
    rw [str_of r1]
    rw [str_of r1] at r1
    refine ⟨rfl, W1, h1, σ, _, p1, g.ext x1, q1, fun ps h5 W2 H2 vs q2 p2 x2 r2 => ?_⟩
    exact ⟨W2, h5, _, ps, post, p2, RP.ext x2 _ _ r1, r2, q2, fun z h6 W3 H3 v3 q3 p3 x3 r3 => f z h6 W3 H3 v3 q3 p3 ((x1.trans x2).trans x3) r3⟩
  · exact q1.elim
theorem e_sm {o e : Expr} {es : List Expr} {to : GT} {t : GA} {name : Str} {apos cpos : Pos} {id : String} {r : GM} (slot : Slot "str" name id) (hty : typeOf (.builtin id) = pure (.type "method_descriptor")) (hm : MtR X id (upM X.kx r)) (ho : E X o to) (ha : EA X (e :: es) t)
    (hbase : attributeBase o name X.env (eval o X.env) = eval o X.env := by rfl)
    (hfew : ((backTo cpos (starEach (e :: es) X.env)).all (fun x => !x.1) && (backToKw cpos (keywordEach [] X.env)).all (fun x => x.1.isSome)
      && decide ((e :: es).length + ([] : List Keyword).length + (if ([] : List Keyword).isEmpty then 0 else 1) < 30)) = true := by rfl)
    (hline : (apos.endLine == cpos.line) = true := by rfl) (hs : starEach (e :: es) X.env = (false, eval e X.env) :: starEach es X.env := by rfl) (hplain : (backTo cpos (starEach es X.env)).any (·.1) = false := by rfl) :
    E X (.Call (.Attribute o name apos) (e :: es) [] cpos) (gSM r to t) := PE.weak (pe_bm PySem.F.plainAttrs_str slot hty hm ho ha hbase hfew hline hs hplain) fun _ _ _ => sm_up
def mSplit : GM := fun x ps h Q => match x, ps with
  | .d (.str a), [.d (.str b)] => (b.length == 0) = false ∧ a.length + 2 ≤ sizeLine ∧ Q (.d (.lst ((Txt.split a b).map D.str))) h
  | _, _ => False
theorem rds_strs {K : PySem.W.Frag} {own : Addr → Prop} {rg : List (Addr × Addr)} {H : Hp} : ∀ ys : List Str, RDs K own rg H (ys.map D.str) (ys.map V.str)
  | [] => by simp only [List.map_nil, RDs]
  | y :: ys => RDs.cons (by simp only [RD]) (rds_strs ys)
theorem mg_split : MtR X "str.split" (upM X.kx mSplit) := by
  refine MtR.sub mt_split fun x xs H Q ⟨W, h, y, ps, post, p, rx, rp, q, f⟩ => ?_
  unfold mSplit at q
  split at q
  · obtain ⟨v, rfl, r1⟩ := rp.one
    rw [str_of rx, str_of r1]
    exact ⟨_, _, rfl, rfl, q.1, q.2.1, fin_lst p (rds_strs _) f q.2.2⟩
  · exact q.elim
def strsD : List D → Option (List Str)
  | [] => some []
  | .str i :: r => (strsD r).map (i :: ·)
  | _ => none
theorem strsD_ok {K : KX} {own : Addr → Prop} {rg : List (Addr × Addr)} {H : Hp} : ∀ {xs : List D} {ns : List Str} {vs : List V}, strsD xs = some ns → RDs K own rg H xs vs → vs = ns.map V.str
  | [], _, _, e, r => by simp only [strsD] at e; cases e; simp only [RDs] at r; subst r; rfl
  | x :: xs, _, _, e, r => by
    simp only [RDs] at r
    obtain ⟨y, q, rfl, r, s⟩ := r
    cases x <;> simp only [strsD] at e <;> try cases e
    cases h : strsD xs with
    | none => rw [h] at e; cases e
    | some ns =>
      rw [h] at e
      cases e
      simp only [RD] at r
      subst r
      rw [strsD_ok h s]
      rfl
theorem strsD_map : ∀ ns : List Str, strsD (ns.map D.str) = some ns
  | [] => rfl
  | n :: ns => by simp only [List.map_cons, strsD, strsD_map ns]; rfl
structure Texts (xs : List D) (k : List Str → Prop) : Prop where
  ex : ∃ ns, strsD xs = some ns ∧ k ns
def mJoin : GM := fun x ps h Q => match x, ps with
  | .d (.str a), [y] => match vS h y with
    | some xs => Texts xs fun ys => (ys.map (·.length)).sum + ys.length * a.length ≤ 16777216 ∧ Q (.d (.str (Txt.join a ys))) h
    | none => False
  | _, _ => False
theorem mg_join : MtR X "str.join" (upM X.kx mJoin) := by
  refine MtR.sub mt_join fun x xs H Q ⟨W, h, y, ps, post, p, rx, rp, q, f⟩ => ?_
  unfold mJoin at q
  split at q
  · obtain ⟨v, rfl, r1⟩ := rp.one
    split at q
    · rename_i e
      obtain ⟨ys, e2, q1, q2⟩ := q.ex
      obtain ⟨a, us, rfl, sq, s⟩ := vS_ok p e r1
      rw [strsD_ok e2 s] at sq
      rw [str_of rx]
      exact ⟨_, a, ys, rfl, rfl, sq, q1, fin0 p f q2 (by simp only [RD])⟩
    · exact q.elim
  · exact q.elim
structure Occ (a b : Str) (k : Nat → Prop) : Prop where
  ex : ∃ i rest, Builtin.Str.occurrences a b 0 a.length 1 = i :: rest ∧ k i
def mSIndex : GM := fun x ps h Q => match x, ps with
  | .d (.str a), [.d (.str b)] => Occ a b fun i => Q (.d (.int (i : Nat))) h
  | _, _ => False
theorem mg_sindex : MtR X "str.index" (upM X.kx mSIndex) := by
  refine MtR.sub mt_sindex fun x xs H Q ⟨W, h, y, ps, post, p, rx, rp, q, f⟩ => ?_
  unfold mSIndex at q
  split at q
  · obtain ⟨v, rfl, r1⟩ := rp.one
    obtain ⟨i, rest, e, q⟩ := q.ex
    rw [str_of rx, str_of r1]
    exact ⟨_, _, _, _, rfl, rfl, e, fin0 p f q rd_int⟩
  · exact q.elim
def cStr : GC := fun ps h Q => match ps with
  | [.d (.int i)] => i.natAbs.log2 < 1920 ∧ Q (.d (.str (toString i))) h
  | _ => False
theorem cg_str : CallR X (.type "str") (upC X.kx cStr) := by
  refine CallR.sub call_str_int fun xs H Q ⟨W, h, ps, post, p, r, q, f⟩ => ?_
  unfold cStr at q
  split at q
  · obtain ⟨v, rfl, r1⟩ := r.one
    rw [int_of r1]
    exact ⟨_, rfl, q.1, fin0 p f q.2 (by simp only [RD])⟩
  · exact q.elim
end
end Sc
namespace Sc
open PySem PySem.Spec PyProof.Rows L2
structure IntT (z : Str) (k : Int → Prop) : Prop where
  ex : ∃ n, PySem.intText? z = some n ∧ z.length ≤ 640 ∧ k n
def cIntA : GC := fun ps h Q => match ps with
  | [.d (.int i)] => Q (.d (.int i)) h
  | [.d (.bl b)] => Q (.d (.int (b2i' b))) h
  | [.d (.str z)] => IntT z fun n => Q (.d (.int n)) h
  | _ => False
theorem cg_intA {X : CxE} : CallR X (.type "int") (upC X.kx cIntA) := fun pins s σ H xs us Q I rv ⟨W, h, ps, post, p, r, q, f⟩ => by
  unfold cIntA at q
  split at q
  · exact cg_int pins s σ H xs us Q I rv ⟨W, h, _, post, p, r, q, f⟩
  · exact cg_int pins s σ H xs us Q I rv ⟨W, h, _, post, p, r, q, f⟩
  · obtain ⟨v, rfl, r1⟩ := r.one
    obtain ⟨n, e, hl, q⟩ := q.ex
    rw [str_of r1] at rv
    exact call_int_str pins s σ H _ us Q I rv ⟨_, n, rfl, e, hl, fin0 p f q rd_int⟩
  · exact q.elim
end Sc

/-! Sc24: defs that change the lists they are handed -/
set_option Elab.async false
set_option linter.all false
set_option maxRecDepth 100000
namespace Sc
open PySem PySem.Spec PyProof.Rows L2
abbrev GSpM := List P → Hl → (P → Hl → Prop) → Prop
abbrev kx0 (K : PySem.W.Frag) (et : ET) : KX := ⟨K, et, fun _ => True⟩
/-- the first cells are the passed ones, each at its address -/
structure Pas (W : Wd) (n : Nat) : Prop where
  len : W.al.length = n
  pl : W.fo.pa.length = n
  at_ : ∀ (i : Nat) a, W.fo.pa[i]? = some a → W.al[i]? = some (some a)
def upSpM (K : PySem.W.Frag) (et : ET) (sp : GSpM) : Sp := fun vs H Q E => ∃ W ps h post, Pre0 K W H h ∧ Pas W h.length ∧ RPs (kx0 K et) W H ps vs ∧ sp ps h post ∧
  ∀ x hr W' H' v, post (.d x) hr → Pre0 K W' H' hr → hr.length = h.length → ExS W W' H H' → RD K W'.own W'.rg H' x v → Q v H'
def retM (n : Nat) (post : P → Hl → Prop) : GD := ⟨fun _ h => takeH n h fun h' => post (.d .non) h', fun p h => match p with
  | .d x => takeH n h fun h' => post (.d x) h'
  | _ => False, fun _ _ => False, fun _ _ => False⟩
def startM (N : List Str) (ps : List P) : Sl := ps.map some ++ List.replicate (N.length - ps.length) none
theorem RPs.len {K : KX} {W : Wd} {H : Hp} : ∀ {ps : List P} {vs : List V}, RPs K W H ps vs → ps.length = vs.length
  | [], vs, r => by cases r; rfl
  | p :: ps, vs, r => by
    obtain ⟨v, r', rfl, _, r2⟩ := r
    simp [RPs.len r2]
theorem RPs.get {K : KX} {W : Wd} {H : Hp} : ∀ {ps : List P} {vs : List V} {i : Nat} {p : P}, RPs K W H ps vs → ps[i]? = some p → ∃ v, vs[i]? = some v ∧ RP K.fr W H p v
  | [], vs, i, p, r, e => by simp at e
  | q :: ps, vs, i, p, r, e => by
    obtain ⟨v, r', rfl, r1, r2⟩ := r
    cases i with
    | zero =>
      simp only [List.getElem?_cons_zero, Option.some.injEq] at e
      subst e
      exact ⟨v, rfl, r1⟩
    | succ i =>
      obtain ⟨v2, h1, h2⟩ := RPs.get (ps := ps) (i := i) r2 (by simpa using e)
      exact ⟨v2, by simpa using h1, h2⟩
theorem sg_startM {K : KX} {W : Wd} {H : Hp} {N : List Str} {ps : List P} {vs : List V} (r : RPs K W H ps vs) : Sg K.fr W H (startM N ps) (L2.start N vs) := by
  refine ⟨by simp [startM, L2.start, r.len], fun i p e => ?_⟩
  unfold startM at e
  rcases get_app e with ⟨hi, e2⟩ | ⟨hi, e2⟩
  · rw [List.getElem?_map] at e2
    cases h1 : ps[i]? with
    | none => rw [h1] at e2; cases e2
    | some x =>
      rw [h1] at e2
      simp only [Option.map_some, Option.some.injEq] at e2
      subst e2
      obtain ⟨v, h2, h3⟩ := r.get h1
      refine ⟨v, ?_, h3⟩
      unfold L2.start
      rw [List.getElem?_append_left (by simpa [r.len] using hi), List.getElem?_map, h2]
      rfl
  · rw [List.getElem?_replicate] at e2
    split at e2 <;> cases e2
theorem fin_retM {κ : KX} {W₀ : Wd} {H : Hp} {n : Nat} {post : P → Hl → Prop} {Q : VK} (h0 : W₀.fo.pa.length = n)
    (ff : ∀ x hr W' H' v, post (.d x) hr → Pre0 κ.fr W' H' hr → hr.length = n → ExS W₀ W' H H' → RD κ.fr W'.own W'.rg H' x v → Q v H') : FinS κ W₀ H (retM n post) { nx := fun _ H' => Q .non H', rt := Q } := by
  have lq : ∀ (W' : Wd) (H' : Hp) (h : Hl), Pre0 κ.fr W' H' h → ExS W₀ W' H H' → W'.fo.pa.length ≤ n ∧ (h.take n).length = n := fun W' H' h p x => by
    have e : W'.fo.pa.length = n := by rw [x.fo]; exact h0
    refine ⟨by omega, ?_⟩
    have := p.pal
    rw [List.length_take]
    omega
  refine ⟨fun σ h W' H' τ q2 p2 x2 g2 => ?_, fun z h W' H' v q2 p2 x2 r2 => ?_, fun σ h W' H' τ q2 => q2.elim, fun σ h W' H' τ q2 => q2.elim⟩
  · obtain ⟨a, b⟩ := lq W' H' h p2.toPre0 x2
    have q3 : takeH n h fun h' => post (.d .non) h' := q2
    rw [takeH_eq] at q3
    exact ff .non _ (W'.cut n) H' .non q3 (p2.toPre0.cut n a) b (x2.trans ExS.cut) rd_non
  · cases z with
    | ex => exact q2.elim
    | tc => exact q2.elim
    | ref => exact q2.elim
    | d z =>
      obtain ⟨a, b⟩ := lq W' H' h p2.toPre0 x2
      have q3 : takeH n h fun h' => post (.d z) h' := q2
      rw [takeH_eq] at q3
      exact ff z _ (W'.cut n) H' v q3 (p2.toPre0.cut n a) b (x2.trans ExS.cut) (RD.ext ExS.cut _ _ r2)
section
variable {P₀ : Program} {w : World} {K : PySem.W.Frag} {mg : Str → Option Value} {base : Heap} {x qual : Str} {params : Arguments} {body : List Stmt} {scope : Scope} {dvs : List V} {kws : List (Str × V)} {f : Addr} {fd : FuncData} {N ps : List Str} {k : Nat} {sp : GSpM} {t : GS} {et : ET}
theorem fn_okM (F : FunD K x qual params body scope dvs kws f fd) (S : FnScope N ps scope) (len : ∀ xs h post, sp xs h post → xs.length = ps.length) (noex : ∀ xs h post, sp xs h post → ∀ p ∈ xs, p.noEx)
    (hb : ∀ (cdv : Value) (A : Around) (outer : List Env) (s : Shared) (H : Hp) (E : XK), Room k (A.deeper (envOfC qual scope s.heap.objs.size f cdv)) → Ss ⟨(cxOf (L2.CX P₀ w) P₀ w K mg base N qual scope f cdv A outer s H E).nox, et, fun _ _ _ _ => False, (0, 0)⟩ body t)
    (hp : ∀ xs h post, sp xs h post → t (retM h.length post) (startM N xs) h) : FnOk P₀ w K mg base (L2.CX P₀ w) (k + 1) f fd ps (upSpM K et sp) := by
  refine F.ok S (fun vs H Q E hh => ?_) (fun cdv A outer s H vs Q E hr hh => ?_)
  · obtain ⟨W, xs, h, post, _, _, r, q, _⟩ := hh
    rw [← r.len]
    exact len xs h post q
  · obtain ⟨W, xs, h, post, p, pa, r, q, ff⟩ := hh
    refine ⟨_, PSs.nox (hb cdv A outer s H E hr), ?_⟩
    have r2 : ∀ {qs : List P} {us : List V}, (∀ p ∈ qs, p.noEx) → RPs (kx0 K et) W H qs us → RPs (kx0 K et) (W.re (noGh (0, 0))) H qs us := by
      intro qs
      induction qs with
      | nil => intro us _ r; exact r
      | cons q qs ih =>
        intro us ne r
        obtain ⟨v, r', rfl, r1, r2⟩ := r
        exact ⟨v, r', rfl, RP.reg (ne q List.mem_cons_self) r1, ih (fun p hp => ne p (List.mem_cons_of_mem _ hp)) r2⟩
    refine ⟨W.re (noGh (0, 0)), h, _, _, ⟨p.re _, ⟨takes_no, rfl, rfl⟩, FX.no⟩, sg_startM (K := kx0 K et) (r2 (noex xs h post q) r), hp xs h post q, fin_retM (show W.fo.pa.length = h.length from pa.pl) fun z hr W' H' v q2 p2 l2 x2 r2 => ?_⟩
    exact ff z hr (W'.re W.gh) H' v q2 (p2.re _) l2 (re_ExS x2) r2
end
/-! ### the caller -/
def giveP (h : Hl) : List P → List Nat → Hl → (List P → List Nat → Hl → Prop) → Prop
  | [], ks, hc, k => k [] ks hc
  | .d x :: r, ks, hc, k => giveP h r ks hc fun qs => k (.d x :: qs)
  | .ref n :: r, ks, hc, k => match cellAt h n with
    | some (.lst xs) => ks.contains n = false ∧ giveP h r (ks ++ [n]) (hc ++ [.lst xs]) fun qs => k (.ref ks.length :: qs)
    | _ => False
  | .tc _ :: _, _, _, _ => False
  | .ex _ _ :: _, _, _, _ => False
def putB : List Nat → Hl → Hl → (Hl → Prop) → Prop
  | [], [], h, k => k h
  | n :: ks, .lst xs :: hr, h, k => setCell h n (.lst xs) fun h2 => putB ks hr h2 k
  | _, _, _, _ => False
def backP (ks : List Nat) (h : Hl) (Q : P → Hl → Prop) : P → Hl → Prop := fun p hr => match p with
  | .d x => putB ks hr h fun h2 => Q (.d x) h2
  | _ => False
def gCallM (sp : GSpM) (t : GA) : GT := fun σ h Q => t σ h fun ps h1 => giveP h1 ps [] [] fun qs ks hc => sp qs hc (backP ks h1 Q)
/-- the cells named by ks, given on -/
def Wd.give (W : Wd) (ks : List Nat) : Wd := ⟨ks.map fun n => (W.al[n]?).getD none, W.rg, ⟨fun a => W.fo a ∨ ∃ k, k ∉ ks ∧ W.al[k]? = some (some a), ks.map fun n => ((W.al[n]?).getD none).getD 0⟩, W.gh⟩
structure Gv (W : Wd) (h : Hl) (ks : List Nat) (hc : Hl) : Prop where
  len : hc.length = ks.length
  nd : ks.Nodup
  at_ : ∀ (i n : Nat), ks[i]? = some n → ∃ a xs, W.al[n]? = some (some a) ∧ h[n]? = some (.lst xs) ∧ hc[i]? = some (.lst xs)
section
variable {K : PySem.W.Frag} {W W' : Wd} {H H' : Hp} {h hc hr : Hl} {ks : List Nat}
theorem give_al (g : Gv W h ks hc) {i : Nat} {a : Addr} : (W.give ks).al[i]? = some (some a) ↔ ∃ n, ks[i]? = some n ∧ W.al[n]? = some (some a) := by
  show (ks.map _)[i]? = _ ↔ _
  rw [List.getElem?_map]
  cases e : ks[i]? with
  | none => simp
  | some n =>
    obtain ⟨b, xs, h1, h2, h3⟩ := g.at_ i n e
    simp [h1]
theorem give_own (g : Gv W h ks hc) {a : Addr} : (W.give ks).own a ↔ W.own a := by
  constructor
  · rintro (⟨i, e⟩ | q | q)
    · obtain ⟨n, _, e2⟩ := (give_al g).mp e
      exact .inl ⟨n, e2⟩
    · exact .inr (.inl q)
    · rcases q with q | ⟨k, _, e⟩
      · exact .inr (.inr q)
      · exact .inl ⟨k, e⟩
  · rintro (⟨k, e⟩ | q | q)
    · by_cases m : k ∈ ks
      · obtain ⟨i, ei⟩ := List.getElem?_of_mem m
        exact .inl ⟨i, (give_al g).mpr ⟨k, ei, e⟩⟩
      · exact .inr (.inr (.inr ⟨k, m, e⟩))
    · exact .inr (.inl q)
    · exact .inr (.inr (.inl q))
theorem give_tr (g : Gv W h ks hc) : Tr W.own W.rg H (W.give ks).own (W.give ks).rg H := ⟨fun a o e n => ⟨e, fun z => n ((give_own g).mp z)⟩, fun _ q => q⟩
theorem Pre0.give (p : Pre0 K W H h) (g : Gv W h ks hc) : Pre0 K (W.give ks) H hc where
  len := by show (ks.map _).length = _; rw [List.length_map, g.len]
  cel i c oa h1 h2 := by
    have h2' : (ks.map fun n => (W.al[n]?).getD none)[i]? = some oa := h2
    rw [List.getElem?_map] at h2'
    cases e : ks[i]? with
    | none => rw [e] at h2'; cases h2'
    | some n =>
      obtain ⟨a, xs, e1, e2, e3⟩ := g.at_ i n e
      rw [e, Option.map_some, e1] at h2'
      cases h2'
      rw [h1] at e3
      cases e3
      obtain ⟨ys, q1, q2⟩ := p.cel n _ _ e2 e1
      exact ⟨ys, q1, RDs.tr (give_tr g) _ _ q2⟩
  rng := p.rng
  nd1 i j a h1 h2 := by
    obtain ⟨n, e1, e2⟩ := (give_al g).mp h1
    obtain ⟨m, e3, e4⟩ := (give_al g).mp h2
    have := p.nd1 n m a e2 e4
    subst this
    exact (List.getElem?_inj (List.getElem?_eq_some_iff.mp e1).1 g.nd).mp (e1.trans e3.symm)
  nd2 i a h1 := by
    obtain ⟨n, e1, e2⟩ := (give_al g).mp h1
    exact p.nd2 n a e2
  nd3 := p.nd3
  fo a f := by
    rcases f with f | ⟨k, _, e⟩
    · exact p.fo a f
    · exact p.there (.inl ⟨k, e⟩)
  nd4 i a h1 := by
    obtain ⟨n, e1, e2⟩ := (give_al g).mp h1
    rintro (f | ⟨k, nk, e⟩)
    · exact p.nd4 n a e2 f
    · have := p.nd1 n k a e2 e
      subst this
      exact nk (List.mem_of_getElem? e1)
  nd5 q m := by
    refine ⟨fun f => ?_, fun f => ?_⟩
    · rcases f with f | ⟨k, _, e⟩
      · exact (p.nd5 q m).1 f
      · exact (p.nd2 k _ e q m).1 rfl
    · rcases f with f | ⟨k, _, e⟩
      · exact (p.nd5 q m).2 f
      · exact (p.nd2 k _ e q m).2 rfl
  pas i a e := by
    have e' : (ks.map fun n => ((W.al[n]?).getD none).getD 0)[i]? = some a := e
    rw [List.getElem?_map] at e'
    cases e2 : ks[i]? with
    | none => rw [e2] at e'; cases e'
    | some n =>
      obtain ⟨b, xs, h1, h2, h3⟩ := g.at_ i n e2
      rw [e2, Option.map_some, h1] at e'
      cases e'
      exact .inr ((give_al g).mpr ⟨n, e2, h1⟩)
theorem pas_give (g : Gv W h ks hc) : Pas (W.give ks) hc.length where
  len := by show (ks.map _).length = _; rw [List.length_map, g.len]
  pl := by show (ks.map _).length = _; rw [List.length_map, g.len]
  at_ i a e := by
    have e' : (ks.map fun n => ((W.al[n]?).getD none).getD 0)[i]? = some a := e
    rw [List.getElem?_map] at e'
    cases e2 : ks[i]? with
    | none => rw [e2] at e'; cases e'
    | some n =>
      obtain ⟨b, xs, h1, h2, h3⟩ := g.at_ i n e2
      rw [e2, Option.map_some, h1] at e'
      cases e'
      exact (give_al g).mpr ⟨n, e2, h1⟩
def Wd.back (W W' : Wd) : Wd := ⟨W.al, W'.rg, W.fo, W.gh⟩
def putL : List Nat → Hl → Hl → Hl
  | n :: ks, c :: hr, h => putL ks hr (h.set n c)
  | _, _, h => h
theorem putB_ok : ∀ {ks : List Nat} {hr h : Hl} {k : Hl → Prop}, putB ks hr h k → (∀ c ∈ hr, ∃ xs, c = .lst xs) ∧ hr.length = ks.length ∧ k (putL ks hr h)
  | [], [], h, k, q => ⟨fun c m => (by cases m), rfl, q⟩
  | n :: ks, .lst xs :: hr, h, k, q => by
    unfold putB at q
    rw [setCell_eq] at q
    obtain ⟨a, b, c⟩ := putB_ok q
    refine ⟨fun c m => ?_, by simp [b], c⟩
    rcases List.mem_cons.mp m with rfl | m
    · exact ⟨xs, rfl⟩
    · exact a c m
  | n :: ks, .gone :: hr, h, k, q => q.elim
  | [], _ :: _, h, k, q => q.elim
  | _ :: _, [], h, k, q => q.elim
theorem putL_len : ∀ (ks : List Nat) (hr h : Hl), (putL ks hr h).length = h.length
  | [], _, h => rfl
  | n :: ks, [], h => rfl
  | n :: ks, c :: hr, h => by
    show (putL ks hr (h.set n c)).length = _
    rw [putL_len, List.length_set]
theorem putL_out : ∀ (ks : List Nat) (hr h : Hl) (n : Nat), n ∉ ks → (putL ks hr h)[n]? = h[n]?
  | [], _, h, n, _ => rfl
  | m :: ks, [], h, n, _ => rfl
  | m :: ks, c :: hr, h, n, nm => by
    show (putL ks hr (h.set m c))[n]? = _
    rw [putL_out ks hr _ n fun z => nm (List.mem_cons_of_mem _ z), List.getElem?_set, if_neg (show ¬ m = n from fun z => nm (by rw [z]; exact List.mem_cons_self))]
theorem putL_in : ∀ (ks : List Nat) (hr h : Hl) (i n : Nat), ks.Nodup → hr.length = ks.length → ks[i]? = some n → n < h.length → (putL ks hr h)[n]? = hr[i]?
  | [], _, h, i, n, _, _, e, _ => by simp at e
  | m :: ks, [], h, i, n, _, l, _, _ => by simp at l
  | m :: ks, c :: hr, h, i, n, nd, l, e, hn => by
    show (putL ks hr (h.set m c))[n]? = _
    rw [List.nodup_cons] at nd
    cases i with
    | zero =>
      simp only [List.getElem?_cons_zero, Option.some.injEq] at e
      subst e
      rw [putL_out ks hr _ m nd.1, List.getElem?_set, if_pos rfl, if_pos hn]
      rfl
    | succ i =>
      rw [putL_in ks hr (h.set m c) i n nd.2 (by simpa using l) (by simpa using e) (by rw [List.length_set]; exact hn)]
      simp
theorem back_al (g : Gv W h ks hc) (x : ExS (W.give ks) W' H H') (p2 : Pre0 K W' H' hr) (lr : hr.length = hc.length) (lst : ∀ c ∈ hr, ∃ xs, c = .lst xs) {i n : Nat} {a : Addr} (e : ks[i]? = some n) (ea : W.al[n]? = some (some a)) : W'.al[i]? = some (some a) := by
  have hp : W'.fo.pa[i]? = some a := by
    rw [x.fo]
    show (ks.map fun n => ((W.al[n]?).getD none).getD 0)[i]? = _
    rw [List.getElem?_map, e, Option.map_some, ea]
    rfl
  rcases p2.pas i a hp with z | z
  · have hi : i < hr.length := by
      rw [lr, g.len]
      exact (List.getElem?_eq_some_iff.mp e).1
    obtain ⟨xs, ex⟩ := lst _ (List.getElem_mem hi)
    have := p2.cel i _ _ (List.getElem?_eq_getElem hi) z
    rw [ex] at this
    exact this.elim
  · exact z
theorem back_own (g : Gv W h ks hc) (x : ExS (W.give ks) W' H H') (p2 : Pre0 K W' H' hr) (lr : hr.length = hc.length) (lst : ∀ c ∈ hr, ∃ xs, c = .lst xs) {a : Addr} : (W.back W').own a ↔ W'.own a := by
  constructor
  · rintro (⟨k, e⟩ | q | q)
    · have e : W.al[k]? = some (some a) := e
      by_cases m : k ∈ ks
      · obtain ⟨i, ei⟩ := List.getElem?_of_mem m
        exact .inl ⟨i, back_al g x p2 lr lst ei e⟩
      · exact .inr (.inr (by rw [x.fo]; exact .inr ⟨k, m, e⟩))
    · exact .inr (.inl q)
    · exact .inr (.inr (by rw [x.fo]; exact .inl q))
  · rintro (⟨i, e⟩ | q | q)
    · have hi : i < ks.length := by
        have := (List.getElem?_eq_some_iff.mp e).1
        rw [p2.len, lr, g.len] at this
        exact this
      obtain ⟨b, xs, h1, h2, h3⟩ := g.at_ i _ (List.getElem?_eq_getElem hi)
      have := back_al g x p2 lr lst (List.getElem?_eq_getElem hi) h1
      rw [e] at this
      cases this
      exact .inl ⟨_, h1⟩
    · exact .inr (.inl q)
    · rw [x.fo] at q
      rcases q with q | ⟨k, _, e⟩
      · exact .inr (.inr q)
      · exact .inl ⟨k, e⟩
theorem Ext.back (g : Gv W h ks hc) (x : ExS (W.give ks) W' H H') (p2 : Pre0 K W' H' hr) (lr : hr.length = hc.length) (lst : ∀ c ∈ hr, ∃ xs, c = .lst xs) : Ext W (W.back W') H H' where
  keep a o e n := x.keep a o e fun z => n ((give_own g).mp z)
  keepF a o e n := x.keepF a o e (.inl n)
  new a o := by
    rcases x.new a ((back_own g x p2 lr lst).mp o) with q | q
    · exact .inl ((give_own g).mp q)
    · exact .inr q
  rg := x.rg
  fo := rfl
  gh := rfl
  al k a e := e
theorem Pre0.back (p : Pre0 K W H h) (g : Gv W h ks hc) (x : ExS (W.give ks) W' H H') (p2 : Pre0 K W' H' hr) (lr : hr.length = hc.length) (lst : ∀ c ∈ hr, ∃ xs, c = .lst xs) : Pre0 K (W.back W') H' (putL ks hr h) where
  len := by rw [putL_len]; exact p.len
  cel k c oa h1 h2 := by
    have h2 : W.al[k]? = some oa := h2
    by_cases m : k ∈ ks
    · obtain ⟨i, ei⟩ := List.getElem?_of_mem m
      obtain ⟨a, xs, e1, e2, e3⟩ := g.at_ i k ei
      rw [e1] at h2
      cases h2
      have hk : k < h.length := (List.getElem?_eq_some_iff.mp e2).1
      rw [putL_in ks hr h i k g.nd (by rw [lr, g.len]) ei hk] at h1
      have r := p2.cel i c _ h1 (back_al g x p2 lr lst ei e1)
      obtain ⟨zs, rfl⟩ := lst c (List.mem_of_getElem? h1)
      obtain ⟨ys, q, s⟩ := r
      exact ⟨ys, q, RDs.tr (⟨fun b o e n => ⟨e, fun z => n ((back_own g x p2 lr lst).mp z)⟩, fun _ q => q⟩ : Tr W'.own W'.rg H' (W.back W').own (W.back W').rg H') _ _ s⟩
    · rw [putL_out ks hr h k m] at h1
      have r := p.cel k c oa h1 h2
      cases c with
      | gone => cases oa with
        | none => trivial
        | some a => exact r
      | lst xs => cases oa with
        | none => exact r
        | some a =>
          obtain ⟨ys, q, s⟩ := r
          exact ⟨ys, x.keepF a _ q (.inr ⟨k, m, h2⟩), RDs.tr (Ext.back g x p2 lr lst).toExS.tr _ _ s⟩
  rng := p2.rng
  nd1 := p.nd1
  nd2 i a h1 q m := by
    have h1 : W.al[i]? = some (some a) := h1
    by_cases mi : i ∈ ks
    · obtain ⟨j, ej⟩ := List.getElem?_of_mem mi
      exact p2.nd2 j a (back_al g x p2 lr lst ej h1) q m
    · have n := p2.nd5 q m
      have fa : W'.fo a := by rw [x.fo]; exact .inr ⟨i, mi, h1⟩
      exact ⟨fun z => n.1 (z ▸ fa), fun z => n.2 (z ▸ fa)⟩
  nd3 := p2.nd3
  fo a f := p2.fo a (by rw [x.fo]; exact .inl f)
  nd4 := p.nd4
  nd5 q m := ⟨fun z => (p2.nd5 q m).1 (by rw [x.fo]; exact .inl z), fun z => (p2.nd5 q m).2 (by rw [x.fo]; exact .inl z)⟩
  pas := p.pas
end
section
variable {K : KX} {W : Wd} {H : Hp} {h : Hl}
theorem giveP_ok (et : ET) (p : Pre K W H h) : ∀ {ps : List P} {vs : List V} {ks : List Nat} {hc : Hl} {k : List P → List Nat → Hl → Prop}, RPs K W H ps vs → giveP h ps ks hc k → Gv W h ks hc →
    ∃ qs ks' hc', k qs ks' hc' ∧ Gv W h ks' hc' ∧ (∃ more, ks' = ks ++ more) ∧ RPs (kx0 K.fr et) (W.give ks') H qs vs
  | [], vs, ks, hc, k, r, q, g => ⟨[], ks, hc, q, g, ⟨[], by simp⟩, r⟩
  | .d x :: ps, vs, ks, hc, k, r, q, g => by
    obtain ⟨v, r', rfl, r1, r2⟩ := r
    obtain ⟨qs, ks', hc', q1, g1, m, r3⟩ := giveP_ok et p r2 q g
    exact ⟨.d x :: qs, ks', hc', q1, g1, m, v, r', rfl, RD.tr (give_tr g1) x v r1, r3⟩
  | .ref n :: ps, vs, ks, hc, k, r, q, g => by
    obtain ⟨v, r', rfl, r1, r2⟩ := r
    unfold giveP at q
    split at q
    · rename_i xs e
      obtain ⟨nc, q⟩ := q
      obtain ⟨a, rfl, ea⟩ := r1
      rw [cellAt_eq] at e
      have nk : n ∉ ks := fun z => by
        rw [List.contains_iff_mem.mpr z] at nc
        cases nc
      have g2 : Gv W h (ks ++ [n]) (hc ++ [.lst xs]) := by
        refine ⟨by simp [g.len], List.nodup_append.mpr ⟨g.nd, by simp, fun a ha b hb => ?_⟩, fun i m em => ?_⟩
        · rw [List.mem_singleton] at hb
          subst hb
          exact fun z => nk (z ▸ ha)
        · rcases get_app em with ⟨hi, em⟩ | ⟨hi, em⟩
          · obtain ⟨a', xs', h1, h2, h3⟩ := g.at_ i m em
            exact ⟨a', xs', h1, h2, app_keep h3⟩
          · have hi2 : i - ks.length = 0 := by
              have := (List.getElem?_eq_some_iff.mp em).1
              simp at this
              omega
            rw [hi2] at em
            cases em
            refine ⟨a, xs, ea, e, ?_⟩
            rw [List.getElem?_append_right (by rw [g.len]; exact hi), g.len, hi2]
            rfl
      obtain ⟨qs, ks', hc', q1, g1, ⟨more, em⟩, r3⟩ := giveP_ok et p r2 q g2
      refine ⟨.ref ks.length :: qs, ks', hc', q1, g1, ⟨[n] ++ more, by rw [em]; simp⟩, .ref a, r', rfl, ⟨a, rfl, (give_al g1).mpr ⟨n, ?_, ea⟩⟩, r3⟩
      rw [em]
      simp
    · exact q.elim
  | .tc _ :: _, _, _, _, _, _, q, _ => q.elim
  | .ex _ _ :: _, _, _, _, _, _, q, _ => q.elim
theorem call_M {sp : GSpM} {ps : List P} {vs : List V} {post : P → Hl → Prop} {Q : VK} {E : XK} (p : Pre K W H h) (r : RPs K W H ps vs) (q : giveP h ps [] [] fun qs ks hc => sp qs hc (backP ks h post)) (f : Fin K W H post Q) : upSpM K.fr K.et sp vs H Q E := by
  obtain ⟨qs, ks, hc, q1, g, _, r1⟩ := giveP_ok K.et p r q ⟨rfl, List.nodup_nil, fun i n e => by simp at e⟩
  refine ⟨W.give ks, qs, hc, _, p.toPre0.give g, pas_give g, r1, q1, fun x hr W' H' v q2 p2 lr x2 r2 => ?_⟩
  have q3 : putB ks hr h fun h2 => post (.d x) h2 := q2
  obtain ⟨lst, _, q4⟩ := putB_ok q3
  have y := Ext.back g x2 p2 lr lst
  exact f _ _ _ _ _ q4 (p.step y.toExS (p.toPre0.back g x2 p2 lr lst)) y (RD.tr (⟨fun b o e n => ⟨e, fun z => n ((back_own g x2 p2 lr lst).mp z)⟩, fun _ q => q⟩ : Tr W'.own W'.rg H' (W.back W').own (W.back W').rg H') x v r2)
end
section
variable {X : CxE} {k : Nat} {f : Addr} {fd : FuncData} {ps : List Str} {sp : GSpM} {x : Str} {p pos : Pos} {e : Expr} {es : List Expr} {t : GA}
theorem callM_up {τ : L2.St} {H : Hp} {Q : VK} (q : up X.kx (gCallM sp t) τ H Q) : tCall (upSpM X.K X.et sp) [] E0 (upA X.kx t) τ H Q := by
  obtain ⟨W, h, σ, post, p, g, q, f⟩ := q
  refine ⟨W, h, σ, _, p, g, q, fun ps h1 W1 H1 vs q1 p1 x1 r1 => ?_⟩
  show upSpM X.K X.et sp (vs ++ []) H1 Q E0
  rw [List.append_nil]
  exact call_M p1 r1 q1 (fun z h2 W2 H2 v q p2 x2 r => f z h2 W2 H2 v q p2 (x1.trans x2) r)
theorem e_callM (F : FnOk X.prog X.w X.K X.mg X.base (L2.CX X.prog X.w) k f fd ps (upSpM X.K X.et sp)) (hr : Room k X.A) (hm : X.mg x = some (.ref f)) (hk : PySem.W.keepIn X.K (.ref f) = true) (hb : Binds X.K fd ps []) (ha : EA X (e :: es) t) (hg : Gl X x := by rfl) (hdb : (x == ("__debug__" : Str)) = false := by decide)
    (he : starEach (e :: es) X.env = (false, eval e X.env) :: starEach es X.env := by rfl) (hpl : (backTo pos (starEach es X.env)).any (·.1) = false := by rfl) : E X (.Call (.Name x p) (e :: es) [] pos) (gCallM sp t) :=
  PE.weak (pe_call F hr hg hm hk hb .nil passC ha hdb he hpl) fun _ _ _ => callM_up
end
/-! ### promises by the number of parameters -/
def P.okB : P → Bool
  | .tc _ => false
  | .ex _ _ => false
  | _ => true
theorem okB_no {ps : List P} (h : ps.all P.okB = true) : ∀ p ∈ ps, p.noEx := fun p hp => by
  have := List.all_eq_true.mp h p hp
  cases p with
  | ex => cases this
  | tc => cases this
  | _ => trivial
def KeepsM (N : List Str) (t : GS) (sp : GSpM) : Prop := ∀ ps h post, sp ps h post → t (retM h.length post) (startM N ps) h
def sp1M (f : P → Hl → (P → Hl → Prop) → Prop) : GSpM := fun ps h Q => match ps with
  | [a] => [a].all P.okB = true ∧ f a h Q
  | _ => False
theorem sp1M_len {f} : ∀ xs h post, sp1M f xs h post → xs.length = 1 := fun xs h post q => by
  match xs, q with | [_], _ => rfl
theorem sp1M_no {f} : ∀ xs h post, sp1M f xs h post → ∀ p ∈ xs, p.noEx := fun xs h post q => by
  match xs, q with | [_], q => exact okB_no q.1
theorem keeps1M {N : List Str} {t : GS} {f} (h : ∀ a hp Q, [a].all P.okB = true → f a hp Q → t (retM hp.length Q) (startM N [a]) hp) : KeepsM N t (sp1M f) := fun xs hp post q => by
  match xs, q with | [_], q => exact h _ _ _ q.1 q.2
def sp2M (f : P → P → Hl → (P → Hl → Prop) → Prop) : GSpM := fun ps h Q => match ps with
  | [a, b] => [a, b].all P.okB = true ∧ f a b h Q
  | _ => False
theorem sp2M_len {f} : ∀ xs h post, sp2M f xs h post → xs.length = 2 := fun xs h post q => by
  match xs, q with | [_, _], _ => rfl
theorem sp2M_no {f} : ∀ xs h post, sp2M f xs h post → ∀ p ∈ xs, p.noEx := fun xs h post q => by
  match xs, q with | [_, _], q => exact okB_no q.1
theorem keeps2M {N : List Str} {t : GS} {f} (h : ∀ a b hp Q, [a, b].all P.okB = true → f a b hp Q → t (retM hp.length Q) (startM N [a, b]) hp) : KeepsM N t (sp2M f) := fun xs hp post q => by
  match xs, q with | [_, _], q => exact h _ _ _ _ q.1 q.2
def sp3M (f : P → P → P → Hl → (P → Hl → Prop) → Prop) : GSpM := fun ps h Q => match ps with
  | [a, b, c] => [a, b, c].all P.okB = true ∧ f a b c h Q
  | _ => False
theorem sp3M_len {f} : ∀ xs h post, sp3M f xs h post → xs.length = 3 := fun xs h post q => by
  match xs, q with | [_, _, _], _ => rfl
theorem sp3M_no {f} : ∀ xs h post, sp3M f xs h post → ∀ p ∈ xs, p.noEx := fun xs h post q => by
  match xs, q with | [_, _, _], q => exact okB_no q.1
theorem keeps3M {N : List Str} {t : GS} {f} (h : ∀ a b c hp Q, [a, b, c].all P.okB = true → f a b c hp Q → t (retM hp.length Q) (startM N [a, b, c]) hp) : KeepsM N t (sp3M f) := fun xs hp post q => by
  match xs, q with | [_, _, _], q => exact h _ _ _ _ _ q.1 q.2
def sp4M (f : P → P → P → P → Hl → (P → Hl → Prop) → Prop) : GSpM := fun ps h Q => match ps with
  | [a, b, c, d] => [a, b, c, d].all P.okB = true ∧ f a b c d h Q
  | _ => False
theorem sp4M_len {f} : ∀ xs h post, sp4M f xs h post → xs.length = 4 := fun xs h post q => by
  match xs, q with | [_, _, _, _], _ => rfl
theorem sp4M_no {f} : ∀ xs h post, sp4M f xs h post → ∀ p ∈ xs, p.noEx := fun xs h post q => by
  match xs, q with | [_, _, _, _], q => exact okB_no q.1
theorem keeps4M {N : List Str} {t : GS} {f} (h : ∀ a b c d hp Q, [a, b, c, d].all P.okB = true → f a b c d hp Q → t (retM hp.length Q) (startM N [a, b, c, d]) hp) : KeepsM N t (sp4M f) := fun xs hp post q => by
  match xs, q with | [_, _, _, _], q => exact h _ _ _ _ _ _ q.1 q.2
def sp5M (f : P → P → P → P → P → Hl → (P → Hl → Prop) → Prop) : GSpM := fun ps h Q => match ps with
  | [a, b, c, d, e] => [a, b, c, d, e].all P.okB = true ∧ f a b c d e h Q
  | _ => False
theorem sp5M_len {f} : ∀ xs h post, sp5M f xs h post → xs.length = 5 := fun xs h post q => by
  match xs, q with | [_, _, _, _, _], _ => rfl
theorem sp5M_no {f} : ∀ xs h post, sp5M f xs h post → ∀ p ∈ xs, p.noEx := fun xs h post q => by
  match xs, q with | [_, _, _, _, _], q => exact okB_no q.1
theorem keeps5M {N : List Str} {t : GS} {f} (h : ∀ a b c d e hp Q, [a, b, c, d, e].all P.okB = true → f a b c d e hp Q → t (retM hp.length Q) (startM N [a, b, c, d, e]) hp) : KeepsM N t (sp5M f) := fun xs hp post q => by
  match xs, q with | [_, _, _, _, _], q => exact h _ _ _ _ _ _ _ q.1 q.2
def sp6M (f : P → P → P → P → P → P → Hl → (P → Hl → Prop) → Prop) : GSpM := fun ps h Q => match ps with
  | [a, b, c, d, e, g] => [a, b, c, d, e, g].all P.okB = true ∧ f a b c d e g h Q
  | _ => False
theorem sp6M_len {f} : ∀ xs h post, sp6M f xs h post → xs.length = 6 := fun xs h post q => by
  match xs, q with | [_, _, _, _, _, _], _ => rfl
theorem sp6M_no {f} : ∀ xs h post, sp6M f xs h post → ∀ p ∈ xs, p.noEx := fun xs h post q => by
  match xs, q with | [_, _, _, _, _, _], q => exact okB_no q.1
theorem keeps6M {N : List Str} {t : GS} {f} (h : ∀ a b c d e g hp Q, [a, b, c, d, e, g].all P.okB = true → f a b c d e g hp Q → t (retM hp.length Q) (startM N [a, b, c, d, e, g]) hp) : KeepsM N t (sp6M f) := fun xs hp post q => by
  match xs, q with | [_, _, _, _, _, _], q => exact h _ _ _ _ _ _ _ _ q.1 q.2
/-- no exception is wished -/
abbrev noW : GW := fun _ _ _ _ => False
end Sc

/-! Sc25: list(range(..)) -/
set_option Elab.async false
set_option linter.all false
set_option maxRecDepth 100000
namespace Sc
open PySem PySem.Spec PyProof.Rows L2
/-- a, a + 1, .., b - 1 -/
def rgD (a b : Int) : List D := (List.range (b - a).toNat).map fun i => D.int (a + (i : Nat))
theorem rgD_rds {K : PySem.W.Frag} {own : Addr → Prop} {rg : List (Addr × Addr)} {H : Hp} (a b : Int) : RDs K own rg H (rgD a b) (rgV a b) := by
  unfold rgD rgV
  induction List.range (b - a).toNat with
  | nil => exact RDs.nil
  | cons n r ih => exact RDs.cons (by simp only [RD]) ih
abbrev GR := Sl → Hl → (Int → Int → Hl → Prop) → Prop
def upR (K : KX) (t : GR) : L2.St → Hp → (Int → Int → Hp → Prop) → Prop := fun τ H Q => ∃ W h σ post, Pre K W H h ∧ Sg K W H σ τ ∧ t σ h post ∧ ∀ a b h' W' H', post a b h' → Pre K W' H' h' → Ext W W' H H' → Q a b H'
def ER (X : CxE) (e : Expr) (t : GR) : Prop := PRg X e (upR X.kx t)
def gR1 (ta : GT) : GR := fun σ h Q => ta σ h fun x h1 => match x with
  | .d (.int n) => Q 0 n h1
  | _ => False
def gR2 (ta tb : GT) : GR := fun σ h Q => ta σ h fun x h1 => tb σ h1 fun y h2 => match x, y with
  | .d (.int m), .d (.int n) => Q m n h2
  | _, _ => False
theorem PRg.weak {X : Cx} {e : Expr} {t t' : L2.St → Hp → (Int → Int → Hp → Prop) → Prop} (h : PRg X e t) (w : ∀ τ H Q, t' τ H Q → t τ H Q) : PRg X e t' := fun pins s σ H Q I q => h pins s σ H Q I (w _ _ _ q)
section
variable {X : CxE} {a b e : Expr} {ta tb : GT} {p pos : Pos} {t : GR}
theorem er_1 (hm : X.mg "range" = none) (ha : E X a ta) (hg : Gl X "range" := by rfl) (na : starEach [a] X.env = (false, eval a X.env) :: starEach [] X.env := by rfl) : ER X (.Call (.Name "range" p) [a] [] pos) (gR1 ta) :=
  PRg.weak (prg_1 hg hm ha na) fun τ H Q q => by
    obtain ⟨W, h, σ, post, pp, g, q, f⟩ := q
    refine ⟨W, h, σ, _, pp, g, q, fun x h1 W1 H1 v q1 p1 x1 r1 => ?_⟩
    split at q1
    · exact ⟨_, int_of r1, f _ _ h1 W1 H1 q1 p1 x1⟩
    · exact q1.elim
theorem er_2 (hm : X.mg "range" = none) (ha : E X a ta) (hb : E X b tb) (hg : Gl X "range" := by rfl) (na : starEach [a, b] X.env = (false, eval a X.env) :: starEach [b] X.env := by rfl)
    (nb : starEach [b] X.env = (false, eval b X.env) :: starEach [] X.env := by rfl) (hp : (backTo pos (starEach [b] X.env)).any (·.1) = false := by rfl) : ER X (.Call (.Name "range" p) [a, b] [] pos) (gR2 ta tb) :=
  PRg.weak (prg_2 hg hm ha hb na nb hp) fun τ H Q q => by
    obtain ⟨W, h, σ, post, pp, g, q, f⟩ := q
    refine ⟨W, h, σ, _, pp, g, q, fun x h1 W1 H1 v q1 p1 x1 r1 => ?_⟩
    refine ⟨W1, h1, σ, _, p1, g.ext x1, q1, fun y h2 W2 H2 w q2 p2 x2 r2 => ?_⟩
    split at q2
    · exact ⟨_, _, int_of r1, int_of r2, f _ _ h2 W2 H2 q2 p2 (x1.trans x2)⟩
    · exact q2.elim
def gLstR (t : GR) : GT := fun σ h Q => t σ h fun a b h1 => L2.RgOk a b ∧ Q (.d (.lst (rgD a b))) h1
def gLstRM (t : GR) : GT := fun σ h Q => t σ h fun a b h1 => L2.RgOk a b ∧ addCell h1 (.lst (rgD a b)) fun k h2 => Q (.ref k) h2
theorem e_lstR (hm : X.mg "list" = none) (he : ER X e t) (hc : X.calm = true := by rfl) (hg : Gl X "list" := by rfl) (na : starEach [e] X.env = (false, eval e X.env) :: starEach [] X.env := by rfl) : E X (.Call (.Name "list" p) [e] [] pos) (gLstR t) :=
  PE.weak (pe_listRg hc hg hm he na) fun τ H Q q => by
    obtain ⟨W, h, σ, post, pp, g, q, f⟩ := q
    refine ⟨W, h, σ, _, pp, g, q, fun a b h1 W1 H1 q1 p1 x1 => ⟨q1.1, fin_lst p1 (rgD_rds a b) (fun z h2 W2 H2 v q p2 x2 r => f z h2 W2 H2 v q p2 (x1.trans x2) r) q1.2⟩⟩
theorem e_lstRM (hm : X.mg "list" = none) (he : ER X e t) (hc : X.calm = true := by rfl) (hg : Gl X "list" := by rfl) (na : starEach [e] X.env = (false, eval e X.env) :: starEach [] X.env := by rfl) : E X (.Call (.Name "list" p) [e] [] pos) (gLstRM t) :=
  PE.weak (pe_listRg hc hg hm he na) fun τ H Q q => by
    obtain ⟨W, h, σ, post, pp, g, q, f⟩ := q
    refine ⟨W, h, σ, _, pp, g, q, fun a b h1 W1 H1 q1 p1 x1 => ⟨q1.1, fin_cell p1 (rgD_rds a b) (fun z h2 W2 H2 v q p2 x2 r => f z h2 W2 H2 v q p2 (x1.trans x2) r) q1.2⟩⟩
end
theorem setAll_mono : ∀ {is : List Nat} {xs : List D} {σ : Sl} {k k' : Sl → Prop}, setAll is xs σ k → (∀ s, k s → k' s) → setAll is xs σ k'
  | [], [], _, _, _, h, hk => hk _ h
  | i :: is, x :: xs, σ, k, k', h, hk => by
    simp only [setAll, setSlot_eq] at h ⊢
    exact setAll_mono h hk
  | [], _ :: _, _, _, _, h, _ => h.elim
  | _ :: _, [], _, _, _, h, _ => h.elim
theorem tup_mono {is : List Nat} {σ : Sl} : ∀ x (k k' : Sl → Prop), (Tgt.tup is).set x σ k → (∀ s, k s → k' s) → (Tgt.tup is).set x σ k' := fun x k k' h hk => by
  simp only [Tgt.set] at h ⊢
  split at h
  · exact setAll_mono h hk
  · exact setAll_mono h hk
  · exact h.elim
def oIAdd : G2 := fun x y h Q => match x, y with
  | .d (.int i), .d (.int j) => Q (.d (.int (i + j))) h
  | _, _ => False
def oISub : G2 := fun x y h Q => match x, y with
  | .d (.int i), .d (.int j) => Q (.d (.int (i - j))) h
  | _, _ => False
theorem og_iadd {X : CxE} : OpR X (inplaceOp .Add) (up2 X.kx oIAdd) := by
  refine OpR.sub iop_add ?_
  rintro v w H Q ⟨W, h, x, y, post, p, rx, ry, q, f⟩
  unfold oIAdd at q
  split at q
  · rw [int_of rx, int_of ry]
    exact ⟨_, _, rfl, rfl, fin0 p f q rd_int⟩
  · exact q.elim
theorem og_isub {X : CxE} : OpR X (inplaceOp .Sub) (up2 X.kx oISub) := by
  refine OpR.sub iop_sub ?_
  rintro v w H Q ⟨W, h, x, y, post, p, rx, ry, q, f⟩
  unfold oISub at q
  split at q
  · rw [int_of rx, int_of ry]
    exact ⟨_, _, rfl, rfl, fin0 p f q rd_int⟩
  · exact q.elim
theorem cut_both {α : Type} {xs : List α} {i j : Nat} (h : i ≤ j) : cutD xs (some (i : Int)) (some (j : Int)) = (xs.drop i).take (j - i) := by
  have h1 : HT.sIx xs.length 0 (some (i : Int)) = min i xs.length := by
    unfold HT.sIx
    simp
    omega
  have h2 : HT.sIx xs.length xs.length (some (j : Int)) = min j xs.length := by
    unfold HT.sIx
    simp
    omega
  unfold cutD
  rw [h1, h2]
  apply List.ext_getElem?
  intro k
  rw [List.getElem?_take, List.getElem?_take, List.getElem?_drop, List.getElem?_drop]
  by_cases hi : i ≤ xs.length
  · rw [Nat.min_eq_left hi]
    by_cases hk : k < j - i
    · rw [if_pos hk]
      by_cases hk2 : k < min j xs.length - i
      · rw [if_pos hk2]
      · rw [if_neg hk2, List.getElem?_eq_none (by omega)]
    · rw [if_neg hk, if_neg (by omega)]
  · rw [if_neg (by omega)]
    by_cases hk : k < j - i
    · rw [if_pos hk, List.getElem?_eq_none (by omega)]
    · rw [if_neg hk]
end Sc

/-! Sc26: loops that hand a new list on from turn to turn; a call that looks at own cells and makes a list -/
set_option Elab.async false
set_option linter.all false
set_option maxRecDepth 100000
namespace Sc
open PySem PySem.Spec PyProof.Rows L2
def renM (k m : Nat) : List Mb → List Mb
  | [] => []
  | .d x :: r => .d x :: renM k m r
  | .r j :: r => match Nat.beq j k with
    | true => .r m :: renM k m r
    | false => .r j :: renM k m r
def renP (k m : Nat) : Option P → Option P
  | some (.ref j) => match Nat.beq j k with
    | true => some (.ref m)
    | false => some (.ref j)
  | some (.tc ms) => some (.tc (renM k m ms))
  | o => o
def renS (k m : Nat) : Sl → (Sl → Prop) → Prop
  | [], c => c []
  | some (.ref j) :: r, c => match Nat.beq j k with
    | true => renS k m r fun q => c (some (.ref m) :: q)
    | false => renS k m r fun q => c (some (.ref j) :: q)
  | some (.tc ms) :: r, c => renS k m r fun q => c (some (.tc (renM k m ms)) :: q)
  | some (.d y) :: r, c => renS k m r fun q => c (some (.d y) :: q)
  | some (.ex fl xs) :: r, c => renS k m r fun q => c (some (.ex fl xs) :: q)
  | none :: r, c => renS k m r fun q => c (none :: q)
theorem renS_eq (k m : Nat) : ∀ (σ : Sl) (c : Sl → Prop), renS k m σ c = c (σ.map (renP k m))
  | [], c => rfl
  | some (.ref j) :: r, c => by
    simp only [renS, List.map_cons, renP]
    cases h : Nat.beq j k <;> simp only <;> rw [renS_eq k m r]
  | some (.tc ms) :: r, c => by simp only [renS, List.map_cons, renP]; rw [renS_eq k m r]
  | some (.d y) :: r, c => by simp only [renS, List.map_cons, renP]; rw [renS_eq k m r]
  | some (.ex fl xs) :: r, c => by simp only [renS, List.map_cons, renP]; rw [renS_eq k m r]
  | none :: r, c => by simp only [renS, List.map_cons, renP]; rw [renS_eq k m r]
/-- the k-th cell is not among them -/
def noM (k : Nat) : List Mb → Bool
  | [] => true
  | .d _ :: r => noM k r
  | .r j :: r => match Nat.beq j k with
    | true => false
    | false => noM k r
def dropKP (k : Nat) : Option P → Option P
  | some (.ref j) => match Nat.beq j k with
    | true => none
    | false => some (.ref j)
  | some (.tc ms) => match noM k ms with
    | true => some (.tc ms)
    | false => none
  | o => o
/-- what holds the k-th cell is forgotten -/
def dropK (k : Nat) : Sl → (Sl → Prop) → Prop
  | [], c => c []
  | some (.ref j) :: r, c => match Nat.beq j k with
    | true => dropK k r fun q => c (none :: q)
    | false => dropK k r fun q => c (some (.ref j) :: q)
  | some (.tc ms) :: r, c => match noM k ms with
    | true => dropK k r fun q => c (some (.tc ms) :: q)
    | false => dropK k r fun q => c (none :: q)
  | some (.d y) :: r, c => dropK k r fun q => c (some (.d y) :: q)
  | some (.ex fl xs) :: r, c => dropK k r fun q => c (some (.ex fl xs) :: q)
  | none :: r, c => dropK k r fun q => c (none :: q)
theorem dropK_eq (k : Nat) : ∀ (σ : Sl) (c : Sl → Prop), dropK k σ c = c (σ.map (dropKP k))
  | [], c => rfl
  | some (.ref j) :: r, c => by
    simp only [dropK, List.map_cons, dropKP]
    cases h : Nat.beq j k <;> simp only <;> rw [dropK_eq k r]
  | some (.tc ms) :: r, c => by
    simp only [dropK, List.map_cons, dropKP]
    cases h : noM k ms <;> simp only <;> rw [dropK_eq k r]
  | some (.d y) :: r, c => by simp only [dropK, List.map_cons, dropKP]; rw [dropK_eq k r]
  | some (.ex fl xs) :: r, c => by simp only [dropK, List.map_cons, dropKP]; rw [dropK_eq k r]
  | none :: r, c => by simp only [dropK, List.map_cons, dropKP]; rw [dropK_eq k r]
/-- the list at slot i gets the last place -/
def liftS (i : Nat) (σ : Sl) (h : Hl) (c : Nat → Sl → Hl → Prop) : Prop := match slotAt σ i with
  | some (.ref k) => match cellAt h k with
    | some (.lst xs) => setCell h k .gone fun h1 => addCell h1 (.lst xs) fun m h2 => renS k m σ fun σ1 => c m σ1 h2
    | _ => False
  | _ => False
/-- the list at slot i gets the m-th place -/
def moveTo (i m : Nat) (c : Sl → Hl → Prop) : Sl → Hl → Prop := fun σ h => match slotAt σ i with
  | some (.ref k) => match Nat.beq k m with
    | true => c σ h
    | false => match cellAt h k, cellAt h m with
      | some (.lst xs), some _ => setCell h k .gone fun h1 => setCell h1 m (.lst xs) fun h2 => dropK m σ fun σ1 => renS k m σ1 fun σ2 => c σ2 h2
      | _, _ => False
  | _ => False
def carry (i m : Nat) (b : GS) : GS := fun D σ h => b { D with nx := moveTo i m D.nx, ct := moveTo i m D.ct } σ h
section
variable {K : KX} {W W' : Wd} {H : Hp} {h h' : Hl} {σ : Sl} {τ : L2.St}
/-- the cells in another order, some given up -/
structure Rea (W W' : Wd) (h h' : Hl) (f : Nat → Nat) : Prop where
  len : W'.al.length = h'.length
  rg : W'.rg = W.rg
  fo : W'.fo = W.fo
  gh : W'.gh = W.gh
  at_ : ∀ (j : Nat) a, W'.al[j]? = some (some a) → W.al[f j]? = some (some a) ∧ h'[j]? = h[f j]?
  non : ∀ (j : Nat), W'.al[j]? = some none → h'[j]? = some .gone
  inj : ∀ (i j : Nat) a, W'.al[i]? = some (some a) → W'.al[j]? = some (some a) → i = j
  pas : ∀ (i : Nat) a, W.fo.pa[i]? = some a → W'.al[i]? = some none ∨ W'.al[i]? = some (some a)
theorem Rea.own {f : Nat → Nat} (r : Rea W W' h h' f) {a : Addr} (o : W'.own a) : W.own a := by
  rcases o with ⟨j, e⟩ | o | o
  · exact .inl ⟨f j, (r.at_ j a e).1⟩
  · rw [r.rg] at o; exact .inr (.inl o)
  · rw [r.fo] at o; exact .inr (.inr o)
theorem Rea.ExS {f : Nat → Nat} (r : Rea W W' h h' f) : ExS W W' H H := ⟨fun _ _ e _ => e, fun _ _ e _ => e, fun a o => .inl (r.own o), fun p m => by rw [r.rg]; exact m, r.fo, r.gh⟩
theorem Rea.pre {f : Nat → Nat} (r : Rea W W' h h' f) (p : Pre K W H h) : Pre K W' H h' := by
  refine p.step r.ExS ⟨r.len, fun k c oa h1 h2 => ?_, by rw [r.rg]; exact p.rng, r.inj, fun i a h1 => by rw [r.rg]; exact p.nd2 _ a (r.at_ i a h1).1, by rw [r.rg]; exact p.nd3, by rw [r.fo]; exact p.fo, fun i a h1 => by rw [r.fo]; exact p.nd4 _ a (r.at_ i a h1).1, by rw [r.rg, r.fo]; exact p.nd5, by rw [r.fo]; exact r.pas⟩
  cases oa with
  | none =>
    rw [r.non k h2] at h1
    cases h1
    trivial
  | some a =>
    obtain ⟨h3, h4⟩ := r.at_ k a h2
    rw [h4] at h1
    exact RC.ext r.ExS (fun b ys _ q => q) (p.cel _ c _ h1 h3)
theorem RMs.ren {k m : Nat} {a : Addr} (x : ExS W W' H H) (h1 : W.al[k]? = some (some a)) (h2 : W'.al[m]? = some (some a)) (h3 : ∀ j, j ≠ k → j ≠ m → W'.al[j]? = W.al[j]?) : ∀ {ms : List Mb} {ys : List V}, noM m ms = true ∨ k = m → RMs K W H ms ys → RMs K W' H (renM k m ms) ys
  | [], _, _, r => r
  | .d x0 :: ms, _, n, ⟨y, r, e, q1, q2⟩ => ⟨y, r, e, RD.ext x _ _ q1, RMs.ren x h1 h2 h3 (n.imp (fun z => z) id) q2⟩
  | .r j :: ms, _, n, ⟨y, r, e, ⟨b, e1, q1⟩, q2⟩ => by
    simp only [renM]
    have n2 : noM m ms = true ∨ k = m := n.imp (fun z => by
      simp only [noM] at z
      split at z
      · cases z
      · exact z) id
    split
    · rename_i hb
      have : j = k := Nat.eq_of_beq_eq_true hb
      subst this
      rw [h1] at q1
      cases q1
      exact ⟨y, r, e, ⟨a, e1, h2⟩, RMs.ren x h1 h2 h3 n2 q2⟩
    · rename_i hb
      have hjk : j ≠ k := fun z => by subst z; rw [Nat.beq_refl] at hb; cases hb
      have hjm : j ≠ m := fun z => by
        rcases n with n | n
        · simp only [noM] at n
          subst z
          rw [Nat.beq_refl] at n
          cases n
        · exact hjk (z.trans n.symm)
      exact ⟨y, r, e, ⟨b, e1, by rw [h3 j hjk hjm]; exact q1⟩, RMs.ren x h1 h2 h3 n2 q2⟩
/-- the slots, the k-th cell being called m -/
theorem Sg.ren {k m : Nat} {a : Addr} (x : ExS W W' H H) (h1 : W.al[k]? = some (some a)) (h2 : W'.al[m]? = some (some a)) (h3 : ∀ j, j ≠ k → j ≠ m → W'.al[j]? = W.al[j]?) (g : Sg K W H σ τ)
    (n1 : ∀ (i j : Nat), σ[i]? = some (some (.ref j)) → j ≠ m) (n2 : ∀ (i : Nat) ms, σ[i]? = some (some (.tc ms)) → noM m ms = true) : Sg K W' H (σ.map (renP k m)) τ := by
  refine ⟨by rw [List.length_map, g.len], fun i p e => ?_⟩
  rw [List.getElem?_map] at e
  cases e1 : σ[i]? with
  | none => rw [e1] at e; cases e
  | some o =>
    rw [e1] at e
    simp only [Option.map_some, Option.some.injEq] at e
    cases o with
    | none => cases e
    | some q =>
      obtain ⟨v, h4, h5⟩ := g.val i _ e1
      refine ⟨v, h4, ?_⟩
      cases q with
      | d x0 =>
        simp only [renP, Option.some.injEq] at e
        subst e
        exact RD.ext x _ _ h5
      | ex fl xs =>
        simp only [renP, Option.some.injEq] at e
        subst e
        refine ⟨by rw [x.gh]; exact h5.1, ?_⟩
        rw [x.gh]
        exact RF.tr x.tr h5.2
      | tc ms =>
        simp only [renP, Option.some.injEq] at e
        subst e
        obtain ⟨b, ys, e2, e3, e4⟩ := h5
        exact ⟨b, ys, e2, QT.tr x.tr e3, RMs.ren x h1 h2 h3 (.inl (n2 i ms e1)) e4⟩
      | ref j =>
        obtain ⟨b, e2, e3⟩ := h5
        simp only [renP] at e
        split at e
        · rename_i hb
          have : j = k := Nat.eq_of_beq_eq_true hb
          subst this
          cases e
          rw [h1] at e3
          cases e3
          exact ⟨a, e2, h2⟩
        · rename_i hb
          cases e
          have hjk : j ≠ k := fun z => by subst z; rw [Nat.beq_refl] at hb; cases hb
          exact ⟨b, e2, by rw [h3 j hjk (n1 i j e1)]; exact e3⟩
theorem Sg.dropK (g : Sg K W H σ τ) (m : Nat) : Sg K W H (σ.map (dropKP m)) τ := by
  refine ⟨by rw [List.length_map, g.len], fun i p e => ?_⟩
  rw [List.getElem?_map] at e
  cases e1 : σ[i]? with
  | none => rw [e1] at e; cases e
  | some o =>
    rw [e1] at e
    simp only [Option.map_some, Option.some.injEq] at e
    cases o with
    | none => cases e
    | some q =>
      have : p = q := by
        cases q with
        | d => simp only [dropKP, Option.some.injEq] at e; exact e.symm
        | ex => simp only [dropKP, Option.some.injEq] at e; exact e.symm
        | ref j => simp only [dropKP] at e; split at e <;> first | cases e; rfl | cases e
        | tc ms => simp only [dropKP] at e; split at e <;> first | cases e; rfl | cases e
      subst this
      exact g.val i _ e1
theorem dropK_no (σ : Sl) (m : Nat) : (∀ (i j : Nat), (σ.map (dropKP m))[i]? = some (some (.ref j)) → j ≠ m) ∧ ∀ (i : Nat) ms, (σ.map (dropKP m))[i]? = some (some (.tc ms)) → noM m ms = true := by
  have key : ∀ (i : Nat) p, (σ.map (dropKP m))[i]? = some (some p) → dropKP m (some p) = some p := fun i p e => by
    rw [List.getElem?_map] at e
    cases e1 : σ[i]? with
    | none => rw [e1] at e; cases e
    | some o =>
      rw [e1] at e
      simp only [Option.map_some, Option.some.injEq] at e
      cases o with
      | none => cases e
      | some q =>
        have : q = p := by
          cases q with
          | d => simp only [dropKP, Option.some.injEq] at e; exact e
          | ex => simp only [dropKP, Option.some.injEq] at e; exact e
          | ref j => simp only [dropKP] at e; split at e <;> first | cases e; rfl | cases e
          | tc ms => simp only [dropKP] at e; split at e <;> first | cases e; rfl | cases e
        subst this
        exact e
  refine ⟨fun i j e z => ?_, fun i ms e => ?_⟩
  · have := key i _ e
    subst z
    simp only [dropKP] at this
    rw [Nat.beq_refl] at this
    cases this
  · have := key i _ e
    simp only [dropKP] at this
    split at this
    · assumption
    · cases this
theorem lift_ok {i : Nat} {c : Nat → Sl → Hl → Prop} (q : liftS i σ h c) (p : Pre K W H h) (g : Sg K W H σ τ) : ∃ m σ' h' W', c m σ' h' ∧ Pre K W' H h' ∧ Sg K W' H σ' τ ∧ ExS W W' H H ∧ W'.fo.pa.length ≤ m := by
  unfold liftS at q
  split at q
  · split at q
    · rename_i k es _ xs ec
      rw [setCell_eq, addCell_eq, renS_eq] at q
      obtain ⟨v, e1, a, e2, e3⟩ := g.val i _ (slotAt_eq _ _ _ es)
      have hk : k < W.al.length := (List.getElem?_eq_some_iff.mp e3).1
      have hl : (h.set k Cell.gone).length = W.al.length := by rw [List.length_set, p.toPre0.len]
      rw [hl] at q
      have alk : ∀ j, ((W.al.set k none) ++ [some a])[j]? = if j = k then some none else if j < W.al.length then W.al[j]? else if j = W.al.length then some (some a) else none := fun j => by
        rw [List.getElem?_append, List.length_set]
        by_cases hj : j < W.al.length
        · rw [if_pos hj, List.getElem?_set]
          by_cases hjk : k = j
          · rw [if_pos hjk, if_pos hk, if_pos hjk.symm]
          · rw [if_neg hjk, if_neg (fun z => hjk z.symm), if_pos hj]
        · rw [if_neg hj, if_neg (by omega), if_neg hj]
          by_cases hz : j = W.al.length
          · subst hz; simp
          · rw [if_neg hz]
            have : j - W.al.length = (j - W.al.length - 1) + 1 := by omega
            rw [this]
            simp
      have al_out : ∀ j, W.al.length ≤ j → W.al[j]? = none := fun j hj => List.getElem?_eq_none hj
      have R : Rea W ⟨(W.al.set k none) ++ [some a], W.rg, W.fo, W.gh⟩ h ((h.set k Cell.gone) ++ [Cell.lst xs]) fun j => if j = W.al.length then k else j := by
        have hh : ∀ j, ((h.set k Cell.gone) ++ [Cell.lst xs])[j]? = if j = k then some Cell.gone else if j < W.al.length then h[j]? else if j = W.al.length then some (.lst xs) else none := fun j => by
          have hlen := p.toPre0.len
          rw [List.getElem?_append, List.length_set]
          by_cases hj : j < W.al.length
          · rw [if_pos (by omega), List.getElem?_set]
            by_cases hjk : k = j
            · rw [if_pos hjk, if_pos (by omega), if_pos hjk.symm]
            · rw [if_neg hjk, if_neg (fun z => hjk z.symm), if_pos hj]
          · rw [if_neg (by omega), if_neg (by omega), if_neg hj]
            by_cases hz : j = W.al.length
            · rw [if_pos hz]
              have : j - h.length = 0 := by omega
              rw [this]; rfl
            · rw [if_neg hz]
              have : j - h.length = (j - h.length - 1) + 1 := by omega
              rw [this]
              simp
        refine ⟨by simp [p.toPre0.len], rfl, rfl, rfl, fun j b e => ?_, fun j e => ?_, fun j1 j2 b h1 h2 => ?_, fun j b e => ?_⟩
        · have e' : ((W.al.set k none) ++ [some a])[j]? = some (some b) := e
          rw [alk] at e'
          rw [hh]
          split at e'
          · cases e'
          · split at e'
            · rename_i n1 hj
              rw [if_neg (by omega), if_neg n1, if_pos hj]
              exact ⟨e', rfl⟩
            · split at e'
              · rename_i n1 n2 hz
                cases e'
                rw [if_pos hz, if_neg n1, if_neg n2, if_pos hz, ← cellAt_eq, ec]
                exact ⟨e3, rfl⟩
              · cases e'
        · have e' : ((W.al.set k none) ++ [some a])[j]? = some none := e
          rw [alk] at e'
          rw [hh]
          split at e'
          · rename_i hj; rw [if_pos hj]
          · split at e'
            · rename_i n1 hj
              rw [if_neg n1, if_pos hj]
              have hj2 : j < h.length := by rw [← p.toPre0.len]; exact hj
              have r := p.toPre0.cel j _ _ (List.getElem?_eq_getElem hj2) e'
              rw [List.getElem?_eq_getElem hj2]
              cases hc : h[j] with
              | gone => rfl
              | lst zs => rw [hc] at r; exact r.elim
            · split at e' <;> cases e'
        · have h1' : ((W.al.set k none) ++ [some a])[j1]? = some (some b) := h1
          have h2' : ((W.al.set k none) ++ [some a])[j2]? = some (some b) := h2
          rw [alk] at h1' h2'
          split at h1'
          · cases h1'
          · split at h1'
            · split at h2'
              · cases h2'
              · split at h2'
                · exact p.toPre0.nd1 _ _ b h1' h2'
                · split at h2'
                  · rename_i nj _ _ _ _
                    cases h2'
                    exact (nj (p.toPre0.nd1 _ _ _ h1' e3)).elim
                  · cases h2'
            · split at h1'
              · cases h1'
                split at h2'
                · cases h2'
                · split at h2'
                  · rename_i nj _
                    exact (nj (p.toPre0.nd1 _ _ _ h2' e3)).elim
                  · split at h2'
                    · omega
                    · cases h2'
              · cases h1'
        · have q := p.toPre0.pas j b e
          show ((W.al.set k none) ++ [some a])[j]? = some none ∨ ((W.al.set k none) ++ [some a])[j]? = some (some b)
          rw [alk]
          have hj : j < W.al.length := by rcases q with z | z <;> exact (List.getElem?_eq_some_iff.mp z).1
          by_cases hjk : j = k
          · rw [if_pos hjk]; exact .inl rfl
          · rw [if_neg hjk, if_pos hj]; exact q
      refine ⟨_, _, _, _, q, R.pre p, Sg.ren (k := k) (a := a) R.ExS e3 ?_ ?_ g ?_ ?_, R.ExS, ?_⟩
      · show ((W.al.set k none) ++ [some a])[_]? = _
        rw [alk, if_neg (by omega), if_neg (by omega), if_pos rfl]
      · intro j h1 h2
        show ((W.al.set k none) ++ [some a])[j]? = _
        rw [alk, if_neg h1]
        by_cases hj : j < W.al.length
        · rw [if_pos hj]
        · rw [if_neg hj, al_out j (by omega)]
          exact if_neg h2
      · intro i2 j e z
        obtain ⟨v2, _, b, _, e5⟩ := g.val i2 _ e
        have := (List.getElem?_eq_some_iff.mp e5).1
        omega
      · intro i2 ms e
        obtain ⟨v2, ev, b, ys, eb, qt, e5⟩ := g.val i2 _ e
        clear e eb qt ev
        induction ms generalizing ys with
        | nil => rfl
        | cons mm ms ih =>
          obtain ⟨y, r, _, h6, h7⟩ := e5
          cases mm with
          | d x => exact ih r h7
          | r j =>
            obtain ⟨b2, _, e6⟩ := h6
            have := (List.getElem?_eq_some_iff.mp e6).1
            simp only [noM]
            split
            · rename_i hb
              have := Nat.eq_of_beq_eq_true hb
              omega
            · exact ih r h7
      · have := p.toPre0.pal
        rw [← p.toPre0.len] at this
        exact this
    · exact q.elim
  · exact q.elim
theorem move_ok {i m : Nat} {c : Sl → Hl → Prop} (q : moveTo i m c σ h) (p : Pre K W H h) (g : Sg K W H σ τ) (hm : W.fo.pa.length ≤ m) : ∃ σ' h' W', c σ' h' ∧ Pre K W' H h' ∧ Sg K W' H σ' τ ∧ ExS W W' H H := by
  unfold moveTo at q
  split at q
  · split at q
    · exact ⟨σ, h, W, q, p, g, ExS.refl⟩
    · rename_i k es _ hkm
      split at q
      · rename_i xs c2 ec ec2
        rw [setCell_eq, setCell_eq, dropK_eq, renS_eq] at q
        have nkm : k ≠ m := fun z => by subst z; rw [Nat.beq_refl] at hkm; cases hkm
        obtain ⟨v, e1, a, e2, e3⟩ := g.val i _ (slotAt_eq _ _ _ es)
        have hk : k < W.al.length := (List.getElem?_eq_some_iff.mp e3).1
        have hlen := p.toPre0.len
        have hml : m < W.al.length := by
          rw [cellAt_eq] at ec2
          have := (List.getElem?_eq_some_iff.mp ec2).1
          omega
        have alk : ∀ j, ((W.al.set k none).set m (some a))[j]? = if j = m then some (some a) else if j = k then some none else W.al[j]? := fun j => by
          rw [List.getElem?_set, List.length_set]
          by_cases h1 : m = j
          · rw [if_pos h1, if_pos (by omega), if_pos h1.symm]
          · rw [if_neg h1, if_neg (fun z => h1 z.symm), List.getElem?_set]
            by_cases h2 : k = j
            · rw [if_pos h2, if_pos (by omega), if_pos h2.symm]
            · rw [if_neg h2, if_neg (fun z => h2 z.symm)]
        have hh : ∀ j, ((h.set k Cell.gone).set m (Cell.lst xs))[j]? = if j = m then some (.lst xs) else if j = k then some .gone else h[j]? := fun j => by
          rw [List.getElem?_set, List.length_set]
          by_cases h1 : m = j
          · rw [if_pos h1, if_pos (by omega), if_pos h1.symm]
          · rw [if_neg h1, if_neg (fun z => h1 z.symm), List.getElem?_set]
            by_cases h2 : k = j
            · rw [if_pos h2, if_pos (by omega), if_pos h2.symm]
            · rw [if_neg h2, if_neg (fun z => h2 z.symm)]
        have R : Rea W ⟨(W.al.set k none).set m (some a), W.rg, W.fo, W.gh⟩ h ((h.set k Cell.gone).set m (Cell.lst xs)) fun j => if j = m then k else j := by
          refine ⟨by simp [hlen], rfl, rfl, rfl, fun j b e => ?_, fun j e => ?_, fun j1 j2 b h1 h2 => ?_, fun j b e => ?_⟩
          · have e' : ((W.al.set k none).set m (some a))[j]? = some (some b) := e
            rw [alk] at e'
            rw [hh]
            split at e'
            · rename_i hj
              cases e'
              rw [if_pos hj, if_pos hj, ← cellAt_eq, ec]
              exact ⟨e3, rfl⟩
            · rename_i n1
              split at e'
              · cases e'
              · rename_i n2
                rw [if_neg n1, if_neg n1, if_neg n2]
                exact ⟨e', rfl⟩
          · have e' : ((W.al.set k none).set m (some a))[j]? = some none := e
            rw [alk] at e'
            rw [hh]
            split at e'
            · cases e'
            · rename_i n1
              rw [if_neg n1]
              split at e'
              · rename_i n2; rw [if_pos n2]
              · rename_i n2
                rw [if_neg n2]
                have hj2 : j < h.length := by rw [← hlen]; exact (List.getElem?_eq_some_iff.mp e').1
                have r := p.toPre0.cel j _ _ (List.getElem?_eq_getElem hj2) e'
                rw [List.getElem?_eq_getElem hj2]
                cases hc : h[j] with
                | gone => rfl
                | lst zs => rw [hc] at r; exact r.elim
          · have h1' : ((W.al.set k none).set m (some a))[j1]? = some (some b) := h1
            have h2' : ((W.al.set k none).set m (some a))[j2]? = some (some b) := h2
            rw [alk] at h1' h2'
            split at h1'
            · cases h1'
              split at h2'
              · omega
              · split at h2'
                · cases h2'
                · rename_i nj
                  exact (nj (p.toPre0.nd1 _ _ _ h2' e3)).elim
            · split at h1'
              · cases h1'
              · split at h2'
                · rename_i nj _
                  cases h2'
                  exact (nj (p.toPre0.nd1 _ _ _ h1' e3)).elim
                · split at h2'
                  · cases h2'
                  · exact p.toPre0.nd1 _ _ b h1' h2'
          · have q := p.toPre0.pas j b e
            have hj : j < m := by
              have := (List.getElem?_eq_some_iff.mp e).1
              omega
            show ((W.al.set k none).set m (some a))[j]? = some none ∨ ((W.al.set k none).set m (some a))[j]? = some (some b)
            rw [alk, if_neg (by omega)]
            by_cases hjk : j = k
            · rw [if_pos hjk]; exact .inl rfl
            · rw [if_neg hjk]; exact q
        obtain ⟨n1, n2⟩ := dropK_no σ m
        refine ⟨_, _, _, q, R.pre p, Sg.ren (k := k) (a := a) R.ExS e3 ?_ ?_ (g.dropK m) n1 n2, R.ExS⟩
        · show ((W.al.set k none).set m (some a))[m]? = _
          rw [alk, if_pos rfl]
        · intro j h1 h2
          show ((W.al.set k none).set m (some a))[j]? = _
          rw [alk, if_neg h2, if_neg h1]
      · exact q.elim
  · exact q.elim
end
/-- a loop that hands the list at slot i on -/
def gForC (ks : List Nat) (i : Nat) (src : GI) (g : GG) (b : GS) : GS := fun D σ h => src σ h fun its h1 => killS ks σ fun q => liftS i q h1 fun m σ' h' => ForP its ks (m + 1) g (carry i m b) D σ' h'
theorem s_forC {X : CxE} {tg iter : Expr} {body : List Stmt} {src : GI} {g : GG} {tb : GS} {pos : Pos} (ks : List Nat) (ci : Nat) (hp : PassesOwn (model X.prog X.w) X.A X.env X.xe) (hc : X.calm = true) (hi : I X tg iter src) (hg : G X tg g) (hb : Ss X body tb)
    (hs : ∀ x, foldedSetIterable iter X.env x = pure x := by intro _; rfl) : S X (.For tg iter body [] pos) (gForC ks ci src g tb) :=
  PS.weak (ps_for hp hc hi hg hb hs) fun D τ H ⟨W, h, σ, Gd, p, gg, q, f⟩ => by
    refine ⟨W, h, σ, _, p, gg, q, fun its h1 W1 H1 J q1 p1 x1 so => ?_⟩
    obtain ⟨σ0, q1, g0⟩ := killS_ok q1 (gg.ext x1)
    obtain ⟨mm, σ00, h00, W00, q1, p00, g00, x00, hmm⟩ := lift_ok q1 p1 g0
    obtain ⟨Pv, q0, qs, qd⟩ := q1.ex
    refine ⟨fun i m τ' H' => i + m = its.length ∧ ∃ W' h' σ', Pre X.kx W' H' h' ∧ Sg X.kx W' H' σ' τ' ∧ ExS W1 W' H1 H' ∧ Pv i σ' h', ⟨its.length, Nat.zero_add _, W00, h00, σ00, p00, g00, x00, q0⟩, ?_⟩
    rintro i m τ2 H2 ⟨em, W2, h2, σ2, p2, g2, x2, q2⟩
    have x12 := x1.toExS.trans x2
    have fo1 : W1.fo.pa.length ≤ mm := by rw [← x00.fo]; exact hmm
    cases m with
    | zero =>
      have ei : i = its.length := by omega
      subst ei
      exact .inl ⟨so.stop W2 H2 h2 p2 x2, f.nx _ h2 W2 H2 τ2 (qd _ _ q2) p2 x12 g2⟩
    | succ m =>
      have hi : i < its.length := by omega
      refine .inr ⟨so.go W2 H2 h2 p2 x2 i hi, fun τ' H' => ∃ W' h' σ', Pre X.kx W' H' h' ∧ Sg X.kx W' H' σ' τ' ∧ ExS W1 W' H1 H' ∧ Pv (i + 1) σ' h', fun τ' H' ⟨W', h', σ', a1, a2, a3, a4⟩ => ⟨m, Nat.lt_succ_self m, by omega, W', h', σ', a1, a2, a3, a4⟩, fun v H3 hy => ?_⟩
      obtain ⟨z, ez, p3, x3, r3⟩ := so.yld W2 H2 h2 p2 x2 i v H3 hy hi
      refine ⟨W2, h2, σ2, .d z, _, p3, g2.ext x3, r3, qs i z σ2 h2 ez q2, fun σ4 h4 W4 H4 τ4 q4 p4 x4 g4 => ?_⟩
      have x24 := x3.toExS.trans x4
      refine ⟨W4, h4, σ4, _, p4, g4, q4, ⟨fun σ5 h5 W5 H5 τ5 q5 p5 x5 g5 => ?_, fun u h5 W5 H5 w q5 p5 x5 r5 => f.rt u h5 W5 H5 w q5 p5 ((x12.trans x24).trans x5) r5, fun σ5 h5 W5 H5 τ5 q5 p5 x5 g5 => f.nx _ h5 W5 H5 τ5 q5 p5 ((x12.trans x24).trans x5) g5, fun σ5 h5 W5 H5 τ5 q5 p5 x5 g5 => ?_⟩⟩
      all_goals
        have e5 : W5.fo = W1.fo := ((x2.trans x24).trans x5).fo
        obtain ⟨σ5', h5', W5', q5, p5, g5, x5'⟩ := move_ok q5 p5 g5 (by rw [e5]; exact fo1)
        obtain ⟨σ6, h6, q6, p6, g6, x6⟩ := turnEnd_ok q5 p5 g5 (by rw [x5'.fo, e5]; omega)
        exact ⟨_, h6, σ6, p6, g6, (((x2.trans x24).trans x5).trans x5').trans x6, q6⟩
/-! ### a call that looks at own cells and hands back a new list -/
/-- an answer without lists, or a new list of such -/
def putVR (h : Hl) (Q : P → Hl → Prop) : P → Hl → Prop := fun p hr => match p, hr with
  | .d x, [] => x.noL = true ∧ Q (.d x) h
  | .ref 0, [.lst xs] => D.noLs xs = true ∧ addCell h (.lst xs) fun k h2 => Q (.ref k) h2
  | _, _ => False
def gCallVR (sp : GSp) (t : GA) : GT := fun σ h Q => t σ h fun ps h1 => allV h1 ps fun xs => sp xs (putVR h1 Q)
/-- the one new cell, the caller's cells being foreign -/
def Wd.unview1 (W W' : Wd) : Wd := ⟨W'.al, W'.rg, W.base.fo, W'.gh⟩
section
variable {K : PySem.W.Frag} {W W' : Wd} {H H' : Hp} {h hr : Hl}
/-- a cell that a look made is new -/
theorem view_new (x : ExS W.view W' H H') (p2 : Pre0 K W' H' hr) {k : Nat} {a : Addr} (e : W'.al[k]? = some (some a)) : H a = none := by
  rcases x.new a (.inl ⟨k, e⟩) with o | o
  · rcases o with ⟨j, z⟩ | ⟨q, m, z⟩ | z
    · exact (no_nil z).elim
    · have n := p2.nd2 k a e q (x.rg q m)
      rcases z with z | z
      · exact (n.1 z).elim
      · exact (n.2 z).elim
    · exact (p2.nd4 k a e (by rw [x.fo]; exact z)).elim
  · exact o
theorem ExS.unview1 (p : Pre0 K W H h) (x : ExS W.view W' H H') : ExS W.base (W.unview1 W') H H' where
  keep a o e n := x.keep a o e fun z => n (base_own.mpr (view_sub z))
  keepF a o e n := by
    rcases n with n | ⟨k, ek⟩
    · exact x.keepF a o e n
    · exact x.keep a o e (view_cell p ek)
  new a q := by
    rcases q with ⟨k, e⟩ | ⟨q, m, z⟩ | q
    · rcases x.new a (.inl ⟨k, e⟩) with y | y
      · exact .inl (base_own.mpr (view_sub y))
      · exact .inr y
    · rcases x.new a (.inr (.inl ⟨q, m, z⟩)) with y | y
      · exact .inl (base_own.mpr (view_sub y))
      · exact .inr y
    · exact .inl (.inr (.inr q))
  rg := x.rg
  fo := rfl
  gh := x.gh
theorem unview1_own (x : ExS W.view W' H H') {a : Addr} (o : W'.own a) : (W.unview1 W').own a := by
  rcases o with o | o | o
  · exact .inl o
  · exact .inr (.inl o)
  · exact .inr (.inr (.inl (by rw [x.fo] at o; exact o)))
theorem Pre0.unview1 (p : Pre0 K W H h) (x : ExS W.view W' H H') {xs : List D} (nl : D.noLs xs = true) (p2 : Pre0 K W' H' [.lst xs]) : Pre0 K (W.unview1 W') H' [.lst xs] where
  len := p2.len
  cel k c oa h1 h2 := by
    have r := p2.cel k c oa h1 h2
    cases k with
    | zero =>
      simp at h1
      subst h1
      cases oa with
      | none => exact r
      | some a =>
        obtain ⟨ys, e, s⟩ := r
        refine ⟨ys, e, RDs.noL (own := W'.own) (fun b o => ?_) xs ys nl s⟩
        rcases o with o | o | o
        · exact .inl (.inl o)
        · exact .inl (.inr (.inl o))
        · rcases o with o | ⟨j, ej⟩
          · exact .inl (.inr (.inr (by rw [x.fo]; exact o)))
          · obtain ⟨zs, ez⟩ := p.there (.inl ⟨j, ej⟩)
            exact .inr ⟨zs, x.keep b _ ez (view_cell p ej)⟩
    | succ k => simp at h1
  rng := p2.rng
  nd1 := p2.nd1
  nd2 := p2.nd2
  nd3 := p2.nd3
  fo a f := by
    rcases f with f | ⟨k, ek⟩
    · exact p2.fo a (by rw [x.fo]; exact f)
    · obtain ⟨xs, e⟩ := p.there (.inl ⟨k, ek⟩)
      exact ⟨xs, x.keep a _ e (view_cell p ek)⟩
  nd4 i a h1 z := by
    have hn := view_new x p2 h1
    rcases z with z | ⟨k, ek⟩
    · obtain ⟨xs, e⟩ := p.fo a z
      rw [hn] at e; cases e
    · obtain ⟨xs, e⟩ := p.there (.inl ⟨k, ek⟩)
      rw [hn] at e; cases e
  nd5 q m := by
    have go : ∀ a, W'.own a → ¬ W'.fo a → ¬ W.base.fo a := fun a o nf z => by
      rcases z with z | ⟨k, ek⟩
      · exact nf (by rw [x.fo]; exact z)
      · rcases x.new a o with y | y
        · exact view_cell p ek y
        · obtain ⟨xs, e⟩ := p.there (.inl ⟨k, ek⟩)
          rw [e] at y
          cases y
    exact ⟨go _ (.inr (.inl ⟨q, m, .inl rfl⟩)) (p2.nd5 q m).1, go _ (.inr (.inl ⟨q, m, .inr rfl⟩)) (p2.nd5 q m).2⟩
  pas i a e := (no_nil e).elim
end
section
variable {K : KX} {W : Wd} {H : Hp} {h : Hl}
theorem call_VR {sp : GSp} {xs : List D} {vs : List V} {post : P → Hl → Prop} {Q : VK} {E : XK} (p : Pre K W H h) (r : RDs K.fr W.view.own W.view.rg H xs vs) (q : sp xs (putVR h post)) (f : Fin K W H post Q) : upSp K.fr K.et sp vs H Q E := by
  refine ⟨W.view, xs, _, fun _ _ => False, rfl, p.toPre0.view, r, q, fun z hr W' H' v ne q2 p2 x2 r2 => ?_, fun _ _ _ _ _ z => z.elim⟩
  unfold putVR at q2
  split at q2
  · rename_i x
    have x3 := x2.unview p.toPre0
    have p3 := Pre0.unview p.toPre0 x2 p2
    have pw := p.with p3 x3
    rw [List.append_nil] at pw
    refine f _ _ _ _ _ q2.2 pw (Ext.with x3) (rp_with (q := .d x) p.toPre0 x3 ?_)
    refine RD.noL (fun a o => ?_) x v q2.1 r2
    rcases o with ⟨k, e⟩ | ⟨q, m, z⟩ | o
    · exact (no_nil e).elim
    · exact .inl (.inr (.inl ⟨q, m, z⟩))
    · exact .inr (p3.fo a o)
  · rename_i zs
    have x3 := x2.unview1 p.toPre0
    have p3 := Pre0.unview1 p.toPre0 x2 q2.1 p2
    have pw := p.with p3 x3
    have q3 := q2.2
    rw [addCell_eq] at q3
    have r3 : RP K.fr (W.unview1 W') H' (.ref 0) v := r2
    exact f _ _ _ _ _ q3 pw (Ext.with x3) (rp_with (q := .ref 0) p.toPre0 x3 r3)
  · exact q2.elim
end
section
variable {X : CxE} {k : Nat} {f : Addr} {fd : FuncData} {ps : List Str} {sp : GSp} {x : Str} {p pos : Pos} {e : Expr} {es : List Expr} {t : GA}
theorem callVR_up {τ : L2.St} {H : Hp} {Q : VK} (q : up X.kx (gCallVR sp t) τ H Q) : tCall (upSp X.K X.et sp) [] E0 (upA X.kx t) τ H Q := by
  obtain ⟨W, h, σ, post, p, g, q, f⟩ := q
  refine ⟨W, h, σ, _, p, g, q, fun ps h1 W1 H1 vs q1 p1 x1 r1 => ?_⟩
  obtain ⟨xs, q2, r2⟩ := allV_ok p1 r1 q1
  rw [List.append_nil]
  exact call_VR p1 r2 q2 (fun z h2 W2 H2 v q p2 x2 r => f z h2 W2 H2 v q p2 (x1.trans x2) r)
theorem e_callVR (F : FnOk X.prog X.w X.K X.mg X.base (L2.CX X.prog X.w) k f fd ps (upSp X.K X.et sp)) (hr : Room k X.A) (hm : X.mg x = some (.ref f)) (hk : PySem.W.keepIn X.K (.ref f) = true) (hb : Binds X.K fd ps []) (ha : EA X (e :: es) t) (hg : Gl X x := by rfl) (hdb : (x == ("__debug__" : Str)) = false := by decide)
    (he : starEach (e :: es) X.env = (false, eval e X.env) :: starEach es X.env := by rfl) (hpl : (backTo pos (starEach es X.env)).any (·.1) = false := by rfl) : E X (.Call (.Name x p) (e :: es) [] pos) (gCallVR sp t) :=
  PE.weak (pe_call F hr hg hm hk hb .nil passC ha hdb he hpl) fun _ _ _ => callVR_up
end
end Sc

/-! Sc27: min of data -/
set_option Elab.async false
set_option linter.all false
set_option maxRecDepth 100000
namespace Sc
open PySem PySem.Spec PyProof.Rows L2
/-- what min answers, over data of any depth -/
def rMinD (K : PySem.W.Frag) : List V → Hp → VK → Prop := fun vs H Q => ∃ (a : Addr) (ys : List V) (d : PyData) (ds : List PyData), vs = [V.ref a] ∧ SqL K H a ys ∧ DpAll K H ys (d :: ds) ∧ PySem.W.AlikeAll (d :: ds) ∧ PyData.depthAll (d :: ds) ≤ 60 ∧
  ∀ (i : Nat) (v : V), ys[i]? = some v → (d :: ds)[i]? = some (PySem.W.minD d ds) → Q v H
theorem minD_mem : ∀ (ds : List PyData) (d : PyData), PySem.W.minD d ds ∈ d :: ds
  | [], d => List.mem_cons_self
  | x :: ds, d => by
    show PySem.W.minD (if PySem.W.dataLt x d then x else d) ds ∈ _
    have := minD_mem ds (if PySem.W.dataLt x d then x else d)
    rcases List.mem_cons.mp this with e | m
    · rw [e]
      split
      · exact List.mem_cons_of_mem _ List.mem_cons_self
      · exact List.mem_cons_self
    · exact List.mem_cons_of_mem _ (List.mem_cons_of_mem _ m)
theorem cr_minD {X : Cx} (hc : X.calm = true) (hu : X.A.units + 65 < cLine) : CallR X (.builtin "min") (rMinD X.K) := by
  intro pins s σ H vs us Q I r h
  obtain ⟨a, ys, d, ds, rfl, hs, hd, ha, hdep, q⟩ := h
  obtain ⟨its, rv, hl, _⟩ := I.list hs
  rw [Vals.ref1 r]
  obtain ⟨as, hr⟩ := Dp.readsAll I (d :: ds) _ its hd rv
  refine PySem.W.min_list_data (vs := its.toArray) (I.ok.hd hc) hl.isList (by simpa using hr) ha (by omega) fun i v h' tk bs hv hr2 hk => ?_
  have hv' : its[i]? = some v := by simpa using hv
  obtain ⟨bs2, r3, hi, m3, _⟩ := PySem.W.readsAll_at hr i v hv'
  have r4 : Reads h' v ((d :: ds).getD i .none) bs2 := Reads.keeps hk r3
  have e := PySem.W.alike_unique _ _ _ _ _ (ha.1 _ m3 _ (minD_mem ds d)) r4 hr2
  have hg : (d :: ds)[i]? = some (PySem.W.minD d ds) := by
    rw [← e, List.getD_eq_getElem?_getD, List.getElem?_eq_getElem hi]
    rfl
  have hly : i < ys.length := by
    have l1 := rv.length
    have := (List.getElem?_eq_some_iff.mp hv').1
    omega
  obtain ⟨u, hu1, hu2⟩ := rv.get (List.getElem?_eq_getElem hly)
  rw [hv'] at hu1
  cases hu1
  exact ⟨ys[i], H, I.kept hk, hu2, q i _ (List.getElem?_eq_getElem hly) hg⟩
/-- the data's least, the first of them -/
structure MinP (xs : List D) (k : D → Prop) : Prop where
  ex : ∃ y ys, xs = y :: ys ∧ (∀ z ∈ xs, z.flat 50 = true) ∧ PySem.W.AlikeAll (D.pys xs) ∧ ∀ z ∈ xs, z.py = PySem.W.minD y.py (D.pys ys) → k z
def cMinD : GC := fun ps h Q => match ps with
  | [x] => match kL h x with
    | some xs => MinP xs fun z => Q (.d z) h
    | none => False
  | _ => False
theorem pys_len : ∀ xs : List D, (D.pys xs).length = xs.length
  | [] => rfl
  | x :: xs => by simp [D.pys, pys_len xs]
theorem pys_get : ∀ {xs : List D} {i : Nat} {p : PyData}, (D.pys xs)[i]? = some p → ∃ z, xs[i]? = some z ∧ z.py = p
  | [], i, p, e => by simp [D.pys] at e
  | x :: xs, 0, p, e => by simp [D.pys] at e; exact ⟨x, rfl, e⟩
  | x :: xs, i + 1, p, e => by
    obtain ⟨z, h1, h2⟩ := pys_get (xs := xs) (i := i) (by simpa [D.pys] using e)
    exact ⟨z, by simpa using h1, h2⟩
theorem okS_flat_depth : ∀ (n : Nat) (x : D), x.flat n = true → x.py.depth ≤ n := by
  intro n x
  exact (D.rec (motive_1 := fun x => ∀ n, x.flat n = true → x.py.depth ≤ n) (motive_2 := fun xs => ∀ n, D.flats n xs = true → PyData.depthAll (D.pys xs) ≤ n)
    (fun n _ => Nat.zero_le _) (fun _ n _ => Nat.zero_le _) (fun _ n _ => Nat.zero_le _) (fun _ n _ => Nat.zero_le _)
    (fun xs ih n h => by
      simp only [D.flat, Bool.and_eq_true, bne_iff_ne, ne_eq] at h
      have := ih (n - 1) h.2
      simp only [D.py, PyData.depth]
      omega)
    (fun xs ih n h => by
      simp only [D.flat, Bool.and_eq_true, bne_iff_ne, ne_eq] at h
      have := ih (n - 1) h.2
      simp only [D.py, PyData.depth]
      omega)
    (fun xs ih n h => by
      simp only [D.flat, Bool.and_eq_true, bne_iff_ne, ne_eq] at h
      have := ih (n - 1) h.2
      simp only [D.py, PyData.depth]
      omega)
    (fun n h => by simp [D.flat] at h)
    (fun n _ => Nat.zero_le _)
    (fun x xs ihx ihxs n h => by
      simp only [D.flats, Bool.and_eq_true] at h
      have h1 := ihx n h.1
      have h2 := ihxs n h.2
      simp only [D.pys, PyData.depthAll]
      omega) x) n
theorem flats_all {n : Nat} : ∀ {xs : List D}, (∀ z ∈ xs, z.flat n = true) → D.flats n xs = true
  | [], _ => by simp only [D.flats]
  | x :: xs, h => by
    simp only [D.flats, Bool.and_eq_true]
    exact ⟨h x List.mem_cons_self, flats_all fun y hy => h y (List.mem_cons_of_mem _ hy)⟩
theorem depth_pys {n : Nat} : ∀ {xs : List D}, (∀ z ∈ xs, z.flat n = true) → PyData.depthAll (D.pys xs) ≤ n
  | [], _ => Nat.zero_le _
  | x :: xs, h => by
    have h1 := okS_flat_depth n x (h x List.mem_cons_self)
    have h2 := depth_pys (n := n) (xs := xs) fun y hy => h y (List.mem_cons_of_mem _ hy)
    simp only [D.pys, PyData.depthAll]
    omega
theorem cg_minD {X : CxE} (hc : X.calm = true) (hu : X.A.units + 65 < cLine) : CallR X (.builtin "min") (upC X.kx cMinD) := by
  refine CallR.sub (cr_minD hc hu) ?_
  rintro vs H Q ⟨W, h, ps, post, p, rr, q, f⟩
  unfold cMinD at q
  split at q
  · split at q
    · rename_i xs e1
      obtain ⟨v, rfl, r⟩ := rr.one
      obtain ⟨a, us, rfl, q2, s⟩ := kL_ok p e1 r
      obtain ⟨y, ys, rfl, hf, ha, q3⟩ := q.ex
      have hd := RDs.dp 50 _ _ s (flats_all hf)
      refine ⟨a, us, y.py, D.pys ys, rfl, q2, by simpa only [D.pys] using hd, by simpa only [D.pys] using ha, ?_, fun i v hv hm => ?_⟩
      · have := depth_pys hf
        simp only [D.pys] at this
        omega
      · obtain ⟨z, hz, rz⟩ := s.get' hv
        have hm' : (D.pys (y :: ys))[i]? = some (PySem.W.minD y.py (D.pys ys)) := by simpa only [D.pys] using hm
        obtain ⟨z', hz', ez⟩ := pys_get hm'
        rw [hz] at hz'
        cases hz'
        exact f _ h W H v (q3 z (List.mem_of_getElem? hz) ez) p Ext.refl rz
    · exact q.elim
  · exact q.elim
/-! ### the order of rows of ints -/
def intsLt : List Int → List Int → Bool
  | [], [] => false
  | [], _ :: _ => true
  | _ :: _, [] => false
  | x :: xs, y :: ys => if x = y then intsLt xs ys else decide (x < y)
theorem alike_ints : ∀ xs ys : List Int, PySem.W.alikeAll (D.pys (xs.map .int)) (D.pys (ys.map .int)) = true
  | [], _ => by simp only [List.map_nil, D.pys, PySem.W.alikeAll]
  | x :: xs, [] => by simp only [List.map_nil, List.map_cons, D.pys, PySem.W.alikeAll]
  | x :: xs, y :: ys => by
    simp only [List.map_cons, D.pys, PySem.W.alikeAll, D.py, PySem.W.alike, alike_ints xs ys, Bool.and_self]
theorem lex_ints : ∀ xs ys : List Int, PyProof.Rows.lexLt itemOrd (PySem.W.keyToksAll (D.pys (xs.map .int))) (PySem.W.keyToksAll (D.pys (ys.map .int))) = intsLt xs ys
  | [], [] => by rfl
  | [], y :: ys => by rfl
  | x :: xs, [] => by rfl
  | x :: xs, y :: ys => by
    simp only [List.map_cons, D.pys, D.py]
    have al : PySem.W.alike (.int x) (.int y) = true := by simp only [PySem.W.alike]
    by_cases e : x = y
    · rw [PySem.W.dataLt_all_yes al (by rw [PyData.eqv]; exact decide_eq_true e), lex_ints xs ys]
      exact (if_pos e).symm
    · rw [PySem.W.dataLt_all_no al (by rw [PyData.eqv]; exact decide_eq_false e), PySem.W.dataLt_int]
      exact (if_neg e).symm
/-- a number with a row of ints: the order of such tuples -/
def costLt (a b : Int × List Int) : Bool := if a.1 = b.1 then intsLt a.2 b.2 else decide (a.1 < b.1)
def encCL (a : Int × List Int) : D := .tup [.int a.1, .lst (a.2.map .int)]
theorem dataLt_CL (a b : Int × List Int) : PySem.W.dataLt (encCL a).py (encCL b).py = costLt a b := by
  obtain ⟨x, xs⟩ := a
  obtain ⟨y, ys⟩ := b
  show PySem.W.dataLt (.tuple [.int x, .list (D.pys (xs.map .int))]) (.tuple [.int y, .list (D.pys (ys.map .int))]) = _
  rw [PySem.W.dataLt_tuple]
  have al : PySem.W.alike (.int x) (.int y) = true := by simp only [PySem.W.alike]
  have al2 : PySem.W.alike (.list (D.pys (xs.map .int))) (.list (D.pys (ys.map .int))) = true := by simp only [PySem.W.alike, alike_ints]
  unfold costLt
  by_cases e : x = y
  · rw [PySem.W.dataLt_all_yes al (by rw [PyData.eqv]; exact decide_eq_true e), if_pos e]
    cases h : PyData.eqv (.list (D.pys (xs.map .int))) (.list (D.pys (ys.map .int))) with
    | true =>
      rw [PySem.W.dataLt_all_yes al2 h]
      have : xs = ys := by
        have e2 := (Enc.int.lst).eqv xs ys
        have e3 : D.eqv (.lst (xs.map .int)) (.lst (ys.map .int)) = true := h
        rw [e2] at e3
        exact of_decide_eq_true e3
      subst this
      have : ∀ l : List Int, intsLt l l = false := fun l => by
        induction l with
        | nil => rfl
        | cons x l ih => simp [intsLt, ih]
      rw [this]
      rfl
    | false =>
      rw [PySem.W.dataLt_all_no al2 h, PySem.W.dataLt_list]
      exact lex_ints xs ys
  · rw [PySem.W.dataLt_all_no al (by rw [PyData.eqv]; exact decide_eq_false e), PySem.W.dataLt_int, if_neg e]
/-- no row is both behind and not behind -/
theorem intsLt_irr : ∀ l : List Int, intsLt l l = false
  | [] => rfl
  | x :: l => by simp [intsLt, intsLt_irr l]
theorem intsLt_conn : ∀ {a b : List Int}, intsLt a b = false → intsLt b a = false → a = b
  | [], [], _, _ => rfl
  | [], y :: ys, h, _ => by simp [intsLt] at h
  | x :: xs, [], _, h => by simp [intsLt] at h
  | x :: xs, y :: ys, h1, h2 => by
    by_cases e : x = y
    · subst e
      simp only [intsLt, if_true] at h1 h2
      rw [intsLt_conn h1 h2]
    · simp only [intsLt, if_neg e, if_neg (Ne.symm e), decide_eq_false_iff_not] at h1 h2
      omega
theorem intsLt_trans : ∀ {a b c : List Int}, intsLt a b = true → intsLt b c = true → intsLt a c = true
  | [], [], _, h, _ => by simp [intsLt] at h
  | [], _ :: _, [], _, h => by simp [intsLt] at h
  | [], _ :: _, _ :: _, _, _ => rfl
  | _ :: _, [], _, h, _ => by simp [intsLt] at h
  | _ :: _, _ :: _, [], _, h => by simp [intsLt] at h
  | x :: xs, y :: ys, z :: zs, h1, h2 => by
    by_cases e1 : x = y
    · subst e1
      by_cases e2 : x = z
      · subst e2
        simp only [intsLt, if_true] at h1 h2 ⊢
        exact intsLt_trans h1 h2
      · simp only [intsLt, if_neg e2] at h2 ⊢
        exact h2
    · by_cases e2 : y = z
      · subst e2
        simp only [intsLt, if_neg e1] at h1 ⊢
        exact h1
      · simp only [intsLt, if_neg e1, if_neg e2, decide_eq_true_eq] at h1 h2 ⊢
        rw [if_neg (by omega)]
        exact decide_eq_true (by omega)
theorem costLt_irr (a : Int × List Int) : costLt a a = false := by simp [costLt, intsLt_irr]
theorem costLt_conn {a b : Int × List Int} (h1 : costLt a b = false) (h2 : costLt b a = false) : a = b := by
  obtain ⟨x, xs⟩ := a
  obtain ⟨y, ys⟩ := b
  unfold costLt at h1 h2
  dsimp only at h1 h2
  by_cases e : x = y
  · subst e
    simp only [if_true] at h1 h2
    rw [intsLt_conn h1 h2]
  · rw [if_neg e] at h1
    rw [if_neg (Ne.symm e)] at h2
    simp only [decide_eq_false_iff_not] at h1 h2
    omega
theorem costLt_trans {a b c : Int × List Int} (h1 : costLt a b = true) (h2 : costLt b c = true) : costLt a c = true := by
  obtain ⟨x, xs⟩ := a
  obtain ⟨y, ys⟩ := b
  obtain ⟨z, zs⟩ := c
  unfold costLt at h1 h2 ⊢
  dsimp only at h1 h2 ⊢
  by_cases e1 : x = y
  · subst e1
    by_cases e2 : x = z
    · subst e2
      simp only [if_true] at h1 h2 ⊢
      exact intsLt_trans h1 h2
    · rw [if_neg e2] at h2 ⊢
      exact h2
  · by_cases e2 : y = z
    · subst e2
      rw [if_neg e1] at h1 ⊢
      exact h1
    · rw [if_neg e1] at h1
      rw [if_neg e2] at h2
      simp only [decide_eq_true_eq] at h1 h2
      rw [if_neg (by omega)]
      exact decide_eq_true (by omega)
/-- the least of a fold is behind none -/
theorem fold_least {α : Type} {lt : α → α → Bool} (irr : ∀ a, lt a a = false) (conn : ∀ a b, lt a b = false → lt b a = false → a = b) (tr : ∀ a b c, lt a b = true → lt b c = true → lt a c = true) : ∀ (xs : List α) (x : α), ∀ y ∈ x :: xs, lt y (xs.foldl (fun a y => if lt y a then y else a) x) = false
  | [], x, y, h => by
    rw [List.mem_singleton] at h
    subst h
    exact irr y
  | z :: xs, x, y, h => by
    show lt y (xs.foldl _ (if lt z x then z else x)) = false
    have ih := fold_least irr conn tr xs (if lt z x then z else x)
    generalize hm : xs.foldl (fun a y => if lt y a then y else a) (if lt z x then z else x) = m at ih
    have key : ∀ u, lt u (if lt z x then z else x) = false → lt u m = false := fun u hu => by
      have hv := ih _ List.mem_cons_self
      cases c : lt u m with
      | false => rfl
      | true =>
        exfalso
        -- u < m, m ≤ v; v the start
        generalize (if lt z x then z else x) = v at hu hv
        cases d : lt m v with
        | true => rw [tr _ _ _ c d] at hu; cases hu
        | false =>
          have := conn _ _ d hv
          subst this
          rw [c] at hu
          cases hu
    rcases List.mem_cons.mp h with rfl | h
    · cases c : lt z y with
      | true =>
        refine key y ?_
        rw [if_pos c]
        cases d : lt y z with
        | false => rfl
        | true => have := tr _ _ _ c d; rw [irr] at this; cases this
      | false =>
        refine key y ?_
        rw [if_neg (by rw [c]; decide)]
        exact irr y
    · rcases List.mem_cons.mp h with rfl | h
      · cases c : lt y x with
        | true =>
          refine key y ?_
          rw [if_pos c]
          exact irr y
        | false =>
          refine key y ?_
          rw [if_neg (by rw [c]; decide)]
          exact c
      · exact ih y (List.mem_cons_of_mem _ h)
theorem minD_map {α : Type} {f : α → D} {lt : α → α → Bool} (hlt : ∀ a b, PySem.W.dataLt (f a).py (f b).py = lt a b) : ∀ (xs : List α) (x : α), PySem.W.minD (f x).py (D.pys (xs.map f)) = (f (xs.foldl (fun a y => if lt y a then y else a) x)).py
  | [], x => rfl
  | y :: xs, x => by
    show PySem.W.minD (if PySem.W.dataLt (f y).py (f x).py then (f y).py else (f x).py) (D.pys (xs.map f)) = _
    rw [hlt]
    show _ = (f (xs.foldl _ (if lt y x then y else x))).py
    rw [← minD_map hlt xs]
    cases lt y x <;> rfl
theorem fold_mem {α : Type} {lt : α → α → Bool} : ∀ (xs : List α) (x : α), xs.foldl (fun a y => if lt y a then y else a) x ∈ x :: xs
  | [], x => List.mem_cons_self
  | y :: xs, x => by
    show xs.foldl _ (if lt y x then y else x) ∈ _
    rcases List.mem_cons.mp (fold_mem (lt := lt) xs (if lt y x then y else x)) with e | m
    · rw [e]
      split
      · exact List.mem_cons_of_mem _ List.mem_cons_self
      · exact List.mem_cons_self
    · exact List.mem_cons_of_mem _ (List.mem_cons_of_mem _ m)
theorem pys_mem : ∀ {xs : List D} {p : PyData}, p ∈ D.pys xs → ∃ z ∈ xs, z.py = p := fun {xs p} h => by
  obtain ⟨i, hi⟩ := List.getElem?_of_mem h
  obtain ⟨z, h1, h2⟩ := pys_get hi
  exact ⟨z, List.mem_of_getElem? h1, h2⟩
theorem alike_CL (a b : Int × List Int) : PySem.W.alike (encCL a).py (encCL b).py = true := by
  show PySem.W.alike (.tuple [.int a.1, .list (D.pys (a.2.map .int))]) (.tuple [.int b.1, .list (D.pys (b.2.map .int))]) = true
  simp only [PySem.W.alike, PySem.W.alikeAll, alike_ints, Bool.and_self]
theorem flat_CL (a : Int × List Int) : (encCL a).flat 50 = true := by
  have h : (D.lst (a.2.map .int)).flat 49 = true := Enc.int.lst.flat a.2 49 (by decide)
  unfold encCL
  simp only [D.flat, D.flats, Bool.and_eq_true]
  simp only [D.flat, Bool.and_eq_true] at h
  exact ⟨by decide, trivial, ⟨by decide, h.2⟩, trivial⟩
theorem encCL_inj {a b : Int × List Int} (h : (encCL a).py = (encCL b).py) : a = b := by
  have e : costLt a b = false ∧ costLt b a = false := by
    have h1 := dataLt_CL a b
    have h2 := dataLt_CL b a
    have h3 := dataLt_CL b b
    rw [h] at h1
    rw [h] at h2
    rw [h3, costLt_irr] at h1 h2
    exact ⟨h1.symm, h2.symm⟩
  exact costLt_conn e.1 e.2
/-- min of such tuples -/
theorem MinP.cl {xs : List (Int × List Int)} {k : D → Prop} (ne : xs ≠ []) (q : ∀ a ∈ xs, (∀ b ∈ xs, costLt b a = false) → k (encCL a)) : MinP (xs.map encCL) k := by
  cases xs with
  | nil => exact (ne rfl).elim
  | cons x xs =>
    refine ⟨encCL x, xs.map encCL, rfl, fun z hz => ?_, ⟨fun p hp p2 hp2 => ?_, fun p hp => ?_⟩, fun z hz e => ?_⟩
    · obtain ⟨a, _, rfl⟩ := List.mem_map.mp hz
      exact flat_CL a
    · obtain ⟨z, hz, rfl⟩ := pys_mem hp
      obtain ⟨z2, hz2, rfl⟩ := pys_mem hp2
      obtain ⟨a, _, rfl⟩ := List.mem_map.mp hz
      obtain ⟨b, _, rfl⟩ := List.mem_map.mp hz2
      exact alike_CL a b
    · obtain ⟨z, hz, rfl⟩ := pys_mem hp
      obtain ⟨a, _, rfl⟩ := List.mem_map.mp hz
      intro c
      cases c
    · obtain ⟨a, ha, rfl⟩ := List.mem_map.mp hz
      rw [minD_map dataLt_CL xs x] at e
      have := encCL_inj e
      subst this
      exact q _ (fold_mem xs x) (fold_least costLt_irr (fun a b => costLt_conn) (fun a b c => costLt_trans) xs x)
end Sc

/-! Sc28: a comprehension set to a name that inner blocks read (its kind is not local): nothing is swapped -/
set_option Elab.async false
set_option linter.all false
namespace Sc
open PySem PySem.Spec PyProof.Rows L2
theorem sw_cell {elt : Expr} {gs : List Comprehension} {scope : Scope} {pos py : Pos} {y : Str} {l : Nat} {env : Env} (hy : env.scope.names.lookup y = some .cell) :
    swapsWith (.ListComp elt gs scope pos) (some (.Name y py)) l env = pure false := by
  have ky : env.kindOf y = some .cell := hy
  have e1 : ((some NameKind.cell : Option NameKind) == some NameKind.local) = false := rfl
  unfold swapsWith
  simp only [ky, e1, Bool.and_false, Bool.false_and]
end Sc

/-! Sc29: sorted of data -/
set_option Elab.async false
set_option linter.all false
set_option maxRecDepth 100000
namespace Sc
open PySem PySem.Spec PyProof.Rows L2
/-- x comes no later than y -/
def leD (x y : D) : Bool := PySem.W.dataLe false D.py x y
theorem leD_lt (x y : D) : leD x y = !(PySem.W.dataLt y.py x.py) := rfl
def rSortD (K : PySem.W.Frag) : List V → Hp → VK → Prop := fun vs H Q => ∃ (a : Addr) (bs : List (D × V)), vs = [V.ref a] ∧ SqL K H a (bs.map (·.2)) ∧ DpAll K H (bs.map (·.2)) (bs.map (·.1.py)) ∧ PySem.W.AllAlike (bs.map (·.1.py)) ∧ PySem.W.Sortable (bs.map (·.1.py)) ∧ (∀ b ∈ bs, b.1.py.depth ≤ 60) ∧
  ∀ p, H p = none → Q (.ref p) (upd H p (.lst ((bs.mergeSort fun b c => leD b.1 c.1).map (·.2))))
theorem each_pair {h : Heap} : ∀ {bs : List (D × V)} {us : List Value} {as : List Addr}, Vals (bs.map (·.2)) us → ReadsAll h us (bs.map (·.1.py)) as → PySem.W.EachIs (fun u (b : D × V) => RelV b.2 u) us bs ∧ PySem.W.EachIs (fun u (b : D × V) => ∃ as, Reads h u b.1.py as) us bs
  | [], _, _, r, e => by
    cases r
    exact ⟨.nil, .nil⟩
  | b :: bs, _, _, r, e => by
    cases r with
    | cons h1 h2 =>
      cases e with
      | cons e1 e2 =>
        obtain ⟨c1, c2⟩ := each_pair h2 e2
        exact ⟨.cons h1 c1, .cons ⟨_, e1⟩ c2⟩
theorem vals_each : ∀ {bs : List (D × V)} {us : List Value}, PySem.W.EachIs (fun u (b : D × V) => RelV b.2 u) us bs → Vals (bs.map (·.2)) us
  | _, _, .nil => .nil
  | _, _, .cons h t => .cons h (vals_each t)
theorem cr_sortD {X : Cx} (hu : X.A.units + 65 < cLine) : CallR X (.builtin "sorted") (rSortD X.K) := by
  intro pins s σ H vs us Q I r h
  obtain ⟨a, bs, rfl, hs, hd, ha, hk, hdep, q⟩ := h
  obtain ⟨its, rv, hl, hz⟩ := I.list hs
  rw [Vals.ref1 r]
  obtain ⟨as, hr⟩ := Dp.readsAll I _ _ its hd rv
  obtain ⟨e1, e2⟩ := each_pair rv hr
  have e3 : bs.map (fun b : D × V => b.1.py) = bs.map (·.1.py) := rfl
  refine PySem.W.sorted_data (β := D × V) (enc := fun b => b.1.py) (R := fun u b => RelV b.2 u) hl.isList e1 e2 ha hk (by simpa using hz) (fun b hb => ?_) fun out ho eo => ?_
  · have := hdep b hb
    omega
  · obtain ⟨ep, he'⟩ := PyProof.Rows.sortedAll_at s.heap its (List.toArray out)
    have hlen : ((bs.mergeSort fun b c => leD b.1 c.1).map (·.2)).length ≤ sizeLine := by
      rw [List.length_map, List.length_mergeSort]
      simpa using hz
    exact ⟨.ref _, upd H (s.heap.objs.size + 1) (.lst ((bs.mergeSort fun b c => leD b.1 c.1).map (·.2))), I.laid (t' := s.toks) (fun _ _ => PyProof.Rows.sortedAll_old) (Nat.le_succ _) ⟨hlen, out, ep, vals_each eo, he'⟩, rfl, q _ (I.hok.fresh (Nat.le_succ _))⟩
/-- what may be sorted -/
structure SortP (xs : List D) (k : List D → Prop) : Prop where
  flat : ∀ z ∈ xs, z.flat 50 = true
  alike : PySem.W.AllAlike (D.pys xs)
  able : PySem.W.Sortable (D.pys xs)
  k : k (xs.mergeSort leD)
def cSortD : GC := fun ps h Q => match ps with
  | [x] => match kL h x with
    | some xs => SortP xs fun zs => Q (.d (.lst zs)) h
    | none => False
  | _ => False
def cSortDM : GC := fun ps h Q => match ps with
  | [x] => match kL h x with
    | some xs => SortP xs fun zs => addCell h (.lst zs) fun k h2 => Q (.ref k) h2
    | none => False
  | _ => False
theorem pys_map : ∀ xs : List D, D.pys xs = xs.map D.py
  | [] => rfl
  | x :: xs => by simp [D.pys, pys_map xs]
theorem RDs.pairs {K : KX} {own : Addr → Prop} {rg : List (Addr × Addr)} {H : Hp} : ∀ {xs : List D} {vs : List V}, RDs K own rg H xs vs → ∃ bs : List (D × V), xs = bs.map (·.1) ∧ vs = bs.map (·.2) ∧ ∀ b ∈ bs, RD K own rg H b.1 b.2
  | [], _, r => by simp only [RDs] at r; subst r; exact ⟨[], rfl, rfl, by simp⟩
  | x :: xs, _, r => by
    simp only [RDs] at r
    obtain ⟨v, vs, rfl, r1, r2⟩ := r
    obtain ⟨bs, rfl, rfl, h⟩ := RDs.pairs r2
    exact ⟨(x, v) :: bs, rfl, rfl, fun b m => by
      rcases List.mem_cons.mp m with rfl | m
      · exact r1
      · exact h b m⟩
theorem RDs.of_pairs {K : KX} {own : Addr → Prop} {rg : List (Addr × Addr)} {H : Hp} : ∀ {bs : List (D × V)}, (∀ b ∈ bs, RD K own rg H b.1 b.2) → RDs K own rg H (bs.map (·.1)) (bs.map (·.2))
  | [], _ => by simp only [List.map_nil, RDs]
  | b :: bs, h => by
    simp only [List.map_cons, RDs]
    exact ⟨_, _, rfl, h b List.mem_cons_self, RDs.of_pairs fun c hc => h c (List.mem_cons_of_mem _ hc)⟩
theorem sort_fst (bs : List (D × V)) : (bs.mergeSort fun b c => leD b.1 c.1).map (·.1) = (bs.map (·.1)).mergeSort leD :=
  List.map_mergeSort fun _ _ _ _ => rfl
theorem cg_sortD {X : CxE} (hu : X.A.units + 65 < cLine) : CallR X (.builtin "sorted") (upC X.kx cSortD) := by
  refine CallR.sub (cr_sortD hu) ?_
  rintro vs H Q ⟨W, h, ps, post, p, rr, q, f⟩
  unfold cSortD at q
  split at q
  · split at q
    · rename_i xs e1
      obtain ⟨v, rfl, r⟩ := rr.one
      obtain ⟨a, us, rfl, q2, s⟩ := kL_ok p e1 r
      have hd := RDs.dp 50 _ _ s (flats_all q.flat)
      obtain ⟨bs, rfl, rfl, hb⟩ := s.pairs
      have e2 : D.pys (bs.map (·.1)) = bs.map (·.1.py) := by rw [pys_map, List.map_map]; rfl
      rw [e2] at hd
      refine ⟨a, bs, rfl, q2, hd, e2 ▸ q.alike, e2 ▸ q.able, fun b m => ?_, ?_⟩
      · have := okS_flat_depth 50 b.1 (q.flat _ (List.mem_map_of_mem m))
        omega
      · refine fin_lst (xs := (bs.map (·.1)).mergeSort leD) p ?_ f q.k
        rw [← sort_fst]
        exact RDs.of_pairs fun b m => hb b (List.mem_mergeSort.mp m)
    · exact q.elim
  · exact q.elim
theorem cg_sortDM {X : CxE} (hu : X.A.units + 65 < cLine) : CallR X (.builtin "sorted") (upC X.kx cSortDM) := by
  refine CallR.sub (cr_sortD hu) ?_
  rintro vs H Q ⟨W, h, ps, post, p, rr, q, f⟩
  unfold cSortDM at q
  split at q
  · split at q
    · rename_i xs e1
      obtain ⟨v, rfl, r⟩ := rr.one
      obtain ⟨a, us, rfl, q2, s⟩ := kL_ok p e1 r
      have hd := RDs.dp 50 _ _ s (flats_all q.flat)
      obtain ⟨bs, rfl, rfl, hb⟩ := s.pairs
      have e2 : D.pys (bs.map (·.1)) = bs.map (·.1.py) := by rw [pys_map, List.map_map]; rfl
      rw [e2] at hd
      refine ⟨a, bs, rfl, q2, hd, e2 ▸ q.alike, e2 ▸ q.able, fun b m => ?_, ?_⟩
      · have := okS_flat_depth 50 b.1 (q.flat _ (List.mem_map_of_mem m))
        omega
      · refine fin_cell (xs := (bs.map (·.1)).mergeSort leD) p ?_ f q.k
        rw [← sort_fst]
        exact RDs.of_pairs fun b m => hb b (List.mem_mergeSort.mp m)
    · exact q.elim
  · exact q.elim
end Sc

/-! Sc30: x < y of data -/
set_option Elab.async false
set_option linter.all false
set_option maxRecDepth 100000
namespace Sc
open PySem PySem.Spec PyProof.Rows L2
def rLtD (K : PySem.W.Frag) : R2 := fun x y H Q => ∃ d e, Dp K H x d ∧ Dp K H y e ∧ PySem.W.alike d e = true ∧ d ≠ .none ∧ d.depth ≤ 60 ∧ Q (.bl (PySem.W.dataLt d e)) H
theorem op_ltD {X : Cx} (hu : X.A.units + 65 < cLine) : OpR X (compareOp .Lt) (rLtD X.K) := by
  intro pins s σ H x y v u Q I rx ry h
  obtain ⟨d, e, hd, he, sd, se, dd, q⟩ := h
  obtain ⟨as, r1⟩ := Dp.reads I d x v hd rx
  obtain ⟨bs, r2⟩ := Dp.reads I e y u he ry
  exact PySem.W.lt_data r1 r2 sd se (by omega) ⟨.bl _, H, I, rfl, q⟩
def oLtD : G2 := fun x y h Q => match vD h x, vD h y with
  | some a, some b => (Cmp a ∧ Cmp b ∧ PySem.W.alike a.py b.py = true ∧ a.py ≠ .none) ∧ Q (.d (.bl (PySem.W.dataLt a.py b.py))) h
  | _, _ => False
theorem og_ltD {X : CxE} (hu : X.A.units + 65 < cLine) : OpR X (compareOp .Lt) (up2 X.kx oLtD) := by
  refine OpR.sub (op_ltD hu) ?_
  rintro v w H Q ⟨W, h, x, y, post, p, rx, ry, q, f⟩
  unfold oLtD at q
  split at q
  · rename_i a b e1 e2
    obtain ⟨⟨c1, c2, ha, hn⟩, q⟩ := q
    have := okS_flat_depth _ a c1.1
    exact ⟨_, _, vD_dp p e1 rx c1, vD_dp p e2 ry c2, ha, hn, by omega, fin0 p f q rd_bl⟩
  · exact q.elim
end Sc

/-! Sc31: enumerate over a list or a tuple -/
set_option Elab.async false
set_option linter.all false
set_option maxRecDepth 100000
namespace Sc
open PySem PySem.Spec PyProof.Rows L2
open Sem (wp)
open AutoSeq1 (wpAny_loadPart')
theorem meets_enumerate_newT (l : Addr) (items : Array Value) (n : Nat) (dct : Option Addr) (sl : Array (Option Value)) :
    Meets (Builtin.«enumerate.__new__» ⟨[.type "enumerate", .ref l], []⟩) (fun _ R s => s.heap.get? l = some { cls := .type "tuple", dict := dct, data := .seq items n, slots := sl } ∧
      R (.ok (.ret (.ref (s.heap.push { cls := .type "tuple_iterator", data := .fields #[.ref l, .int 0 0] }).objs.size)))
        { s with heap := (s.heap.push { cls := .type "tuple_iterator", data := .fields #[.ref l, .int 0 0] }).push { cls := .type "enumerate", data := .fields #[.none, .bool false, .ref s.heap.objs.size, rawInt 0, .none, .none] } }) :=
  .of_wp fun prog w A R s h => by
    obtain ⟨hp, g, d, tk, os⟩ := s; obtain ⟨hl, h⟩ := h
    have hsub := sub_enumerate
    have hL : Heap.IsTuple (Shared.heap ⟨hp, g, d, tk, os⟩) l items := ⟨_, hl, rfl, n, rfl⟩
    wp_walk using wpAny_loadPart' hl
    refine wpAny_stack_any fun st => wpAny_pure ?_
    split
    · rename_i c _ _ _ _ _
      cases (c == Value.type "enumerate")
      · wp_walk using wpAny_loadPart' hl, wpAny_pyIter_tuple hL
        exact ⟨_, rfl, h⟩
      · wp_walk using wpAny_loadPart' hl, wpAny_pyIter_tuple hL
        exact ⟨_, rfl, h⟩
    · wp_walk using wpAny_loadPart' hl, wpAny_pyIter_tuple hL
      exact ⟨_, rfl, h⟩
section
variable {prog : Program} {w : World} {A : Around} {E : Value → Shared → Prop} {s : Shared}
theorem call_enumerate_tuple {l : Addr} {items : Array Value} {Q : Value → Shared → Prop} (hL : s.heap.IsTuple l items)
    (h : ∀ h', IsEnum h' (s.heap.objs.size + 1) s.heap.objs.size 0 .none → h'.IsTupleIter s.heap.objs.size l 0 → h'.objs.size = s.heap.objs.size + 2 →
      (∀ b o, s.heap.get? b = some o → h'.get? b = some o) → Q (.ref (s.heap.objs.size + 1)) { s with heap := h' }) :
    wpAny (model prog w) A (call (.type "enumerate") [.ref l]) Q E s := by
  obtain ⟨⟨c, dct, dt, sl⟩, hl, hc, n, hd⟩ := hL
  replace hc : c = .type "tuple" := hc
  replace hd : dt = .seq items n := hd
  subst hc hd
  refine callType_new F.called_enumerate (by decide) (F.typeCall_enumerate_1 _) (F.newCall_enumerate_1 _) (fun obj => F.args_object_init_2 obj _) F.entry_enumerate_new
    (meets_enumerate_newT l items n dct sl) ⟨hl, ?_⟩
  have hz : (s.heap.push { cls := .type "tuple_iterator", data := .fields #[.ref l, .int 0 0] }).objs.size = s.heap.objs.size + 1 := Heap.size_push ..
  show _ ∧ _
  rw [hz]
  have he : IsEnum ((s.heap.push { cls := .type "tuple_iterator", data := .fields #[.ref l, .int 0 0] }).push
      { cls := .type "enumerate", data := .fields #[.none, .bool false, .ref s.heap.objs.size, rawInt 0, .none, .none] }) (s.heap.objs.size + 1) s.heap.objs.size 0 .none := by
    have := Heap.get?_push_size (s.heap.push { cls := .type "tuple_iterator", data := .fields #[.ref l, .int 0 0] })
      (o := { cls := .type "enumerate", data := .fields #[.none, .bool false, .ref s.heap.objs.size, rawInt 0, .none, .none] }) rfl
    rw [hz] at this; exact this
  refine ⟨⟨_, he, rfl⟩, h _ he ⟨_, Heap.get?_push_of_some _ (Heap.get?_push_size _ rfl), rfl, rfl⟩ (by rw [Heap.size_push, hz]) fun b o x => Heap.get?_push_of_some _ (Heap.get?_push_of_some _ x)⟩
end
/-- the tuple at a, each item in a new pair -/
def IteT (K : PySem.W.Frag) (a : Addr) : It :=
  ⟨fun i H => ∃ (xs : List V) (x : V), SqT K H a xs ∧ xs[i]? = some x, fun i H v H' => ∃ T x, v = .ref T ∧ H T = none ∧ H' = upd H T (.tup [.int (i : Nat), x]) ∧ ∀ xs, SqT K H a xs → xs[i]? = some x, fun i H => ∃ xs : List V, SqT K H a xs ∧ xs.length ≤ i⟩
theorem turn_enumT {P : Program} {w : World} {K : PySem.W.Frag} {elts : List Expr} {kk : Nat} {tpos : Pos} (a e it : Addr) :
    Turn P w K (.Tuple elts kk tpos) (IteT K a) [e, it] e (fun i h => (∃ old, IsEnum h e it ((i : Nat) : Int) old) ∧ h.IsTupleIter it a i ∧ e ≠ it ∧ a ≠ it ∧ a ≠ e) where
  mem := by simp
  obj := fun i h st b hb => by
    obtain ⟨⟨old, he⟩, ⟨o, ho, hc, hd⟩, _⟩ := st
    have e' : b = e ∨ b = it := by simpa using hb
    rcases e' with z | z
    · rw [z]; exact ⟨_, he, fun v q => nomatch q⟩
    · rw [z]; exact ⟨o, ho, fun v q => by rw [hd] at q; cases q⟩
  keep := fun i h h' st k => let ⟨⟨old, he⟩, hi, hne⟩ := st; ⟨⟨old, k e (by simp) _ he⟩, hi.at fun o q => k it (by simp) o q, hne⟩
  item := by
    intro X hP hw hK hc i pins s σ H E I hf st hg
    subst hP hw hK
    obtain ⟨⟨old, he⟩, hit, hne, hn1, hn2⟩ := st
    obtain ⟨xs, x, hq, hx⟩ := hg
    obtain ⟨its, rv, p, hz⟩ := I.tuple hq
    obtain ⟨u, hu, ru⟩ := rv.get hx
    have hel : e < s.heap.objs.size := Heap.lt_size he
    have hil : it < s.heap.objs.size := by obtain ⟨_, q, _⟩ := hit; exact Heap.lt_size q
    have hlt : i < its.toArray.size := by
      have := (List.getElem?_eq_some_iff.mp hu).1
      simpa using this
    refine wpAny_pyNext_enum_itemD (Draws.tuple (A := X.A.in1) (I.ok.hd hc) it a hn1 its.toArray) he ⟨hit, p⟩ hlt hne (by simp [hne, Ne.symm hn2]) fun u2 h' tk hP2 ho hst' hT hsz hk => ?_
    have : u2 = u := by
      have e2 : its.toArray[i]? = some u := by simpa using hu
      rw [e2] at hP2
      exact (Option.some.inj hP2).symm
    subst this
    have hit' := hst'.1
    refine ⟨_, rfl, wpAny_letOwnedTupleGo_enum (s := { s with heap := h', toks := tk + 1 }) ho fun h'' he' sb => ?_⟩
    have hT2 : h''.get? s.heap.objs.size = some { cls := .type "tuple", data := .seq #[.int i tk, u2] } := (sb.2 _ (Nat.ne_of_gt hel)).trans hT
    have new : ObjOk X.prog X.w (upd H s.heap.objs.size (.tup [.int (i : Nat), x])) h'' s.heap.objs.size (.tup [.int (i : Nat), x]) :=
      ⟨by show 2 ≤ sizeLine; decide, [.int i tk, u2], .cons ⟨_, rfl⟩ (.cons ru .nil), ⟨_, hT2, rfl, _, rfl⟩⟩
    have I1 : Inv X pins σ (upd H s.heap.objs.size (.tup [.int (i : Nat), x])) { s with heap := h'', toks := tk + 1 } :=
      I.turnedNew (ch := [e, it]) (fun b ob hb q => (sb.2 b (fun z => hb (by simp [z]))).trans (hk b ob (fun z => hb (by simp [z])) (fun z => hb (by simp [z])) q)) hf (Nat.le_refl _) new
    refine ⟨.ref s.heap.objs.size, _, I1, rfl, ⟨_, x, rfl, I.hok.fresh (Nat.le_refl _), rfl, fun ys hy => by rw [I.tuple_inj hy hq]; exact hx⟩, ⟨⟨u2, ?_⟩, hit'.at fun o q => (sb.2 it (Ne.symm hne)).trans q, hne, hn1, hn2⟩, fun b hb => ?_⟩
    · have e1 : ((i + 1 : Nat) : Int) = (i : Int) + 1 := by omega
      rw [e1]; exact he'
    · have hb' : b < s.heap.objs.size := by
        have e' : b = e ∨ b = it := by simpa using hb
        rcases e' with z | z
        · rw [z]; exact hel
        · rw [z]; exact hil
      rw [upd_ne (Nat.ne_of_lt hb')]
      exact (hf b hb).1
  done := by
    intro X hP hw hK hc i pins s σ H E I hf st hg
    subst hP hw hK
    obtain ⟨⟨old, he⟩, hit, hne, hn1, hn2⟩ := st
    obtain ⟨xs, hq, hx⟩ := hg
    obtain ⟨its, rv, p, hz⟩ := I.tuple hq
    obtain ⟨f0, f1, f2, f3, f4, f5⟩ := hf it (by simp)
    have hl := rv.length
    have hT : s.TypeIs (.ref e) "enumerate" := ⟨_, he, rfl⟩
    unfold pyNext
    refine wpAny_bind (wpAny_attempt (wpAny_callSpecial?_slot (name := Str.ofString "__next__") hT F.slot_enumerate_next
      (wpAny_call_entry F.slot_enumerate_next hT F.entry_enumerate_next ?_ (F.args_enumerate_next_1 _))))
    show wpAny _ _ (field (.ref e) 2 >>= _) _ _ _
    refine wpAny_bind (wpAny_field he rfl (x := .ref it) rfl ?_)
    refine wpAny_bind (wpAny_nextOf_tuple_end (I.ok.hd hc) hit p (by simp; omega) fun h' x he' hx' => ?_)
    obtain ⟨o, ho, hc'⟩ := hx'
    refine wpAny_bind (wpAny_isInstance (T := "StopIteration") (b := true) ⟨o, ho, hc'⟩ isSubtype_stop ?_)
    exact wpAny_pure ⟨rfl, I.turned (t' := s.toks) (fun b o hb q => he' b o hb q) f0 f1 f3 f4 f5⟩
  self := fun A i s Q E st h => let ⟨⟨_, he⟩, _⟩ := st; wpAny_pyIter_enum he h
def iEnumA (K : PySem.W.Frag) (ta : TA) : TI := fun σ H R => ta σ H fun vs H1 => ∃ a xs, vs = [.ref a] ∧ ((SqL K H1 a xs ∧ R (Ite K a) H1) ∨ (SqT K H1 a xs ∧ R (IteT K a) H1))
theorem pi_enumA {X : Cx} {e : Expr} {ta : TA} {p pos tpos : Pos} {elts : List Expr} {kk : Nat} (hg : Gl X "enumerate") (hm : X.mg "enumerate" = none) (ha : PA X [e] ta) (hs : starEach [e] X.env = [(false, eval e X.env)] := by rfl) :
    PI X (.Tuple elts kk tpos) (.Call (.Name "enumerate" p) [e] [] pos) (iEnumA X.K ta) := by
  refine ⟨fun pins s σ H R I h => ?_⟩
  refine Call_ (ld_blt I hg hm boot_enumerate (PyProof.Rows.callWith_type1 (thn (ha.run pos pins s σ H _ I h) fun us s1 ⟨vs, H1, I1, r1, q1⟩ => ?_) hs rfl))
  obtain ⟨a, xs, ex, q⟩ := q1
  subst ex
  cases r1 with
  | cons r rr =>
    cases rr
    cases r
    have fr : ∀ b, b ∈ [s1.heap.objs.size + 1, s1.heap.objs.size] → FpOk X pins H1 b := fun b hb => by
      have e' : b = s1.heap.objs.size + 1 ∨ b = s1.heap.objs.size := by simpa using hb
      have hle : s1.heap.objs.size ≤ b := by
        rcases e' with z | z
        · rw [z]; exact Nat.le_add_right _ _
        · rw [z]; exact Nat.le_refl _
      exact I1.fpOk hle (I1.hok.fresh hle)
    rcases q with ⟨hq, q⟩ | ⟨hq, q⟩
    · obtain ⟨its, rv, p', hz⟩ := I1.list hq
      refine call_enumerate_list p'.isList fun h' he hit hsz hk => wpAny_pyIter_enum he ?_
      have I2 : Inv X pins σ H1 { s1 with heap := h' } := I1.kept (t' := s1.toks) hk
      exact ⟨s1.heap.objs.size + 1, [s1.heap.objs.size + 1, s1.heap.objs.size], _, _, H1, rfl, I2, turn_enum a (s1.heap.objs.size + 1) s1.heap.objs.size, ⟨⟨.none, he⟩, hit, Nat.succ_ne_self _⟩, fr, q⟩
    · obtain ⟨its, rv, p', hz⟩ := I1.tuple hq
      have hal : a < s1.heap.objs.size := by obtain ⟨o, ho, _⟩ := id p'; exact Heap.lt_size ho
      refine call_enumerate_tuple (show s1.heap.IsTuple a its.toArray from p') fun h' he hit hsz hk => wpAny_pyIter_enum he ?_
      have I2 : Inv X pins σ H1 { s1 with heap := h' } := I1.kept (t' := s1.toks) hk
      exact ⟨s1.heap.objs.size + 1, [s1.heap.objs.size + 1, s1.heap.objs.size], _, _, H1, rfl, I2, turn_enumT a (s1.heap.objs.size + 1) s1.heap.objs.size, ⟨⟨.none, he⟩, hit, Nat.succ_ne_self _, Nat.ne_of_lt hal, Nat.ne_of_lt (Nat.lt_succ_of_lt hal)⟩, fr, q⟩
def gEnumA (t : GA) : GI := fun σ h Q => t σ h fun ps h1 => match ps with
  | [x] => match lsD x with
    | some xs => Q (enumD xs) h1
    | none => match tpD x with
      | some xs => Q (enumD xs) h1
      | none => False
  | _ => False
theorem src_enumT {K : KX} {W : Wd} {H : Hp} {a : Addr} {its : List D} {ys : List V} (st : ∀ W' H', ExS W W' H H' → SqT K H' a ys) (r : RDs K W.own W.rg H its ys) : SrcOk K W H (IteT K a) (enumD its) where
  go W' H' h p x i hi := by
    have hi' : i < its.length := by simpa [enumD] using hi
    exact ⟨ys, ys[i]'(by rw [← r.len]; exact hi'), st W' H' x, List.getElem?_eq_getElem _⟩
  stop W' H' h p x := ⟨ys, st W' H' x, by simp [enumD, r.len]⟩
  yld W' H' h p x i v H2 q hi := by
    have hi' : i < its.length := by simpa [enumD] using hi
    obtain ⟨T, y, rfl, nT, rfl, q⟩ := q
    obtain ⟨z, e1, e2⟩ := (RDs.ext x _ _ r).get' (q ys (st W' H' x))
    refine ⟨.tup [.int (i : Nat), z], ?_, p.laid nT, Ext.laid p nT, new_tup p (RDs.cons rd_int (RDs.one e2)) nT⟩
    unfold enumD
    rw [List.getElem?_map, List.getElem?_range hi']
    simp [List.getD, e1]
theorem i_enumA {X : CxE} {p0 pos : Pos} {a : Expr} {ta : GA} {elts : List Expr} {kk : Nat} {tpos : Pos} (hm : X.mg "enumerate" = none) (ha : EA X [a] ta) (hg : Gl X "enumerate" := by rfl) (hs : starEach [a] X.env = [(false, eval a X.env)] := by rfl) :
    I X (.Tuple elts kk tpos) (.Call (.Name "enumerate" p0) [a] [] pos) (gEnumA ta) :=
  PI.weak (pi_enumA hg hm ha hs) fun τ H R ⟨W, h, σ, post, p, g, q, f⟩ => by
    refine ⟨W, h, σ, _, p, g, q, fun ps h1 W1 H1 vs q1 p1 x1 rr => ?_⟩
    split at q1
    · obtain ⟨v, rfl, r1⟩ := rr.one
      split at q1
      · rename_i e1
        obtain ⟨a, us, rfl, s1, z1⟩ := lsD_ok e1 r1
        exact ⟨a, us, rfl, .inl ⟨s1 _ _ ExS.refl, f _ h1 W1 H1 _ q1 p1 x1 (src_enum s1 z1)⟩⟩
      · split at q1
        · rename_i e1
          obtain ⟨a, us, rfl, s1, z1⟩ := tpD_ok e1 r1
          exact ⟨a, us, rfl, .inr ⟨s1 _ _ ExS.refl, f _ h1 W1 H1 _ q1 p1 x1 (src_enumT s1 z1)⟩⟩
        · exact q1.elim
    · exact q1.elim
end Sc

/-! Sc32: the number of different ints of a list; a tuple that holds cells taken apart into names -/
set_option Elab.async false
set_option linter.all false
set_option maxRecDepth 100000
namespace Sc
open PySem PySem.Spec PyProof.Rows L2
/-- the different ones, in the order in which they are met -/
def met (ns : List Int) : List Int := ns.foldl PyProof.Rows.step_dedup []
theorem met_first (ns : List Int) : PyProof.Rows.firstMet (fun i => ns.getD i 0) ns.length = met ns := by
  unfold PyProof.Rows.firstMet met
  have e : (List.range ns.length).map (fun i => ns.getD i 0) = ns := by
    refine List.ext_getElem? fun i => ?_
    rw [List.getElem?_map]
    by_cases h : i < ns.length
    · rw [List.getElem?_range h, List.getElem?_eq_getElem h, Option.map_some, List.getD_eq_getElem?_getD, List.getElem?_eq_getElem h]
      rfl
    · rw [List.getElem?_eq_none (by simpa using h), List.getElem?_eq_none (by omega)]
      rfl
  rw [e]
theorem met_len_le (ns : List Int) : (met ns).length ≤ ns.length := by
  rw [← met_first]
  exact PyProof.Rows.firstMet_length_le _ _
theorem met_nodup {ns : List Int} (h : ns.Nodup) : (met ns).length = ns.length := by
  rw [← met_first, RZ.firstMet_nodup h _ (Nat.le_refl _), List.take_length]
theorem met_dup {ns : List Int} (h : ¬ ns.Nodup) : (met ns).length < ns.length := by
  have aux : ∀ (l acc : List Int), (l.foldl PyProof.Rows.step_dedup acc).length ≤ acc.length + l.length := by
    intro l
    induction l with
    | nil => intro acc; simp
    | cons x l ih =>
      intro acc
      rw [List.foldl_cons]
      have := ih (PyProof.Rows.step_dedup acc x)
      have : (PyProof.Rows.step_dedup acc x).length ≤ acc.length + 1 := by
        unfold PyProof.Rows.step_dedup
        split <;> simp
      simp only [List.length_cons]
      omega
  have main : ∀ (l acc : List Int), ¬ l.Nodup ∨ (∃ x ∈ l, x ∈ acc) → (l.foldl PyProof.Rows.step_dedup acc).length < acc.length + l.length := by
    intro l
    induction l with
    | nil => rintro acc (h | ⟨x, h, _⟩)
             · exact absurd List.nodup_nil h
             · cases h
    | cons x l ih =>
      intro acc h
      rw [List.foldl_cons]
      by_cases m : x ∈ acc
      · have e : PyProof.Rows.step_dedup acc x = acc := by
          unfold PyProof.Rows.step_dedup
          have z : (acc.any fun y => y == x) = true := List.any_eq_true.mpr ⟨x, m, beq_self_eq_true x⟩
          exact if_pos z
        rw [e]
        have := aux l acc
        simp only [List.length_cons]
        omega
      · have e : PyProof.Rows.step_dedup acc x = acc ++ [x] := by
          unfold PyProof.Rows.step_dedup
          rw [if_neg]
          intro h
          obtain ⟨y, hy, e⟩ := List.any_eq_true.mp h
          exact m (by rwa [eq_of_beq e] at hy)
        rw [e]
        have := ih (acc ++ [x]) (by
          rcases h with h | ⟨y, hy, hy2⟩
          · rw [List.nodup_cons] at h
            by_cases q : x ∈ l
            · exact .inr ⟨x, q, by simp⟩
            · exact .inl fun z => h ⟨q, z⟩
          · rcases List.mem_cons.mp hy with rfl | hy
            · exact absurd hy2 m
            · exact .inr ⟨y, hy, by simp [hy2]⟩)
        simp only [List.length_append, List.length_cons, List.length_nil] at this ⊢
        omega
  have := main ns [] (.inl h)
  simpa [met] using this
def tLenSetA (K : PySem.W.Frag) (ta : TE) : TE := fun σ H Q => ta σ H fun x H1 => ∃ (l : Addr) (ns : List Int), x = .ref l ∧ SqL K H1 l (ns.map V.int) ∧ ns.length ≤ 4000 ∧ Q (.int ((met ns).length : Nat)) H1
theorem pe_lenSetA {X : Cx} {a : Expr} {ta : TE} {p p2 q pos : Pos} (hg : Gl X "len") (hm : X.mg "len" = none) (hg2 : Gl X "set") (hm2 : X.mg "set" = none) (ha : PE X a ta) (hc : X.calm = true)
    (na : starEach [a] X.env = (false, eval a X.env) :: starEach [] X.env) : PE X (.Call (.Name "len" p) [.Call (.Name "set" p2) [a] [] q] [] pos) (tLenSetA X.K ta) :=
  ⟨fun pins s σ H Q I h => Call_ (ld_blt I hg hm boot_len
    (PyProof.Rows.callWith_builtin1 (PyProof.Rows.args_cons (Call_ (ld_blt I hg2 hm2 boot_set
      (PyProof.Rows.callWith_type1 (PyProof.Rows.args_cons (thn (ha.run pins s σ H _ I h) fun v s1 hx => PyProof.Rows.args_nil (by
        obtain ⟨x, H1, I1, r1, l, ns, rfl, hq, hl, q1⟩ := hx
        cases r1
        obtain ⟨its, r, pl, hz⟩ := I1.list hq
        have hlen : its.toArray.size = ns.length := by
          rw [List.size_toArray, ← r.length, List.length_map]
        refine call_set_list (I1.ok.hd hc) pl.isList (by simpa using RZ.intsAre_vals r) (by unfold scanBound; omega) ?_
        rw [hlen, met_first]
        intro h' tk hS hk
        refine PyProof.Rows.args_nil ?_
        obtain ⟨o, es, ep, t, ho, hex, hd, _, _, _, hf, hn⟩ := hS
        have hb := met_len_le ns
        have I2 : Inv X pins σ H1 { s1 with heap := h', toks := tk } := I1.kept fun b o e => hk b o (Heap.lt_size e) e
        exact call_len_set ho hex hd hf (by rw [hn]; omega) ⟨.int (met ns).length, H1, I2.tok _, ⟨_, by rw [hn]⟩, q1⟩)) na) na rfl))) rfl) rfl rfl))⟩
def gLenSet (t : GT) : GT := fun σ h Q => t σ h fun x h1 => match kL h1 x with
  | some xs => Ints xs fun ns => ns.length ≤ 4000 ∧ Q (.d (.int ((met ns).length : Nat))) h1
  | none => False
theorem e_lenSet {X : CxE} {a : Expr} {t : GT} {p p2 q pos : Pos} (hm : X.mg "len" = none) (hm2 : X.mg "set" = none) (ha : E X a t) (hc : X.calm = true) (hg : Gl X "len" := by rfl) (hg2 : Gl X "set" := by rfl)
    (na : starEach [a] X.env = (false, eval a X.env) :: starEach [] X.env := by rfl) : E X (.Call (.Name "len" p) [.Call (.Name "set" p2) [a] [] q] [] pos) (gLenSet t) :=
  PE.weak (pe_lenSetA hg hm hg2 hm2 ha hc na) fun τ H Q q => by
    obtain ⟨W, h, σ, post, pp, g, q, f⟩ := q
    refine ⟨W, h, σ, _, pp, g, q, fun x h1 W1 H1 v q1 p1 x1 r1 => ?_⟩
    split at q1
    · rename_i xs e1
      obtain ⟨a, ys, rfl, q2, s⟩ := kL_ok p1 e1 r1
      obtain ⟨ns, e2, q3⟩ := q1.ex
      rw [intsD_ok e2 s] at q2
      exact ⟨a, ns, rfl, q2, q3.1, f _ h1 W1 H1 _ q3.2 p1 x1 (rd_int (K := X.kx) (own := W1.own) (rg := W1.rg) (H := H1) (i := ((met ns).length : Nat)))⟩
    · exact q1.elim
/-! ### a tuple taken apart into names -/
def setMs : List Nat → List Mb → Sl → (Sl → Prop) → Prop
  | [], [], σ, k => k σ
  | i :: is, .d x :: ms, σ, k => setSlot σ i (.d x) fun q => setMs is ms q k
  | i :: is, .r n :: ms, σ, k => setSlot σ i (.ref n) fun q => setMs is ms q k
  | _, _, _, _ => False
def gTupN (n : Nat) (is : List Nat) : GG := fun p σ h Q => match p with
  | .tc ms => setMs is ms σ fun σ' => Q σ' h
  | .d (.tup xs) => setAll is xs σ fun σ' => Q σ' h
  | _ => False
section
variable {K : KX} {W : Wd} {H : Hp} {τ : L2.St}
theorem setMs_ok : ∀ (is : List Nat) (ms : List Mb) (us : List V) (σ : Sl) (τ : L2.St) (k : Sl → Prop) (Q : L2.St → Hp → Prop), RMs K W H ms us → Sg K W H σ τ → setMs is ms σ k →
    (∀ σ' τ', k σ' → Sg K W H σ' τ' → Q τ' H) → tgNames is us τ H Q ∧ us.length = is.length
  | [], [], us, σ, τ, k, Q, r, g, q, f => by
    cases (show us = [] from r)
    exact ⟨⟨rfl, f σ τ q g⟩, rfl⟩
  | i :: is, .d x :: ms, us, σ, τ, k, Q, r, g, q, f => by
    obtain ⟨y, ys, rfl, r1, r2⟩ := r
    simp only [setMs] at q
    rw [setSlot_eq] at q
    obtain ⟨a, b⟩ := setMs_ok is ms ys (σ.set i (some (.d x))) (τ.set i (some y)) k Q r2 (g.set (p := .d x) r1) q f
    exact ⟨⟨y, ys, rfl, a⟩, by rw [List.length_cons, List.length_cons, b]⟩
  | i :: is, .r n :: ms, us, σ, τ, k, Q, r, g, q, f => by
    obtain ⟨y, ys, rfl, r1, r2⟩ := r
    simp only [setMs] at q
    rw [setSlot_eq] at q
    obtain ⟨a, b⟩ := setMs_ok is ms ys (σ.set i (some (.ref n))) (τ.set i (some y)) k Q r2 (g.set (p := .ref n) r1) q f
    exact ⟨⟨y, ys, rfl, a⟩, by rw [List.length_cons, List.length_cons, b]⟩
  | [], _ :: _, _, _, _, _, _, _, _, q, _ => by simp only [setMs] at q
  | _ :: _, [], _, _, _, _, _, _, _, q, _ => by simp only [setMs] at q
end
theorem g_tupN {X : CxE} {es : List Expr} {k n : Nat} {is : List Nat} {pos : Pos} (hc : X.calm = true) (hh : PGs X es (tgNames is)) (hl : is.length = n := by rfl)
    (hn : (assignEach es X.env).length = n := by rfl) (hst : (assignEach es X.env).findIdx? (·.1) = none := by rfl) : G X (.Tuple es k pos) (gTupN n is) :=
  PG.weak (pg_tup hc hh hn hst) fun v τ H Q ⟨W, h, σ, p, post, pr, g, r, q, f⟩ => by
    unfold gTupN at q
    split at q
    · rename_i ms
      obtain ⟨a, ys, rfl, q2, s⟩ := r
      obtain ⟨h1, h2⟩ := setMs_ok is ms ys σ τ _ Q s g q fun σ' τ' z1 z2 => f σ' h W H τ' z1 pr ExS.refl z2
      exact ⟨a, ys, rfl, QT.sq q2, h2.trans hl, h1⟩
    · rename_i xs
      simp only [RP, RD] at r
      obtain ⟨a, ys, rfl, q2, s⟩ := r
      obtain ⟨h1, h2⟩ := setAll_ok is is xs ys σ τ _ Q (fun _ z => z) s g q fun σ' τ' z1 z2 _ => f σ' h W H τ' z1 pr ExS.refl z2
      exact ⟨a, ys, rfl, q2.sq, h2.trans hl, h1⟩
    · exact q.elim
end Sc

/-! Sc33: looks at the def's own cells whose answers hold a new list -/
set_option Elab.async false
set_option linter.all false
set_option maxRecDepth 100000
namespace Sc
open PySem PySem.Spec PyProof.Rows L2
theorem QT.noL {K : PySem.W.Frag} {own own' : Addr → Prop} {H : Hp} (o : ∀ a, own' a → own a ∨ ∃ xs, H a = some (.lst xs)) {a : Addr} {ys : List V} (q : QT K own H a ys) : QT K own' H a ys := by
  rcases q with ⟨q1, q2⟩ | q
  · refine .inl ⟨q1, fun z => ?_⟩
    rcases o a z with y | ⟨zs, y⟩
    · exact q2 y
    · rcases q1 with q1 | ⟨o', q1⟩ <;> rw [y] at q1 <;> cases q1
  · exact .inr q
/-- the members besides the cells hold no list -/
def mbNo : List Mb → Bool
  | [] => true
  | .d x :: r => x.noL && mbNo r
  | .r _ :: r => mbNo r
section
variable {K : PySem.W.Frag} {W W' : Wd} {H H' : Hp} {h : Hl}
theorem unview1_out (p : Pre0 K W H h) (x : ExS W.view W' H H') (b : Addr) (o : (W.unview1 W').own b) : W'.own b ∨ ∃ xs, H' b = some (.lst xs) := by
  rcases o with o | o | o
  · exact .inl (.inl o)
  · exact .inl (.inr (.inl o))
  · rcases o with o | ⟨j, ej⟩
    · exact .inl (.inr (.inr (by rw [x.fo]; exact o)))
    · obtain ⟨zs, ez⟩ := p.there (.inl ⟨j, ej⟩)
      exact .inr ⟨zs, x.keep b _ ez (view_cell p ej)⟩
theorem rms_unview1 (p : Pre0 K W H h) (x : ExS W.view W' H H') : ∀ {ms : List Mb} {vs : List V}, mbNo ms = true → RMs K W' H' ms vs → RMs K (W.unview1 W') H' ms vs
  | [], _, _, r => r
  | .d d :: ms, _, n, ⟨y, r, e, h1, h2⟩ => by
    simp only [mbNo, Bool.and_eq_true] at n
    exact ⟨y, r, e, RD.noL (unview1_out p x) d y n.1 h1, rms_unview1 p x n.2 h2⟩
  | .r k :: ms, _, n, ⟨y, r, e, h1, h2⟩ => ⟨y, r, e, h1, rms_unview1 p x n h2⟩
theorem rp_unview1 (p : Pre0 K W H h) (x : ExS W.view W' H H') {ms : List Mb} {v : V} (n : mbNo ms = true) (r : RP K W' H' (.tc ms) v) : RP K (W.unview1 W') H' (.tc ms) v := by
  obtain ⟨a, ys, e, q, s⟩ := r
  exact ⟨a, ys, e, QT.noL (unview1_out p x) q, rms_unview1 p x n s⟩
end
/-- .. kept as cells -/
def putVC (h : Hl) (Q : P → Hl → Prop) : P → Hl → Prop := fun p hr => match p, hr with
  | .d x, [] => x.noL = true ∧ Q (.d x) h
  | .ref 0, [.lst xs] => D.noLs xs = true ∧ addCell h (.lst xs) fun k h2 => Q (.ref k) h2
  | .tc ms, [.lst xs] => isR 0 ms = true ∧ mbNo ms = true ∧ D.noLs xs = true ∧ addCell h (.lst xs) fun k h2 => Q (.tc (reM (fun _ => k) ms)) h2
  | _, _ => False
/-- .. given up at once -/
def putVF (h : Hl) (Q : P → Hl → Prop) : P → Hl → Prop := fun p hr => match p, hr with
  | .d x, [] => x.noL = true ∧ Q (.d x) h
  | .ref 0, [.lst xs] => D.noLs xs = true ∧ Q (.d (.lst xs)) h
  | .tc ms, [.lst xs] => isR 0 ms = true ∧ mbNo ms = true ∧ D.noLs xs = true ∧ Q (.d (.tup (reD xs ms))) h
  | _, _ => False
def gCallVC (sp : GSp) (t : GA) : GT := fun σ h Q => t σ h fun ps h1 => allV h1 ps fun xs => sp xs (putVC h1 Q)
def gCallVF (sp : GSp) (t : GA) : GT := fun σ h Q => t σ h fun ps h1 => allV h1 ps fun xs => sp xs (putVF h1 Q)
section
variable {K : KX} {W : Wd} {H : Hp} {h : Hl}
theorem call_VC {sp : GSp} {xs : List D} {vs : List V} {post : P → Hl → Prop} {Q : VK} {E : XK} (p : Pre K W H h) (r : RDs K.fr W.view.own W.view.rg H xs vs) (q : sp xs (putVC h post)) (f : Fin K W H post Q) : upSp K.fr K.et sp vs H Q E := by
  refine ⟨W.view, xs, _, fun _ _ => False, rfl, p.toPre0.view, r, q, fun z hr W' H' v ne q2 p2 x2 r2 => ?_, fun _ _ _ _ _ z => z.elim⟩
  unfold putVC at q2
  split at q2
  · exact (call_VC_d p q2 f p2 x2 r2)
  · rename_i zs
    have x3 := x2.unview1 p.toPre0
    have p3 := Pre0.unview1 p.toPre0 x2 q2.1 p2
    have pw := p.with p3 x3
    have q3 := q2.2
    rw [addCell_eq] at q3
    have r3 : RP K.fr (W.unview1 W') H' (.ref 0) v := r2
    exact f _ _ _ _ _ q3 pw (Ext.with x3) (rp_with (q := .ref 0) p.toPre0 x3 r3)
  · rename_i ms zs
    obtain ⟨i0, n0, n1, q3⟩ := q2
    have x3 := x2.unview1 p.toPre0
    have p3 := Pre0.unview1 p.toPre0 x2 n1 p2
    have pw := p.with p3 x3
    rw [addCell_eq] at q3
    have rw2 : RP K.fr (W.with (W.unview1 W')) H' (.tc (reM (fun k => h.length + k) ms)) v := rp_with (q := .tc ms) p.toPre0 x3 (rp_unview1 p.toPre0 x2 n0 r2)
    rw [reM_is (g := fun _ => h.length) i0 rfl] at rw2
    exact f _ _ _ _ _ q3 pw (Ext.with x3) rw2
  · exact q2.elim
where
  call_VC_d {W' : Wd} {H' : Hp} {x : D} {v : V} {post : P → Hl → Prop} {Q : VK} (p : Pre K W H h) (q2 : x.noL = true ∧ post (.d x) h) (f : Fin K W H post Q) (p2 : Pre0 K.fr W' H' []) (x2 : ExS W.view W' H H') (r2 : RP K.fr W' H' (.d x) v) : Q v H' := by
    have x3 := x2.unview p.toPre0
    have p3 := Pre0.unview p.toPre0 x2 p2
    have pw := p.with p3 x3
    rw [List.append_nil] at pw
    refine f _ _ _ _ _ q2.2 pw (Ext.with x3) (rp_with (q := .d x) p.toPre0 x3 ?_)
    refine RD.noL (fun a o => ?_) x v q2.1 r2
    rcases o with ⟨k, e⟩ | ⟨q, m, z⟩ | o
    · exact (no_nil e).elim
    · exact .inl (.inr (.inl ⟨q, m, z⟩))
    · exact .inr (p3.fo a o)
theorem call_VF {sp : GSp} {xs : List D} {vs : List V} {post : P → Hl → Prop} {Q : VK} {E : XK} (p : Pre K W H h) (r : RDs K.fr W.view.own W.view.rg H xs vs) (q : sp xs (putVF h post)) (f : Fin K W H post Q) : upSp K.fr K.et sp vs H Q E := by
  refine ⟨W.view, xs, _, fun _ _ => False, rfl, p.toPre0.view, r, q, fun z hr W' H' v ne q2 p2 x2 r2 => ?_, fun _ _ _ _ _ z => z.elim⟩
  unfold putVF at q2
  split at q2
  · exact (call_VC.call_VC_d p q2 f p2 x2 r2)
  · rename_i zs
    have x3 := x2.unview1 p.toPre0
    have p3 := Pre0.unview1 p.toPre0 x2 q2.1 p2
    have r3 : RP K.fr (W.unview1 W') H' (.ref 0) v := r2
    obtain ⟨W2, e2, p4, x4, r4⟩ := first_gone rfl p3 r3
    have x5 := x3.trans x4
    have pw := p.with p4 x5
    rw [List.append_nil] at pw
    exact f _ _ _ _ _ q2.2 pw (Ext.with x5) (rp_with (q := .d (.lst zs)) p.toPre0 x5 (show RP K.fr W2 H' (.d (.lst zs)) v from r4))
  · rename_i ms zs
    obtain ⟨i0, n0, n1, q3⟩ := q2
    have x3 := x2.unview1 p.toPre0
    have p3 := Pre0.unview1 p.toPre0 x2 n1 p2
    obtain ⟨W2, e2, p4, x4, r4⟩ := first_goneC rfl i0 p3 (rp_unview1 p.toPre0 x2 n0 r2)
    have x5 := x3.trans x4
    have pw := p.with p4 x5
    rw [List.append_nil] at pw
    exact f _ _ _ _ _ q3 pw (Ext.with x5) (rp_with (q := .d (.tup (reD zs ms))) p.toPre0 x5 (show RP K.fr W2 H' (.d (.tup (reD zs ms))) v from r4))
  · exact q2.elim
end
section
variable {X : CxE} {k : Nat} {f : Addr} {fd : FuncData} {ps : List Str} {sp : GSp} {x : Str} {p pos : Pos} {e : Expr} {es : List Expr} {t : GA}
theorem e_callVC (F : FnOk X.prog X.w X.K X.mg X.base (L2.CX X.prog X.w) k f fd ps (upSp X.K X.et sp)) (hr : Room k X.A) (hm : X.mg x = some (.ref f)) (hk : PySem.W.keepIn X.K (.ref f) = true) (hb : Binds X.K fd ps []) (ha : EA X (e :: es) t) (hg : Gl X x := by rfl) (hdb : (x == ("__debug__" : Str)) = false := by decide)
    (he : starEach (e :: es) X.env = (false, eval e X.env) :: starEach es X.env := by rfl) (hpl : (backTo pos (starEach es X.env)).any (·.1) = false := by rfl) : E X (.Call (.Name x p) (e :: es) [] pos) (gCallVC sp t) :=
  PE.weak (pe_call F hr hg hm hk hb .nil passC ha hdb he hpl) fun τ H Q q => by
    obtain ⟨W, h, σ, post, p, g, q, f⟩ := q
    refine ⟨W, h, σ, _, p, g, q, fun ps h1 W1 H1 vs q1 p1 x1 r1 => ?_⟩
    obtain ⟨xs, q2, r2⟩ := allV_ok p1 r1 q1
    rw [List.append_nil]
    exact call_VC p1 r2 q2 (fun z h2 W2 H2 v q p2 x2 r => f z h2 W2 H2 v q p2 (x1.trans x2) r)
theorem e_callVF (F : FnOk X.prog X.w X.K X.mg X.base (L2.CX X.prog X.w) k f fd ps (upSp X.K X.et sp)) (hr : Room k X.A) (hm : X.mg x = some (.ref f)) (hk : PySem.W.keepIn X.K (.ref f) = true) (hb : Binds X.K fd ps []) (ha : EA X (e :: es) t) (hg : Gl X x := by rfl) (hdb : (x == ("__debug__" : Str)) = false := by decide)
    (he : starEach (e :: es) X.env = (false, eval e X.env) :: starEach es X.env := by rfl) (hpl : (backTo pos (starEach es X.env)).any (·.1) = false := by rfl) : E X (.Call (.Name x p) (e :: es) [] pos) (gCallVF sp t) :=
  PE.weak (pe_call F hr hg hm hk hb .nil passC ha hdb he hpl) fun τ H Q q => by
    obtain ⟨W, h, σ, post, p, g, q, f⟩ := q
    refine ⟨W, h, σ, _, p, g, q, fun ps h1 W1 H1 vs q1 p1 x1 r1 => ?_⟩
    obtain ⟨xs, q2, r2⟩ := allV_ok p1 r1 q1
    rw [List.append_nil]
    exact call_VF p1 r2 q2 (fun z h2 W2 H2 v q p2 x2 r => f z h2 W2 H2 v q p2 (x1.trans x2) r)
end
/-- len, also of a tuple that holds cells -/
def cLenC : GC := fun ps h Q => match ps with
  | [.tc ms] => ms.length ≤ 16777216 → Q (.d (.int ms.length)) h
  | ps => cLen ps h Q
theorem cg_lenC {X : CxE} : CallR X (.builtin "len") (upC X.kx cLenC) := by
  rintro pins s σ H vs us Q J rv ⟨W, h, ps, post, p, rr, q, f⟩
  unfold cLenC at q
  split at q
  · obtain ⟨v, rfl, r⟩ := rr.one
    obtain ⟨a, ys, rfl, q2, s2⟩ := r
    have hl : ys.length ≤ sizeLine := (J.tuple (QT.sq q2)).choose_spec.2.2
    refine call_len_seq pins s σ H _ us Q J rv ⟨a, ys, rfl, .inr (QT.sq q2), ?_⟩
    rw [← RMs.len s2] at hl ⊢
    exact fin0 p f (q (by rw [sizeLine_eq] at hl; exact hl)) rd_int
  · exact cg_len pins s σ H vs us Q J rv ⟨W, h, _, post, p, rr, q, f⟩
end Sc

/-! Sc34: list.index over data -/
set_option Elab.async false
set_option linter.all false
set_option maxRecDepth 100000
namespace Sc
open PySem PySem.Spec PyProof.Rows L2
/-- the first item that is equal to y -/
structure IdxP (xs : List D) (y : D) (k : Nat → Prop) : Prop where
  c1 : Cmp y
  c2 : Cmp (.lst xs)
  ex : ∃ j z, xs[j]? = some z ∧ D.eqv z y = true ∧ (∀ m z', m < j → xs[m]? = some z' → D.eqv z' y = false) ∧ k j
def mIndexD : GM := fun x ps h Q => match kL h x, ps with
  | some xs, [.d y] => IdxP xs y fun j => Q (.d (.int (j : Nat))) h
  | _, _ => False
/-- a method of a list that it leaves as it is -/
def gQM (r : GM) (to : GT) (t : GA) : GT := fun σ h Q => to σ h fun x h1 => match kL h1 x with
  | some _ => t σ h1 fun ps h2 => r x ps h2 Q
  | none => False
section
variable {X : CxE}
theorem qm_up {r : GM} {to : GT} {t : GA} {τ : L2.St} {H : Hp} {Q : VK} (q : up X.kx (gQM r to t) τ H Q) : tBM X.kx "list" (upM X.kx r) (up X.kx to) (upA X.kx t) τ H Q := by
  obtain ⟨W, hl, σ, post, p, g, q, f⟩ := q
  refine ⟨W, hl, σ, _, p, g, q, fun x h1 W1 H1 v q1 p1 x1 r1 => ?_⟩
  split at q1
  · rename_i xs e1
    obtain ⟨a, ys, rfl, h3, h4⟩ := kL_ok p1 e1 r1
    refine ⟨.inl ⟨rfl, ys, h3⟩, W1, h1, σ, _, p1, g.ext x1, q1, fun ps h5 W2 H2 vs q2 p2 x2 r2 => ?_⟩
    exact ⟨W2, h5, _, ps, post, p2, RP.ext x2 _ _ r1, r2, q2, fun z h6 W3 H3 v3 q3 p3 x3 r3 => f z h6 W3 H3 v3 q3 p3 ((x1.trans x2).trans x3) r3⟩
  · exact q1.elim
theorem e_qm {o e : Expr} {es : List Expr} {to : GT} {t : GA} {name : Str} {apos cpos : Pos} {id : String} {r : GM} (slot : Slot "list" name id) (hty : typeOf (.builtin id) = pure (.type "method_descriptor")) (hm : MtR X id (upM X.kx r)) (ho : E X o to) (ha : EA X (e :: es) t)
    (hbase : attributeBase o name X.env (eval o X.env) = eval o X.env := by rfl)
    (hfew : ((backTo cpos (starEach (e :: es) X.env)).all (fun x => !x.1) && (backToKw cpos (keywordEach [] X.env)).all (fun x => x.1.isSome)
      && decide ((e :: es).length + ([] : List Keyword).length + (if ([] : List Keyword).isEmpty then 0 else 1) < 30)) = true := by rfl)
    (hline : (apos.endLine == cpos.line) = true := by rfl) (hs : starEach (e :: es) X.env = (false, eval e X.env) :: starEach es X.env := by rfl) (hplain : (backTo cpos (starEach es X.env)).any (·.1) = false := by rfl) :
    E X (.Call (.Attribute o name apos) (e :: es) [] cpos) (gQM r to t) := PE.weak (pe_bm PySem.F.plainAttrs_list slot hty hm ho ha hbase hfew hline hs hplain) fun _ _ _ => qm_up
theorem pys_at : ∀ {xs : List D} {i : Nat} {z : D}, xs[i]? = some z → (D.pys xs)[i]? = some z.py
  | [], i, z, e => by simp at e
  | x :: xs, 0, z, e => by simp at e; subst e; rfl
  | x :: xs, i + 1, z, e => by
    have := pys_at (xs := xs) (i := i) (z := z) (by simpa using e)
    simpa [D.pys] using this
theorem mg_indexD (hu : X.A.units + 65 < cLine) : MtR X "list.index" (upM X.kx mIndexD) := by
  refine MtR.sub (mt_indexD hu) fun x xs H Q ⟨W, h, y, ps, post, p, rx, rp, q, f⟩ => ?_
  unfold mIndexD at q
  split at q
  · rename_i zs w e1
    obtain ⟨v, rfl, r1⟩ := rp.one
    obtain ⟨a, ys, rfl, h3, h4⟩ := kL_ok p e1 rx
    obtain ⟨c1, c2, j, z, ez, e2, e3, q⟩ := q
    have fz := c2.f
    simp only [D.flat, Bool.and_eq_true] at fz
    refine ⟨a, v, w.py, D.pys zs, j, z.py, rfl, rfl, .lst h3 (RDs.dp _ _ _ h4 fz.2), RD.dp _ _ _ r1 c1.f, ?_, c1.shaped, pys_at ez, e2, fun m z' hm ez' => ?_, fin0 p f q rd_int⟩
    · have := c2.shaped
      simpa only [D.py] using this
    · obtain ⟨z2, e4, rfl⟩ := pys_get ez'
      exact e3 m z2 hm e4
  · exact q.elim
end
end Sc

/-! Sc35: is True, is not True -/
set_option Elab.async false
set_option linter.all false
set_option maxRecDepth 100000
namespace Sc
open PySem PySem.Spec PyProof.Rows L2
def oIsB : G2 := fun x y h Q => match x, y with
  | .d (.bl a), .d (.bl b) => Q (.d (.bl (decide (a = b)))) h
  | _, _ => False
def oIsNotB : G2 := fun x y h Q => match x, y with
  | .d (.bl a), .d (.bl b) => Q (.d (.bl (!decide (a = b)))) h
  | _, _ => False
section
variable {X : CxE}
theorem og_isB : OpR X (compareOp .Is) (up2 X.kx oIsB) := by
  refine OpR.sub op_is_bl ?_
  rintro v w H Q ⟨W, h, x, y, post, p, rx, ry, q, f⟩
  unfold oIsB at q
  split at q
  · exact ⟨_, _, bl_of rx, bl_of ry, fin0 p f q rd_bl⟩
  · exact q.elim
theorem og_isnotB : OpR X (compareOp .IsNot) (up2 X.kx oIsNotB) := by
  refine OpR.sub op_isnot_bl ?_
  rintro v w H Q ⟨W, h, x, y, post, p, rx, ry, q, f⟩
  unfold oIsNotB at q
  split at q
  · exact ⟨_, _, bl_of rx, bl_of ry, fin0 p f q rd_bl⟩
  · exact q.elim
end
end Sc

/-! Sc36: the number of different ints of a set comprehension -/
set_option Elab.async false
set_option linter.all false
set_option maxRecDepth 100000
namespace Sc
open PySem PySem.Spec PyProof.Rows L2
/-- one more int in the set at D -/
theorem add_int {X : Cx} {pins : List (Addr × Obj)} {τ : L2.St} {G : Hp} {u : Shared} {E : Value → Shared → Prop} {D : Addr} {S : Int → Bool} {k : Nat} {z : Int} {t : Tok} {R : Value → Shared → Prop} (J : Inv X pins τ G u) (e : G D = some (SetO X.w D S k)) (lt : k + 1 < scanBound)
    (q : ∀ u', Inv X pins τ (upd G D (SetO X.w D (fun j => S j || decide (j = z)) (if S z = true then k else k + 1))) u' → R .none u') : wpAny (model X.prog X.w) X.A (call (.builtin "set.add") [.ref D, .int z t]) R E u :=
  setR_add (setO_get J e) lt fun h' sb new => q _ (J.write (e := D) (t' := u.toks + 1) (by rw [e]; trivial) (.inl rfl) (fun b o hb ho => (sb.2 b hb).trans ho) (by obtain ⟨o, _, _, _, ho, _⟩ := new; exact ⟨o, ho⟩) (setO_new new))
/-- what the loop of a set comprehension of ints asks -/
def LoopS (w : World) (J : It) (D : Addr) (vs : List Nat) (g : TG) (tt : TT) (te : TE) (τ : L2.St) (done : Hp → Prop) (Wi : Nat → Nat → Hp → Prop) : Prop :=
  ∀ i m G, Wi i m G → (J.stop i G ∧ done G) ∨ (J.go i G ∧ ∃ Nx : Hp → Prop, (∀ G', Nx G' → ∃ m', m' < m ∧ Wi (i + 1) m' G') ∧
    ∀ x G', J.yld i G x G' → g x (wipe τ vs) G' fun τ2 G2 => wipe τ2 vs = wipe τ vs ∧ tt τ2 G2 fun b G3 =>
      if b = true then te τ2 G3 fun y G4 => ∃ (c : Int) (S : Int → Bool) (k : Nat), y = .int c ∧ G4 D = some (SetO w D S k) ∧ k + 1 < scanBound ∧ Nx (upd G4 D (SetO w D (fun j => S j || decide (j = c)) (if S c = true then k else k + 1)))
      else Nx G3)
def tSetC (w : World) (wi : TI) (g : TG) (tt : TT) (te : TE) (vs : List Nat) : TE := fun τ G Q => wi τ G fun J G1 => ∀ D, G1 D = none →
  ∃ Wi : Nat → Nat → Hp → Prop, (∃ m, Wi 0 m (upd G1 D (SetO w D (fun _ => false) 0))) ∧ LoopS w J D vs g tt te τ (fun G => Q (.ref D) G) Wi
abbrev newS (w : World) : Obj := { cls := .type "set", dict := none, data := .set #[] 0 (.fresh 0 0 (!w.params.followText "set-order")) }
section
variable {X : Cx} {elt tg iter : Expr} {ifs : List Expr} {scope : Scope} {own : List (PySem.Str × Nat)} {pos : Pos} {wi : TI} {g : TG} {tt : TT} {te : TE}
/-- what the block's parts are, in the block's context -/
structure BlkS (X : Cx) (scope : Scope) (tg : Expr) (ifs : List Expr) (elt : Expr) (g : TG) (tt : TT) (te : TE) : Prop where
  g : ∀ (u : Shared) (G : Hp) (C : Addr) (cl : List (PySem.Str × Addr)) (fp : List Addr), PG (X.blk u G scope (compEnvC scope cl C X.env) fp) tg g
  t : ∀ (u : Shared) (G : Hp) (C : Addr) (cl : List (PySem.Str × Addr)) (fp : List Addr), PTs (X.blk u G scope (compEnvC scope cl C X.env) fp) ifs tt
  e : ∀ (u : Shared) (G : Hp) (C : Addr) (cl : List (PySem.Str × Addr)) (fp : List Addr), PE (X.blk u G scope (compEnvC scope cl C X.env) fp) elt te
theorem pe_setC (hc : X.calm = true) (hN : X.N.Nodup) (hi : PI X tg iter wi) (ok : BlkOk X.N X.env.scope scope own) (B : BlkS X scope tg ifs elt g tt te) (hs : ∀ x, foldedSetIterable iter X.env x = pure x) :
    PE X (.SetComp elt [⟨tg, iter, ifs, 0⟩] scope pos) (tSetC X.w wi g tt te (own.map (·.2))) := by
  refine ⟨fun pins u τ G Q I q0 => ?_⟩
  have cells : ∀ y ∈ scope.names, y.2 = .free → ∃ c, X.env.cells.lookup y.1 = some c := fun y m e => (ok.free y m e).elim (fun k => I.ok.has _ (.inl k)) (fun k => I.ok.has _ (.inr k))
  rw [PpSet.eval_SetComp]
  refine wpAny_comprehension_free (use := none) rfl hs (closure_ok cells) ok.kind (fun y m e => by rw [ok.uniq y m, e]) (thn (hi.run pins u τ G _ I q0) fun _ _ hx => thn hx fun _ u2 h2 => ?_)
  obtain ⟨itA, fp, tn, J, G2, rfl, I2, T, at2, fp2, q⟩ := h2
  refine PpSet.newSet_ok (newEnv_comp ?_)
  obtain ⟨Wi, ⟨m0, w0⟩, turn⟩ := q _ (I2.hok.fresh (Nat.le_refl _))
  have keep : ∀ b o, u2.heap.get? b = some o → (u2.heap.push (newS X.w)).get? b = some o := fun b o e => Heap.get?_push_of_some _ e
  have I3 : Inv X pins τ (upd G2 u2.heap.objs.size (SetO X.w u2.heap.objs.size (fun _ => false) 0)) { u2 with heap := u2.heap.push (newS X.w) } := I2.laid (t' := u2.toks) keep (Nat.le_refl _) (setO_new (setR_fresh X.w))
  have old : ∀ b ∈ fp, b < u2.heap.objs.size := fun b m => (T.obj _ _ at2 b m).elim fun o h => Heap.lt_size h.1
  generalize hD : u2.heap.objs.size = D at *
  have push3 : ∀ b, b < D → FpOk X pins G2 b → FpOk X pins (upd G2 D (SetO X.w D (fun _ => false) 0)) b := fun b l f => ⟨by rw [upd_ne (Nat.ne_of_lt l)]; exact f.1, f.2⟩
  generalize hG3 : upd G2 D (SetO X.w D (fun _ => false) 0) = G3 at *
  have size3 : (u2.heap.push (newS X.w)).objs.size = D + 1 := by rw [Heap.size_push, hD]
  generalize hu3 : ({ u2 with heap := u2.heap.push (newS X.w) } : Shared) = u3 at I3
  have heap3 : u3.heap = u2.heap.push (newS X.w) := by rw [← hu3]
  have fp3 : ∀ b ∈ fp, FpOk X pins G3 b ∧ b < u3.heap.objs.size := fun b m => ⟨push3 b (old b m) (fp2 b m), by rw [heap3, size3]; exact Nat.lt_succ_of_lt (old b m)⟩
  have free3 : ∀ b ∈ fp, G3 b = none := fun b m => (fp3 b m).1.1
  have at3 : tn 0 u3.heap := T.keep _ _ _ at2 fun b _ o e => by rw [heap3]; exact keep b o e
  have I4 := block_start I3 ok hN fp3
  have bg := B.g u3 G3 u3.heap.objs.size (cellsFrom (u3.heap.objs.size + 1) scope.names (cloFrom X.env.cells scope.names [])) fp
  have bt := B.t u3 G3 u3.heap.objs.size (cellsFrom (u3.heap.objs.size + 1) scope.names (cloFrom X.env.cells scope.names [])) fp
  have be := B.e u3 G3 u3.heap.objs.size (cellsFrom (u3.heap.objs.size + 1) scope.names (cloFrom X.env.cells scope.names [])) fp
  show codeAny _ _ (.compStart (.SetComp elt [⟨tg, iter, ifs, 0⟩] scope pos) 0 (.ref itA) (.ref D) (compEnvC scope (cellsFrom (u3.heap.objs.size + 1) scope.names (cloFrom X.env.cells scope.names [])) u3.heap.objs.size X.env)) (compPost (model X.prog X.w) X.A X.xe none _ (.ref D) u3.heap.objs.size) { u3 with heap := pushCells (u3.heap.push { cls := .type "dict", data := .dict #[] }) scope.names }
  generalize hcx : compEnvC scope (cellsFrom (u3.heap.objs.size + 1) scope.names (cloFrom X.env.cells scope.names [])) u3.heap.objs.size X.env = cx at *
  have locx : cx.locals = u3.heap.objs.size := by rw [← hcx]; rfl
  generalize hu4 : ({ u3 with heap := pushCells (u3.heap.push { cls := .type "dict", data := .dict #[] }) scope.names } : Shared) = u4 at *
  have at4 : tn 0 u4.heap := T.keep _ _ _ at3 fun b _ o e => by rw [← hu4]; exact pushCells_keeps _ _ _ _ (Heap.get?_push_of_some _ e)
  have stay : ∀ {τ' : L2.St} {G' : Hp} {u' : Shared}, Inv (X.blk u3 G3 scope cx fp) [] τ' G' u' → (∀ b ∈ fp, G' b = none) → ∀ b ∈ fp, FpOk (X.blk u3 G3 scope cx fp) [] G' b := fun J n b m =>
    ⟨n b m, (J.ok.exf b m).1, J.ok.exfs b m, .inl m, fun x c e => (J.ok.exf b m).2 x c e, fun p hp => (by cases hp)⟩
  -- the end of the loop, in the def's own context
  have leave : ∀ {τ' : L2.St} {G5 : Hp} {u6 : Shared}, Inv (X.blk u3 G3 scope cx fp) [] τ' G5 u6 → Q (.ref D) G5 → compPost (model X.prog X.w) X.A X.xe none (fun v u' => ∃ x G', Inv X pins τ G' u' ∧ RelV x v ∧ Q x G') (.ref D) u3.heap.objs.size (.ok .next) u6 := fun {τ' G5 u6} J qq => by
    have J7 : Inv X pins τ G5 u6 := I3.call' (ch := fp) J.os J.base J.hok J.bare fun b m => ⟨(fp3 b m).1.2.2.2.1, (fp3 b m).1.2.1, (fp3 b m).1.2.2.2.2.1, (fp3 b m).1.2.2.2.2.2⟩
    have nC : G5 u3.heap.objs.size = none := by have z : G5 cx.locals = none := J.free; rwa [locx] at z
    obtain ⟨k, hk, _⟩ := J.loc
    have hk : u6.heap.Ns cx.locals k := hk
    rw [locx] at hk
    obtain ⟨f0, f1, f2, f3, f4, f5⟩ := I3.fpOk (Nat.le_refl _) nC
    exact ⟨k, hk, fun h' sb => ⟨.ref D, G5, J7.turned (t' := u6.toks) (fun b o hb e => (sb.2 b hb).trans e) f0 f1 f3 f4 f5, rfl, qq⟩⟩
  refine PpSet.codeAny_compStart_set ?L (T.self X.A 0 _ _ _ at4 ?L)
  refine PpSet.compLoopS_any (fun n u' => ∃ i G', Inv (X.blk u3 G3 scope cx fp) [] (wipe τ (own.map (·.2))) G' u' ∧ tn i u'.heap ∧ (∀ b ∈ fp, G' b = none) ∧ Wi i n G') ?_ m0 ⟨0, G3, I4, at4, free3, w0⟩
  rintro n u5 ⟨i, G5, I5, at5, n5, w5⟩
  rcases turn i n G5 w5 with ⟨stop, qq⟩ | ⟨go, Nx, hNx, step⟩
  · refine thnF (T.done (X.blk u3 G3 scope cx fp) rfl rfl rfl hc i [] u5 _ G5 (fun _ _ => False) I5 (stay I5 n5) at5 stop) fun r u6 ⟨hr, I6⟩ => ?_
    subst hr
    exact leave I6 qq
  · refine thnF (T.item (X.blk u3 G3 scope cx fp) rfl rfl rfl hc i [] u5 _ G5 (fun _ _ => False) I5 (stay I5 n5) at5 go) fun r u6 ⟨u, er, h6⟩ => ?_
    subst er
    refine thnF h6 fun _ u7 h7 => ?_
    obtain ⟨x, G7, I7, r7, y7, at7, n7⟩ := h7
    refine thnF (bg.run _ u7 _ G7 x u _ (I7.pinned (stay I7 n7) (T.obj _ _ at7)) r7 (step x G7 y7)) fun _ u8 h8 => ?_
    obtain ⟨τ8, G8, I8, hw, q8⟩ := h8
    refine thnF (bt.run _ u8 τ8 G8 _ I8 q8) fun b u9 h9 => ?_
    obtain ⟨G9, I9, q9⟩ := h9
    -- the next turn
    have next : ∀ {u' : Shared} {G' : Hp}, Inv (X.blk u3 G3 scope cx fp) ([] ++ pinsAt fp u7.heap) τ8 G' u' → Nx G' → ∃ m, m < n ∧ ∃ i G', Inv (X.blk u3 G3 scope cx fp) [] (wipe τ (own.map (·.2))) G' u' ∧ tn i u'.heap ∧ (∀ b ∈ fp, G' b = none) ∧ Wi i m G' := fun {u' G'} J nx => by
      obtain ⟨m', lt, w'⟩ := hNx G' nx
      have there : ∀ b ∈ fp, ∃ o, u7.heap.get? b = some o ∧ u'.heap.get? b = some o ∧ G' b = none := fun b m => by
        obtain ⟨o, e, _⟩ := T.obj _ _ at7 b m
        have z := J.pin (b, o) (List.mem_append_right _ (List.mem_append_right _ (mem_pinsAt m e)))
        exact ⟨o, e, z.1, z.2.1⟩
      refine ⟨m', lt, i + 1, G', (J.unpinned (pins := [])).weak (by rw [← hw, wipe_length]) fun j v e => ?_, T.keep _ _ _ at7 fun b m o e => ?_, fun b m => ?_, w'⟩
      · rw [← hw] at e; exact (wipe_some e).1
      · obtain ⟨o', e1, e2, _⟩ := there b m; rw [e1] at e; cases e; exact e2
      · obtain ⟨_, _, _, e3⟩ := there b m; exact e3
    cases b with
    | false => exact next I9 (by simpa using q9)
    | true =>
      rw [if_pos rfl] at q9
      refine thnF (be.run _ u9 τ8 G9 _ I9 q9) fun z u10 h10 => ?_
      obtain ⟨yv, G10, I10, r10, c, S0, k0, rfl, e10, lt10, nx⟩ := h10
      obtain ⟨tk, rfl⟩ := r10
      exact add_int (X := X.blk u3 G3 scope cx fp) I10 e10 lt10 fun u11 I11 => next I11 nx
/-- the number of members of a set of ints -/
def rLenS (w : World) : List V → Hp → VK → Prop := fun vs G Q => ∃ (D : Addr) (S : Int → Bool) (k : Nat), vs = [.ref D] ∧ G D = some (SetO w D S k) ∧ Q (.int (k : Nat)) G
theorem cr_lenS : CallR X (.builtin "len") (rLenS X.w) := by
  intro pins u τ G vs us Q I r h
  obtain ⟨D, S, k, rfl, e, q⟩ := h
  rw [Vals.ref1 r]
  obtain ⟨o, es, ep, t, ho, hx, hd, _, _, _, hb, hf, hn, _⟩ := setO_get I e
  have hk : (es.size : Int) < 2 ^ 63 := by unfold scanBound at hb; omega
  exact call_len_set ho hx hd hf hk ⟨.int k, G, I.tok _, ⟨_, by rw [← hn]⟩, q⟩
end
end Sc

/-! Sc37: len of a set comprehension of ints, over data -/
set_option Elab.async false
set_option linter.all false
set_option maxRecDepth 100000
namespace Sc
open PySem PySem.Spec PyProof.Rows L2
section
variable {K : PySem.W.Frag} {H : Hp} {Da : Addr} {φ : Heap → Prop} {o : HO}
theorem Rd.upx {a : Addr} {x : HO} (e : H Da = some (.ext φ)) (nx : ∀ ψ, x ≠ .ext ψ) (r : Rd H a x) : Rd (upd H Da o) a x := by
  rcases r with r | ⟨ob, r⟩
  · exact .inl (by rw [upd_ne (ne_of r e (nx φ))]; exact r)
  · exact .inr ⟨ob, by rw [upd_ne (ne_of r e (by simp))]; exact r⟩
mutual
theorem RD.upx {own : Addr → Prop} {rg : List (Addr × Addr)} (e : H Da = some (.ext φ)) : ∀ (d : D) (v : V), RD K own rg H d v → RD K own rg (upd H Da o) d v
  | .non, _, r => by simpa only [RD] using r
  | .bl _, _, r => by simpa only [RD] using r
  | .int _, _, r => by simpa only [RD] using r
  | .str _, _, r => by simpa only [RD] using r
  | .rng, _, r => by simpa only [RD] using r
  | .tup xs, _, r => by
    simp only [RD] at r ⊢
    obtain ⟨a, ys, ea, q, s⟩ := r
    exact ⟨a, ys, ea, q.elim (fun z => .inl ⟨Rd.upx e (fun _ => by simp) z.1, z.2⟩) .inr, RDs.upx e xs ys s⟩
  | .lst xs, _, r => by
    simp only [RD] at r ⊢
    obtain ⟨a, ys, ea, q, s⟩ := r
    exact ⟨a, ys, ea, ⟨by rw [upd_ne (ne_of q.1 e (by simp))]; exact q.1, q.2⟩, RDs.upx e xs ys s⟩
  | .klst xs, _, r => by
    simp only [RD] at r ⊢
    obtain ⟨a, ys, ea, q, s⟩ := r
    exact ⟨a, ys, ea, q.elim (fun z => .inl ⟨Rd.upx e (fun _ => by simp) z.1, z.2⟩) .inr, RDs.upx e xs ys s⟩
theorem RDs.upx {own : Addr → Prop} {rg : List (Addr × Addr)} (e : H Da = some (.ext φ)) : ∀ (ds : List D) (vs : List V), RDs K own rg H ds vs → RDs K own rg (upd H Da o) ds vs
  | [], _, r => by simpa only [RDs] using r
  | d :: ds, _, r => by
    simp only [RDs] at r ⊢
    obtain ⟨y, q, ey, r1, r2⟩ := r
    exact ⟨y, q, ey, RD.upx e d y r1, RDs.upx e ds q r2⟩
end
theorem Pre0.upx {W : Wd} {h : Hl} (p : Pre0 K W H h) (e : H Da = some (.ext φ)) : Pre0 K W (upd H Da o) h where
  len := p.len
  cel k c oa h1 h2 := by
    have r := p.cel k c oa h1 h2
    cases c with
    | gone => cases oa <;> exact r
    | lst xs =>
      cases oa with
      | none => exact r
      | some a =>
        obtain ⟨ys, q, s⟩ := r
        exact ⟨ys, by rw [upd_ne (ne_of q e (by simp))]; exact q, RDs.upx e _ _ s⟩
  rng q m := by
    obtain ⟨s, c, gs, h1, h2, h3⟩ := p.rng q m
    exact ⟨s, c, gs, by rw [upd_ne (ne_of h1 e (by simp))]; exact h1, by rw [upd_ne (ne_of h2 e (by simp))]; exact h2, h3⟩
  nd1 := p.nd1
  nd2 := p.nd2
  nd3 := p.nd3
  fo a f := by
    obtain ⟨xs, q⟩ := p.fo a f
    exact ⟨xs, by rw [upd_ne (ne_of q e (by simp))]; exact q⟩
  nd4 := p.nd4
  nd5 := p.nd5
  pas := p.pas
theorem Ext.upx {W W' : Wd} {H1 : Hp} (x : Ext W W' H1 H) (e : H1 Da = none) : Ext W W' H1 (upd H Da o) where
  keep a ob q n := by rw [upd_ne fun z => by rw [z, e] at q; cases q]; exact x.keep a ob q n
  keepF a ob q n := by rw [upd_ne fun z => by rw [z, e] at q; cases q]; exact x.keepF a ob q n
  new := x.new
  rg := x.rg
  fo := x.fo
  gh := x.gh
  al := x.al
theorem Pre0.noOwn {W : Wd} {h : Hl} (p : Pre0 K W H h) (e : H Da = some (.ext φ)) : ¬ W.own Da := fun z => by
  obtain ⟨xs, q⟩ := p.there z
  rw [e] at q
  cases q
end
structure CompS (its : List D) (n : Nat) (tg : Tgt) (tt : GB) (te : GT) (σ : Sl) (h : Hl) (Qf : List Int → Hl → Prop) : Prop where
  ex : ∃ Pv : Nat → List Int → Hl → Prop, Pv 0 [] h ∧ (∀ (i : Nat) x ns h, its[i]? = some x → Pv i ns h → tg.set x σ fun σ2 => tt σ2 h fun b h3 => Br b
    (te σ2 h3 fun y h4 => match y with
      | .d (.int z) => ns.length < 4000 ∧ takeH n h4 fun h5 => Pv (i + 1) (ns ++ [z]) h5
      | _ => False)
    (takeH n h3 fun h5 => Pv (i + 1) ns h5)) ∧ ∀ ns h, Pv its.length ns h → Qf ns h
def gLenSc (src : GI) (vs : List Nat) (tg : Tgt) (tt : GB) (te : GT) : GT := fun σ h Q => src σ h fun its h1 => killS vs σ fun q => lenH h1 fun n => CompS its n tg tt te q h1 fun ns h2 => Q (.d (.int ((met ns).length : Nat))) h2
theorem met_snoc (ns : List Int) (z : Int) : met (ns ++ [z]) = if (met ns).any (· == z) then met ns else met ns ++ [z] := by
  unfold met
  rw [List.foldl_append]
  rfl
theorem met_len (ns : List Int) (z : Int) (S : Int → Bool) (e : ∀ k, S k = (met ns).any (· == k)) : (if S z = true then (met ns).length else (met ns).length + 1) = (met (ns ++ [z])).length := by
  rw [met_snoc, e z]
  cases (met ns).any (· == z) <;> simp
theorem met_mem (ns : List Int) (z : Int) (S : Int → Bool) (e : ∀ k, S k = (met ns).any (· == k)) (k : Int) : (S k || decide (k = z)) = (met (ns ++ [z])).any (· == k) := by
  rw [met_snoc, e k]
  have sym : (z == k) = decide (k = z) := by
    by_cases hk : k = z
    · rw [hk, decide_eq_true rfl]; exact beq_self_eq_true z
    · rw [decide_eq_false hk]; exact beq_eq_false_iff_ne.mpr (Ne.symm hk)
  cases hz : (met ns).any (· == z) with
  | true =>
    rw [if_pos rfl]
    by_cases hk : k = z
    · rw [hk, hz]; rfl
    · rw [decide_eq_false hk, Bool.or_false]
  | false =>
    rw [if_neg (by simp), List.any_append, List.any_cons, List.any_nil, Bool.or_false, sym]
/-- the set in the making -/
structure MkgS (X : CxE) (W1 : Wd) (H1 : Hp) (Da : Addr) (n : Nat) (Pv : List Int → Hl → Prop) (H : Hp) : Prop where
  ex : ∃ W h ns S, Pre0 X.kx.fr W H h ∧ H Da = some (SetO X.w Da S (met ns).length) ∧ (∀ k, S k = (met ns).any (· == k)) ∧ ns.length ≤ 4000 ∧ Ext W1 W H1 H ∧ Pv ns h
section
variable {X : CxE} {elt tg iter : Expr} {ifs : List Expr} {scope : Scope} {own : List (Str × Nat)} {pos : Pos} {src : GI} {t : Tgt} {tt : GB} {te : GT}
theorem lenSc_up (hi : ∀ i ∈ t.is, i ∈ own.map (·.2)) {τ : L2.St} {H : Hp} {Q : VK} (q : up X.kx (gLenSc src (own.map (·.2)) t tt te) τ H Q) :
    tSetC X.w (upI X.kx src) (t.tg X.kx) (upB X.kx tt) (up X.kx te) (own.map (·.2)) τ H (fun v G => rLenS X.w [v] G Q) := by
  obtain ⟨W, h, σ, post, p, g, q, f⟩ := q
  refine ⟨W, h, σ, _, p, g, q, fun its h1 W1 H1 J q1 p1 x1 so => ?_⟩
  intro Da nD
  obtain ⟨σ0, q1, g0⟩ := (g.ext x1).wipe _ _ q1
  rw [lenH_eq] at q1
  obtain ⟨Pv, q0, qs, qd⟩ := q1.ex
  have hn : W1.al.length = h1.length := p1.len
  have hq := p1.toPre0.pal
  refine ⟨fun i m G => i + m = its.length ∧ MkgS X W1 H1 Da h1.length (Pv i) G, ⟨its.length, Nat.zero_add _, ⟨W1, h1, [], fun _ => false, p1.toPre0.laid nD, upd_same, fun _ => rfl, Nat.zero_le _, Ext.laid p1 nD, q0⟩⟩, ?_⟩
  rintro i m G ⟨em, mk⟩
  obtain ⟨W2, h2, ns, S, p20, e2, hS, hl, x2, q2⟩ := mk.ex
  have p2 : Pre X.kx W2 G h2 := p1.step x2.toExS p20
  cases m with
  | zero =>
    have ei : i = its.length := by omega
    subst ei
    exact .inl ⟨so.stop W2 _ _ p2 x2.toExS, Da, S, _, rfl, e2, f _ h2 W2 G _ (qd ns h2 q2) p2 (x1.trans x2) (rd_int (K := X.kx) (own := W2.own) (rg := W2.rg) (H := G) (i := ((met ns).length : Nat)))⟩
  | succ m =>
    have hlt : i < its.length := by omega
    refine .inr ⟨so.go W2 _ _ p2 x2.toExS i hlt, MkgS X W1 H1 Da h1.length (Pv (i + 1)), fun G' z => ⟨m, Nat.lt_succ_self m, by omega, z⟩, fun v H3 hy => ?_⟩
    obtain ⟨z, ez, p3, x3, r3⟩ := so.yld W2 _ _ p2 x2.toExS i v H3 hy hlt
    refine Tgt.ok hi p3 r3 ((g0.ext x2).ext x3) (qs i z ns h2 ez q2) fun σ4 τ4 q5 g4 hw => ⟨hw.trans (wipe_idem _ _ _ fun _ z => z), ?_⟩
    refine ⟨W2, _, σ4, _, p3, g4, q5, fun b h5 W5 H5 q6 p5 x5 => ?_⟩
    have e5 : H5 Da = some (SetO X.w Da S (met ns).length) := by
      have a3 := x3.keep _ _ e2 (p2.toPre0.noOwn e2)
      exact x5.keep _ _ a3 (p3.toPre0.noOwn a3)
    have x15 := (x2.trans x3).trans x5
    cases b with
    | true =>
      refine (if_pos rfl).mpr ⟨W5, h5, σ4, _, p5, g4.ext x5, q6.t rfl, fun y h6 W6 H6 w q7 p6 x6 r6 => ?_⟩
      split at q7
      · rename_i zz
        rw [takeH_eq] at q7
        have e6 := x6.keep _ _ e5 (p5.toPre0.noOwn e5)
        have ml := met_len_le ns
        refine ⟨zz, S, _, int_of r6, e6, by unfold scanBound; omega, ?_⟩
        have x16 : Ext W1 W6 H1 (upd H6 Da (SetO X.w Da (fun j => S j || decide (j = zz)) (if S zz = true then (met ns).length else (met ns).length + 1))) := Ext.upx (x15.trans x6) nD
        exact ⟨W6.cut h1.length, h6.take h1.length, ns ++ [zz], _, (p6.toPre0.upx e6).cut _ (by rw [x16.fo]; exact hq), by rw [met_len ns zz S hS]; exact upd_same, met_mem ns zz S hS, by simp; omega, ext_cut x16 (Nat.le_of_eq hn), q7.2⟩
      · exact q7.elim
    | false =>
      refine (if_neg (by simp)).mpr ?_
      have q7 := q6.f rfl
      rw [takeH_eq] at q7
      exact ⟨W5.cut h1.length, h5.take h1.length, ns, S, p5.toPre0.cut _ (by rw [x15.fo]; exact hq), e5, hS, hl, ext_cut x15 (Nat.le_of_eq hn), q7⟩
theorem e_lenSc (own : List (Str × Nat)) {p qpos : Pos} (hm : X.mg "len" = none) (hc : X.calm = true) (hN : X.N.Nodup) (hi : I X tg iter src) (ok : BlkOk X.N X.env.scope scope own) (ht : ∀ i ∈ t.is, i ∈ own.map (·.2))
    (hg : ∀ (s : Shared) (H : Hp) (C : Addr) (cl : List (Str × Addr)) (fp : List Addr), CT (X.blk s H scope (compEnvC scope cl C X.env) fp) tg t) (hts : ∀ (s : Shared) (H : Hp) (C : Addr) (cl : List (Str × Addr)) (fp : List Addr), ETs (X.blk s H scope (compEnvC scope cl C X.env) fp) ifs tt)
    (he : ∀ (s : Shared) (H : Hp) (C : Addr) (cl : List (Str × Addr)) (fp : List Addr), E (X.blk s H scope (compEnvC scope cl C X.env) fp) elt te) (hgl : Gl X "len" := by rfl) (hs : ∀ x, foldedSetIterable iter X.env x = pure x := by intro _; rfl)
    (s1 : starEach [.SetComp elt [⟨tg, iter, ifs, 0⟩] scope pos] X.env = (false, eval (.SetComp elt [⟨tg, iter, ifs, 0⟩] scope pos) X.env) :: starEach [] X.env := by rfl) (hpl : (backTo qpos (starEach [] X.env)).any (·.1) = false := by rfl) :
    E X (.Call (.Name "len" p) [.SetComp elt [⟨tg, iter, ifs, 0⟩] scope pos] [] qpos) (gLenSc src (own.map (·.2)) t tt te) :=
  PE.weak (pe_callB cr_lenS hgl hm (by rfl) (pa_cons (pe_setC (g := t.tg X.kx) (tt := upB X.kx tt) (te := up X.kx te) (own := own) hc hN hi ok ⟨hg, fun s H C cl fp => PTs.weak (hts s H C cl fp) fun _ _ _ q => upB_no (K := X.kx) rfl blk_tk q, fun s H C cl fp => PE.weak (he s H C cl fp) fun _ _ _ q => up_no (K := X.kx) rfl blk_tk q⟩ hs) pa_nil s1) (by decide) (by decide) s1 hpl) fun τ H Q q => lenSc_up ht q
end
end Sc

/-! Sc38: set comprehensions over mapped data -/
set_option Elab.async false
set_option linter.all false
set_option maxRecDepth 100000
namespace Sc
open PySem PySem.Spec PyProof.Rows L2
theorem CompS.mp {α : Type} {xs : List α} {f : α → D} {g : α → Int} {n : Nat} {tg : Tgt} {te : GT} {σ : Sl} {h : Hl} {Qf : List Int → Hl → Prop} (hl : xs.length ≤ 4000) (hn : n = h.length)
    (he : ∀ (i : Nat) (a : α), xs[i]? = some a → ∀ (R : P → Hl → Prop), R (.d (.int (g a))) h → tg.set (f a) σ fun σ2 => te σ2 h R) (mono : ∀ x (k k' : Sl → Prop), tg.set x σ k → (∀ s, k s → k' s) → tg.set x σ k')
    (q : Qf (xs.map g) h) : CompS (xs.map f) n tg bYes te σ h Qf := by
  subst hn
  refine ⟨fun i ns h' => h' = h ∧ ns = (xs.take i).map g, ⟨rfl, rfl⟩, ?_, ?_⟩
  · rintro i x ns h' e ⟨rfl, rfl⟩
    rw [List.getElem?_map] at e
    cases q2 : xs[i]? with
    | none => rw [q2] at e; cases e
    | some a =>
      rw [q2] at e
      cases e
      have hlt := (List.getElem?_eq_some_iff.mp q2).1
      refine mono _ _ _ (he i a q2 (fun y h4 => match y with
        | .d (.int z) => ((xs.take i).map g).length < 4000 ∧ takeH h'.length h4 fun h5 => h5 = h' ∧ (xs.take i).map g ++ [z] = (xs.take (i + 1)).map g
        | _ => False) ⟨by rw [List.length_map, List.length_take]; omega, ?_⟩) fun s ks => ⟨fun _ => ks, fun h => (by cases h)⟩
      rw [takeH_eq, List.take_length]
      refine ⟨rfl, ?_⟩
      rw [List.take_add_one, q2, List.map_append]
      rfl
  · rintro ns h' ⟨rfl, rfl⟩
    rw [List.length_map, List.take_length]
    exact q
end Sc

/-! Sc39: an expression that only looks at the def's own cells -/
set_option Elab.async false
set_option linter.all false
set_option maxRecDepth 100000
namespace Sc
open PySem PySem.Spec PyProof.Rows L2
/-- a slot, the def's own lists as they stand -/
def viewP (h : Hl) : Option P → Option P
  | some (.d x) => some (.d x)
  | some (.ref n) => match cellAt h n with
    | some (.lst xs) => some (.d (.lst xs))
    | _ => none
  | _ => none
def viewSl (h : Hl) : Sl → Sl
  | [] => []
  | o :: r => viewP h o :: viewSl h r
theorem viewSl_eq (h : Hl) : ∀ σ : Sl, viewSl h σ = σ.map (viewP h)
  | [] => rfl
  | o :: r => by rw [viewSl, viewSl_eq h r]; rfl
theorem sg_view {K : KX} {W : Wd} {H : Hp} {h : Hl} {σ : Sl} {τ : L2.St} (p : Pre K W H h) (g : Sg K.fr W H σ τ) : Sg K.fr W.view H (viewSl h σ) τ where
  len := by rw [viewSl_eq, List.length_map]; exact g.len
  val i q e := by
    rw [viewSl_eq, List.getElem?_map] at e
    cases ho : σ[i]? with
    | none => rw [ho] at e; cases e
    | some o =>
      rw [ho, Option.map_some, Option.some.injEq] at e
      unfold viewP at e
      split at e
      · cases e
        obtain ⟨v, e1, r⟩ := g.val i _ ho
        exact ⟨v, e1, RD.tr view_tr _ _ r⟩
      · split at e
        · rename_i n _ xs e2
          cases e
          obtain ⟨v, e1, r⟩ := g.val i _ ho
          obtain ⟨a, us, rfl, e3, e4, e5⟩ := cell_ok p e2 r
          refine ⟨_, e1, ?_⟩
          show RD K.fr _ _ H (.lst xs) _
          simp only [RD]
          exact ⟨a, us, rfl, ⟨e4, view_cell p.toPre0 e3⟩, RDs.tr view_tr _ _ e5⟩
        · cases e
      · cases e
def gLook (t : GT) : GT := fun σ h Q => t (viewSl h σ) [] (putV h Q)
theorem e_look {X : CxE} {e : Expr} {t : GT} (hw : X.gw = fun _ _ _ _ => False) (he : E X e t) : E X e (gLook t) := PE.weak he fun τ H Q q => by
  obtain ⟨W, h, σ, post, p, g, q, f⟩ := q
  have pv : Pre X.kx W.view H [] := ⟨p.toPre0.view, p.tk, fun W' H' n xs σ h τ d _ gq => by
    rw [show W.view.gh = W.gh from rfl, p.tk.2.1, hw] at gq
    exact gq.elim⟩
  refine ⟨W.view, [], viewSl h σ, _, pv, sg_view p g, q, fun z hr W' H' v q2 p2 x2 r2 => ?_⟩
  unfold putV at q2
  split at q2
  · rename_i x
    have x3 := x2.toExS.unview p.toPre0
    have p3 := Pre0.unview p.toPre0 x2.toExS p2.toPre0
    have pw := p.with p3 x3
    rw [List.append_nil] at pw
    refine f _ _ _ _ _ q2.2 pw (Ext.with x3) (rp_with (q := .d x) p.toPre0 x3 ?_)
    refine RD.noL (fun a o => ?_) x v q2.1 r2
    rcases o with ⟨k, e⟩ | ⟨q, m, z⟩ | o
    · exact (no_nil e).elim
    · exact .inl (.inr (.inl ⟨q, m, z⟩))
    · exact .inr (p3.fo a o)
  · exact q2.elim
end Sc

/-! Sc40: xs[a:c] = ys, also where c lies behind the end -/
set_option Elab.async false
set_option linter.all false
set_option maxRecDepth 100000
namespace Sc
open PySem PySem.Spec PyProof.Rows L2
section
variable {prog : Program} {w : World} {A : Around} {E : Value → Shared → Prop} {s : Shared}
theorem store_slice {l b sl : Addr} {old new : Array Value} {n n2 : Nat} {vl vu : Value} {a c : Int} {lo hi : Nat} {Q : Unit → Shared → Prop} (el : s.heap.get? l = some { cls := .type "list", data := .seq old n }) (eb : s.heap.get? b = some { cls := .type "list", data := .seq new n2 }) (ne : l ≠ b)
    (sv : s.heap.IsSliceOf sl vl vu .none) (pl : IsPart vl (some a)) (pu : IsPart vu (some c)) (run : sliceBounds (some a) (some c) none old.size = ((lo : Int), (hi : Int), 1)) (le : lo ≤ hi) (fit : hi ≤ old.size) (room : old.size + new.size ≤ sizeLine)
    (q : Q () { s with heap := s.heap.update l (Obj.mapSeq fun xs => xs.extract 0 lo ++ new ++ xs.extract hi xs.size) }) : wpAny (model prog w) A (setItem (.ref l) (.ref sl) (.ref b)) Q E s := by
  have kl : s.heap.IsList l old := IsL.isList el
  have kb : s.heap.IsList b new := IsL.isList eb
  have ⟨ob, hob, hcl, hdt⟩ := sv
  have ty : s.TypeIs (.ref sl) "slice" := ⟨ob, hob, hcl⟩
  have other : Builtin.List.listSameRef (.ref l) (.ref b) = false := beq_eq_false_iff_ne.mpr ne
  unfold setItem
  refine wpAny_holding (wpAny_bind (wpAny_sequenceKey kl.typeIs (by decide) ?_))
  refine wpAny_bind (wpAny_callSpecial?_slot kl.typeIs PySem.F.slot_list_setitem (wpAny_call_entry PySem.F.slot_list_setitem kl.typeIs PySem.F.entry_list_setitem ?K (PySem.F.args_list_setitem_3 _ _ _)))
  show wpAny _ _ (Builtin.List.listSubscript? (.ref sl) >>= _) _ _ s
  refine wpAny_bind (m := Builtin.List.listSubscript? (.ref sl)) ?_
  unfold Builtin.List.listSubscript?
  refine wpAny_bind (wpAny_specialOf ty PySem.slice_no_index ?_)
  simp only [Option.isNone_none, if_true]
  refine wpAny_pure ?_
  refine wpAny_bind (m := typeOf (.ref sl)) (wpAny_typeOf ty ?_)
  rw [if_neg (by decide), listSliceParts_eq]
  refine wpAny_bind (wpAny_bind (wpAny_field hob hdt (x := .none) rfl (wpAny_bind (wpAny_listPart .none ?_))))
  rw [if_neg (show ¬ (rawPart none == rawInt 0) = true from Bool.false_ne_true)]
  refine wpAny_bind (wpAny_field hob hdt (x := vl) rfl (wpAny_bind (wpAny_listPart pl ?_)))
  refine wpAny_bind (wpAny_field hob hdt (x := vu) rfl (wpAny_bind (wpAny_listPart pu (wpAny_pure ?_))))
  dsimp only
  rw [other]
  simp only [Bool.false_eq_true, if_false]
  refine wpAny_bind (m := Builtin.List.listAllItems (.ref b) _) ?_
  unfold Builtin.List.listAllItems
  refine wpAny_bind (m := typeOf (.ref b)) (wpAny_typeOf kb.typeIs ?_)
  rw [if_pos (by decide)]
  unfold Builtin.List.listItems
  refine wpAny_bind (wpAny_seqItems eb rfl (wpAny_pure ?_))
  refine wpAny_bind (wpAny_bind (wpAny_seqItems el rfl (wpAny_pure ?_)))
  rw [sliceIndices_raw _ _ _ _ (by simp), run]
  refine wpAny_bind (wpAny_pure ?_)
  dsimp only
  rw [if_pos (by decide)]
  refine wpAny_bind (wpAny_rule ?_)
  rw [notLongL room]
  simp only [Bool.false_eq_true, if_false]
  rw [show max (lo : Int) (hi : Int) = (hi : Int) by omega, Int.toNat_natCast, Int.toNat_natCast]
  have cap : ((fun xs : Array Value => xs.extract 0 lo ++ new ++ xs.extract hi xs.size) old).size ≤ sizeLine + 1 := by simp only [Array.size_append, Array.size_extract]; omega
  refine wpAny_bind (wpAny_updateSeq (hz := by omega) (_hz' := cap) el rfl ?_)
  exact wpAny_bind (wpAny_letGo (wpAny_pure ⟨.none, rfl, wpAny_pure q⟩))
end
section
variable {X : Cx}
/-- what a slice's store does to a tracked list -/
def SetSl (X : Cx) : Prop := ∀ (pins : List (Addr × Obj)) (s : Shared) (τ : L2.St) (H : Hp) (l b sl : Addr) (xs ys : List V) (vl vu : Value) (a c : Int) (lo hi : Nat) (Q : Unit → Shared → Prop), Inv X pins τ H s → H l = some (.lst xs) → H b = some (.lst ys) → l ≠ b → s.heap.IsSliceOf sl vl vu .none → IsPart vl (some a) → IsPart vu (some c) →
  sliceBounds (some a) (some c) none xs.length = ((lo : Int), (hi : Int), 1) → lo ≤ hi → hi ≤ xs.length → xs.length + ys.length ≤ sizeLine → (∀ s', Inv X pins τ (upd H l (.lst (xs.take lo ++ ys ++ xs.drop hi))) s' → Q () s') → wpAny (model X.prog X.w) X.A (setItem (.ref l) (.ref sl) (.ref b)) Q X.xe s
theorem set_sl : SetSl X := fun pins s τ H l b sl xs ys vl vu a c lo hi Q I el eb ne sv pl pu run le fit room q => by
  obtain ⟨_, its, n, r, hl, e1⟩ := I.lstM el
  obtain ⟨_, new, n2, r2, hl2, e2⟩ := I.lstM eb
  have z1 : its.toArray.size = xs.length := by rw [List.size_toArray, hl]
  have z2 : new.toArray.size = ys.length := by rw [List.size_toArray, hl2]
  refine store_slice e1 e2 ne sv pl pu (by rw [z1]; exact run) le (by rw [z1]; exact fit) (by rw [z1, z2]; exact room) (q _ ?_)
  refine I.lset (its' := its.take lo ++ new ++ its.drop hi) (t' := s.toks) el e1 (splice_eq its new lo hi) (Vals.append (Vals.append (r.take _) r2) (r.drop _)) ?_
  rw [List.length_append, List.length_append, List.length_take, List.length_drop]
  omega
end
end Sc

/-! Sc41: xs[a:c] = ys over data -/
set_option Elab.async false
set_option linter.all false
set_option maxRecDepth 100000
namespace Sc
open PySem PySem.Spec PyProof.Rows L2
section
variable {X : Cx} {o : Expr} {lo hi : Option Expr} {to : TE} {tl th : TO} {p2 pos : Pos}
def tSlS (to : TE) (tl th : TO) : TG := fun v σ H Q => to σ H fun ov H1 => tl σ H1 fun l H2 => th σ H2 fun u H3 => ∃ (la b : Addr) (xs ys : List V) (a c : Int) (m k : Nat), ov = .ref la ∧ v = .ref b ∧ H3 la = some (.lst xs) ∧ H3 b = some (.lst ys) ∧ la ≠ b ∧ l = some a ∧ u = some c ∧
  sliceBounds (some a) (some c) none xs.length = ((m : Int), (k : Int), 1) ∧ m ≤ k ∧ k ≤ xs.length ∧ xs.length + ys.length ≤ sizeLine ∧ Q σ (upd H3 la (.lst (xs.take m ++ ys ++ xs.drop k)))
theorem pg_slS (ho : PE X o to) (hl : PO X lo tl) (hu : PO X hi th)
    (ha : ∀ v, assign (.Subscript o (.Slice lo hi none p2) pos) X.env v = (do
      let ov ← holding [v] (eval o X.env)
      let iv ← holding [v, ov] (eval (.Slice lo hi none p2) X.env)
      standAt pos
      holding [v, ov, iv] (setItem ov iv v)
      release [iv, v, ov] []) := by intro _; rfl) : PG X (.Subscript o (.Slice lo hi none p2) pos) (tSlS to tl th) :=
  ⟨fun pins s σ H v u Q I r h => by
    rw [ha]
    refine wpAny_bind (wpAny_holding (thn (ho.run pins s σ H _ I h) fun ov s1 h1 => ?_))
    obtain ⟨x, H1, I1, r1, q1⟩ := h1
    refine wpAny_bind (wpAny_holding (wpAny_Slice (thn (hl.run pins s1 σ H1 _ I1 q1) fun vl s2 h2 => ?_)))
    obtain ⟨l, H2, I2, pl, q2⟩ := h2
    refine thn (hu.run pins s2 σ H2 _ I2 q2) fun vu s3 h3 => ?_
    obtain ⟨w, H3, I3, pu, la, b, xs, ys, a, c, m, k, rfl, rfl, e1, e2, ne, rfl, rfl, run, le, fit, room, q⟩ := h3
    cases r
    cases r1
    rw [evalPart_none]
    refine wpAny_pure ?_
    have I4 : Inv X pins σ H3 { s3 with heap := s3.heap.push { cls := .type "slice", data := .fields #[vl, vu, .none] } } := I3.kept (t' := s3.toks) fun _ _ z => Heap.get?_push_of_some _ z
    exact wpAny_bind (wpAny_standAt (wpAny_bind (wpAny_holding (set_sl pins _ σ H3 la b _ xs ys vl vu a c m k _ I4 e1 e2 ne (Heap.IsSliceOf.new ..) pl pu run le fit room fun s' I5 => wpAny_release ⟨σ, _, I5, q⟩))))⟩
end
/-- where a slice begins and ends -/
structure SlB (n : Nat) (a c : Int) (k : Nat → Nat → Prop) : Prop where
  ex : ∃ lo hi : Nat, sliceBounds (some a) (some c) none n = ((lo : Int), (hi : Int), 1) ∧ lo ≤ hi ∧ hi ≤ n ∧ k lo hi
def gSlS (to : GT) (tl th : GO) : GG := fun p σ h Q => match p with
  | .d (.lst ys) => to σ h fun o h1 => tl σ h1 fun l h2 => th σ h2 fun u h3 => match o, l, u with
    | .ref k, some a, some c => match cellAt h3 k with
      | some (.lst xs) => SlB xs.length a c fun lo hi => xs.length + ys.length ≤ sizeLine ∧ setCell h3 k (.lst (xs.take lo ++ ys ++ xs.drop hi)) fun h4 => Q σ h4
      | _ => False
    | _, _, _ => False
  | _ => False
theorem g_slS {X : CxE} {o : Expr} {lo hi : Option Expr} {to : GT} {tl th : GO} {p2 pos : Pos} (ho : E X o to) (hl : EO X lo tl) (hu : EO X hi th)
    (ha : ∀ v, assign (.Subscript o (.Slice lo hi none p2) pos) X.env v = (do
      let ov ← holding [v] (eval o X.env)
      let iv ← holding [v, ov] (eval (.Slice lo hi none p2) X.env)
      standAt pos
      holding [v, ov, iv] (setItem ov iv v)
      release [iv, v, ov] []) := by intro _; rfl) : G X (.Subscript o (.Slice lo hi none p2) pos) (gSlS to tl th) :=
  PG.weak (pg_slS ho hl hu ha) fun v τ H Q ⟨W, h, σ, p, post, pr, g, r, q, f⟩ => by
    unfold gSlS at q
    split at q
    · rename_i ys
      refine ⟨W, h, σ, _, pr, g, q, fun z h1 W1 H1 v1 q1 p1 x1 r1 => ?_⟩
      refine ⟨W1, h1, σ, _, p1, g.ext x1, q1, fun l h2 W2 H2 q2 p2 x2 => ?_⟩
      refine ⟨W2, h2, σ, _, p2, (g.ext x1).ext x2, q2, fun u h3 W3 H3 q3 p3 x3 => ?_⟩
      split at q3
      · split at q3
        · rename_i k a c _ xs e1
          obtain ⟨lo', hi', run, le, fit, room, q4⟩ := q3
          rw [setCell_eq] at q4
          obtain ⟨la, vs, rfl, h5, h6, h7⟩ := cell_ok p3 e1 (RP.ext (x2.trans x3) _ _ r1)
          have x13 := (x1.trans x2).trans x3
          have ry : RD X.kx W3.own W3.rg H3 (.lst ys) v := RD.ext x13.toExS _ _ r
          simp only [RD] at ry
          obtain ⟨b, us, rfl, qb, sb⟩ := ry
          have ne : la ≠ b := fun e => qb.2 (by rw [← e]; exact .inl ⟨k, h5⟩)
          have x4 : Ext W3 W3 H3 (upd H3 la (.lst (vs.take lo' ++ us ++ vs.drop hi'))) := Ext.set p3 h5
          refine ⟨la, b, vs, us, a, c, lo', hi', rfl, rfl, h6, qb.1, ne, rfl, rfl, by rw [← h7.len]; exact run, le, by rw [← h7.len]; exact fit, by rw [← h7.len, ← sb.len]; exact room, ?_⟩
          exact f _ _ W3 _ _ q4 (p3.set h5 ((h7.take lo').app sb |>.app (h7.drop hi'))) (x13.trans x4).toExS ((((g.ext x1).ext x2).ext x3).ext x4)
        · exact q3.elim
      · exact q3.elim
    · exact q.elim
/-- one place -/
theorem SlB.one {n : Nat} {a c : Int} {k : Nat → Nat → Prop} {m : Nat} (ea : a = (m : Nat)) (ec : c = (m : Nat) + 1) (h : m < n ∨ n = 0 ∧ m = 0) (q : k m (min (m + 1) n)) : SlB n a c k := by
  subst ea ec
  refine ⟨m, min (m + 1) n, ?_, by omega, by omega, q⟩
  simp only [sliceBounds, Option.getD_none]
  have h1 : ¬ ((m : Int) < 0) := by omega
  have h2 : ¬ ((m : Int) + 1 < 0) := by omega
  simp only [h1, h2, if_false, show (1 : Int) > 0 by decide, if_true]
  refine Prod.ext ?_ (Prod.ext ?_ rfl)
  · show max 0 (min (m : Int) (n : Int)) = (m : Int)
    omega
  · show max 0 (min ((m : Int) + 1) (n : Int)) = ((min (m + 1) n : Nat) : Int)
    omega
end Sc

set_option Elab.async false
set_option linter.all false
set_option maxRecDepth 100000
set_option maxHeartbeats 4000000
namespace K43
open PySem PySem.Spec PyProof.Rows L2 Sc
abbrev sp_law_start : GSp := spStart
abbrev sp_law_draw : GSp := spDraw
abbrev et : ET := fun n => match n with
  | _ => ("Fault", [])
local macro_rules | `(tactic| walk_at "w") => `(tactic| (conv => whnf))
local macro_rules | `(tactic| walk_at "at") => `(tactic| first | refine At.nat (j := 0) rfl rfl ?_ | refine At.nat (j := 1) rfl rfl ?_ | refine At.nat (j := 2) rfl rfl ?_ | refine At.nat (j := 3) rfl rfl ?_ | refine At.lit rfl ?_)
local macro_rules | `(tactic| walk_at "c") => `(tactic| first | refine And.intro (show CPow _ _ from ⟨by decide, by decide, by decide⟩) ?_ | refine And.intro (show RgOk _ from ⟨by omega, by omega⟩) ?_ | refine And.intro (show RgOk _ ∧ RgOk _ from ⟨⟨by omega, by omega⟩, ⟨by omega, by omega⟩⟩) ?_ | refine And.intro (show (0 : Int) < _ by decide) ?_ | refine And.intro (Or.inl (mulL _ _ (by decide))) ?_ | refine And.intro (Or.inl (mulR _ _ (by decide))) ?_ | refine And.intro (DivX.le (by decide) (by decide)) ?_ | refine And.intro (Or.inl (mulR _ _ (by omega))) ?_ | refine And.intro (Or.inl (mulL _ _ (by omega))) ?_)
local macro_rules | `(tactic| walk_at "g") => `(tactic| ((conv => whnf); repeat (first | (refine Ln.mk ?_; (conv => whnf)) | (walk_at "at"; (conv => whnf)) | (refine And.intro rfl ?_; (conv => whnf)) | (refine And.intro (szb rfl) ?_; (conv => whnf)) | (refine Br.ff ?_; (conv => whnf)) | (refine Br.tt ?_; (conv => whnf)) | (walk_at "c"; (conv => whnf)) | (refine fun (_ : _ ≤ 16777216) => ?_; (conv => whnf)))))
local macro_rules | `(tactic| walk_at "s") => `(tactic| ((conv => whnf); repeat (first | (walk_at "at"; (conv => whnf)) | (refine And.intro rfl ?_; (conv => whnf)) | (refine And.intro (szb rfl) ?_; (conv => whnf)) | (refine Br.ff ?_; (conv => whnf)) | (refine Br.tt ?_; (conv => whnf)) | (walk_at "c"; (conv => whnf)) | (refine fun (_ : _ ≤ 16777216) => ?_; (conv => whnf)))))
local macro_rules | `(tactic| walk_at "n") => `(tactic| (refine Ln.mk ?_; walk_at "s"))
local macro_rules | `(tactic| walk_at "r") => `(tactic| (refine ⟨DivX.le (by omega) (by omega), fun r r0 r1 => ?_⟩; walk_at "g"))
local macro_rules | `(tactic| walk_at "e") => `(tactic| ((first | refine ⟨_, rfl, rfl, rfl, rfl, rfl, rfl, ?_⟩ | refine ⟨_, rfl, rfl, rfl, rfl, rfl, ?_⟩ | refine ⟨_, rfl, rfl, rfl, rfl, ?_⟩ | refine ⟨_, rfl, rfl, rfl, ?_⟩ | refine ⟨_, rfl, rfl, ?_⟩ | refine ⟨_, rfl, ?_⟩ | refine ⟨_, _, rfl, rfl, rfl, rfl, rfl, rfl, ?_⟩ | refine ⟨_, _, rfl, rfl, rfl, rfl, rfl, ?_⟩ | refine ⟨_, _, rfl, rfl, rfl, rfl, ?_⟩ | refine ⟨_, _, rfl, rfl, rfl, ?_⟩ | refine ⟨_, _, rfl, rfl, ?_⟩ | refine ⟨_, _, rfl, ?_⟩ | refine ⟨_, _, _, rfl, rfl, rfl, rfl, rfl, rfl, ?_⟩ | refine ⟨_, _, _, rfl, rfl, rfl, rfl, rfl, ?_⟩ | refine ⟨_, _, _, rfl, rfl, rfl, rfl, ?_⟩ | refine ⟨_, _, _, rfl, rfl, rfl, ?_⟩ | refine ⟨_, _, _, rfl, rfl, ?_⟩ | refine ⟨_, _, _, rfl, ?_⟩ | refine ⟨_, _, _, _, rfl, rfl, rfl, rfl, rfl, rfl, ?_⟩ | refine ⟨_, _, _, _, rfl, rfl, rfl, rfl, rfl, ?_⟩ | refine ⟨_, _, _, _, rfl, rfl, rfl, rfl, ?_⟩ | refine ⟨_, _, _, _, rfl, rfl, rfl, ?_⟩ | refine ⟨_, _, _, _, rfl, rfl, ?_⟩ | refine ⟨_, _, _, _, rfl, ?_⟩ | refine ⟨_, _, _, _, _, rfl, rfl, rfl, rfl, rfl, rfl, ?_⟩ | refine ⟨_, _, _, _, _, rfl, rfl, rfl, rfl, rfl, ?_⟩ | refine ⟨_, _, _, _, _, rfl, rfl, rfl, rfl, ?_⟩ | refine ⟨_, _, _, _, _, rfl, rfl, rfl, ?_⟩ | refine ⟨_, _, _, _, _, rfl, rfl, ?_⟩ | refine ⟨_, _, _, _, _, rfl, ?_⟩); walk_at "g"))
local macro_rules | `(tactic| walk_at "b") => `(tactic| ((first | refine Br.dec (fun _ => ?_) (fun _ => ?_) | refine Br.ndec (fun _ => ?_) (fun _ => ?_)) <;> first | (exfalso; omega) | walk_at "g"))
local macro_rules | `(tactic| walk_at "rs") => `(tactic| (refine ⟨DivX.le (by omega) (by omega), fun r r0 r1 => ?_⟩; walk_at "s"))
local macro_rules | `(tactic| walk_at "bs") => `(tactic| ((first | refine Br.dec (fun _ => ?_) (fun _ => ?_) | refine Br.ndec (fun _ => ?_) (fun _ => ?_)) <;> first | (exfalso; omega) | walk_at "s"))
def nu (xs : List Int) (i : Nat) : Int := xs.getD i 0
theorem nu_get {xs : List Int} {i : Nat} (h : i < xs.length) : nu xs i = xs[i] := by unfold nu; rw [List.getD_eq_getElem?_getD, List.getElem?_eq_getElem h]; rfl
theorem atN {k : D → Prop} {xs : List Int} {w : Int} (h0 : 0 ≤ w) (h1 : w < xs.length) (hk : k (.int (nu xs w.toNat))) : At (xs.map .int) w k :=
  At.map h0 h1 fun h => by rw [← nu_get h]; exact hk
theorem nu_set {xs : List Int} {q i : Nat} {v : Int} : nu (xs.set q v) i = if q = i ∧ q < xs.length then v else nu xs i := by
  unfold nu
  rw [List.getD_eq_getElem?_getD, List.getD_eq_getElem?_getD, List.getElem?_set]
  by_cases h : q = i
  · subst h
    by_cases h2 : q < xs.length
    · simp [h2]
    · simp [h2]
  · simp [h]
def mn : List Int → Int
  | [] => 0
  | [x] => x
  | x :: y :: r => min x (mn (y :: r))
theorem mn_mem : ∀ {xs : List Int}, 0 < xs.length → mn xs ∈ xs
  | [], h => by simp at h
  | [x], _ => by simp [mn]
  | x :: y :: r, _ => by
    have := mn_mem (xs := y :: r) (by simp)
    rw [mn]
    rcases Int.le_total x (mn (y :: r)) with h | h
    · rw [Int.min_eq_left h]; exact List.mem_cons_self
    · rw [Int.min_eq_right h]; exact List.mem_cons_of_mem _ this
theorem mn_le : ∀ {xs : List Int} {y : Int}, y ∈ xs → mn xs ≤ y
  | [x], y, h => by rw [List.mem_singleton] at h; subst h; exact Int.le_refl _
  | x :: z :: r, y, h => by
    rw [mn]
    rcases List.mem_cons.mp h with rfl | h
    · exact Int.min_le_left ..
    · exact Int.le_trans (Int.min_le_right ..) (mn_le h)
theorem mn_eq {xs : List Int} {m : Int} (h : m ∈ xs) (l : ∀ y ∈ xs, m ≤ y) : m = mn xs := Int.le_antisymm (l _ (mn_mem (List.length_pos_of_mem h))) (mn_le h)
theorem all_id {α : Type} (f : α → Bool) (xs : List α) : (xs.map f).all id = xs.all f := by rw [List.all_map]; rfl
theorem At.any {k : D → Prop} {xs : List D} {w : Int} (h0 : 0 ≤ w) (h1 : w < xs.length) (hk : ∀ x ∈ xs, k x) : At xs w k := by
  have hw : w.toNat < xs.length := by omega
  exact At.nat (j := w.toNat) (by omega) (List.getElem?_eq_getElem hw) (hk _ (List.getElem_mem hw))
theorem b2i_0 (b : Bool) : 0 ≤ b2i' b := by cases b <;> decide
theorem b2i_2 (b : Bool) : b2i' b < 2 := by cases b <;> decide
theorem flats_of {n : Nat} : ∀ {xs : List D}, (∀ x ∈ xs, x.flat n = true) → D.flats n xs = true
  | [], _ => by simp only [D.flats]
  | x :: xs, h => by
    simp only [D.flats, Bool.and_eq_true]
    exact ⟨h x List.mem_cons_self, flats_of fun y hy => h y (List.mem_cons_of_mem _ hy)⟩
theorem okSs_of : ∀ {xs : List D}, (∀ x ∈ xs, x.okS = true) → D.okSs xs = true
  | [], _ => by simp only [D.okSs]
  | x :: xs, h => by
    simp only [D.okSs, Bool.and_eq_true]
    exact ⟨h x List.mem_cons_self, okSs_of fun y hy => h y (List.mem_cons_of_mem _ hy)⟩
theorem cmp_lst {xs : List D} (h : ∀ x ∈ xs, x.flat 59 = true ∧ x.okS = true) : Cmp (.lst xs) := ⟨by
  simp only [D.flat, Bool.and_eq_true]
  exact ⟨by decide, flats_of fun x hx => (h x hx).1⟩, by
  simp only [D.okS]
  exact okSs_of fun x hx => (h x hx).2⟩
theorem enc_part {α : Type} [DecidableEq α] {n : Nat} {f : α → D} (e : Enc n f) (h : n ≤ 59) (a : α) : (f a).flat 59 = true ∧ (f a).okS = true := ⟨e.flat a 59 h, e.ok a⟩
theorem encNat : Enc 0 (fun n : Nat => D.int n) := ⟨fun a b => by
  rw [Enc.int.eqv]
  exact decide_eq_decide.mpr Int.ofNat_inj, fun a k h => by cases k <;> rfl, fun a => rfl⟩
theorem nu_out {T : List Int} {q : Nat} (h : T.length ≤ q) : nu T q = 0 := by unfold nu; rw [List.getD_eq_getElem?_getD, List.getElem?_eq_none h]; rfl
abbrev encI (T : List Int) : List D := T.map .int
abbrev encN (xs : List Nat) : List D := xs.map fun (p : Nat) => D.int p
theorem atT {k : D → Prop} {T : List Int} {q : Nat} {w : Int} (e : w = (q : Int)) (h : q < T.length) (hk : k (.int (nu T q))) : At (encI T) w k := by subst e; exact atN (by omega) (by omega) (by simpa using hk)
theorem atW {k : D → Prop} {w : List Nat} {x j : Nat} {i : Int} (e : i = (j : Int)) (h : w[j]? = some x) (hk : k (.int x)) : At (encN w) i k := At.nat e (by rw [List.getElem?_map, h]; rfl) hk
theorem encI_cmp (a : List Int) : Cmp (.lst (encI a)) := Enc.int.lst.cmp (by decide) a
theorem encI_eqv (a b : List Int) : D.eqv (.lst (encI a)) (.lst (encI b)) = decide (a = b) := Enc.int.lst.eqv a b
theorem encN_cmp (a : List Nat) : Cmp (.lst (encN a)) := cmpM (fun (p : Nat) => (p : Int)) a
namespace RG
abbrev Row := Nat × Nat × Int
def fset {α : Type} (f : Nat → α) (u : Nat) (x : α) : Nat → α := fun i => if i = u then x else f i
theorem fset_eq {α : Type} (f : Nat → α) (u : Nat) (x : α) : fset f u x u = x := by simp [fset]
theorem fset_ne {α : Type} (f : Nat → α) {u i : Nat} (x : α) (h : i ≠ u) : fset f u x i = f i := by simp [fset, h]
/-- a table, the lifters, the times of the lifts -/
structure St where
  t : Nat → Int
  l : Nat → Option Nat
  T : Nat → Nat
/-- clock: the number of steps done; m: how many constraints; P j: when the j-th was looked at last -/
def seen (m clk j : Nat) : Nat := if clk = 0 then 0 else if j + 1 ≤ clk then (clk - (j + 1)) / m * m + (j + 1) else 0
structure Inv (rows : List Row) (clk : Nat) (P : Nat → Nat) (s : St) : Prop where
  pos : ∀ u, 0 ≤ s.t u
  non : ∀ u, s.l u = none → s.t u = 0 ∧ s.T u = 0
  som : ∀ u j, s.l u = some j → ∃ v c, rows[j]? = some (u, v, c) ∧ s.t u ≤ s.t v - c ∧ (s.T u ≤ s.T v → s.t u < s.t v - c) ∧ 1 ≤ s.T u ∧ s.T u ≤ s.T v + rows.length ∧ 0 < s.t u
  tim : ∀ u, s.T u ≤ clk
  old : ∀ (j : Nat) u v c, rows[j]? = some (u, v, c) → 1 ≤ P j → s.T v < P j → s.t v - c ≤ s.t u
/-- one look at the k-th constraint -/
def look (k : Nat) (r : Row) (clk : Nat) (s : St) : St :=
  if s.t r.1 < s.t r.2.1 - r.2.2 then ⟨fset s.t r.1 (s.t r.2.1 - r.2.2), fset s.l r.1 (some k), fset s.T r.1 (clk + 1)⟩ else s
theorem Inv.look {rows : List Row} {clk k : Nat} {P : Nat → Nat} {s : St} {r : Row} (I : Inv rows clk P s) (e : rows[k]? = some r) (h : clk + 1 ≤ P k + rows.length) (hp : ∀ j, P j ≤ clk) : Inv rows (clk + 1) (fset P k (clk + 1)) (look k r clk s) := by
  obtain ⟨u, v, c⟩ := r
  unfold RG.look
  by_cases hl : s.t u < s.t v - c
  · simp only [if_pos hl]
    have p0 := I.pos u
    have hk : clk + 1 ≤ s.T v + rows.length := by
      rcases Nat.lt_or_ge (s.T v) (P k) with z | z
      · have := I.old k u v c e (by omega) z
        omega
      · omega
    refine ⟨fun w => ?_, fun w h0 => ?_, fun w j hj => ?_, fun w => ?_, fun j u' v' c' ej p1 p2 => ?_⟩
    · by_cases q : w = u
      · subst q; simp only [fset_eq]; omega
      · simp only [fset_ne _ _ q]; exact I.pos w
    · by_cases q : w = u
      · subst q; simp only [fset_eq] at h0; cases h0
      · simp only [fset_ne _ _ q] at h0 ⊢; exact I.non w h0
    · by_cases q : w = u
      · subst q
        simp only [fset_eq, Option.some.injEq] at hj ⊢
        subst hj
        refine ⟨v, c, e, ?_, ?_, by omega, ?_, by omega⟩
        · by_cases q2 : v = w
          · subst q2; simp only [fset_eq]; omega
          · simp only [fset_ne _ _ q2]; omega
        · by_cases q2 : v = w
          · subst q2; simp only [fset_eq]; omega
          · simp only [fset_ne _ _ q2]
            have := I.tim v
            omega
        · by_cases q2 : v = w
          · subst q2; simp only [fset_eq]; omega
          · simp only [fset_ne _ _ q2]; exact hk
      · simp only [fset_ne _ _ q] at hj ⊢
        obtain ⟨v', c', e', h1, h2, h3, h4, h5⟩ := I.som w j hj
        refine ⟨v', c', e', ?_, ?_, h3, ?_, h5⟩
        · by_cases q2 : v' = u
          · subst q2; simp only [fset_eq]; omega
          · simp only [fset_ne _ _ q2]; exact h1
        · by_cases q2 : v' = u
          · subst q2; simp only [fset_eq]; omega
          · simp only [fset_ne _ _ q2]; exact h2
        · have := I.tim w
          by_cases q2 : v' = u
          · subst q2; simp only [fset_eq]; omega
          · simp only [fset_ne _ _ q2]; exact h4
    · by_cases q : w = u
      · subst q; simp only [fset_eq]; omega
      · simp only [fset_ne _ _ q]; have := I.tim w; omega
    · by_cases q : j = k
      · subst q
        rw [e] at ej
        simp only [Option.some.injEq, Prod.mk.injEq] at ej
        obtain ⟨rfl, rfl, rfl⟩ := ej
        simp only [fset_eq] at p2 ⊢
        by_cases q2 : v = u
        · subst q2; simp only [fset_eq] at p2; omega
        · simp only [fset_ne _ _ q2]; omega
      · simp only [fset_ne P _ q] at p1 p2
        have hv : v' ≠ u := fun z => by
          subst z
          simp only [fset_eq] at p2
          have := hp j
          omega
        simp only [fset_ne _ _ hv] at p2 ⊢
        have := I.old j u' v' c' ej p1 p2
        by_cases q2 : u' = u
        · subst q2; simp only [fset_eq]; omega
        · simp only [fset_ne _ _ q2]; exact this
  · simp only [if_neg hl]
    refine ⟨I.pos, I.non, I.som, fun w => by have := I.tim w; omega, fun j u' v' c' ej p1 p2 => ?_⟩
    by_cases q : j = k
    · subst q
      rw [e] at ej
      simp only [Option.some.injEq, Prod.mk.injEq] at ej
      obtain ⟨rfl, rfl, rfl⟩ := ej
      omega
    · simp only [fset_ne P _ q] at p1 p2
      exact I.old j u' v' c' ej p1 p2
/-- before the k-th look of the r-th round (from 0): when the constraints were looked at last -/
def pAt (m r k : Nat) : Nat → Nat := fun j => if j < k then r * m + j + 1 else if r = 0 then 0 else (r - 1) * m + j + 1
/-- where the rounds stand -/
structure At (rows : List Row) (r k : Nat) (s : St) : Prop where
  inv : Inv rows (r * rows.length + k) (fun j => if j < rows.length then pAt rows.length r k j else 0) s
  le : k ≤ rows.length
theorem At.zero (rows : List Row) : At rows 0 0 ⟨fun _ => 0, fun _ => none, fun _ => 0⟩ := by
  refine ⟨⟨fun _ => Int.le_refl _, fun _ _ => ⟨rfl, rfl⟩, fun u j h => (by cases h), fun _ => Nat.zero_le _, fun j u v c e p1 p2 => ?_⟩, Nat.zero_le _⟩
  simp only [pAt] at p1
  split at p1 <;> simp at p1
theorem At.next {rows : List Row} {r : Nat} {s : St} (a : At rows r rows.length s) : At rows (r + 1) 0 s := by
  refine ⟨?_, Nat.zero_le _⟩
  have h := a.inv
  have e : (r + 1) * rows.length + 0 = r * rows.length + rows.length := by rw [Nat.add_one_mul]; rfl
  rw [e]
  have e2 : (fun j => if j < rows.length then pAt rows.length (r + 1) 0 j else 0) = (fun j => if j < rows.length then pAt rows.length r rows.length j else 0) := by
    funext j
    by_cases q : j < rows.length
    · simp [q, pAt]
    · simp [q]
  rw [e2]
  exact h
theorem At.look {rows : List Row} {r k : Nat} {s : St} {w : Row} (a : At rows r k s) (e : rows[k]? = some w) : At rows r (k + 1) (look k w (r * rows.length + k) s) := by
  have hk : k < rows.length := (List.getElem?_eq_some_iff.mp e).1
  refine ⟨?_, hk⟩
  have h := a.inv.look e (by
    simp only [hk, if_true, pAt, Nat.lt_irrefl, if_false]
    by_cases q : r = 0
    · subst q; simp; omega
    · simp only [q, if_false]
      obtain ⟨r', rfl⟩ := Nat.exists_eq_succ_of_ne_zero q
      simp only [Nat.succ_eq_add_one, Nat.add_sub_cancel, Nat.add_one_mul]
      omega) (fun j => by
    by_cases q : j < rows.length
    · simp only [q, if_true, pAt]
      split
      · omega
      · split
        · omega
        · rename_i h1 h2
          obtain ⟨r', rfl⟩ := Nat.exists_eq_succ_of_ne_zero h2
          simp only [Nat.succ_eq_add_one, Nat.add_sub_cancel, Nat.add_one_mul]
          omega
    · simp [q])
  have e2 : (fset (fun j => if j < rows.length then pAt rows.length r k j else 0) k (r * rows.length + k + 1)) = (fun j => if j < rows.length then pAt rows.length r (k + 1) j else 0) := by
    funext j
    by_cases q : j = k
    · subst q; simp [fset_eq, hk, pAt]
    · rw [fset_ne _ _ q]
      by_cases q1 : j < k
      · have : j < k + 1 := by omega
        simp [pAt, q1, this]
      · have : ¬ j < k + 1 := by omega
        simp [pAt, q1, this]
  rw [e2] at h
  exact h

/-! ### the end of the rounds -/
def Keeps (rows : List Row) (t : Nat → Int) : Prop := ∀ u v c, (u, v, c) ∈ rows → t v - c ≤ t u
/-- held up: each member above 0 is lifted to just its number from one that is held up -/
def Held (rows : List Row) (t : Nat → Int) : Prop := ∃ T : Nat → Nat, ∀ u, 0 < t u → ∃ v c, (u, v, c) ∈ rows ∧ T v < T u ∧ t u = t v - c
theorem Inv.held {rows : List Row} {clk : Nat} {P : Nat → Nat} {s : St} (I : Inv rows clk P s) (k : Keeps rows s.t) : Held rows s.t := by
  refine ⟨s.T, fun u hu => ?_⟩
  cases e : s.l u with
  | none => have := (I.non u e).1; omega
  | some j =>
    obtain ⟨v, c, e1, h1, h2, h3, h4, _⟩ := I.som u j e
    have m := List.mem_of_getElem? e1
    have := k u v c m
    refine ⟨v, c, m, ?_, by omega⟩
    rcases Nat.lt_or_ge (s.T v) (s.T u) with z | z
    · exact z
    · have := h2 z; omega
theorem Held.le {rows : List Row} {t t2 : Nat → Int} (h : Held rows t) (k : Keeps rows t2) (p : ∀ u, 0 ≤ t2 u) : ∀ u, t u ≤ t2 u := by
  obtain ⟨T, h⟩ := h
  have : ∀ (n u : Nat), T u ≤ n → t u ≤ t2 u := by
    intro n
    induction n with
    | zero =>
      intro u hn
      rcases Int.lt_or_le 0 (t u) with z | z
      · obtain ⟨v, c, m, h1, h2⟩ := h u z
        omega
      · have := p u; omega
    | succ n ih =>
      intro u hn
      rcases Int.lt_or_le 0 (t u) with z | z
      · obtain ⟨v, c, m, h1, h2⟩ := h u z
        have := ih v (by omega)
        have := k u v c m
        omega
      · have := p u; omega
  exact fun u => this (T u) u (Nat.le_refl _)
theorem held_one {rows : List Row} {t t2 : Nat → Int} (h : Held rows t) (k : Keeps rows t) (p : ∀ u, 0 ≤ t u) (h2 : Held rows t2) (k2 : Keeps rows t2) (p2 : ∀ u, 0 ≤ t2 u) : t = t2 := by
  funext u
  have := h.le k2 p2 u
  have := h2.le k p u
  omega
/-- the member from which the last lifter lifts a member -/
def nxt (rows : List Row) (l : Nat → Option Nat) (u : Nat) : Nat := match l u with
  | some j => match rows[j]? with
    | some r => r.2.1
    | none => u
  | none => u
def it {α : Type} (f : α → α) : Nat → α → α
  | 0, x => x
  | n + 1, x => it f n (f x)
theorem it_add {α : Type} (f : α → α) : ∀ (a b : Nat) (x : α), it f (a + b) x = it f b (it f a x)
  | 0, b, x => by rw [Nat.zero_add]; rfl
  | a + 1, b, x => by
    rw [Nat.add_right_comm]
    exact it_add f a b (f x)
theorem it_succ {α : Type} (f : α → α) (n : Nat) (x : α) : it f (n + 1) x = f (it f n x) := it_add f n 1 x
theorem nxt_eq {rows : List Row} {l : Nat → Option Nat} {u j v : Nat} {c : Int} (h : l u = some j) (e : rows[j]? = some (u, v, c)) : nxt rows l u = v := by simp [nxt, h, e]
theorem Inv.nxt_T {rows : List Row} {clk : Nat} {P : Nat → Nat} {s : St} (I : Inv rows clk P s) {u : Nat} (h : 1 ≤ s.T u) : s.l u ≠ none ∧ s.T u ≤ s.T (nxt rows s.l u) + rows.length := by
  cases e : s.l u with
  | none => have := (I.non u e).2; omega
  | some j =>
    obtain ⟨v, c, e1, h1, h2, h3, h4, _⟩ := I.som u j e
    rw [nxt_eq e e1]
    exact ⟨by simp, h4⟩
theorem Inv.far {rows : List Row} {clk : Nat} {P : Nat → Nat} {s : St} (I : Inv rows clk P s) {x n : Nat} (h : (n - 1) * rows.length + 1 ≤ s.T x) : ∀ j, j < n → s.l (it (nxt rows s.l) j x) ≠ none ∧ (n - 1 - j) * rows.length + 1 ≤ s.T (it (nxt rows s.l) j x)
  | 0, h0 => ⟨(I.nxt_T (u := x) (by have := Nat.zero_le ((n - 1) * rows.length); omega)).1, by simpa [it] using h⟩
  | j + 1, hj => by
    obtain ⟨_, h2⟩ := I.far h j (by omega)
    have h3 := (I.nxt_T (u := it (nxt rows s.l) j x) (by omega)).2
    rw [← it_succ (nxt rows s.l) j x] at h3
    have e : n - 1 - j = n - 1 - (j + 1) + 1 := by omega
    rw [e, Nat.add_one_mul] at h2
    have h4 : (n - 1 - (j + 1)) * rows.length + 1 ≤ s.T (it (nxt rows s.l) (j + 1) x) := by omega
    exact ⟨(I.nxt_T (by omega)).1, h4⟩
theorem pigeon : ∀ (n : Nat) (f : Nat → Nat), (∀ i, i ≤ n → f i < n) → ∃ i j, i < j ∧ j ≤ n ∧ f i = f j
  | 0, f, h => by have := h 0 (Nat.le_refl _); omega
  | n + 1, f, h => by
    by_cases q : ∃ i, i ≤ n ∧ f i = f (n + 1)
    · obtain ⟨i, h1, h2⟩ := q
      exact ⟨i, n + 1, by omega, Nat.le_refl _, h2⟩
    · have q' : ∀ i, i ≤ n → f i ≠ f (n + 1) := fun i hi e => q ⟨i, hi, e⟩
      obtain ⟨i, j, h1, h2, h3⟩ := pigeon n (fun i => if f i = n then f (n + 1) else f i) (fun i hi => by
        show (if f i = n then f (n + 1) else f i) < n
        have a := h i (by omega)
        have b := h (n + 1) (Nat.le_refl _)
        have c := q' i hi
        split
        · omega
        · omega)
      have ci := q' i (by omega)
      have cj := q' j h2
      refine ⟨i, j, h1, by omega, ?_⟩
      split at h3 <;> split at h3 <;> omega
theorem least_per {α : Type} (f : α → α) (y : α) (p : Nat) (hp : 0 < p) (e : it f p y = y) : ∃ q, 0 < q ∧ q ≤ p ∧ it f q y = y ∧ ∀ k, 0 < k → k < q → it f k y ≠ y := by
  induction p using Nat.strongRecOn with
  | ind p ih =>
    by_cases h : ∃ k, 0 < k ∧ k < p ∧ it f k y = y
    · obtain ⟨k, h1, h2, h3⟩ := h
      obtain ⟨q, a, b, c, d⟩ := ih k h2 h1 h3
      exact ⟨q, a, by omega, c, d⟩
    · exact ⟨p, hp, Nat.le_refl _, e, fun k h1 h2 h3 => h ⟨k, h1, h2, h3⟩⟩
/-- a ring of lifters: y leads back to itself in q steps -/
structure Ringed (rows : List Row) (s : St) (y q : Nat) : Prop where
  pos : 0 < q
  back : it (nxt rows s.l) q y = y
  low : ∀ k, 0 < k → k < q → it (nxt rows s.l) k y ≠ y
  som : ∀ k, s.l (it (nxt rows s.l) k y) ≠ none
theorem per_mul {α : Type} {f : α → α} {p : Nat} {y : α} (e : it f p y = y) : ∀ k, it f (k * p) y = y
  | 0 => by rw [Nat.zero_mul]; rfl
  | k + 1 => by rw [Nat.add_one_mul, it_add, per_mul e k, e]
theorem per_mod {α : Type} {f : α → α} {p : Nat} {y : α} (e : it f p y = y) (k : Nat) : it f k y = it f (k % p) y := by
  have h : k = (k / p) * p + k % p := by rw [Nat.mul_comm]; exact (Nat.div_add_mod k p).symm
  have h2 : it f k y = it f ((k / p) * p + k % p) y := by rw [← h]
  rw [h2, it_add, per_mul e]
theorem Inv.ringed {rows : List Row} {clk : Nat} {P : Nat → Nat} {s : St} (I : Inv rows clk P s) {x n : Nat} (h : (n - 1) * rows.length + 1 ≤ s.T x) (hx : x < n) (hr : ∀ r ∈ rows, r.1 < n ∧ r.2.1 < n) : ∃ q, Ringed rows s (it (nxt rows s.l) n x) q ∧ q ≤ n := by
  have far := I.far h
  have lt : ∀ j, it (nxt rows s.l) j x < n := by
    intro j
    induction j with
    | zero => exact hx
    | succ j ih =>
      rw [it_succ]
      unfold nxt
      split
      · split
        · rename_i r e
          exact (hr r (List.mem_of_getElem? e)).2
        · exact ih
      · exact ih
  obtain ⟨i, j, h1, h2, h3⟩ := pigeon n (fun j => it (nxt rows s.l) j x) (fun i _ => lt i)
  have h3 : it (nxt rows s.l) i x = it (nxt rows s.l) j x := h3
  have per : it (nxt rows s.l) (j - i) (it (nxt rows s.l) i x) = it (nxt rows s.l) i x := by
    rw [← it_add, show i + (j - i) = j by omega]
    exact h3.symm
  have en : it (nxt rows s.l) n x = it (nxt rows s.l) (n - i) (it (nxt rows s.l) i x) := by rw [← it_add, show i + (n - i) = n by omega]
  have py : it (nxt rows s.l) (j - i) (it (nxt rows s.l) n x) = it (nxt rows s.l) n x := by
    rw [en, ← it_add, Nat.add_comm, it_add, per]
  obtain ⟨q, a, b, c, d⟩ := least_per _ _ (j - i) (by omega) py
  refine ⟨q, ⟨a, c, d, fun k => ?_⟩, by omega⟩
  rw [← it_add, show n + k = i + (n + k - i) by omega, it_add, per_mod per, ← it_add]
  have := Nat.mod_lt (n + k - i) (show 0 < j - i by omega)
  exact (far _ (by omega)).1
def uOf (rows : List Row) (k : Nat) : Nat := match rows[k]? with | some r => r.1 | none => 0
def vOf (rows : List Row) (k : Nat) : Nat := match rows[k]? with | some r => r.2.1 | none => 0
def cOf (rows : List Row) (k : Nat) : Int := match rows[k]? with | some r => r.2.2 | none => 0
/-- the sum of some constraints -/
def total (rows : List Row) (ks : List Nat) : Int := (ks.map (cOf rows)).sum
/-- the numbers of a ring -/
structure IsRing (rows : List Row) (ks : List Nat) : Prop where
  ne : ks ≠ []
  lt : ∀ k ∈ ks, k < rows.length
  clo : ∀ (i : Nat) a b u v c u' v' c', ks[i]? = some a → ks[(i + 1) % ks.length]? = some b → rows[a]? = some (u, v, c) → rows[b]? = some (u', v', c') → v = u'
  nod : (ks.map (vOf rows)).Nodup
  neg : total rows ks < 0
def lifts (rows : List Row) (l : Nat → Option Nat) (y q : Nat) : List Nat := (List.range q).map fun k => (l (it (nxt rows l) k y)).getD 0
theorem Ringed.is {rows : List Row} {clk : Nat} {P : Nat → Nat} {s : St} {y q : Nat} (I : Inv rows clk P s) (R : Ringed rows s y q) : IsRing rows (lifts rows s.l y q) := by
  have row : ∀ k, ∃ j c, s.l (it (nxt rows s.l) k y) = some j ∧ rows[j]? = some (it (nxt rows s.l) k y, it (nxt rows s.l) (k + 1) y, c) ∧ s.t (it (nxt rows s.l) k y) ≤ s.t (it (nxt rows s.l) (k + 1) y) - c ∧ (s.T (it (nxt rows s.l) k y) ≤ s.T (it (nxt rows s.l) (k + 1) y) → s.t (it (nxt rows s.l) k y) < s.t (it (nxt rows s.l) (k + 1) y) - c) := by
    intro k
    cases e : s.l (it (nxt rows s.l) k y) with
    | none => exact absurd e (R.som k)
    | some j =>
      obtain ⟨v, c, e1, h1, h2, h3, h4, _⟩ := I.som _ j e
      have ev : it (nxt rows s.l) (k + 1) y = v := by rw [it_succ]; exact nxt_eq e e1
      rw [ev]
      exact ⟨j, c, rfl, e1, h1, h2⟩
  have len : (lifts rows s.l y q).length = q := by simp [lifts]
  have get : ∀ i a, (lifts rows s.l y q)[i]? = some a → s.l (it (nxt rows s.l) i y) = some a ∧ i < q := by
    intro i a e
    have hi : i < q := by rw [← len]; exact (List.getElem?_eq_some_iff.mp e).1
    simp only [lifts, List.getElem?_map, List.getElem?_range hi, Option.map_some, Option.some.injEq] at e
    obtain ⟨j, c, h1, _⟩ := row i
    rw [h1] at e ⊢
    simp at e
    exact ⟨by rw [e], hi⟩
  refine ⟨?_, ?_, ?_, ?_, ?_⟩
  · intro e
    rw [e] at len
    have := R.pos
    simp at len
    omega
  · intro k hk
    obtain ⟨i, hi⟩ := List.mem_iff_getElem?.mp hk
    obtain ⟨h1, h2⟩ := get i k hi
    obtain ⟨j, c, h3, h4, _⟩ := row i
    rw [h1] at h3
    cases h3
    exact (List.getElem?_eq_some_iff.mp h4).1
  · intro i a b u v c u' v' c' ha hb ra rb
    obtain ⟨h1, h2⟩ := get i a ha
    rw [len] at hb
    obtain ⟨h3, h4⟩ := get _ b hb
    obtain ⟨j, c1, e1, e2, _⟩ := row i
    rw [h1] at e1
    cases e1
    rw [ra] at e2
    simp only [Option.some.injEq, Prod.mk.injEq] at e2
    obtain ⟨j2, c2, e3, e4, _⟩ := row ((i + 1) % q)
    rw [h3] at e3
    cases e3
    rw [rb] at e4
    simp only [Option.some.injEq, Prod.mk.injEq] at e4
    rw [e2.2.1, e4.1]
    by_cases z : i + 1 < q
    · rw [Nat.mod_eq_of_lt z]
    · have : i + 1 = q := by omega
      rw [this, Nat.mod_self, R.back]
      rfl
  · have e : ((lifts rows s.l y q).map (vOf rows)) = (List.range q).map fun k => it (nxt rows s.l) (k + 1) y := by
      rw [lifts, List.map_map]
      refine List.map_congr_left fun k _ => ?_
      obtain ⟨j, c, h1, h2, _⟩ := row k
      simp only [Function.comp, h1, Option.getD_some, h2, vOf]
    rw [e]
    rw [List.nodup_iff_pairwise_ne, List.pairwise_map]
    refine List.Pairwise.imp_of_mem ?_ (List.pairwise_lt_range (n := q))
    intro a b ha hb hab e2
    have hb := List.mem_range.mp hb
    have : it (nxt rows s.l) (q - (b + 1)) (it (nxt rows s.l) (a + 1) y) = y := by
      rw [e2, ← it_add, show b + 1 + (q - (b + 1)) = q by omega, R.back]
    rw [← it_add] at this
    exact R.low (a + 1 + (q - (b + 1))) (by omega) (by omega) this
  · have e : total rows (lifts rows s.l y q) = ((List.range q).map fun k => cOf rows ((s.l (it (nxt rows s.l) k y)).getD 0)).sum := by
      rw [total, lifts, List.map_map]
      rfl
    have tel : ∀ m, ((List.range m).map fun k => cOf rows ((s.l (it (nxt rows s.l) k y)).getD 0)).sum ≤ s.t (it (nxt rows s.l) m y) - s.t y ∧ ((∃ k, k < m ∧ s.T (it (nxt rows s.l) k y) ≤ s.T (it (nxt rows s.l) (k + 1) y)) → ((List.range m).map fun k => cOf rows ((s.l (it (nxt rows s.l) k y)).getD 0)).sum < s.t (it (nxt rows s.l) m y) - s.t y) := by
      intro m
      induction m with
      | zero => exact ⟨by simp [it], fun ⟨k, h, _⟩ => by omega⟩
      | succ m ih =>
        obtain ⟨j, c, h1, h2, h3, h4⟩ := row m
        rw [List.range_succ, List.map_append, List.sum_append]
        have hc : cOf rows ((s.l (it (nxt rows s.l) m y)).getD 0) = c := by simp [cOf, h1, h2]
        simp only [List.map_cons, List.map_nil, List.sum_cons, List.sum_nil, hc]
        refine ⟨by have := ih.1; omega, fun ⟨k, hk, ht⟩ => ?_⟩
        by_cases z : k = m
        · subst z
          have := h4 ht
          have := ih.1
          omega
        · have := ih.2 ⟨k, by omega, ht⟩
          omega
    have one : ∃ k, k < q ∧ s.T (it (nxt rows s.l) k y) ≤ s.T (it (nxt rows s.l) (k + 1) y) := by
      by_cases z : ∃ k, k < q ∧ s.T (it (nxt rows s.l) k y) ≤ s.T (it (nxt rows s.l) (k + 1) y)
      · exact z
      · have z' : ∀ k, k < q → s.T (it (nxt rows s.l) (k + 1) y) < s.T (it (nxt rows s.l) k y) := fun k hk => Nat.lt_of_not_le fun h => z ⟨k, hk, h⟩
        have : ∀ k, k ≤ q → s.T (it (nxt rows s.l) k y) + k ≤ s.T y := by
          intro k
          induction k with
          | zero => intro _; exact Nat.le_refl _
          | succ k ih =>
            intro hk
            have := ih (by omega)
            have := z' k (by omega)
            omega
        have h := this q (Nat.le_refl _)
        rw [R.back] at h
        have := R.pos
        omega
    have h := (tel q).2 one
    rw [R.back] at h
    rw [e]
    omega
/-- where a ring is, no table keeps all -/
theorem IsRing.none {rows : List Row} {ks : List Nat} (R : IsRing rows ks) {t : Nat → Int} (k : Keeps rows t) : False := by
  have neg := R.neg
  -- the sum of t(head) - t(tail) is 0
  have hd : ∀ a ∈ ks, ∃ u v c, rows[a]? = some (u, v, c) ∧ t v - c ≤ t u := fun a ha => by
    have := R.lt a ha
    refine ⟨rows[a].1, rows[a].2.1, rows[a].2.2, by rw [List.getElem?_eq_getElem this], k _ _ _ (List.getElem_mem this)⟩
  let f : Nat → Int := fun a => match rows[a]? with | some r => t r.2.1 | none => 0
  let g : Nat → Int := fun a => match rows[a]? with | some r => t r.1 | none => 0
  have h1 : ∀ l : List Nat, (∀ a ∈ l, a ∈ ks) → (l.map f).sum - (l.map g).sum ≤ total rows l := by
    intro l
    induction l with
    | nil => intro _; simp [total]
    | cons a l ih =>
      intro h
      have := ih fun b hb => h b (List.mem_cons_of_mem _ hb)
      obtain ⟨u, v, c, e, hc⟩ := hd a (h a List.mem_cons_self)
      simp only [List.map_cons, List.sum_cons, total, f, g, e, cOf] at this ⊢
      omega
  have rot : ks.map f = (ks.drop 1 ++ ks.take 1).map g := by
    refine List.ext_getElem? fun i => ?_
    rw [List.getElem?_map, List.getElem?_map]
    by_cases hi : i < ks.length
    · have e2 : (ks.drop 1 ++ ks.take 1)[i]? = ks[(i + 1) % ks.length]? := by
        rw [List.getElem?_append, List.length_drop]
        split
        · rename_i z
          rw [List.getElem?_drop, Nat.mod_eq_of_lt (by omega), Nat.add_comm]
        · rename_i z
          have : i + 1 = ks.length := by omega
          rw [this, Nat.mod_self, show i - (ks.length - 1) = 0 by omega, List.getElem?_take]
          simp
      rw [e2]
      have hm := Nat.mod_lt (i + 1) (show 0 < ks.length by omega)
      rw [List.getElem?_eq_getElem hi, List.getElem?_eq_getElem hm]
      simp only [Option.map_some, Option.some.injEq, f, g]
      obtain ⟨u, v, c, e, _⟩ := hd _ (List.getElem_mem hi)
      obtain ⟨u', v', c', e', _⟩ := hd _ (List.getElem_mem hm)
      rw [e, e']
      have := R.clo i _ _ u v c u' v' c' (List.getElem?_eq_getElem hi) (List.getElem?_eq_getElem hm) e e'
      rw [this]
    · rw [List.getElem?_eq_none (by omega), List.getElem?_eq_none (by simp; omega)]
      rfl
  have sw : ((ks.drop 1 ++ ks.take 1).map g).sum = (ks.map g).sum := by
    rw [List.map_append, List.sum_append]
    have : (ks.map g).sum = ((ks.take 1 ++ ks.drop 1).map g).sum := by rw [List.take_append_drop]
    rw [this, List.map_append, List.sum_append]
    omega
  have := h1 ks fun _ h => h
  rw [rot, sw] at this
  omega
theorem IsRing.step {rows : List Row} {ks : List Nat} (R : IsRing rows ks) {i : Nat} {a b : Nat} (ha : ks[i]? = some a) (hb : ks[(i + 1) % ks.length]? = some b) : vOf rows a = uOf rows b := by
  have h1 := R.lt a (List.mem_of_getElem? ha)
  have h2 := R.lt b (List.mem_of_getElem? hb)
  unfold vOf uOf
  rw [List.getElem?_eq_getElem h1, List.getElem?_eq_getElem h2]
  exact R.clo i a b _ _ _ _ _ _ ha hb (List.getElem?_eq_getElem h1) (List.getElem?_eq_getElem h2)
theorem IsRing.tails {rows : List Row} {ks : List Nat} (R : IsRing rows ks) : (ks.map (uOf rows)).drop 1 = (ks.map (vOf rows)).dropLast := by
  refine List.ext_getElem? fun i => ?_
  rw [List.getElem?_drop, List.getElem?_map, List.getElem?_dropLast, List.length_map]
  by_cases h : i < ks.length - 1
  · have h1 : i < ks.length := by omega
    have h2 : 1 + i < ks.length := by omega
    rw [if_pos h, List.getElem?_map, List.getElem?_eq_getElem h1, List.getElem?_eq_getElem h2]
    simp only [Option.map_some, Option.some.injEq]
    refine (R.step (i := i) (List.getElem?_eq_getElem h1) ?_).symm
    rw [Nat.mod_eq_of_lt (by omega), Nat.add_comm i 1]
    exact List.getElem?_eq_getElem h2
  · rw [if_neg h, List.getElem?_eq_none (by omega)]
    rfl
theorem IsRing.ends {rows : List Row} {k : Nat} {r : List Nat} (R : IsRing rows (k :: r)) : uOf rows k = vOf rows ((k :: r).getLast (by simp)) := by
  refine (R.step (i := r.length) ?_ ?_).symm
  · rw [List.getLast_eq_getElem]
    exact List.getElem?_eq_getElem _
  · rw [List.length_cons, Nat.mod_self]
    rfl
end RG

/-! data of rings -/
open RG in
abbrev Rw := RG.Row
def dR (r : RG.Row) : D := .tup [.int (r.1 : Nat), .int (r.2.1 : Nat), .int r.2.2]
def lD : Option Nat → D
  | none => .non
  | some k => .int (k : Nat)
def tab (n : Nat) (t : Nat → Int) : List D := (List.range n).map fun i => D.int (t i)
def lif (n : Nat) (l : Nat → Option Nat) : List D := (List.range n).map fun i => lD (l i)
theorem tab_len (n : Nat) (t : Nat → Int) : (tab n t).length = n := by simp [tab]
theorem lif_len (n : Nat) (l : Nat → Option Nat) : (lif n l).length = n := by simp [lif]
theorem rng_get {n v : Nat} {g : Nat → D} (h : v < n) : ((List.range n).map g)[v]? = some (g v) := by
  rw [List.getElem?_map, List.getElem?_range h]; rfl
theorem atTab {k : D → Prop} {n v : Nat} {t : Nat → Int} (h : v < n) (hk : k (.int (t v))) : At (tab n t) (v : Nat) k := At.nat rfl (rng_get h) hk
theorem atLif {k : D → Prop} {n v : Nat} {l : Nat → Option Nat} (h : v < n) (hk : k (lD (l v))) : At (lif n l) (v : Nat) k := At.nat rfl (rng_get h) hk
theorem rng_set {n u : Nat} {g : Nat → D} {x : D} : ((List.range n).map g).set u x = (List.range n).map (RG.fset g u x) := by
  refine List.ext_getElem? fun i => ?_
  rw [List.getElem?_set, List.length_map, List.length_range]
  by_cases hi : i < n
  · rw [rng_get hi, rng_get hi]
    by_cases e : u = i
    · subst e; rw [if_pos rfl, if_pos hi, RG.fset_eq]
    · rw [if_neg e, RG.fset_ne _ _ (Ne.symm e)]
  · rw [List.getElem?_eq_none (by simpa using hi)]
    rw [List.getElem?_eq_none (by simpa using hi)]
    split
    · split <;> first | rfl | omega
    · rfl
theorem tab_set {n u : Nat} {t : Nat → Int} {x : Int} : (tab n t).set u (.int x) = tab n (RG.fset t u x) := by
  unfold tab
  rw [rng_set]
  congr 1
  funext i
  simp only [RG.fset]
  split <;> rfl
theorem lif_set {n u k : Nat} {l : Nat → Option Nat} : (lif n l).set u (.int (k : Nat)) = lif n (RG.fset l u (some k)) := by
  unfold lif
  rw [rng_set]
  congr 1
  funext i
  simp only [RG.fset]
  split <;> rfl
theorem enum_get {xs : List D} {i : Nat} {x : D} (h : (enumD xs)[i]? = some x) : ∃ y, xs[i]? = some y ∧ x = .tup [.int (i : Nat), y] := by
  unfold enumD at h
  rw [List.getElem?_map] at h
  by_cases hi : i < xs.length
  · rw [List.getElem?_range hi, Option.map_some, Option.some.injEq] at h
    exact ⟨xs[i], List.getElem?_eq_getElem hi, by rw [← h, List.getD_eq_getElem?_getD, List.getElem?_eq_getElem hi]; rfl⟩
  · rw [List.getElem?_eq_none (by simpa using hi)] at h
    cases h
theorem enum_len (xs : List D) : (enumD xs).length = xs.length := by simp [enumD]
abbrev rows2D (rows : List RG.Row) : List D := rows.map dR
def Fits (n : Nat) (rows : List RG.Row) : Prop := ∀ r ∈ rows, r.1 < n ∧ r.2.1 < n
theorem atRow {k : D → Prop} {rows : List RG.Row} {j : Nat} {r : RG.Row} (e : rows[j]? = some r) (hk : k (dR r)) : At (rows.map dR) (j : Nat) k := At.nat rfl (by rw [List.getElem?_map, e]; rfl) hk
/-! general -/
theorem encComap {α β : Type} [DecidableEq α] [DecidableEq β] {n : Nat} {f : β → D} (e : Enc n f) (g : α → β) (inj : ∀ a b, g a = g b → a = b) : Enc n (fun a => f (g a)) :=
  ⟨fun a b => (e.eqv _ _).trans (decide_eq_decide.mpr ⟨inj a b, fun h => by rw [h]⟩), fun a k h => e.flat _ k h, fun a => e.ok _⟩
theorem perm_idx : ∀ {xs : List D} {j : Nat} {y : D}, xs[j]? = some y → (y :: xs.eraseIdx j).Perm xs
  | x :: xs, 0, y, e => by simp at e; subst e; exact List.Perm.refl _
  | x :: xs, j + 1, y, e => by
    have := perm_idx (xs := xs) (j := j) (y := y) (by simpa using e)
    exact (List.Perm.swap x y _).trans (this.cons x)
theorem in_const {b : Bool} {xs : List D} (h : ∀ x ∈ xs, x = .bl (!b)) : inD (.bl b) xs = false := by
  unfold inD
  rw [List.any_eq_false]
  intro x hx
  rw [h x hx]
  cases b <;> decide
/-- some of the items, it is not told which -/
theorem CompP.pick {its : List D} {n : Nat} {tg : Tgt} {tt : GB} {te : GT} {σ : Sl} {h : Hl} {Qf : List D → Hl → Prop} (hl : its.length ≤ 1000000) (hn : n = h.length)
    (he : ∀ (i : Nat) (x : D), its[i]? = some x → ∀ ys (R : P → Hl → Prop) (S : Hl → Prop), R (.d x) (h ++ [.lst ys]) → S (h ++ [.lst ys]) → tg.set x σ fun σ2 => tt σ2 (h ++ [.lst ys]) fun b h3 => Br b (te σ2 h3 R) (S h3)) (mono : ∀ x (k k' : Sl → Prop), tg.set x σ k → (∀ s, k s → k' s) → tg.set x σ k')
    (q : ∀ ys : List D, ys.Sublist its → Qf ys h) : CompP its n tg tt te σ h Qf := by
  subst hn
  refine ⟨fun i ys h' => h' = h ∧ ys.Sublist (its.take i), ⟨rfl, List.Sublist.refl _⟩, ?_, ?_⟩
  · rintro i x ys h' e ⟨rfl, sub⟩
    have hlt := (List.getElem?_eq_some_iff.mp e).1
    have ht : its.take (i + 1) = its.take i ++ [x] := by rw [List.take_add_one, e]; rfl
    have hlen : ys.length < sizeLine := by
      have h1 := sub.length_le
      rw [List.length_take] at h1
      exact szl (by omega)
    refine mono _ _ _ (he i x e ys (fun y h4 => match y, cellAt h4 h'.length with
        | .d z, some (.lst zs) => zs.length < sizeLine ∧ takeH h'.length h4 fun h5 => h5 = h' ∧ (zs ++ [z]).Sublist (its.take (i + 1))
        | _, _ => False) (fun h3 => match cellAt h3 h'.length with
        | some (.lst zs) => takeH h'.length h3 fun h5 => h5 = h' ∧ zs.Sublist (its.take (i + 1))
        | _ => False) ?_ ?_) fun s ks => by
          rw [addCell_eq]
          exact ks
    · show (match (P.d x), cellAt (h' ++ [.lst ys]) h'.length with
          | .d z, some (.lst zs) => zs.length < sizeLine ∧ takeH h'.length (h' ++ [.lst ys]) fun h5 => h5 = h' ∧ (zs ++ [z]).Sublist (its.take (i + 1))
          | _, _ => False)
      rw [cell_last]
      show _ ∧ takeH _ _ _
      rw [take_last]
      exact ⟨hlen, rfl, by rw [ht]; exact sub.append (List.Sublist.refl _)⟩
    · show (match cellAt (h' ++ [.lst ys]) h'.length with
          | some (.lst zs) => takeH h'.length (h' ++ [.lst ys]) fun h5 => h5 = h' ∧ zs.Sublist (its.take (i + 1))
          | _ => False)
      rw [cell_last]
      show takeH _ _ _
      rw [take_last]
      exact ⟨rfl, by rw [ht]; exact sub.trans (List.sublist_append_left _ _)⟩
  · rintro ys h' ⟨rfl, sub⟩
    rw [List.take_length] at sub
    exact q ys sub
theorem tab_of {xs : List Int} : xs.map D.int = tab xs.length (nu xs) := by
  refine List.ext_getElem? fun i => ?_
  by_cases h : i < xs.length
  · rw [tab, rng_get h, List.getElem?_map, List.getElem?_eq_getElem h, nu_get h]; rfl
  · rw [List.getElem?_eq_none (by simpa using h), List.getElem?_eq_none (by simpa [tab] using h)]
theorem eqvTrue {x y : D} {b : Bool} (h : D.eqv x y = b) : D.eqv x y = b := h
abbrev encNs (fs : List Nat) : List D := fs.map fun k => D.int (k : Nat)
theorem cut_1 {α : Type} (xs : List α) : Sc.cutD xs (some 1) none = xs.drop 1 := by
  unfold Sc.cutD HT.sIx
  cases xs with
  | nil => rfl
  | cons x xs => simp <;> (first | done | (rw [List.take_of_length_le]; omega) | omega)
theorem cut_to {α : Type} (xs : List α) (k : Nat) : Sc.cutD xs none (some (k : Nat)) = xs.take k := by
  unfold Sc.cutD HT.sIx
  have h : ¬ ((k : Int) < 0) := by omega
  simp [h]
theorem cut_last {α : Type} (xs : List α) : Sc.cutD xs none (some (-1)) = xs.dropLast := by
  unfold Sc.cutD HT.sIx
  simp
  rw [List.dropLast_eq_take]
  first | done | (congr 1; omega)
theorem flat_take {α β : Type} {f : α → List β} {xs : List α} {i : Nat} {x : α} (e : xs[i]? = some x) : (xs.take (i + 1)).flatMap f = (xs.take i).flatMap f ++ f x := by
  rw [List.take_add_one, e, List.flatMap_append]
  simp
theorem flat2_len {α β : Type} {f : α → List β} (h : ∀ a, (f a).length = 2) (xs : List α) : (xs.flatMap f).length = 2 * xs.length := by
  induction xs with
  | nil => rfl
  | cons x xs ih => rw [List.flatMap_cons, List.length_append, ih, h]; simp; omega
theorem perm_map' {α : Type} {f : α → D} {ys zs : List D} (p : ys.Perm zs) : ∀ L : List α, zs = L.map f → ∃ L' : List α, L'.Perm L ∧ ys = L'.map f := by
  induction p with
  | nil =>
    intro L h
    cases L with
    | nil => exact ⟨[], List.Perm.refl _, rfl⟩
    | cons => cases h
  | cons x p ih =>
    intro L h
    cases L with
    | nil => cases h
    | cons a L =>
      rw [List.map_cons, List.cons.injEq] at h
      obtain ⟨rfl, rfl⟩ := h
      obtain ⟨L', p', e⟩ := ih L rfl
      exact ⟨a :: L', p'.cons a, by rw [e]; rfl⟩
  | swap x y l =>
    intro L h
    match L, h with
    | a :: b :: L, h =>
      rw [List.map_cons, List.map_cons, List.cons.injEq, List.cons.injEq] at h
      obtain ⟨rfl, rfl, rfl⟩ := h
      exact ⟨b :: a :: L, List.Perm.swap _ _ _, rfl⟩
  | trans p1 p2 ih1 ih2 =>
    intro L h
    obtain ⟨L1, q1, e1⟩ := ih2 L h
    obtain ⟨L2, q2, e2⟩ := ih1 L1 e1
    exact ⟨L2, q2.trans q1, e2⟩
def fOf (fs : List Nat) (i : Nat) : Nat := fs.getD i 0
theorem fOf_eq {fs : List Nat} {i : Nat} (h : i < fs.length) : fs[i] = fOf fs i := by unfold fOf; rw [List.getD_eq_getElem?_getD, List.getElem?_eq_getElem h]; rfl
theorem encRw : Enc 1 dR := (encComap Enc.int.tup (fun d : RG.Row => [(d.1 : Int), (d.2.1 : Int), d.2.2]) fun a b h => by
  obtain ⟨a1, a2, a3⟩ := a
  obtain ⟨b1, b2, b3⟩ := b
  simp only [List.cons.injEq, Int.ofNat_inj] at h
  obtain ⟨rfl, rfl, rfl, _⟩ := h
  rfl)
theorem atNs {k : D → Prop} {fs : List Nat} {i : Nat} {w : Int} (e : w = (i : Nat)) (hi : i < fs.length) (hk : k (.int (fs[i] : Nat))) : At (encNs fs) w k := At.nat e (by rw [List.getElem?_map, List.getElem?_eq_getElem hi]; rfl) hk
theorem encNs_map (ks : List Nat) (f : Nat → Nat) : (ks.map fun k => D.int (f k : Nat)) = encNs (ks.map f) := by unfold encNs; rw [List.map_map]; rfl
theorem encN0 : Enc 0 (fun n : Nat => D.int (n : Nat)) := encNat
theorem row_at {rows : List RG.Row} {k : Nat} (h : k < rows.length) : rows[k]? = some (RG.uOf rows k, RG.vOf rows k, RG.cOf rows k) := by
  unfold RG.uOf RG.vOf RG.cOf
  rw [List.getElem?_eq_getElem h]
theorem tab_int (n : Nat) (t : Nat → Int) : tab n t = ((List.range n).map t).map .int := by rw [List.map_map]; rfl
theorem noL_rows : ∀ rows : List RG.Row, D.noLs (rows.map dR) = true
  | [] => rfl
  | r :: rows => by rw [List.map_cons, D.noLs, noL_rows rows]; rfl
theorem noL_tab (n : Nat) (t : Nat → Int) : D.noLs (tab n t) = true := by
  unfold tab
  induction List.range n with
  | nil => rfl
  | cons a l ih => rw [List.map_cons, D.noLs, ih]; rfl
theorem noL_ns : ∀ ks : List Nat, D.noLs (encNs ks) = true
  | [] => rfl
  | r :: ks => by
    have := noL_ns ks
    unfold encNs at this ⊢
    rw [List.map_cons, D.noLs, this]; rfl
theorem at2' {k : D → Prop} {a b : Int} {c : Bool} {P : Int → Prop} (ha : c = false → P a) (hb : c = true → P b) (h : ∀ z, P z → k (.int z)) : At [.int a, .int b] (b2i' c) k := by
  cases c with
  | false => exact At.nat (j := 0) rfl rfl (h _ (ha rfl))
  | true => exact At.nat (j := 1) rfl rfl (h _ (hb rfl))
theorem bools_map : ∀ bs : List Bool, boolsD (bs.map D.bl) = some bs
  | [] => rfl
  | b :: bs => by rw [List.map_cons, boolsD, bools_map bs]; rfl
theorem encNs_app (a b : List Nat) : encNs (a ++ b) = encNs a ++ encNs b := List.map_append
/-- sorted pairs of ints: some order of them -/
theorem SortP.pairs {α : Type} {f : α → D} {a1 a2 : α → Int} (hf : ∀ a, f a = .tup [.int (a1 a), .int (a2 a)]) {xs : List α} {k : List D → Prop} (q : ∀ ys : List α, ys.Perm xs → k (ys.map f)) : SortP (xs.map f) k := by
  refine ⟨fun z hz => ?_, fun p hp p2 hp2 => ?_, .inl fun p hp => ?_, ?_⟩
  · obtain ⟨a, _, rfl⟩ := List.mem_map.mp hz
    rw [hf a]
    exact Enc.int.tup.flat [a1 a, a2 a] 50 (by decide)
  · obtain ⟨z, hz, rfl⟩ := pys_mem hp
    obtain ⟨z2, hz2, rfl⟩ := pys_mem hp2
    obtain ⟨a, _, rfl⟩ := List.mem_map.mp hz
    obtain ⟨b, _, rfl⟩ := List.mem_map.mp hz2
    rw [hf a, hf b]
    show PySem.W.alike (.tuple (D.pys (([a1 a, a2 a] : List Int).map .int))) (.tuple (D.pys (([a1 b, a2 b] : List Int).map .int))) = true
    simp only [PySem.W.alike, alike_ints]
  · obtain ⟨z, hz, rfl⟩ := pys_mem hp
    obtain ⟨a, _, rfl⟩ := List.mem_map.mp hz
    rw [hf a]
    exact ⟨_, _, rfl⟩
  · obtain ⟨L, hp, e⟩ := perm_map' (List.mergeSort_perm (xs.map f) leD) xs rfl
    rw [e]
    exact q L hp
theorem cut_map {α : Type} (f : α → D) (xs : List α) (lo hi : Option Int) : Sc.cutD (xs.map f) lo hi = (Sc.cutD xs lo hi).map f := by
  unfold Sc.cutD
  rw [List.map_take, List.map_drop, List.length_map]
theorem cut_len {α : Type} (xs : List α) (lo hi : Option Int) : (Sc.cutD xs lo hi).length ≤ xs.length := by
  unfold Sc.cutD
  rw [List.length_take, List.length_drop]
  omega
def numsOk (rows : List RG.Row) (bs : List Int) : Bool := bs.all fun b => decide (0 ≤ b) && decide (b < (rows.length : Int))
def rowsOf (rows : List RG.Row) (bs : List Int) : List RG.Row := bs.map fun b => (rows[b.toNat]?).getD (0, 0, 0)
theorem nums_at {rows : List RG.Row} {bs : List Int} (h : numsOk rows bs = true) {b : Int} (hb : b ∈ bs) {k : D → Prop} (hk : k (dR ((rows[b.toNat]?).getD (0, 0, 0)))) : At (rows.map dR) b k := by
  have := List.all_eq_true.mp h b hb
  simp only [Bool.and_eq_true, decide_eq_true_eq] at this
  have hlt : b.toNat < rows.length := by omega
  refine At.nat (j := b.toNat) (by omega) (by rw [List.getElem?_map, List.getElem?_eq_getElem hlt]; rfl) ?_
  rw [List.getElem?_eq_getElem hlt] at hk
  exact hk
/-! rings judged -/
def us (rs : List RG.Row) : List Nat := rs.map fun r => r.1
def hs (rs : List RG.Row) : List Nat := rs.map fun r => r.2.1
def cs (rs : List RG.Row) : List Int := rs.map fun r => r.2.2
theorem rot_get {α : Type} (xs : List α) {i : Nat} (h : i < xs.length) : (xs.drop 1 ++ xs.take 1)[i]? = xs[(i + 1) % xs.length]? := by
  rw [List.getElem?_append, List.length_drop]
  split
  · rename_i z
    rw [List.getElem?_drop, Nat.mod_eq_of_lt (by omega), Nat.add_comm]
  · rename_i z
    have : i + 1 = xs.length := by omega
    rw [this, Nat.mod_self, show i - (xs.length - 1) = 0 by omega, List.getElem?_take]
    simp
def clo (rs : List RG.Row) : Bool := decide ((us rs).drop 1 ++ (us rs).take 1 = hs rs)
def rbR (rs : List RG.Row) : Bool := clo rs && (decide (hs rs).Nodup && decide ((cs rs).sum < 0))
def rb (rows : List RG.Row) (bs : List Int) : Bool := !bs.isEmpty && (numsOk rows bs && rbR (rowsOf rows bs))
def tk (n : Nat) (rows : List RG.Row) (ts : List Int) : Bool := decide (ts.length = n) && (ts.all (fun x => decide (0 ≤ x)) && rows.all fun r => decide (nu ts r.2.1 - nu ts r.1 ≤ r.2.2))
theorem clo_no {rs : List RG.Row} {i : Nat} {a b : RG.Row} (ha : rs[i]? = some a) (hb : rs[(i + 1) % rs.length]? = some b) (h : a.2.1 ≠ b.1) : clo rs = false := by
  refine decide_eq_false fun e => h ?_
  have hi := (List.getElem?_eq_some_iff.mp ha).1
  have h1 : ((us rs).drop 1 ++ (us rs).take 1)[i]? = (hs rs)[i]? := by rw [e]
  rw [rot_get (us rs) (by simpa [us] using hi)] at h1
  rw [show (us rs).length = rs.length by simp [us]] at h1
  simp only [us, hs, List.getElem?_map, ha, hb, Option.map_some, Option.some.injEq] at h1
  exact h1.symm
theorem clo_yes {rs : List RG.Row} (h : ∀ i, i < rs.length → ∀ a b : RG.Row, rs[i]? = some a → rs[(i + 1) % rs.length]? = some b → a.2.1 = b.1) : clo rs = true := by
  refine decide_eq_true (List.ext_getElem? fun i => ?_)
  by_cases hi : i < rs.length
  · rw [rot_get (us rs) (by simpa [us] using hi), show (us rs).length = rs.length by simp [us]]
    have hm := Nat.mod_lt (i + 1) (show 0 < rs.length by omega)
    simp only [us, hs, List.getElem?_map, List.getElem?_eq_getElem hi, List.getElem?_eq_getElem hm, Option.map_some, Option.some.injEq]
    exact (h i hi _ _ (List.getElem?_eq_getElem hi) (List.getElem?_eq_getElem hm)).symm
  · rw [List.getElem?_eq_none (by simp [us]; omega), List.getElem?_eq_none (by simp [hs]; omega)]
/-! a ring that is laid -/
def laidR (H : List Int) (ms : List Nat) (left : Int) (i : Nat) : RG.Row := (fOf ms i, fOf ms ((i + 1) % ms.length), nu H (fOf ms ((i + 1) % ms.length)) - nu H (fOf ms i) + left * (if i = 0 then 1 else 0))
def laid (H : List Int) (ms : List Nat) (left : Int) (k : Nat) : List RG.Row := (List.range k).map (laidR H ms left)
theorem laid_len (H : List Int) (ms : List Nat) (left : Int) (k : Nat) : (laid H ms left k).length = k := by simp [laid]
theorem laid_succ (H : List Int) (ms : List Nat) (left : Int) (k : Nat) : laid H ms left (k + 1) = laid H ms left k ++ [laidR H ms left k] := by
  unfold laid
  rw [List.range_succ, List.map_append]
  rfl
theorem laid_get {H : List Int} {ms : List Nat} {left : Int} {k i : Nat} (h : i < k) : (laid H ms left k)[i]? = some (laidR H ms left i) := by
  unfold laid
  rw [List.getElem?_map, List.getElem?_range h]
  rfl
theorem fOf_mem {ms : List Nat} {i : Nat} (h : i < ms.length) : fOf ms i ∈ ms := by rw [← fOf_eq h]; exact List.getElem_mem h
theorem fOf_inj {ms : List Nat} (nd : ms.Nodup) {i j : Nat} (hi : i < ms.length) (hj : j < ms.length) (e : fOf ms i = fOf ms j) : i = j := by
  rw [← fOf_eq hi, ← fOf_eq hj] at e
  exact (List.getElem_inj nd).mp e
theorem laid_ring {H : List Int} {ms : List Nat} {left : Int} (nd : ms.Nodup) (ne : 0 < ms.length) (hl : left < 0) : rbR (laid H ms left ms.length) = true := by
  have hc : clo (laid H ms left ms.length) = true := clo_yes fun i hi a b ha hb => by
    rw [laid_len] at hi hb
    rw [laid_get hi] at ha
    rw [laid_get (Nat.mod_lt _ ne)] at hb
    cases ha
    cases hb
    rfl
  have hd : (hs (laid H ms left ms.length)).Nodup := by
    rw [hs, laid, List.map_map, List.nodup_iff_pairwise_ne, List.pairwise_map]
    refine List.Pairwise.imp_of_mem ?_ (List.pairwise_lt_range (n := ms.length))
    intro a b ha hb hab e
    have ha := List.mem_range.mp ha
    have hb := List.mem_range.mp hb
    have := fOf_inj nd (Nat.mod_lt (a + 1) ne) (Nat.mod_lt (b + 1) ne) e
    rw [Nat.mod_eq_of_lt (show a + 1 < ms.length by omega)] at this
    rcases Nat.lt_or_ge (b + 1) ms.length with z | z
    · rw [Nat.mod_eq_of_lt z] at this; omega
    · rw [show b + 1 = ms.length by omega, Nat.mod_self] at this; omega
  have hsum : ∀ k, k ≤ ms.length → (cs (laid H ms left k)).sum = nu H (fOf ms (k % ms.length)) - nu H (fOf ms 0) + (if k = 0 then 0 else left) := by
    intro k
    induction k with
    | zero => intro _; rw [Nat.zero_mod]; simp [laid, cs]
    | succ k ih =>
      intro hk
      have := ih (by omega)
      rw [Nat.mod_eq_of_lt (show k < ms.length by omega)] at this
      rw [laid_succ, cs, List.map_append, List.sum_append]
      rw [cs] at this
      rw [this]
      simp only [List.map_cons, List.map_nil, List.sum_cons, List.sum_nil, laidR]
      by_cases h0 : k = 0
      · subst h0; simp <;> omega
      · simp [h0] <;> omega
  have h3 := hsum ms.length (Nat.le_refl _)
  rw [Nat.mod_self, if_neg (by omega)] at h3
  rw [rbR, hc, decide_eq_true hd, Bool.true_and, Bool.true_and]
  exact decide_eq_true (by omega)
/-- only the rows of the ring tell -/
theorem rb_rows {rows : List RG.Row} {ks : List Nat} (lt : ∀ k ∈ ks, k < rows.length) (ne : ks ≠ []) : rb rows (ks.map fun k : Nat => (k : Int)) = rbR (ks.map fun k => (rows[k]?).getD (0, 0, 0)) := by
  have hn : numsOk rows (ks.map fun k : Nat => (k : Int)) = true := by
    rw [numsOk, List.all_map, List.all_eq_true]
    intro k hk
    have := lt k hk
    simp
    omega
  have he : (ks.map fun k : Nat => (k : Int)).isEmpty = false := by
    cases ks with
    | nil => exact (ne rfl).elim
    | cons => rfl
  rw [rb, hn, he, rowsOf, List.map_map]
  rfl
theorem fit_snoc {n : Nat} {rows : List RG.Row} {r : RG.Row} (h : Fits n rows) (h1 : r.1 < n) (h2 : r.2.1 < n) : Fits n (rows ++ [r]) := fun x hx => by
  rcases List.mem_append.mp hx with hx | hx
  · exact h x hx
  · cases List.mem_singleton.mp hx
    exact ⟨h1, h2⟩
abbrev N_lift_round : List Str := ["constraints", "table", "lifters", "lifted", "number", "u", "v", "c", "least"]
def b_lift_round : GS := (gSeq 4 (gAsg (gC .non) (gName 3))
  (gSeq 10 (gFor [4, 5, 6, 7, 8] (gEnum (gCons (gVar 0) gNil)) (gTupG 2 (gsCons (gName 4) (gsCons (gTupG 3 (gsCons (gName 5) (gsCons (gName 6) (gsCons (gName 7) gsNil)))) gsNil)))
  (gSeq 6 (gAsg (gOp oSub (gOp oIx (gVar 1) (gVar 6)) (gVar 7)) (gName 8))
  (gIfS (bVal (gOp oLt (gOp oIx (gVar 1) (gVar 5)) (gVar 8)))
  (gSeq 8 (gAsg (gVar 8) (gSub (gVar 1) (gVar 5)))
  (gSeq 9 (gAsg (gVar 4) (gSub (gVar 2) (gVar 5)))
  (gAsg (gVar 5) (gName 3))))
  gNext)))
  (gRet (gVar 3))))
def rcells (n : Nat) (s : RG.St) : Hl := [.lst (tab n s.t), .lst (lif n s.l)]
def sp_lift_round : GSpM := sp3M fun a b c h Q => ∃ (n : Nat) (rows : List RG.Row) (s : RG.St) (r : Nat), a = .d (.lst (rows.map dR)) ∧ b = .ref 0 ∧ c = .ref 1 ∧ h = rcells n s ∧ Fits n rows ∧ RG.At rows r 0 s ∧
  (∀ s', RG.At rows r rows.length s' → RG.Keeps rows s'.t → Q (.d .non) (rcells n s')) ∧ (∀ s' (x : Nat), RG.At rows r rows.length s' → x < n → r * rows.length + 1 ≤ s'.T x → Q (.d (.int (x : Nat))) (rcells n s'))
theorem pure_lift_round : KeepsM N_lift_round b_lift_round sp_lift_round := keeps3M fun a b c h Q _ q => by
  obtain ⟨n, rows, s, r, rfl, rfl, rfl, rfl, hf, ha, q1, q2⟩ := q
  walk_at "g"
  refine ⟨fun k σ h => ∃ (s' : RG.St) (z : D), RG.At rows r k s' ∧ (z = .non ∧ (∀ j, j < k → ∀ u v c, rows[j]? = some (u, v, c) → s'.t v - c ≤ s'.t u) ∨ ∃ x : Nat, z = .int (x : Nat) ∧ x < n ∧ r * rows.length + 1 ≤ s'.T x) ∧ σ = [some (.d (.lst (rows.map dR))), some (.ref 0), some (.ref 1), some (.d z), none, none, none, none, none] ∧ h = rcells n s', ⟨s, .non, ha, .inl ⟨rfl, fun j hj => (by omega)⟩, rfl, rfl⟩, ?_, ?_⟩
  · rintro k w σ h ew ⟨s', z, hA, hz, rfl, rfl⟩
    obtain ⟨y, ey, rfl⟩ := enum_get ew
    rw [List.getElem?_map] at ey
    cases er : rows[k]? with
    | none => rw [er] at ey; cases ey
    | some w =>
      rw [er] at ey
      simp only [Option.map_some, Option.some.injEq] at ey
      subst ey
      obtain ⟨u, v, c⟩ := w
      have hw := hf _ (List.mem_of_getElem? er)
      have hB := hA.look er
      simp only at hw
      walk_at "g"
      refine atTab hw.2 ?_
      walk_at "g"
      refine atTab hw.1 ?_
      walk_at "g"
      refine Br.dec (fun h1 => ?_) (fun h1 => ?_)
      · walk_at "g"
        refine Ix.nat rfl (by rw [tab_len]; exact hw.1) ?_
        walk_at "g"
        refine Ix.nat rfl (by rw [lif_len]; exact hw.1) ?_
        walk_at "g"
        unfold RG.look at hB
        rw [if_pos h1] at hB
        refine ⟨_, _, hB, .inr ⟨u, rfl, hw.1, ?_⟩, rfl, ?_⟩
        · simp only [RG.fset_eq]
          omega
        · simp only [rcells, tab_set, lif_set]
      · walk_at "g"
        unfold RG.look at hB
        rw [if_neg h1] at hB
        refine ⟨_, _, hB, ?_, rfl, rfl⟩
        rcases hz with ⟨e, hz⟩ | hz
        · refine .inl ⟨e, fun j hj u' v' c' e' => ?_⟩
          by_cases hk : j = k
          · subst hk
            rw [er] at e'
            simp only [Option.some.injEq, Prod.mk.injEq] at e'
            obtain ⟨rfl, rfl, rfl⟩ := e'
            exact Int.not_lt.mp h1
          · exact hz j (by omega) u' v' c' e'
        · exact .inr hz
  · rintro σ h ⟨s', z, hA, hz, rfl, rfl⟩
    rw [enum_len, List.length_map] at hA hz
    walk_at "g"
    rcases hz with ⟨rfl, hz⟩ | ⟨x, rfl, hx, ht⟩
    · refine q1 s' hA fun u v c m => ?_
      obtain ⟨j, hj⟩ := List.mem_iff_getElem?.mp m
      exact hz j (List.getElem?_eq_some_iff.mp hj).1 u v c hj
    · exact q2 s' x hA hx ht
abbrev N_lift_table : List Str := ["n", "constraints", "table", "lifters", "lifted", "_"]
def b_lift_table : GS := (gSeq 13 (gAsg (gOp oMulM (gLst (gCons (gC (.int 0)) gNil)) (gVar 0)) (gName 2))
  (gSeq 14 (gAsg (gOp oMulM (gLst (gCons (gC .non) gNil)) (gVar 0)) (gName 3))
  (gSeq 15 (gAsg (gC .non) (gName 4))
  (gSeq 19 (gFor [5] (gRng1 (gCons (gVar 0) gNil)) (gName 5)
  (gSeq 17 (gAsg (gCallM sp_lift_round (gCons (gVar 1) (gCons (gVar 2) (gCons (gVar 3) gNil)))) (gName 4))
  (gIfS (bVal (gOp oIs (gVar 4) (gC .non)))
  gBreak
  gNext)))
  (gFrz [3] (gRet (gTupC (gCons (gVar 2) (gCons (gVar 3) (gCons (gVar 4) gNil))))))))))
def LiftQ (n : Nat) (rows : List RG.Row) (Q : P → Hl → Prop) : Prop :=
  (∀ (clk : Nat) P s', RG.Inv rows clk P s' → RG.Keeps rows s'.t → Q (.tc [.r 0, .d (.lst (lif n s'.l)), .d .non]) [.lst (tab n s'.t)]) ∧ (∀ (clk : Nat) P s' (x : Nat), RG.Inv rows clk P s' → x < n → (n - 1) * rows.length + 1 ≤ s'.T x → Q (.tc [.r 0, .d (.lst (lif n s'.l)), .d (.int (x : Nat))]) [.lst (tab n s'.t)])
def sp_lift_table : GSp := sp2 fun a b Q => ∃ (n : Nat) (rows : List RG.Row), a = .int (n : Nat) ∧ b = .lst (rows.map dR) ∧ Fits n rows ∧ 0 < n ∧ n ≤ 1000000 ∧ LiftQ n rows Q
theorem repD_tab (n : Nat) : repD n [D.int 0] = tab n fun _ => 0 := by
  unfold repD tab
  induction n with
  | zero => rfl
  | succ n ih => rw [List.replicate_succ', List.range_succ, List.flatten_append, ih, List.map_append]; rfl
theorem repD_lif (n : Nat) : repD n [D.non] = lif n fun _ => none := by
  unfold repD lif
  induction n with
  | zero => rfl
  | succ n ih => rw [List.replicate_succ', List.range_succ, List.flatten_append, ih, List.map_append]; rfl
theorem pure_lift_table : Keeps N_lift_table b_lift_table sp_lift_table := keeps2 fun a b Q q => by
  obtain ⟨n, rows, rfl, rfl, hf, h0, h1, q1, q2⟩ := q
  walk_at "g"
  refine ⟨⟨by omega, by omega, szo (by simp; omega)⟩, ?_⟩
  rw [show ((n : Nat) : Int).toNat = n by simp, repD_tab]
  walk_at "g"
  refine ⟨⟨by omega, by omega, szo (by simp; omega)⟩, ?_⟩
  rw [show ((n : Nat) : Int).toNat = n by simp, repD_lif]
  walk_at "g"
  rw [show ((n : Nat) : Int).toNat = n by simp]
  refine ForP.range (fun i σ h => ∃ (s : RG.St) (z : D), RG.At rows i 0 s ∧ (0 < i → ∃ x : Nat, z = .int (x : Nat) ∧ x < n ∧ (i - 1) * rows.length + 1 ≤ s.T x) ∧ σ = [some (.d (.int (n : Nat))), some (.d (.lst (rows.map dR))), some (.ref 0), some (.ref 1), some (.d z), none] ∧ h = rcells n s) ⟨⟨fun _ => 0, fun _ => none, fun _ => 0⟩, .non, RG.At.zero rows, fun h => by omega, rfl, rfl⟩ ?_ ?_
  · rintro i σ h hi ⟨s, z, hA, _, rfl, rfl⟩
    walk_at "g"
    refine ⟨n, rows, s, i, rfl, rfl, rfl, rfl, hf, hA, fun s' hB hk => ?_, fun s' x hB hx ht => ?_⟩
    · walk_at "g"
      exact q1 _ _ s' hB.inv hk
    · walk_at "g"
      exact ⟨s', _, hB.next, fun _ => ⟨x, rfl, hx, ht⟩, rfl, rfl⟩
  · rintro σ h ⟨s, z, hA, hz, rfl, rfl⟩
    obtain ⟨x, rfl, hx, ht⟩ := hz h0
    walk_at "g"
    exact q2 _ _ s x hA.inv hx ht
abbrev N_lifted_from : List Str := ["member", "constraints", "lifters"]
def b_lifted_from : GS := (gRet (gOp oIx (gOp oIx (gVar 1) (gOp oIx (gVar 2) (gVar 0))) (gC (.int 1))))
def sp_lifted_from : GSp := sp3 fun a b c Q => ∃ (n : Nat) (rows : List RG.Row) (l : Nat → Option Nat) (u j v : Nat) (w : Int), a = .int (u : Nat) ∧ b = .lst (rows.map dR) ∧ c = .lst (lif n l) ∧ u < n ∧ l u = some j ∧ rows[j]? = some (u, v, w) ∧ Q (.d (.int (v : Nat))) []
theorem pure_lifted_from : Keeps N_lifted_from b_lifted_from sp_lifted_from := keeps3 fun a b c Q q => by
  obtain ⟨n, rows, l, u, j, v, w, rfl, rfl, rfl, hu, hl, hr, q⟩ := q
  walk_at "g"
  refine atLif hu ?_
  rw [hl]
  walk_at "g"
  refine atRow hr ?_
  walk_at "g"
  exact q
abbrev N_member_of_ring : List Str := ["constraints", "lifters", "member", "_"]
def b_member_of_ring : GS := (gSeq 25 (gFor [3] (gRng1 (gCons (gCB cLenC (gCons (gVar 1) gNil)) gNil)) (gName 3)
  (gAsg (gCallF sp_lifted_from (gCons (gVar 2) (gCons (gVar 0) (gCons (gVar 1) gNil)))) (gName 2)))
  (gRet (gVar 2)))
def sp_member_of_ring : GSp := sp3 fun a b c Q => ∃ (n clk : Nat) (P : Nat → Nat) (rows : List RG.Row) (s : RG.St) (x : Nat), a = .lst (rows.map dR) ∧ b = .lst (lif n s.l) ∧ c = .int (x : Nat) ∧ RG.Inv rows clk P s ∧ Fits n rows ∧ x < n ∧ n ≤ 1000000 ∧ (n - 1) * rows.length + 1 ≤ s.T x ∧ Q (.d (.int (RG.it (RG.nxt rows s.l) n x : Nat))) []
theorem nxt_lt {n : Nat} {rows : List RG.Row} (hf : Fits n rows) (l : Nat → Option Nat) {u : Nat} (h : u < n) : RG.nxt rows l u < n := by
  unfold RG.nxt
  split
  · split
    · rename_i r e
      exact (hf r (List.mem_of_getElem? e)).2
    · exact h
  · exact h
theorem it_lt {n : Nat} {rows : List RG.Row} (hf : Fits n rows) (l : Nat → Option Nat) {u : Nat} (h : u < n) (j : Nat) : RG.it (RG.nxt rows l) j u < n := by
  induction j with
  | zero => exact h
  | succ j ih => rw [RG.it_succ]; exact nxt_lt hf l ih
theorem lift_row {rows : List RG.Row} {clk : Nat} {P : Nat → Nat} {s : RG.St} (I : RG.Inv rows clk P s) {u : Nat} (h : s.l u ≠ none) : ∃ j c, s.l u = some j ∧ rows[j]? = some (u, RG.nxt rows s.l u, c) := by
  cases e : s.l u with
  | none => exact absurd e h
  | some j =>
    obtain ⟨v, c, e1, _⟩ := I.som u j e
    exact ⟨j, c, rfl, by rw [RG.nxt_eq e e1]; exact e1⟩
theorem pure_member_of_ring : Keeps N_member_of_ring b_member_of_ring sp_member_of_ring := keeps3 fun a b c Q q => by
  obtain ⟨n, clk, P, rows, s, x, rfl, rfl, rfl, hI, hf, hx, hn, ht, q⟩ := q
  walk_at "g"
  rw [lif_len, show ((n : Nat) : Int).toNat = n by simp]
  refine ForP.range (fun i σ h => σ = [some (.d (.lst (rows.map dR))), some (.d (.lst (lif n s.l))), some (.d (.int (RG.it (RG.nxt rows s.l) i x : Nat))), none] ∧ h = []) ⟨rfl, rfl⟩ ?_ ?_
  · rintro i σ h hi ⟨rfl, rfl⟩
    obtain ⟨j, c, e1, e2⟩ := lift_row hI (hI.far ht i hi).1
    walk_at "g"
    refine ⟨n, rows, s.l, _, j, _, c, rfl, rfl, rfl, it_lt hf s.l hx i, e1, e2, ?_⟩
    walk_at "g"
    exact ⟨by rw [RG.it_succ], rfl⟩
  · rintro σ h ⟨rfl, rfl⟩
    walk_at "g"
    exact q
abbrev N_ring_of : List Str := ["constraints", "lifters", "member", "ring", "current"]
def b_ring_of : GS := (gSeq 28 (gAsg (gLstM (gCons (gOp oIx (gVar 1) (gVar 2)) gNil)) (gName 3))
  (gSeq 29 (gAsg (gCallF sp_lifted_from (gCons (gVar 2) (gCons (gVar 0) (gCons (gVar 1) gNil)))) (gName 4))
  (gSeq 32 (gWhile [] (bVal (gOp oNe (gVar 4) (gVar 2)))
  (gSeq 31 (gDrop (gLM mAppend (gVar 3) (gCons (gOp oIx (gVar 1) (gVar 4)) gNil)))
  (gAsg (gCallF sp_lifted_from (gCons (gVar 4) (gCons (gVar 0) (gCons (gVar 1) gNil)))) (gName 4))))
  (gRet (gVar 3)))))
def sp_ring_of : GSp := sp3 fun a b c Q => ∃ (n clk : Nat) (P : Nat → Nat) (rows : List RG.Row) (s : RG.St) (y p : Nat), a = .lst (rows.map dR) ∧ b = .lst (lif n s.l) ∧ c = .int (y : Nat) ∧ RG.Inv rows clk P s ∧ Fits n rows ∧ y < n ∧ p ≤ 1000000 ∧ RG.Ringed rows s y p ∧ Q (.ref 0) [.lst ((RG.lifts rows s.l y p).map fun k => D.int (k : Nat))]
theorem lifts_succ (rows : List RG.Row) (l : Nat → Option Nat) (y k : Nat) : RG.lifts rows l y (k + 1) = RG.lifts rows l y k ++ [(l (RG.it (RG.nxt rows l) k y)).getD 0] := by
  unfold RG.lifts
  rw [List.range_succ, List.map_append]
  rfl
theorem pure_ring_of : Keeps N_ring_of b_ring_of sp_ring_of := keeps3 fun a b c Q q => by
  obtain ⟨n, clk, P, rows, s, y, p, rfl, rfl, rfl, hI, hf, hy, hp, hR, q⟩ := q
  obtain ⟨j0, c0, e1, e2⟩ := lift_row hI (hR.som 0)
  walk_at "g"
  refine atLif hy ?_
  rw [show s.l y = some j0 from e1]
  walk_at "g"
  refine ⟨n, rows, s.l, _, j0, _, c0, rfl, rfl, rfl, hy, e1, e2, ?_⟩
  walk_at "g"
  refine ⟨fun m σ h => ∃ k, 0 < k ∧ k ≤ p ∧ m = p - k ∧ σ = [some (.d (.lst (rows.map dR))), some (.d (.lst (lif n s.l))), some (.d (.int (y : Nat))), some (.ref 0), some (.d (.int (RG.it (RG.nxt rows s.l) k y : Nat)))] ∧ h = [.lst ((RG.lifts rows s.l y k).map fun k => D.int (k : Nat))], ⟨_, 1, by omega, hR.pos, rfl, rfl, ?_⟩, ?_⟩
  · show _ = [Cell.lst (List.map _ (List.map _ [0]))]
    simp only [List.map_cons, List.map_nil]
    rw [show RG.it (RG.nxt rows s.l) 0 y = y from rfl, show s.l y = some j0 from e1]
    rfl
  · rintro m σ h ⟨k, k0, k1, rfl, rfl, rfl⟩
    walk_at "g"
    refine Br.ndec (fun h1 => ?_) (fun h1 => ?_)
    · have kp : k < p := by
        rcases Nat.lt_or_ge k p with z | z
        · exact z
        · have : k = p := by omega
          subst this
          exact absurd (by rw [hR.back]) h1
      obtain ⟨j, c, f1, f2⟩ := lift_row hI (hR.som k)
      walk_at "g"
      refine atLif (it_lt hf s.l hy k) ?_
      rw [f1]
      walk_at "g"
      refine ⟨szl (by simp [RG.lifts]; omega), ?_⟩
      walk_at "g"
      refine ⟨n, rows, s.l, _, j, _, c, rfl, rfl, rfl, it_lt hf s.l hy k, f1, f2, ?_⟩
      walk_at "g"
      refine ⟨_, ?_, k + 1, by omega, kp, rfl, by rw [RG.it_succ], ?_⟩
      · omega
      · rw [lifts_succ, f1, List.map_append]
        rfl
    · have kp : k = p := by
        rcases Nat.lt_or_ge k p with z | z
        · exact absurd (Int.ofNat.inj h1) (hR.low k k0 z)
        · omega
      subst kp
      walk_at "g"
      exact q
abbrev N_solve_rings : List Str := ["n", "constraints", "table", "lifters", "lifted", "member"]
def b_solve_rings : GS := (gSeq 35 (gAsg (gCall sp_lift_table (gCons (gVar 0) (gCons (gVar 1) gNil))) (gTupN 3 [2, 3, 4]))
  (gSeq 37 (gIfS (bVal (gOp oIs (gVar 4) (gC .non)))
  (gRet (gTupC (gCons (gC (.str "yes")) (gCons (gVar 2) gNil))))
  gNext)
  (gSeq 38 (gAsg (gCallF sp_member_of_ring (gCons (gVar 1) (gCons (gVar 3) (gCons (gVar 4) gNil)))) (gName 5))
  (gRet (gTupC (gCons (gC (.str "no")) (gCons (gCall sp_ring_of (gCons (gVar 1) (gCons (gVar 3) (gCons (gVar 5) gNil)))) gNil)))))))
def YesD (n : Nat) (t : Nat → Int) : P := .tc [.d (.str "yes"), .r 0]
structure YesOk (n : Nat) (rows : List RG.Row) (t : Nat → Int) : Prop where
  pos : ∀ u, 0 ≤ t u
  keeps : RG.Keeps rows t
  held : RG.Held rows t
def Told (n : Nat) (rows : List RG.Row) (s : Str) (xs : List D) : Prop :=
  (∃ t, s = "yes" ∧ xs = tab n t ∧ YesOk n rows t) ∨ (∃ ks : List Nat, s = "no" ∧ xs = (ks.map fun k => D.int (k : Nat)) ∧ RG.IsRing rows ks ∧ ks.length ≤ n)
def SolveQ (n : Nat) (rows : List RG.Row) (Q : P → Hl → Prop) : Prop := ∀ s xs, Told n rows s xs → Q (.tc [.d (.str s), .r 0]) [.lst xs]
theorem Told.one {n : Nat} {rows : List RG.Row} {s s2 : Str} {xs xs2 : List D} (h : Told n rows s xs) (h2 : Told n rows s2 xs2) : s = s2 := by
  rcases h with ⟨t, rfl, _, y⟩ | ⟨ks, rfl, _, r, _⟩ <;> rcases h2 with ⟨t2, rfl, _, y2⟩ | ⟨ks2, rfl, _, r2, _⟩
  · rfl
  · exact (r2.none y.keeps).elim
  · exact (r.none y2.keeps).elim
  · rfl
def sp_solve_rings : GSp := sp2 fun a b Q => ∃ (n : Nat) (rows : List RG.Row), a = .int (n : Nat) ∧ b = .lst (rows.map dR) ∧ Fits n rows ∧ 0 < n ∧ n ≤ 1000000 ∧ SolveQ n rows Q
theorem pure_solve_rings : Keeps N_solve_rings b_solve_rings sp_solve_rings := keeps2 fun a b Q q => by
  obtain ⟨n, rows, rfl, rfl, hf, h0, h1, q1⟩ := q
  walk_at "g"
  refine ⟨n, rows, rfl, rfl, hf, h0, h1, fun clk P s hI hk => ?_, fun clk P s x hI hx ht => ?_⟩
  · walk_at "g"
    exact q1 _ _ (.inl ⟨s.t, rfl, rfl, hI.pos, hk, hI.held hk⟩)
  · walk_at "g"
    refine ⟨n, clk, P, rows, s, x, rfl, rfl, rfl, hI, hf, hx, h1, ht, ?_⟩
    obtain ⟨p, hR, hp⟩ := hI.ringed ht hx hf
    walk_at "g"
    refine ⟨n, clk, P, rows, s, _, p, rfl, rfl, rfl, hI, hf, it_lt hf s.l hx n, by omega, hR, ?_⟩
    walk_at "g"
    exact q1 _ _ (.inr ⟨_, rfl, rfl, hR.is hI, by simp [RG.lifts]; exact hp⟩)
abbrev N_table_keeps : List Str := ["n", "constraints", "table", "member", "u", "v", "c"]
def b_table_keeps : GS := (gSeq 42 (gIfS (bVal (gOp oNe (gCB cLenC (gCons (gVar 2) gNil)) (gVar 0)))
  (gRet (gC (.bl false)))
  gNext)
  (gSeq 44 (gIfS (bTru (gCB cAny (gCons (gLc (gSrc (gVar 2)) [3] (.one 3) bYes (gOp oLt (gVar 3) (gC (.int 0)))) gNil)))
  (gRet (gC (.bl false)))
  gNext)
  (gRet (gCB cAll (gCons (gLc (gSrc (gVar 1)) [4, 5, 6] (.tup [4, 5, 6]) bYes (gOp oLe (gOp oSub (gOp oIx (gVar 2) (gVar 5)) (gOp oIx (gVar 2) (gVar 4))) (gVar 6))) gNil)))))
def sp_table_keeps : GSp := sp3 fun a b c Q => ∃ (n : Nat) (rows : List RG.Row) (ts : List Int), a = .int (n : Nat) ∧ b = .lst (rows.map dR) ∧ c = .lst (ts.map .int) ∧ Fits n rows ∧ rows.length ≤ 2000 ∧ ts.length ≤ 2000 ∧ Q (.d (.bl (tk n rows ts))) []
theorem pure_table_keeps : Keeps N_table_keeps b_table_keeps sp_table_keeps := keeps3 fun a b c Q q => by
  obtain ⟨n, rows, ts, rfl, rfl, rfl, hf, hl, ht, q⟩ := q
  walk_at "g"
  rw [List.length_map]
  refine Br.ndec (fun h => ?_) (fun h => ?_)
  · walk_at "g"
    exact fin_b q (by rw [tk, decide_eq_false (by omega)]; rfl)
  have hn : ts.length = n := by omega
  walk_at "g"
  refine CompP.mp (f := D.int) (g := fun x => D.bl (decide (x < 0))) (by omega) rfl (fun i x ex ys R hR => ?_) one_mono ?_
  · walk_at "g"
    exact hR
  walk_at "g"
  refine ⟨ts.map fun x => decide (x < 0), ?_, ?_⟩
  · rw [show (ts.map fun x => D.bl (decide (x < 0))) = (ts.map fun x => decide (x < 0)).map D.bl by rw [List.map_map]; rfl]
    exact bools_map _
  have e1 : ((ts.map fun x => decide (x < 0)).any id) = !(ts.all fun x => decide (0 ≤ x)) := by
    rw [List.any_map, List.not_all_eq_any_not]
    congr 1
    funext x
    show decide (x < 0) = !decide (0 ≤ x)
    by_cases hx : x < 0
    · rw [decide_eq_true hx, decide_eq_false (by omega)]; rfl
    · rw [decide_eq_false hx, decide_eq_true (by omega)]; rfl
  rw [e1]
  cases ha : ts.all fun x => decide (0 ≤ x) with
  | false =>
    walk_at "g"
    exact fin_b q (by rw [tk, ha]; simp)
  | true =>
    walk_at "g"
    refine CompP.mp (f := dR) (g := fun r => D.bl (decide (nu ts r.2.1 - nu ts r.1 ≤ r.2.2))) (by omega) rfl (fun i r er ys R hR => ?_) tup_mono ?_
    · have hr := hf r (List.mem_of_getElem? er)
      walk_at "g"
      refine atN (by omega) (by omega) ?_
      rw [Int.toNat_natCast]
      walk_at "g"
      refine atN (by omega) (by omega) ?_
      rw [Int.toNat_natCast]
      walk_at "g"
      exact hR
    walk_at "g"
    refine ⟨rows.map fun r => decide (nu ts r.2.1 - nu ts r.1 ≤ r.2.2), ?_, ?_⟩
    · rw [show (rows.map fun r => D.bl (decide (nu ts r.2.1 - nu ts r.1 ≤ r.2.2))) = (rows.map fun r => decide (nu ts r.2.1 - nu ts r.1 ≤ r.2.2)).map D.bl by rw [List.map_map]; rfl]
      exact bools_map _
    rw [all_id]
    exact fin_b q (by rw [tk, ha, decide_eq_true hn]; simp)
abbrev N_are_numbers : List Str := ["members", "constraints", "member"]
def b_are_numbers : GS := (gRet (gCB cAll (gCons (gLc (gSrc (gVar 0)) [2] (.one 2) bYes (gChain oLe oLt (gC (.int 0)) (gVar 2) (gCB cLenC (gCons (gVar 1) gNil)))) gNil)))
def sp_are_numbers : GSp := sp2 fun a b Q => ∃ (rows : List RG.Row) (bs : List Int), a = .lst (bs.map .int) ∧ b = .lst (rows.map dR) ∧ bs.length ≤ 2000 ∧ Q (.d (.bl (numsOk rows bs))) []
theorem pure_are_numbers : Keeps N_are_numbers b_are_numbers sp_are_numbers := keeps2 fun a b Q q => by
  obtain ⟨rows, bs, rfl, rfl, hl, q⟩ := q
  walk_at "g"
  refine CompP.mp (f := D.int) (g := fun b => D.bl (decide (0 ≤ b) && decide (b < (rows.length : Int)))) (by omega) rfl (fun i x ex ys R hR => ?_) one_mono ?_
  · walk_at "g"
    refine Br.cases (fun h => ?_) (fun h => ?_)
    · walk_at "g"
      rw [List.length_map]
      rw [h, Bool.true_and] at hR
      exact hR
    · walk_at "g"
      rw [h, Bool.false_and] at hR
      exact hR
  · walk_at "g"
    refine ⟨bs.map fun b => decide (0 ≤ b) && decide (b < (rows.length : Int)), ?_, ?_⟩
    · rw [show (bs.map fun b => D.bl (decide (0 ≤ b) && decide (b < (rows.length : Int)))) = (bs.map fun b => decide (0 ≤ b) && decide (b < (rows.length : Int))).map D.bl by rw [List.map_map]; rfl]
      exact bools_map _
    · rw [all_id]
      exact q
abbrev N_total_bound : List Str := ["rows", "row"]
def b_total_bound : GS := (gRet (gCB cSum (gCons (gLc (gSrc (gVar 0)) [1] (.one 1) bYes (gOp oIx (gVar 1) (gC (.int 2)))) gNil)))
def sp_total_bound : GSp := sp1 fun a Q => ∃ rows : List RG.Row, a = .lst (rows.map dR) ∧ rows.length ≤ 2000 ∧ Q (.d (.int (rows.map fun r => r.2.2).sum)) []
theorem pure_total_bound : Keeps N_total_bound b_total_bound sp_total_bound := keeps1 fun a Q q => by
  obtain ⟨rows, rfl, hl, q⟩ := q
  walk_at "g"
  refine CompP.mp (f := dR) (g := fun r => D.int r.2.2) (by omega) rfl (fun i x ex ys R hR => ?_) one_mono ?_
  · walk_at "g"
    exact hR
  · walk_at "g"
    refine ⟨rows.map fun r => r.2.2, ?_, ?_⟩
    · rw [show (rows.map fun r => D.int r.2.2) = (rows.map fun r => r.2.2).map .int by rw [List.map_map]; rfl]
      exact intsD_map _
    walk_at "g"
    exact q
abbrev N_closes : List Str := ["rows", "index", "row", "following"]
def b_closes : GS := (gSeq 54 (gFor [1, 2, 3] (gEnum (gCons (gVar 0) gNil)) (gTupG 2 (gsCons (gName 1) (gsCons (gName 2) gsNil)))
  (gSeq 52 (gAsg (gOp oIx (gVar 0) (gOp oMod (gOp oAdd (gVar 1) (gC (.int 1))) (gCB cLenC (gCons (gVar 0) gNil)))) (gName 3))
  (gIfS (bVal (gOp oNe (gOp oIx (gVar 2) (gC (.int 1))) (gOp oIx (gVar 3) (gC (.int 0)))))
  (gRet (gC (.bl false)))
  gNext)))
  (gRet (gC (.bl true))))
def sp_closes : GSp := sp1 fun a Q => ∃ rs : List RG.Row, a = .lst (rs.map dR) ∧ rs.length ≤ 2000 ∧ Q (.d (.bl (clo rs))) []
theorem pure_closes : Keeps N_closes b_closes sp_closes := keeps1 fun a Q q => by
  obtain ⟨rs, rfl, hl, q⟩ := q
  walk_at "g"
  refine ⟨fun i σ h => (∀ j, j < i → ∀ a b : RG.Row, rs[j]? = some a → rs[(j + 1) % rs.length]? = some b → a.2.1 = b.1) ∧ σ = [some (.d (.lst (rs.map dR))), none, none, none] ∧ h = [], ⟨fun j h => (by omega), rfl, rfl⟩, ?_, ?_⟩
  · rintro i x σ h ex ⟨hp, rfl, rfl⟩
    obtain ⟨y, ey, rfl⟩ := enum_get ex
    rw [List.getElem?_map] at ey
    obtain ⟨r, er, rfl⟩ := Option.map_eq_some_iff.mp ey
    have hi := (List.getElem?_eq_some_iff.mp er).1
    have hm := Nat.mod_lt (i + 1) (show 0 < rs.length by omega)
    walk_at "g"
    rw [List.length_map]
    refine ⟨by omega, ?_⟩
    walk_at "g"
    refine At.nat (j := (i + 1) % rs.length) (by rw [Int.natCast_emod]; rfl) (by rw [List.getElem?_map, List.getElem?_eq_getElem hm]; rfl) ?_
    walk_at "g"
    refine Br.ndec (fun h => ?_) (fun h => ?_)
    · walk_at "g"
      exact fin_b q (clo_no er (List.getElem?_eq_getElem hm) fun e => h (by rw [e]))
    · walk_at "g"
      refine ⟨fun j hj a b ha hb => ?_, rfl, rfl⟩
      by_cases e : j = i
      · subst e
        rw [er] at ha
        cases ha
        rw [List.getElem?_eq_getElem hm] at hb
        cases hb
        exact Int.ofNat.inj h
      · exact hp j (by omega) a b ha hb
  · rintro σ h ⟨hp, rfl, rfl⟩
    walk_at "g"
    rw [enum_len, List.length_map] at hp
    exact fin_b q (clo_yes hp)
abbrev N_ring_breaks : List Str := ["n", "constraints", "ring", "rows", "number", "row"]
def b_ring_breaks : GS := (gSeq 58 (gIfS (bOr (bVal (gOp oEq (gCB cLenC (gCons (gVar 2) gNil)) (gC (.int 0)))) (bNot (bTru (gCallF sp_are_numbers (gCons (gVar 2) (gCons (gVar 1) gNil))))))
  (gRet (gC (.bl false)))
  gNext)
  (gSeq 59 (gAsg (gLc (gSrc (gVar 2)) [4] (.one 4) bYes (gOp oIx (gVar 1) (gVar 4))) (gName 3))
  (gSeq 61 (gIfS (bNot (bTru (gCallF sp_closes (gCons (gVar 3) gNil))))
  (gRet (gC (.bl false)))
  gNext)
  (gSeq 63 (gIfS (bVal (gOp oNe (gLenSc (gSrc (gVar 3)) [5] (.one 5) bYes (gOp oIx (gVar 5) (gC (.int 1)))) (gCB cLenC (gCons (gVar 3) gNil))))
  (gRet (gC (.bl false)))
  gNext)
  (gRet (gOp oLt (gCallF sp_total_bound (gCons (gVar 3) gNil)) (gC (.int 0))))))))
def sp_ring_breaks : GSp := sp3 fun a b c Q => ∃ (n : D) (rows : List RG.Row) (bs : List Int), a = n ∧ b = .lst (rows.map dR) ∧ c = .lst (bs.map .int) ∧ bs.length ≤ 2000 ∧ Q (.d (.bl (rb rows bs))) []
theorem met_eq (ns : List Int) : decide (((met ns).length : Int) = ns.length) = decide ns.Nodup := by
  by_cases h : ns.Nodup
  · rw [decide_eq_true h, decide_eq_true (by rw [met_nodup h])]
  · have := met_dup h
    rw [decide_eq_false h, decide_eq_false (by omega)]
theorem nodup_int (xs : List Nat) : decide (xs.map fun k : Nat => (k : Int)).Nodup = decide xs.Nodup := by
  refine decide_eq_decide.mpr ⟨fun h => ?_, fun h => List.pairwise_map.mpr (h.imp fun a e => a (Int.ofNat.inj e))⟩
  exact (List.pairwise_map.mp h).imp fun a e => a (by rw [e])
theorem pure_ring_breaks : Keeps N_ring_breaks b_ring_breaks sp_ring_breaks := keeps3 fun a b c Q q => by
  obtain ⟨n, rows, bs, rfl, rfl, rfl, hl, q⟩ := q
  walk_at "g"
  rw [List.length_map]
  refine Br.dec (fun h => ?_) (fun h => ?_)
  · have hb : bs = [] := List.eq_nil_of_length_eq_zero (by omega)
    subst hb
    walk_at "g"
    exact q
  have hb : bs.isEmpty = false := by cases bs with
    | nil => simp at h
    | cons => rfl
  walk_at "g"
  refine ⟨rows, bs, rfl, rfl, hl, ?_⟩
  cases hn : numsOk rows bs with
  | false =>
    walk_at "g"
    exact fin_b q (by rw [rb, hn, hb]; rfl)
  | true =>
    walk_at "g"
    refine CompP.mp (f := D.int) (g := fun b => dR ((rows[b.toNat]?).getD (0, 0, 0))) (by omega) rfl (fun i b eb ys R hR => ?_) one_mono ?_
    · walk_at "g"
      exact nums_at hn (List.mem_of_getElem? eb) hR
    rw [show (bs.map fun b => dR ((rows[b.toNat]?).getD (0, 0, 0))) = (rowsOf rows bs).map dR by rw [rowsOf, List.map_map]; rfl]
    have rl : (rowsOf rows bs).length ≤ 2000 := by simp [rowsOf]; omega
    have eb : rb rows bs = rbR (rowsOf rows bs) := by rw [rb, hn, hb]; rfl
    rw [eb] at q
    generalize rowsOf rows bs = rs at *
    walk_at "g"
    refine ⟨rs, rfl, rl, ?_⟩
    cases hc : clo rs with
    | false =>
      walk_at "g"
      exact fin_b q (by rw [rbR, hc]; rfl)
    | true =>
      walk_at "g"
      refine CompS.mp (f := dR) (g := fun r => (r.2.1 : Int)) (by omega) rfl (fun i r er R hR => ?_) one_mono ?_
      · walk_at "g"
        exact hR
      walk_at "g"
      have em : (!decide (((met (rs.map fun r => (r.2.1 : Int))).length : Int) = (rs.map dR).length)) = !decide (hs rs).Nodup := by
        have := met_eq (rs.map fun r => (r.2.1 : Int))
        rw [List.length_map] at this
        rw [List.length_map, this, ← nodup_int, hs, List.map_map]
        rfl
      rw [em]
      cases hd : decide (hs rs).Nodup with
      | false =>
        walk_at "g"
        exact fin_b q (by rw [rbR, hc, hd]; rfl)
      | true =>
        walk_at "g"
        refine ⟨rs, rfl, rl, ?_⟩
        walk_at "g"
        exact fin_b q (by rw [rbR, hc, hd]; rfl)
abbrev N_law_shuffled : List Str := ["st", "row", "rest", "out", "k"]
def b_law_shuffled : GS := (gSeq 88 (gAsg (gCB cListM (gCons (gVar 1) gNil)) (gName 2))
  (gSeq 89 (gAsg (gLstM gNil) (gName 3))
  (gSeq 91 (gFor [4] (gRng1 (gCons (gCB cLenC (gCons (gVar 1) gNil)) gNil)) (gName 4)
  (gDrop (gLM mAppend (gVar 3) (gCons (gLM mPopAt (gVar 2) (gCons (gCallF sp_law_draw (gCons (gVar 0) (gCons (gCB cLenC (gCons (gVar 2) gNil)) gNil))) gNil)) gNil))))
  (gRet (gVar 3)))))
def sp_law_shuffled : GSp := sp2 fun a b Q => ∃ (xs : List D), a = .rng ∧ b = .lst xs ∧ xs.length ≤ 1000 ∧ ∀ ys : List D, ys.Perm xs → Q (.ref 0) [.lst ys]
theorem perm_erase {xs ys rest : List D} {y : D} {j : Nat} (p : (ys ++ rest).Perm xs) (e : rest[j]? = some y) : (ys ++ [y] ++ rest.eraseIdx j).Perm xs := by
  refine List.Perm.trans ?_ p
  rw [List.append_assoc]
  refine List.Perm.append_left ys ?_
  exact perm_idx e
theorem pure_law_shuffled : Keeps N_law_shuffled b_law_shuffled sp_law_shuffled := keeps2 fun a b Q q => by
  obtain ⟨xs, rfl, rfl, hl, q⟩ := q
  walk_at "g"
  rw [show (((xs.length : Nat) : Int)).toNat = xs.length by simp]
  refine ForP.range (fun i σ h => ∃ ys rest : List D, ys.length = i ∧ (ys ++ rest).Perm xs ∧ σ = [some (.d .rng), some (.d (.lst xs)), some (.ref 0), some (.ref 1), none] ∧ h = [.lst rest, .lst ys]) ⟨[], xs, rfl, by simp, rfl, rfl⟩ ?_ ?_
  · rintro i σ h hi ⟨ys, rest, hy, hp, rfl, rfl⟩
    have hlen := hp.length_eq
    rw [List.length_append] at hlen
    walk_at "g"
    refine ⟨DivX.le (by omega) (by omega), fun r r0 r1 => ?_⟩
    obtain ⟨r, rfl⟩ := Int.eq_ofNat_of_zero_le r0
    have hr : r < rest.length := by omega
    walk_at "g"
    refine ⟨⟨by omega, by omega⟩, Ix.nat rfl hr ⟨rest[r], List.getElem?_eq_getElem hr, ?_⟩⟩
    walk_at "g"
    refine ⟨szl (by omega), ?_⟩
    walk_at "g"
    exact ⟨ys ++ [rest[r]], rest.eraseIdx r, by simp; omega, perm_erase hp (List.getElem?_eq_getElem hr), rfl, rfl⟩
  · rintro σ h ⟨ys, rest, hy, hp, rfl, rfl⟩
    have hlen := hp.length_eq
    rw [List.length_append] at hlen
    have : rest = [] := List.eq_nil_of_length_eq_zero (by omega)
    subst this
    rw [List.append_nil] at hp
    walk_at "g"
    exact q ys hp
abbrev N_law_int : List Str := ["x"]
def b_law_int : GS := (gRet (gAnd (gIsi .int (gVar 0)) (gNot (gIsi .bool (gVar 0)))))
def sp_law_int : GSp := sp1 fun a Q => Q (.d (.bl (isK .int (.d a) && !isK .bool (.d a)))) []
theorem pure_law_int : Keeps N_law_int b_law_int sp_law_int := keeps1 fun a Q h => by
  walk_at "g"
  refine Br.cases (fun h1 => ?_) (fun h1 => ?_)
  · walk_at "g"
    exact fin_b h (by rw [h1]; rfl)
  · walk_at "g"
    exact fin_b h (by rw [h1]; rfl)
abbrev N_law_signed : List Str := ["st", "top"]
def b_law_signed : GS := (gRet (gOp oMul (gOp oIx (gLst (gCons (gC (.int 1)) (gCons (gUn oNeg (gC (.int 1))) gNil))) (gCallF sp_law_draw (gCons (gVar 0) (gCons (gC (.int 2)) gNil)))) (gCallF sp_law_draw (gCons (gVar 0) (gCons (gOp oAdd (gVar 1) (gC (.int 1))) gNil)))))
def sp_law_signed : GSp := sp2 fun a b Q => ∃ top : Int, a = .rng ∧ b = .int top ∧ 0 ≤ top ∧ top ≤ 1000000000 ∧ ∀ r : Int, -top ≤ r → r ≤ top → Q (.d (.int r)) []
theorem pure_law_signed : Keeps N_law_signed b_law_signed sp_law_signed := keeps2 fun a b Q q => by
  obtain ⟨top, rfl, rfl, t0, t1, q⟩ := q
  walk_at "g"
  refine ⟨DivX.le (by omega) (by omega), fun r r0 r1 => ?_⟩
  have : r = 0 ∨ r = 1 := by omega
  rcases this with rfl | rfl
  · walk_at "g"
    refine ⟨DivX.le (by omega) (by omega), fun s s0 s1 => ?_⟩
    walk_at "g"
    exact q _ (by omega) (by omega)
  · walk_at "g"
    refine ⟨DivX.le (by omega) (by omega), fun s s0 s1 => ?_⟩
    walk_at "g"
    exact q _ (by omega) (by omega)
abbrev N_law_case : List Str := ["st", "style", "n", "many", "top", "hidden", "rows", "k", "u", "v", "slack", "ring", "less", "i"]
def b_law_case : GS := (gSeq 98 (gAsg (gCallF sp_law_draw (gCons (gVar 0) (gCons (gC (.int 8)) gNil))) (gName 1))
  (gSeq 99 (gAsg (gOp oAdd (gC (.int 1)) (gCallF sp_law_draw (gCons (gVar 0) (gCons (gOp oIx (gLst (gCons (gC (.int 7)) (gCons (gC (.int 7)) (gCons (gC (.int 7)) (gCons (gC (.int 7)) (gCons (gC (.int 7)) (gCons (gC (.int 7)) (gCons (gC (.int 40)) (gCons (gC (.int 40)) gNil))))))))) (gVar 1)) gNil)))) (gName 2))
  (gSeq 100 (gAsg (gCallF sp_law_draw (gCons (gVar 0) (gCons (gC (.int 9)) gNil))) (gName 3))
  (gSeq 102 (gIfS (bVal (gOp oGt (gVar 1) (gC (.int 4))))
  (gAsg (gCallF sp_law_draw (gCons (gVar 0) (gCons (gOp oIx (gLst (gCons (gC (.int 61)) (gCons (gC (.int 401)) gNil))) (gCB cIntA (gCons (gOp oEq (gCallF sp_law_draw (gCons (gVar 0) (gCons (gC (.int 8)) gNil))) (gC (.int 7))) gNil))) gNil))) (gName 3))
  gNext)
  (gSeq 103 (gAsg (gOp oIx (gLst (gCons (gC (.int 1)) (gCons (gC (.int 3)) (gCons (gC (.int 10)) (gCons (gOp oPow (gC (.int 10)) (gC (.int 9))) gNil))))) (gCallF sp_law_draw (gCons (gVar 0) (gCons (gC (.int 4)) gNil)))) (gName 4))
  (gSeq 105 (gIfS (bVal (gOp oEq (gOp oMod (gCB cIntA (gCons (gVar 1) gNil)) (gC (.int 2))) (gC (.int 0))))
  (gRet (gTup (gCons (gVar 2) (gCons (gLc (gRng1 (gCons (gVar 3) gNil)) [7] (.one 7) bYes (gTup (gCons (gCallF sp_law_draw (gCons (gVar 0) (gCons (gVar 2) gNil))) (gCons (gCallF sp_law_draw (gCons (gVar 0) (gCons (gVar 2) gNil))) (gCons (gCallF sp_law_signed (gCons (gVar 0) (gCons (gVar 4) gNil))) gNil))))) (gCons (gC (.str "any")) gNil)))))
  gNext)
  (gSeq 106 (gAsg (gLc (gRng1 (gCons (gVar 2) gNil)) [7] (.one 7) bYes (gCallF sp_law_draw (gCons (gVar 0) (gCons (gOp oAdd (gCB cMin2 (gCons (gVar 4) (gCons (gOp oSub (gOp oPow (gC (.int 10)) (gC (.int 9))) (gC (.int 1))) gNil))) (gC (.int 1))) gNil)))) (gName 5))
  (gSeq 107 (gAsg (gLstM gNil) (gName 6))
  (gSeq 112 (gFor [7, 8, 9, 10] (gRng1 (gCons (gCB cMin2 (gCons (gVar 3) (gCons (gC (.int 360)) gNil))) gNil)) (gName 7)
  (gSeq 109 (gAsg (gCallF sp_law_draw (gCons (gVar 0) (gCons (gVar 2) gNil))) (gName 8))
  (gSeq 110 (gAsg (gCallF sp_law_draw (gCons (gVar 0) (gCons (gVar 2) gNil))) (gName 9))
  (gSeq 111 (gAsg (gOp oMul (gCallF sp_law_draw (gCons (gVar 0) (gCons (gC (.int 2)) gNil))) (gCallF sp_law_draw (gCons (gVar 0) (gCons (gOp oAdd (gVar 4) (gC (.int 1))) gNil)))) (gName 10))
  (gDrop (gLM mAppend (gVar 6) (gCons (gTup (gCons (gVar 8) (gCons (gVar 9) (gCons (gCB cMin2 (gCons (gOp oPow (gC (.int 10)) (gC (.int 9))) (gCons (gOp oAdd (gOp oSub (gOp oIx (gVar 5) (gVar 9)) (gOp oIx (gVar 5) (gVar 8))) (gVar 10)) gNil))) gNil)))) gNil)))))))
  (gSeq 113 (gAsg (gSl oSl (gCallF sp_law_shuffled (gCons (gVar 0) (gCons (gLstR (gR1 (gVar 2))) gNil))) gNoPart (gPart (gCallF sp_law_draw (gCons (gVar 0) (gCons (gOp oAdd (gVar 2) (gC (.int 1))) gNil))))) (gName 11))
  (gSeq 114 (gAsg (gCallF sp_law_draw (gCons (gVar 0) (gCons (gC (.int 2)) gNil))) (gName 12))
  (gSeq 117 (gFor [9, 13] (gRng1 (gCons (gCB cLenC (gCons (gVar 11) gNil)) gNil)) (gName 13)
  (gSeq 116 (gAsg (gOp oIx (gVar 11) (gOp oMod (gCB cIntA (gCons (gOp oAdd (gVar 13) (gC (.int 1))) gNil)) (gCB cLenC (gCons (gVar 11) gNil)))) (gName 9))
  (gDrop (gLM mAppend (gVar 6) (gCons (gTup (gCons (gOp oIx (gVar 11) (gVar 13)) (gCons (gVar 9) (gCons (gOp oSub (gOp oSub (gOp oIx (gVar 5) (gVar 9)) (gOp oIx (gVar 5) (gOp oIx (gVar 11) (gVar 13)))) (gOp oMul (gVar 12) (gCB cIntA (gCons (gOp oEq (gVar 13) (gC (.int 0))) gNil)))) gNil)))) gNil)))))
  (gSeq 119 (gFrz [6] (gIfS (bAnd (bVal (gOp oEq (gVar 12) (gC (.int 1)))) (bVal (gOp oNe (gVar 11) (gLst gNil))))
  (gRet (gTup (gCons (gVar 2) (gCons (gCallF sp_law_shuffled (gCons (gVar 0) (gCons (gVar 6) gNil))) (gCons (gC (.str "no")) gNil)))))
  gNext))
  (gRet (gTup (gCons (gVar 2) (gCons (gCallF sp_law_shuffled (gCons (gVar 0) (gCons (gVar 6) gNil))) (gCons (gC (.str "yes")) gNil))))))))))))))))))
theorem ring_no {rs : List RG.Row} {t : Nat → Int} (h : rbR rs = true) (k : RG.Keeps rs t) : False := by
  rw [rbR, Bool.and_eq_true, Bool.and_eq_true] at h
  obtain ⟨h1, _, h3⟩ := h
  have h1 := of_decide_eq_true h1
  have h3 := of_decide_eq_true h3
  have a : ∀ l : List RG.Row, (∀ r ∈ l, r ∈ rs) → ((hs l).map t).sum - ((us l).map t).sum ≤ (cs l).sum := by
    intro l
    induction l with
    | nil => intro _; simp [hs, us, cs]
    | cons r l ih =>
      intro hm
      have := ih fun x hx => hm x (List.mem_cons_of_mem _ hx)
      have hr := k r.1 r.2.1 r.2.2 (hm r List.mem_cons_self)
      simp only [hs, us, cs, List.map_cons, List.sum_cons] at this ⊢
      omega
  have b := a rs fun _ h => h
  have sw : (((us rs).drop 1 ++ (us rs).take 1).map t).sum = ((us rs).map t).sum := by
    rw [List.map_append, List.sum_append]
    have : ((us rs).map t).sum = (((us rs).take 1 ++ (us rs).drop 1).map t).sum := by rw [List.take_append_drop]
    rw [this, List.map_append, List.sum_append]
    omega
  rw [← h1, sw] at b
  omega
theorem keep_sub {a b : List RG.Row} {t : Nat → Int} (h : ∀ r ∈ a, r ∈ b) (k : RG.Keeps b t) : RG.Keeps a t := fun u v c m => k u v c (h _ m)
def SideOk (rows : List RG.Row) (s : Str) : Prop := s = "any" ∨ (s = "yes" ∧ ∃ g, RG.Keeps rows g) ∨ (s = "no" ∧ ∀ g, ¬ RG.Keeps rows g)
theorem laid_keeps {H : List Int} {ms : List Nat} {k : Nat} : RG.Keeps (laid H ms 0 k) (nu H) := fun u v c m => by
  obtain ⟨i, _, e⟩ := List.mem_map.mp m
  simp only [laidR, Prod.mk.injEq] at e
  obtain ⟨rfl, rfl, rfl⟩ := e
  omega
theorem keep_app {a b : List RG.Row} {t : Nat → Int} (h1 : RG.Keeps a t) (h2 : RG.Keeps b t) : RG.Keeps (a ++ b) t := fun u v c m => by
  rcases List.mem_append.mp m with m | m
  · exact h1 u v c m
  · exact h2 u v c m
def sp_law_case : GSp := sp1 fun a Q => a = .rng ∧ ∀ (n : Nat) (rows : List RG.Row) (s : Str), 0 < n → n ≤ 41 → Fits n rows → rows.length ≤ 600 → SideOk rows s → Q (.d (.tup [.int (n : Nat), .lst (rows.map dR), .str s])) []
theorem pure_law_case : Keeps N_law_case b_law_case sp_law_case := keeps1 fun a Q q => by
  obtain ⟨rfl, q⟩ := q
  walk_at "g"
  refine ⟨DivX.le (by omega) (by omega), fun st y0 y1 => ?_⟩
  walk_at "g"
  refine At.any y0 (by simpa using y1) fun x hx => ?_
  obtain ⟨z, rfl, hz⟩ : ∃ z : Int, x = .int z ∧ 0 < z ∧ z ≤ 40 := by
    simp only [List.mem_cons, List.not_mem_nil, or_false] at hx
    rcases hx with rfl | rfl | rfl | rfl | rfl | rfl | rfl | rfl <;> exact ⟨_, rfl, by decide, by decide⟩
  walk_at "g"
  refine ⟨DivX.le (by omega) (by omega), fun m m0 m1 => ?_⟩
  obtain ⟨n, hn⟩ : ∃ n : Nat, 1 + m = (n : Nat) := ⟨(1 + m).toNat, by omega⟩
  walk_at "s"
  rw [hn]
  walk_at "g"
  refine ⟨DivX.le (by omega) (by omega), fun many my0 my1 => ?_⟩
  walk_at "s"
  refine Ln.mk ?_
  refine seq_join (fun σ h => ∃ many : Nat, many ≤ 400 ∧ σ = [some (.d .rng), some (.d (.int st)), some (.d (.int (n : Nat))), some (.d (.int (many : Nat))), none, none, none, none, none, none, none, none, none, none] ∧ h = []) ?_ ?_
  · intro N hN
    walk_at "g"
    refine Br.dec (fun h => ?_) (fun h => ?_)
    · walk_at "g"
      refine ⟨DivX.le (by omega) (by omega), fun w w0 w1 => ?_⟩
      walk_at "g"
      refine At.any (b2i_0 _) (b2i_2 _) fun x hx => ?_
      obtain ⟨z, rfl, hz⟩ : ∃ z : Int, x = .int z ∧ 0 < z ∧ z ≤ 401 := by
        simp only [List.mem_cons, List.not_mem_nil, or_false] at hx
        rcases hx with rfl | rfl <;> exact ⟨_, rfl, by decide, by decide⟩
      walk_at "g"
      refine ⟨DivX.le (by omega) (by omega), fun w' w0' w1' => ?_⟩
      obtain ⟨w', rfl⟩ := Int.eq_ofNat_of_zero_le w0'
      walk_at "g"
      exact hN _ _ ⟨w', by omega, rfl, rfl⟩
    · obtain ⟨many, rfl⟩ := Int.eq_ofNat_of_zero_le my0
      walk_at "g"
      exact hN _ _ ⟨many, by omega, rfl, rfl⟩
  rintro σ h ⟨many, hmany, rfl, rfl⟩
  walk_at "g"
  refine ⟨DivX.le (by omega) (by omega), fun s s0 s1 => ?_⟩
  walk_at "g"
  refine At.any s0 (by simpa using s1) fun x hx => ?_
  obtain ⟨top, rfl, p0, p1⟩ : ∃ top : Int, x = .int top ∧ 0 < top ∧ top ≤ 1000000000 := by
    simp only [List.mem_cons, List.not_mem_nil, or_false] at hx
    rcases hx with rfl | rfl | rfl | rfl <;> exact ⟨_, rfl, by decide, by decide⟩
  walk_at "g"
  refine Br.dec (fun _ => ?_) (fun _ => ?_)
  · walk_at "g"
    rw [show ((many : Nat) : Int).toNat = many by simp]
    refine CompP.draw (fun d => ∃ r : RG.Row, (r.1 < n ∧ r.2.1 < n) ∧ d = dR r) (by omega) rfl (fun i hi ys Rf hR => ?_) one_mono (fun ys hys hy => ?_)
    · walk_at "g"
      refine ⟨DivX.le (by omega) (by omega), fun u u0 u1 => ?_⟩
      obtain ⟨u, rfl⟩ := Int.eq_ofNat_of_zero_le u0
      walk_at "g"
      refine ⟨DivX.le (by omega) (by omega), fun v v0 v1 => ?_⟩
      obtain ⟨v, rfl⟩ := Int.eq_ofNat_of_zero_le v0
      walk_at "g"
      refine ⟨top, rfl, rfl, by omega, by omega, fun c _ _ => ?_⟩
      walk_at "g"
      exact hR _ ⟨(u, v, c), ⟨show u < n by omega, show v < n by omega⟩, rfl⟩
    obtain ⟨wild, rfl, hwf⟩ := draws_of hy
    rw [List.length_map] at hys
    walk_at "g"
    exact q n wild "any" (by omega) (by omega) hwf (by omega) (.inl rfl)
  walk_at "g"
  rw [show ((n : Nat) : Int).toNat = n by simp]
  refine CompP.draw (fun d => ∃ z : Int, (0 ≤ z ∧ z ≤ 999999999) ∧ d = .int z) (by omega) rfl (fun i hi ys Rf hR => ?_) one_mono (fun ys hys hy => ?_)
  · walk_at "g"
    have e10 : (10 : Int) ^ Int.toNat 9 = 1000000000 := rfl
    have hm : 0 < imin top (10 ^ Int.toNat 9 - 1) + 1 ∧ imin top (10 ^ Int.toNat 9 - 1) + 1 ≤ 1000000000 := by rw [e10]; unfold imin; split <;> omega
    refine ⟨DivX.le (by omega) (by omega), fun z z0 z1 => ?_⟩
    walk_at "g"
    exact hR _ ⟨z, ⟨z0, by omega⟩, rfl⟩
  obtain ⟨H, rfl, hp⟩ := draws_of hy
  have hl : H.length = n := by simpa using hys
  have hH : ∀ i, i < n → 0 ≤ nu H i ∧ nu H i ≤ 999999999 := fun i hi => by
    rw [nu_get (by omega)]
    exact hp _ (List.getElem_mem _)
  walk_at "g"
  obtain ⟨mm, emm, hmm⟩ : ∃ mm : Nat, imin (many : Nat) 360 = (mm : Nat) ∧ mm ≤ 360 := by
    unfold imin
    split
    · exact ⟨360, rfl, by omega⟩
    · exact ⟨many, rfl, by omega⟩
  rw [emm]
  refine ⟨⟨by omega, by omega⟩, ?_⟩
  walk_at "g"
  rw [show ((mm : Nat) : Int).toNat = mm by simp]
  refine ForP.range (fun i σ h => ∃ M : List RG.Row, M.length = i ∧ Fits n M ∧ RG.Keeps M (nu H) ∧ σ = [some (.d .rng), some (.d (.int st)), some (.d (.int (n : Nat))), some (.d (.int (many : Nat))), some (.d (.int top)), some (.d (.lst (H.map .int))), some (.ref 0), none, none, none, none, none, none, none] ∧ h = [.lst (M.map dR)]) ⟨[], rfl, fun _ h => (by cases h), fun _ _ _ h => (by cases h), rfl, rfl⟩ ?_ ?_
  · rintro i σ h hi ⟨M, hM, hMf, hMk, rfl, rfl⟩
    walk_at "g"
    refine ⟨DivX.le (by omega) (by omega), fun u u0 u1 => ?_⟩
    obtain ⟨u, rfl⟩ := Int.eq_ofNat_of_zero_le u0
    walk_at "g"
    refine ⟨DivX.le (by omega) (by omega), fun v v0 v1 => ?_⟩
    obtain ⟨v, rfl⟩ := Int.eq_ofNat_of_zero_le v0
    walk_at "g"
    refine ⟨DivX.le (by omega) (by omega), fun w w0 w1 => ?_⟩
    walk_at "g"
    refine ⟨DivX.le (by omega) (by omega), fun w' w0' w1' => ?_⟩
    walk_at "g"
    have hw : 0 ≤ w * w' := Int.mul_nonneg w0 w0'
    generalize w * w' = sl at *
    refine atN (by omega) (by omega) ?_
    rw [Int.toNat_natCast]
    walk_at "g"
    refine atN (by omega) (by omega) ?_
    rw [Int.toNat_natCast]
    walk_at "g"
    refine ⟨szl (by rw [List.length_map]; omega), ?_⟩
    walk_at "g"
    refine ⟨M ++ [(u, v, imin (10 ^ Int.toNat 9) (nu H v - nu H u + sl))], by simp; omega, fit_snoc hMf (show u < n by omega) (show v < n by omega), keep_app hMk fun a b c m => ?_, rfl, by rw [List.map_append]; rfl⟩
    have m := List.mem_singleton.mp m
    simp only [Prod.mk.injEq] at m
    obtain ⟨rfl, rfl, rfl⟩ := m
    have h1 := hH a (by omega)
    have h2 := hH b (by omega)
    have e10 : (10 : Int) ^ Int.toNat 9 = 1000000000 := rfl
    rw [e10]
    unfold imin
    split <;> omega
  rintro σ h ⟨M, hM, hMf, hMk, rfl, rfl⟩
  have hM4 : M.length ≤ 360 := by omega
  clear hM
  walk_at "g"
  refine ⟨by unfold L2.RgOk; omega, ?_⟩
  have er : ∀ n : Nat, rgD 0 (n : Nat) = encNs (List.range n) := fun n => by
    unfold rgD encNs
    rw [show ((n : Int) - 0).toNat = n by simp]
    exact List.map_congr_left fun i _ => by rw [Int.zero_add]
  rw [er]
  walk_at "g"
  refine ⟨_, rfl, rfl, by simp; omega, fun ys hp1 => ?_⟩
  obtain ⟨ms, hp2, rfl⟩ := perm_map' hp1 _ rfl
  walk_at "g"
  refine ⟨DivX.le (by omega) (by omega), fun k k0 k1 => ?_⟩
  obtain ⟨k, rfl⟩ := Int.eq_ofNat_of_zero_le k0
  walk_at "s"
  rw [cut_to, ← List.map_take]
  have hfn : ∀ x ∈ ms.take k, x < n := fun x hx => List.mem_range.mp (hp2.subset (List.mem_of_mem_take hx))
  have hnd : (ms.take k).Nodup := ((hp2.nodup_iff).mpr List.nodup_range).sublist (List.take_sublist _ _)
  have hfl : (ms.take k).length ≤ n := by
    have := hp2.length_eq
    rw [List.length_range] at this
    rw [List.length_take]
    omega
  clear hp1 hp2
  generalize ms.take k = f at *
  walk_at "g"
  refine ⟨DivX.le (by omega) (by omega), fun less e0 e1 => ?_⟩
  walk_at "g"
  rw [List.length_map, show ((f.length : Nat) : Int).toNat = f.length by simp]
  refine ForP.range (fun i σ h => σ = [some (.d .rng), some (.d (.int st)), some (.d (.int (n : Nat))), some (.d (.int (many : Nat))), some (.d (.int top)), some (.d (.lst (H.map .int))), some (.ref 0), none, none, none, none, some (.d (.lst (encNs f))), some (.d (.int less)), none] ∧ h = [.lst ((M ++ laid H f (-less) i).map dR)]) ⟨rfl, by simp [laid]⟩ ?_ ?_
  · rintro i σ h hi ⟨rfl, rfl⟩
    have hj := Nat.mod_lt (i + 1) (show 0 < f.length by omega)
    have h1 := hfn _ (fOf_mem hi)
    have h2 := hfn _ (fOf_mem hj)
    walk_at "g"
    rw [List.length_map]
    refine ⟨by omega, ?_⟩
    walk_at "g"
    refine atNs (i := (i + 1) % f.length) (by rw [Int.natCast_emod]; congr 1; omega) hj ?_
    rw [fOf_eq hj]
    walk_at "g"
    refine atNs (i := i) (by omega) hi ?_
    rw [fOf_eq hi]
    walk_at "g"
    refine atN (by omega) (by omega) ?_
    rw [Int.toNat_natCast]
    walk_at "g"
    refine atNs (i := i) (by omega) hi ?_
    rw [fOf_eq hi]
    walk_at "g"
    refine atN (by omega) (by omega) ?_
    rw [Int.toNat_natCast]
    walk_at "g"
    have eb : b2i' (decide ((0 : Int) + (i : Nat) = 0)) = (if i = 0 then 1 else 0) := by
      by_cases h0 : i = 0
      · rw [if_pos h0, decide_eq_true (by omega)]; rfl
      · rw [if_neg h0, decide_eq_false (by omega)]; rfl
    rw [eb]
    refine ⟨szl (by simp [laid]; omega), ?_⟩
    walk_at "g"
    rw [laid_succ, ← List.append_assoc, List.map_append (l₁ := M ++ _)]
    have : laidR H f (-less) i = (fOf f i, fOf f ((i + 1) % f.length), nu H (fOf f ((i + 1) % f.length)) - nu H (fOf f i) - less * (if i = 0 then 1 else 0)) := by
      unfold laidR
      rw [Int.neg_mul, ← Int.sub_eq_add_neg]
    rw [this]
    rfl
  · rintro σ h ⟨rfl, rfl⟩
    have hL := laid_len H f (-less) f.length
    have fitB : Fits n (laid H f (-less) f.length) := fun r hr => by
      obtain ⟨i, hi, rfl⟩ := List.mem_map.mp hr
      have hi := List.mem_range.mp hi
      have a := hfn _ (fOf_mem hi)
      have b := hfn _ (fOf_mem (Nat.mod_lt (i + 1) (show 0 < f.length by omega)))
      exact ⟨show fOf f i < n by omega, show fOf f ((i + 1) % f.length) < n by omega⟩
    have fit : Fits n (M ++ laid H f (-less) f.length) := fun r hr => by
      rcases List.mem_append.mp hr with h | h
      · exact hMf r h
      · exact fitB r h
    have fin : ∀ (s : Str) (zs : List D), zs.Perm ((M ++ laid H f (-less) f.length).map dR) → SideOk (M ++ laid H f (-less) f.length) s → Q (.d (.tup [.int (n : Nat), .lst zs, .str s])) [] := fun s zs hz ho => by
      obtain ⟨R, hR, rfl⟩ := perm_map' hz _ rfl
      refine q n R s (by omega) (by omega) (fun r hr => fit r (hR.subset hr)) (by rw [hR.length_eq, List.length_append, hL]; omega) ?_
      rcases ho with h | ⟨h, g, hg⟩ | ⟨h, hg⟩
      · exact .inl h
      · exact .inr (.inl ⟨h, g, keep_sub (fun r hr => hR.subset hr) hg⟩)
      · exact .inr (.inr ⟨h, fun g k => hg g (keep_sub (fun r hr => hR.symm.subset hr) k)⟩)
    walk_at "g"
    refine Br.dec (fun hl1 => ?_) (fun hl1 => ?_)
    · walk_at "g"
      refine ⟨⟨encN0.lst.cmp (by decide) _, encN0.lst.cmp (by decide) []⟩, ?_⟩
      rw [show D.eqv (.lst (encNs f)) (.lst []) = f.isEmpty from eqv_nil _]
      cases he : f.isEmpty with
      | true =>
        walk_at "g"
        refine ⟨_, rfl, rfl, by simp; omega, fun ys hp1 => ?_⟩
        walk_at "g"
        refine fin "yes" ys hp1 (.inr (.inl ⟨rfl, nu H, keep_app hMk ?_⟩))
        rw [List.isEmpty_iff] at he
        subst he
        exact fun _ _ _ m => by cases m
      | false =>
        walk_at "g"
        refine ⟨_, rfl, rfl, by simp; omega, fun ys hp1 => ?_⟩
        walk_at "g"
        have f0 : 0 < f.length := by
          cases f with
          | nil => cases he
          | cons => simp
        exact fin "no" ys hp1 (.inr (.inr ⟨rfl, fun g k => ring_no (laid_ring hnd f0 (by omega)) (keep_sub (fun r hr => List.mem_append_right _ hr) k)⟩))
    · have : less = 0 := by omega
      subst this
      walk_at "g"
      refine ⟨_, rfl, rfl, by rw [List.length_map, List.length_append, laid_len]; omega, fun ys hp1 => ?_⟩
      walk_at "g"
      exact fin "yes" ys hp1 (.inr (.inl ⟨rfl, nu H, keep_app hMk laid_keeps⟩))
abbrev N_law_keeps : List Str := ["n", "rows", "table", "x", "u", "v", "c"]
def b_law_keeps : GS := (gSeq 123 (gIfS (bOr (bNot (bTru (gIsi .list (gVar 2)))) (bVal (gOp oNe (gCB cLenC (gCons (gVar 2) gNil)) (gVar 0))))
  (gRet (gC (.bl false)))
  gNext)
  (gSeq 126 (gFor [3] (gSrc (gVar 2)) (gName 3)
  (gIfS (bOr (bNot (bTru (gCallF sp_law_int (gCons (gVar 3) gNil)))) (bVal (gOp oLt (gVar 3) (gC (.int 0)))))
  (gRet (gC (.bl false)))
  gNext))
  (gSeq 129 (gFor [4, 5, 6] (gSrc (gVar 1)) (gTupG 3 (gsCons (gName 4) (gsCons (gName 5) (gsCons (gName 6) gsNil))))
  (gIfS (bVal (gOp oGt (gOp oSub (gOp oIx (gVar 2) (gVar 5)) (gOp oIx (gVar 2) (gVar 4))) (gVar 6)))
  (gRet (gC (.bl false)))
  gNext))
  (gRet (gC (.bl true))))))
def sp_law_keeps : GSp := sp3 fun a b c Q => ∃ (n : Nat) (rows : List RG.Row) (t : Nat → Int), a = .int (n : Nat) ∧ b = .lst (rows.map dR) ∧ c = .lst (tab n t) ∧ Fits n rows ∧ n ≤ 1000 ∧ rows.length ≤ 1000 ∧ RG.Keeps rows t ∧ (∀ u, 0 ≤ t u) ∧ Q (.d (.bl true)) []
theorem pure_law_keeps : Keeps N_law_keeps b_law_keeps sp_law_keeps := keeps3 fun a b c Q q => by
  obtain ⟨n, rows, t, rfl, rfl, rfl, hf, n1, hl, kp, ps, q⟩ := q
  walk_at "g"
  rw [tab_len]
  refine Br.ndec (fun h => (h rfl).elim) (fun _ => ?_)
  walk_at "g"
  refine ForP.map (xs := List.range n) (f := fun i => D.int (t i)) (fun i σ h => σ = [some (.d (.int (n : Nat))), some (.d (.lst (rows.map dR))), some (.d (.lst (tab n t))), none, none, none, none] ∧ h = []) ⟨rfl, rfl⟩ ?_ ?_
  · rintro i k σ h ek ⟨rfl, rfl⟩
    have := ps k
    walk_at "g"
    refine Br.dec (fun h => by omega) (fun _ => ?_)
    walk_at "g"
  rintro σ h ⟨rfl, rfl⟩
  walk_at "g"
  refine ForP.map (fun i σ h => σ = [some (.d (.int (n : Nat))), some (.d (.lst (rows.map dR))), some (.d (.lst (tab n t))), none, none, none, none] ∧ h = []) ⟨rfl, rfl⟩ ?_ ?_
  · rintro i ⟨u, v, c⟩ σ h ek ⟨rfl, rfl⟩
    have hr := hf _ (List.mem_of_getElem? ek)
    have := kp u v c (List.mem_of_getElem? ek)
    simp only at hr
    walk_at "g"
    refine atTab hr.2 ?_
    walk_at "g"
    refine atTab hr.1 ?_
    walk_at "g"
    refine Br.dec (fun h => by simp only at h; omega) (fun _ => ?_)
    walk_at "g"
  · rintro σ h ⟨rfl, rfl⟩
    walk_at "g"
    exact q
abbrev N_law_held_up : List Str := ["rows", "table", "held", "k", "u", "v", "c", "x"]
def b_law_held_up : GS := (gSeq 132 (gAsg (gLcM (gSrc (gVar 1)) [7] (.one 7) bYes (gOp oEq (gVar 7) (gC (.int 0)))) (gName 2))
  (gSeq 136 (gFor [3, 4, 5, 6] (gRng1 (gCons (gCB cLenC (gCons (gVar 1) gNil)) gNil)) (gName 3)
  (gFor [4, 5, 6] (gSrc (gVar 0)) (gTupG 3 (gsCons (gName 4) (gsCons (gName 5) (gsCons (gName 6) gsNil))))
  (gIfS (bAnd (bTru (gOp oIx (gVar 2) (gVar 5))) (bVal (gOp oEq (gOp oSub (gOp oIx (gVar 1) (gVar 5)) (gOp oIx (gVar 1) (gVar 4))) (gVar 6))))
  (gAsg (gC (.bl true)) (gSub (gVar 2) (gVar 4)))
  gNext)))
  (gFrz [2] (gRet (gOp oNotIn (gC (.bl false)) (gVar 2))))))
def sp_law_held_up : GSp := sp2 fun a b Q => ∃ (n : Nat) (rows : List RG.Row) (t : Nat → Int), a = .lst (rows.map dR) ∧ b = .lst (tab n t) ∧ Fits n rows ∧ n ≤ 1000 ∧ rows.length ≤ 1000000 ∧ YesOk n rows t ∧ Q (.d (.bl true)) []
theorem cnt_lt (p q : Nat → Bool) (h : ∀ w, p w = true → q w = true) : ∀ (l : List Nat) (x : Nat), x ∈ l → q x = true → p x = false → l.countP p < l.countP q
  | y :: l, x, hx, hq, hp => by
    have le : l.countP p ≤ l.countP q := List.countP_mono_left fun w _ => h w
    rw [List.countP_cons, List.countP_cons]
    rcases List.mem_cons.mp hx with rfl | hx
    · rw [hq, hp]; simp; omega
    · have := cnt_lt p q h l x hx hq hp
      cases hy : p y with
      | false => simp; omega
      | true => rw [h y hy]; simp; omega
def rk (n : Nat) (T : Nat → Nat) (u : Nat) : Nat := (List.range n).countP fun w => decide (T w < T u)
theorem rk_lt {n : Nat} {T : Nat → Nat} {u v : Nat} (hv : v < n) (h : T v < T u) : rk n T v < rk n T u :=
  cnt_lt _ _ (fun w hw => by simp at hw ⊢; omega) _ v (List.mem_range.mpr hv) (by simpa using h) (by simp)
theorem rk_n {n : Nat} {T : Nat → Nat} {u : Nat} (hu : u < n) : rk n T u < n := by
  have := cnt_lt (fun w => decide (T w < T u)) (fun _ => true) (fun _ _ => rfl) (List.range n) u (List.mem_range.mpr hu) rfl (by simp)
  rw [List.countP_true, List.length_range] at this
  exact this
def hbs (n : Nat) (H : Nat → Bool) : List D := (List.range n).map fun i => D.bl (H i)
theorem hbs_set {n u : Nat} {H : Nat → Bool} {x : Bool} : (hbs n H).set u (.bl x) = hbs n (RG.fset H u x) := by
  unfold hbs
  rw [rng_set]
  congr 1
  funext i
  simp only [RG.fset]
  split <;> rfl
theorem atHbs {k : D → Prop} {n v : Nat} {H : Nat → Bool} (h : v < n) (hk : k (.bl (H v))) : At (hbs n H) (v : Nat) k := At.nat rfl (rng_get h) hk
theorem pure_law_held_up : Keeps N_law_held_up b_law_held_up sp_law_held_up := keeps2 fun a b Q q => by
  obtain ⟨n, rows, t, rfl, rfl, hf, hn, hl, y, q⟩ := q
  walk_at "g"
  refine CompP.mp (xs := List.range n) (f := fun i => D.int (t i)) (g := fun i => D.bl (decide (t i = 0))) (by simp; omega) rfl (fun i k ek ys R hR => ?_) one_mono ?_
  · walk_at "g"
    exact hR
  rw [show ((List.range n).map fun i => D.bl (decide (t i = 0))) = hbs n fun i => decide (t i = 0) from rfl]
  walk_at "g"
  rw [tab_len, show ((n : Nat) : Int).toNat = n by simp]
  obtain ⟨T, hT⟩ := y.held
  refine ForP.range (fun k σ h => ∃ H : Nat → Bool, (∀ u, u < n → t u = 0 → H u = true) ∧ (∀ u, u < n → rk n T u ≤ k → H u = true) ∧ σ = [some (.d (.lst (rows.map dR))), some (.d (.lst (tab n t))), some (.ref 0), none, none, none, none, none] ∧ h = [.lst (hbs n H)]) ⟨fun i => decide (t i = 0), fun u _ h => decide_eq_true h, fun u hu h => ?_, rfl, rfl⟩ ?_ ?_
  · rcases Int.lt_or_le 0 (t u) with z | z
    · obtain ⟨v, c, m, h1, h2⟩ := hT u z
      have := rk_lt (n := n) (hf _ m).2 h1
      omega
    · have := y.pos u
      exact decide_eq_true (by omega)
  · rintro k σ h hk ⟨H0, z0, z1, rfl, rfl⟩
    walk_at "g"
    refine ForP.map (fun i σ h => ∃ H : Nat → Bool, (∀ u, u < n → H0 u = true → H u = true) ∧ (∀ j, j < i → ∀ u v c, rows[j]? = some (u, v, c) → H0 v = true → t u = t v - c → H u = true) ∧ σ = [some (.d (.lst (rows.map dR))), some (.d (.lst (tab n t))), some (.ref 0), some (.d (.int (0 + (k : Nat)))), none, none, none, none] ∧ h = [.lst (hbs n H)]) ⟨H0, fun u _ h => h, fun j hj => (by omega), rfl, rfl⟩ ?_ ?_
    · rintro i ⟨u, v, c⟩ σ h ei ⟨H, w0, w1, rfl, rfl⟩
      have hr := hf _ (List.mem_of_getElem? ei)
      simp only at hr
      have same : (H v = true → t u = t v - c → H u = true) → ∀ j, j < i + 1 → ∀ u' v' c', rows[j]? = some (u', v', c') → H0 v' = true → t u' = t v' - c' → H u' = true := fun hs j hj u' v' c' e' h0 et => by
        by_cases ej : j = i
        · subst ej
          rw [ei] at e'
          simp only [Option.some.injEq, Prod.mk.injEq] at e'
          obtain ⟨rfl, rfl, rfl⟩ := e'
          exact hs (w0 v hr.2 h0) et
        · exact w1 j (by omega) u' v' c' e' h0 et
      walk_at "g"
      refine atHbs hr.2 ?_
      walk_at "g"
      cases hv : H v with
      | false =>
        walk_at "g"
        exact ⟨H, w0, same (fun h => by rw [hv] at h; cases h), rfl, rfl⟩
      | true =>
        walk_at "g"
        refine atTab hr.2 ?_
        walk_at "g"
        refine atTab hr.1 ?_
        walk_at "g"
        refine Br.dec (fun h => ?_) (fun h => ?_)
        · walk_at "g"
          refine Ix.nat rfl (by simp [hbs]; exact hr.1) ?_
          walk_at "g"
          refine ⟨RG.fset H u true, fun x hx h0 => ?_, fun j hj u' v' c' e' h0 et => ?_, rfl, by rw [hbs_set]⟩
          · by_cases e : x = u
            · subst e; exact RG.fset_eq ..
            · rw [RG.fset_ne _ _ e]; exact w0 x hx h0
          · by_cases e : u' = u
            · subst e; exact RG.fset_eq ..
            · rw [RG.fset_ne _ _ e]
              by_cases ej : j = i
              · subst ej
                rw [ei] at e'
                simp only [Option.some.injEq, Prod.mk.injEq] at e'
                exact (e e'.1.symm).elim
              · exact w1 j (by omega) u' v' c' e' h0 et
        · walk_at "g"
          exact ⟨H, w0, same (fun _ et => (h (by simp only; omega)).elim), rfl, rfl⟩
    · rintro σ h ⟨H, w0, w1, rfl, rfl⟩
      walk_at "g"
      refine ⟨H, fun u hu h => w0 u hu (z0 u hu h), fun u hu h => ?_, rfl, rfl⟩
      rcases Int.lt_or_le 0 (t u) with z | z
      · obtain ⟨v, c, m, h1, h2⟩ := hT u z
        have hv : v < n := (hf _ m).2
        have := rk_lt (n := n) hv h1
        obtain ⟨j, hj⟩ := List.mem_iff_getElem?.mp m
        exact w1 j (by have := (List.getElem?_eq_some_iff.mp hj).1; exact this) u v c hj (z1 v hv (by omega)) h2
      · have := y.pos u
        exact w0 u hu (z0 u hu (by omega))
  · rintro σ h ⟨H0, z0, z1, rfl, rfl⟩
    walk_at "g"
    refine ⟨.inl ⟨rfl, ?_⟩, ?_⟩
    · rw [hbs, List.all_map, List.all_eq_true]
      intro x _
      rfl
    rw [in_const (b := false) (fun x hx => by
      obtain ⟨i, hi, rfl⟩ := List.mem_map.mp hx
      have hi := List.mem_range.mp hi
      rw [z1 i hi (by have := rk_n (T := T) hi; omega)]
      rfl)]
    exact q
abbrev N_law_ring_ok : List Str := ["rows", "ring", "k", "total", "ends", "i"]
def b_law_ring_ok : GS := (gSeq 140 (gIfS (bOr (bNot (bTru (gIsi .list (gVar 1)))) (bVal (gOp oEq (gVar 1) (gLst gNil))))
  (gRet (gC (.bl false)))
  gNext)
  (gSeq 143 (gFor [2] (gSrc (gVar 1)) (gName 2)
  (gIfS (bOr (bNot (bTru (gCallF sp_law_int (gCons (gVar 2) gNil)))) (bOr (bVal (gOp oLt (gVar 2) (gC (.int 0)))) (bVal (gOp oGe (gVar 2) (gCB cLenC (gCons (gVar 0) gNil))))))
  (gRet (gC (.bl false)))
  gNext))
  (gSeq 144 (gAsg (gC (.int 0)) (gName 3))
  (gSeq 145 (gAsg (gLstM gNil) (gName 4))
  (gSeq 150 (gFor [5] (gRng1 (gCons (gCB cLenC (gCons (gVar 1) gNil)) gNil)) (gName 5)
  (gSeq 148 (gIfS (bOr (bVal (gOp oNe (gOp oIx (gOp oIx (gVar 0) (gOp oIx (gVar 1) (gVar 5))) (gC (.int 1))) (gOp oIx (gOp oIx (gVar 0) (gOp oIx (gVar 1) (gOp oMod (gCB cIntA (gCons (gOp oAdd (gVar 5) (gC (.int 1))) gNil)) (gCB cLenC (gCons (gVar 1) gNil))))) (gC (.int 0))))) (bVal (gOp oIn (gOp oIx (gOp oIx (gVar 0) (gOp oIx (gVar 1) (gVar 5))) (gC (.int 1))) (gVar 4))))
  (gRet (gC (.bl false)))
  gNext)
  (gSeq 149 (gDrop (gLM mAppend (gVar 4) (gCons (gOp oIx (gOp oIx (gVar 0) (gOp oIx (gVar 1) (gVar 5))) (gC (.int 1))) gNil)))
  (gAsg (gOp oAdd (gVar 3) (gOp oIx (gOp oIx (gVar 0) (gOp oIx (gVar 1) (gVar 5))) (gC (.int 2)))) (gName 3)))))
  (gFrz [4] (gRet (gOp oLt (gVar 3) (gC (.int 0))))))))))
def sp_law_ring_ok : GSp := sp2 fun a b Q => ∃ (rows : List RG.Row) (ks : List Nat), a = .lst (rows.map dR) ∧ b = .lst (encNs ks) ∧ RG.IsRing rows ks ∧ ks.length ≤ 1000 ∧ Q (.d (.bl true)) []
theorem inD_no {x : Nat} {xs : List Nat} (h : x ∉ xs) : inD (.int (x : Nat)) (encNs xs) = false := by
  unfold inD
  rw [List.any_eq_false]
  intro y hy
  obtain ⟨z, hz, rfl⟩ := List.mem_map.mp hy
  rw [encN0.eqv z x]
  simp only [decide_eq_true_eq]
  intro e
  subst e
  exact h hz
theorem total_snoc (rows : List RG.Row) (ks : List Nat) (k : Nat) : RG.total rows (ks ++ [k]) = RG.total rows ks + RG.cOf rows k := by
  unfold RG.total
  simp
theorem pure_law_ring_ok : Keeps N_law_ring_ok b_law_ring_ok sp_law_ring_ok := keeps2 fun a b Q q => by
  obtain ⟨rows, ks, rfl, rfl, R, hl, q⟩ := q
  walk_at "g"
  refine ⟨⟨encN0.lst.cmp (by decide) _, encN0.lst.cmp (by decide) []⟩, ?_⟩
  rw [show D.eqv (.lst (encNs ks)) (.lst []) = ks.isEmpty from eqv_nil _, show ks.isEmpty = false by
    cases ks with
    | nil => exact (R.ne rfl).elim
    | cons => rfl]
  have kpos : 0 < ks.length := List.length_pos_iff.mpr R.ne
  walk_at "g"
  refine ForP.map (f := fun k : Nat => D.int (k : Nat)) (fun i σ h => σ = [some (.d (.lst (rows.map dR))), some (.d (.lst (encNs ks))), none, none, none, none] ∧ h = []) ⟨rfl, rfl⟩ ?_ ?_
  · rintro i k σ h ek ⟨rfl, rfl⟩
    have hk := R.lt k (List.mem_of_getElem? ek)
    walk_at "g"
    rw [List.length_map]
    refine Br.dec (fun h => by omega) (fun _ => ?_)
    walk_at "g"
  rintro σ h ⟨rfl, rfl⟩
  walk_at "g"
  rw [List.length_map, show ((ks.length : Nat) : Int).toNat = ks.length by simp]
  refine ForP.range (fun i σ h => σ = [some (.d (.lst (rows.map dR))), some (.d (.lst (encNs ks))), none, some (.d (.int (RG.total rows (ks.take i)))), some (.ref 0), none] ∧ h = [.lst (encNs ((ks.take i).map (RG.vOf rows)))]) ⟨rfl, rfl⟩ ?_ ?_
  · rintro i σ h hi ⟨rfl, rfl⟩
    have hj := Nat.mod_lt (i + 1) kpos
    have h1 := R.lt _ (List.getElem_mem hi)
    have h2 := R.lt _ (List.getElem_mem hj)
    have step := R.step (List.getElem?_eq_getElem hi) (List.getElem?_eq_getElem hj)
    have new : RG.vOf rows ks[i] ∉ (ks.take i).map (RG.vOf rows) := fun hm => by
      obtain ⟨k, hk, e⟩ := List.mem_map.mp hm
      obtain ⟨j, hj, rfl⟩ := List.mem_iff_getElem.mp hk
      rw [List.length_take] at hj
      rw [List.getElem_take] at e
      have := (List.getElem_inj (xs := ks.map (RG.vOf rows)) (h₀ := by rw [List.length_map]; omega) (h₁ := by rw [List.length_map]; omega) R.nod).mp (show (ks.map (RG.vOf rows))[j]'(by rw [List.length_map]; omega) = (ks.map (RG.vOf rows))[i]'(by rw [List.length_map]; omega) by rw [List.getElem_map, List.getElem_map]; exact e)
      omega
    walk_at "g"
    refine atNs (i := i) (by omega) hi ?_
    walk_at "g"
    refine atRow (row_at h1) ?_
    walk_at "g"
    rw [List.length_map]
    refine ⟨by omega, ?_⟩
    walk_at "g"
    refine atNs (i := (i + 1) % ks.length) (by rw [Int.natCast_emod]; congr 1; omega) hj ?_
    walk_at "g"
    refine atRow (row_at h2) ?_
    walk_at "g"
    refine Br.ndec (fun h => (h (by rw [step])).elim) (fun _ => ?_)
    walk_at "g"
    refine atNs (i := i) (by omega) hi ?_
    walk_at "g"
    refine atRow (row_at h1) ?_
    walk_at "g"
    refine ⟨.inl ⟨rfl, ?_⟩, ?_⟩
    · rw [List.all_map, List.all_eq_true]
      intro x _
      rfl
    rw [inD_no new]
    walk_at "g"
    refine atNs (i := i) (by omega) hi ?_
    walk_at "g"
    refine atRow (row_at h1) ?_
    walk_at "g"
    refine ⟨szl (by simp; omega), ?_⟩
    walk_at "g"
    refine atNs (i := i) (by omega) hi ?_
    walk_at "g"
    refine atRow (row_at h1) ?_
    walk_at "g"
    have e : ks.take (i + 1) = ks.take i ++ [ks[i]] := by rw [List.take_add_one, List.getElem?_eq_getElem hi]; rfl
    rw [e, total_snoc, List.map_append, encNs_app]
    exact ⟨rfl, rfl⟩
  · rintro σ h ⟨rfl, rfl⟩
    rw [List.take_length]
    walk_at "g"
    exact fin_b q (decide_eq_true R.neg).symm
abbrev N_law_right : List Str := ["n", "rows", "told"]
def b_law_right : GS := (gSeq 154 (gIfS (bOr (bNot (bTru (gIsi .tuple (gVar 2)))) (bOr (bVal (gOp oNe (gCB cLenC (gCons (gVar 2) gNil)) (gC (.int 2)))) (bNot (bTru (gIsi .str (gOp oIx (gVar 2) (gC (.int 0))))))))
  (gRet (gC (.bl false)))
  gNext)
  (gSeq 156 (gIfS (bVal (gOp oEq (gOp oIx (gVar 2) (gC (.int 0))) (gC (.str "yes"))))
  (gRet (gAnd (gCallF sp_law_keeps (gCons (gVar 0) (gCons (gVar 1) (gCons (gOp oIx (gVar 2) (gC (.int 1))) gNil)))) (gCallF sp_law_held_up (gCons (gVar 1) (gCons (gOp oIx (gVar 2) (gC (.int 1))) gNil)))))
  gNext)
  (gRet (gAnd (gOp oEq (gOp oIx (gVar 2) (gC (.int 0))) (gC (.str "no"))) (gCallF sp_law_ring_ok (gCons (gVar 1) (gCons (gOp oIx (gVar 2) (gC (.int 1))) gNil)))))))
def sp_law_right : GSp := sp3 fun a b c Q => ∃ (n : Nat) (rows : List RG.Row) (s : Str) (xs : List D), a = .int (n : Nat) ∧ b = .lst (rows.map dR) ∧ c = .tup [.str s, .lst xs] ∧ Fits n rows ∧ n ≤ 1000 ∧ rows.length ≤ 1000 ∧ Told n rows s xs ∧ Q (.d (.bl true)) []
theorem pure_law_right : Keeps N_law_right b_law_right sp_law_right := keeps3 fun a b c Q q => by
  obtain ⟨n, rows, s, xs, rfl, rfl, rfl, hf, hn, hl, hs, q⟩ := q
  rcases hs with ⟨t, rfl, rfl, y⟩ | ⟨ks, rfl, rfl, R, hk⟩
  · walk_at "g"
    refine ⟨n, rows, t, rfl, rfl, rfl, hf, hn, hl, y.keeps, y.pos, ?_⟩
    walk_at "g"
    exact ⟨n, rows, t, rfl, rfl, hf, hn, by omega, y, q⟩
  · walk_at "g"
    exact ⟨rows, ks, rfl, rfl, R, by omega, q⟩
abbrev N_law : List Str := ["script", "st", "n", "rows", "side", "passed", "told", "answer", "paper", "at", "a", "other"]
def b_law : GS := (gSeq 159 (gAsg (gCallF sp_law_start (gCons (gVar 0) gNil)) (gName 1))
  (gSeq 160 (gAsg (gCallF sp_law_case (gCons (gVar 1) gNil)) (gTupG 3 (gsCons (gName 2) (gsCons (gName 3) (gsCons (gName 4) gsNil)))))
  (gSeq 161 (gAsg (gCB cListM (gCons (gVar 3) gNil)) (gName 5))
  (gSeq 162 (gAsg (gCallVC sp_solve_rings (gCons (gVar 2) (gCons (gVar 5) gNil))) (gName 6))
  (gSeq 164 (gIfS (bOr (bNot (bTru (gCallVF sp_law_right (gCons (gVar 2) (gCons (gVar 3) (gCons (gVar 6) gNil)))))) (bVal (gOp oNotIn (gVar 4) (gLst (gCons (gC (.str "any")) (gCons (gOp oIx (gVar 6) (gC (.int 0))) gNil))))))
  (gRet (gC (.bl false)))
  gNext)
  (gSeq 165 (gAsg (gVar 6) (gTupN 2 [7, 8]))
  (gSeq 167 (gIfS (bAnd (bVal (gOp oEq (gVar 7) (gC (.str "yes")))) (bVal (gOp oIsNotB (gCallVF sp_table_keeps (gCons (gVar 2) (gCons (gCB cList (gCons (gVar 3) gNil)) (gCons (gVar 8) gNil)))) (gC (.bl true)))))
  (gRet (gC (.bl false)))
  gNext)
  (gSeq 169 (gIfS (bAnd (bVal (gOp oEq (gVar 7) (gC (.str "no")))) (bVal (gOp oIsNotB (gCallVF sp_ring_breaks (gCons (gVar 2) (gCons (gCB cList (gCons (gVar 3) gNil)) (gCons (gVar 8) gNil)))) (gC (.bl true)))))
  (gRet (gC (.bl false)))
  gNext)
  (gSeq 171 (gIfS (bVal (gOp oNe (gVar 5) (gVar 3)))
  (gRet (gC (.bl false)))
  gNext)
  (gSeq 172 (gAsg (gUn oNeg (gC (.int 7))) (gSub (gVar 8) (gC (.int 0))))
  (gSeq 173 (gDrop (gLM mAppend (gVar 8) (gCons (gVar 2) gNil)))
  (gSeq 174 (gAsg (gCallF sp_law_draw (gCons (gVar 1) (gCons (gCB cMax2 (gCons (gC (.int 1)) (gCons (gCB cLenC (gCons (gVar 3) gNil)) gNil))) gNil))) (gName 9))
  (gSeq 175 (gAsg (gCallF sp_law_draw (gCons (gVar 1) (gCons (gVar 2) gNil))) (gName 10))
  (gSeq 176 (gAsg (gLst (gCons (gTup (gCons (gVar 10) (gCons (gVar 10) (gCons (gOp oSub (gUn oNeg (gC (.int 1))) (gCallF sp_law_draw (gCons (gVar 1) (gCons (gC (.int 3)) gNil)))) gNil)))) gNil)) (gSlS (gVar 5) (gPart (gVar 9)) (gPart (gOp oAdd (gVar 9) (gC (.int 1))))))
  (gSeq 177 (gAsg (gCB cList (gCons (gVar 5) gNil)) (gName 11))
  (gSeq 178 (gAsg (gCallVC sp_solve_rings (gCons (gVar 2) (gCons (gVar 5) gNil))) (gName 6))
  (gSeq 180 (gIfS (bOr (bNot (bTru (gCallVF sp_law_right (gCons (gVar 2) (gCons (gVar 11) (gCons (gVar 6) gNil)))))) (bOr (bVal (gOp oNe (gOp oIx (gVar 6) (gC (.int 0))) (gC (.str "no")))) (bVal (gOp oNe (gVar 5) (gVar 11)))))
  (gRet (gC (.bl false)))
  gNext)
  (gSeq 181 (gAsg (gSl oSl (gVar 3) (gPart (gVar 9)) (gPart (gOp oAdd (gVar 9) (gC (.int 1))))) (gSlS (gVar 5) (gPart (gVar 9)) (gPart (gOp oAdd (gVar 9) (gC (.int 1))))))
  (gSeq 182 (gFrz [5] (gAsg (gCallVC sp_solve_rings (gCons (gVar 2) (gCons (gVar 5) gNil))) (gName 6)))
  (gRet (gAnd (gCallVF sp_law_right (gCons (gVar 2) (gCons (gVar 3) (gCons (gVar 6) gNil)))) (gAnd (gOp oEq (gOp oIx (gVar 6) (gC (.int 0))) (gVar 7)) (gOp oEq (gVar 5) (gVar 3))))))))))))))))))))))))
theorem Told.noL {n : Nat} {rows : List RG.Row} {s : Str} {xs : List D} (h : Told n rows s xs) : D.noLs xs = true := by
  rcases h with ⟨t, _, rfl, _⟩ | ⟨ks, _, rfl, _⟩
  · exact noL_tab n t
  · exact noL_ns ks
theorem Told.len {n : Nat} {rows : List RG.Row} {s : Str} {xs : List D} (h : Told n rows s xs) : xs.length ≤ n := by
  rcases h with ⟨t, _, rfl, _⟩ | ⟨ks, _, rfl, _, hk⟩
  · rw [tab_len]; exact Nat.le_refl _
  · rw [List.length_map]; exact hk
theorem Told.pos {n : Nat} {rows : List RG.Row} {s : Str} {xs : List D} (h : Told n rows s xs) (n0 : 0 < n) : 0 < xs.length := by
  rcases h with ⟨t, _, rfl, _⟩ | ⟨ks, _, rfl, R, hk⟩
  · rw [tab_len]; exact n0
  · rw [List.length_map]; exact List.length_pos_iff.mpr R.ne
theorem Told.eqv {n : Nat} {rows : List RG.Row} {s : Str} {xs : List D} (h : Told n rows s xs) : D.eqv (.str s) (.str s) = true := by
  rcases h with ⟨t, rfl, _⟩ | ⟨ks, rfl, _⟩ <;> decide
theorem told_side {n : Nat} {rows : List RG.Row} {s d : Str} {xs : List D} (h : Told n rows s xs) (o : SideOk rows d) : d = "any" ∨ d = s := by
  rcases o with rfl | ⟨rfl, g, hg⟩ | ⟨rfl, hg⟩
  · exact .inl rfl
  · rcases h with ⟨t, rfl, _⟩ | ⟨ks, rfl, _, R, _⟩
    · exact .inr rfl
    · exact (R.none hg).elim
  · rcases h with ⟨t, rfl, _, y⟩ | ⟨ks, rfl, _⟩
    · exact (hg t y.keeps).elim
    · exact .inr rfl
theorem tk_yes {n : Nat} {rows : List RG.Row} {t : Nat → Int} (hf : Fits n rows) (y : YesOk n rows t) : tk n rows ((List.range n).map t) = true := by
  have g : ∀ i, i < n → nu ((List.range n).map t) i = t i := fun i hi => by
    rw [nu_get (by simpa using hi), List.getElem_map, List.getElem_range]
  rw [tk, decide_eq_true (by simp), Bool.true_and, Bool.and_eq_true]
  refine ⟨List.all_eq_true.mpr fun x hx => ?_, List.all_eq_true.mpr fun r hr => ?_⟩
  · obtain ⟨i, _, rfl⟩ := List.mem_map.mp hx
    exact decide_eq_true (y.pos i)
  · have h := hf r hr
    have := y.keeps r.1 r.2.1 r.2.2 hr
    rw [g _ h.1, g _ h.2]
    exact decide_eq_true (by omega)
theorem rb_yes {rows : List RG.Row} {ks : List Nat} (R : RG.IsRing rows ks) : rb rows (ks.map fun k : Nat => (k : Int)) = true := by
  have g : ∀ k ∈ ks, (rows[k]?).getD (0, 0, 0) = (RG.uOf rows k, RG.vOf rows k, RG.cOf rows k) := fun k hk => by rw [row_at (R.lt k hk)]; rfl
  have e1 : us (ks.map fun k => (rows[k]?).getD (0, 0, 0)) = ks.map (RG.uOf rows) := by
    rw [us, List.map_map]
    exact List.map_congr_left fun k hk => by simp only [Function.comp]; rw [g k hk]
  have e2 : hs (ks.map fun k => (rows[k]?).getD (0, 0, 0)) = ks.map (RG.vOf rows) := by
    rw [hs, List.map_map]
    exact List.map_congr_left fun k hk => by simp only [Function.comp]; rw [g k hk]
  have e3 : cs (ks.map fun k => (rows[k]?).getD (0, 0, 0)) = ks.map (RG.cOf rows) := by
    rw [cs, List.map_map]
    exact List.map_congr_left fun k hk => by simp only [Function.comp]; rw [g k hk]
  have c : clo (ks.map fun k => (rows[k]?).getD (0, 0, 0)) = true := clo_yes fun i hi a b ha hb => by
    rw [List.length_map] at hi hb
    have hm := Nat.mod_lt (i + 1) (show 0 < ks.length by omega)
    rw [List.getElem?_map, List.getElem?_eq_getElem hi] at ha
    rw [List.getElem?_map, List.getElem?_eq_getElem hm] at hb
    cases ha
    cases hb
    simp only
    rw [g _ (List.getElem_mem hi), g _ (List.getElem_mem hm)]
    exact R.step (List.getElem?_eq_getElem hi) (List.getElem?_eq_getElem hm)
  rw [rb_rows R.lt R.ne, rbR, c, e2, e3, decide_eq_true R.nod, decide_eq_true (show (ks.map (RG.cOf rows)).sum < 0 from R.neg)]
  rfl
def exch (rows : List RG.Row) (j : Nat) (x : RG.Row) : List RG.Row := rows.take j ++ [x] ++ rows.drop (min (j + 1) rows.length)
theorem exch_len {rows : List RG.Row} {j : Nat} {x : RG.Row} (h : j < rows.length ∨ rows.length = 0 ∧ j = 0) : (exch rows j x).length = (if rows.length = 0 then 1 else rows.length) := by
  simp only [exch, List.length_append, List.length_take, List.length_drop, List.length_cons, List.length_nil]
  split <;> omega
theorem exch_back {rows : List RG.Row} {j : Nat} {x : RG.Row} (h : j < rows.length ∨ rows.length = 0 ∧ j = 0) : (exch rows j x).take j ++ (rows.drop j).take 1 ++ (exch rows j x).drop (min (j + 1) (exch rows j x).length) = rows := by
  rcases h with h | ⟨h, rfl⟩
  · have e1 : (exch rows j x).take j = rows.take j := by
      rw [exch, List.append_assoc, List.take_append_of_le_length (by rw [List.length_take]; omega), List.take_take, Nat.min_self]
    have e2 : min (j + 1) (exch rows j x).length = j + 1 := by
      rw [exch_len (.inl h), if_neg (by omega)]; omega
    have e3 : (exch rows j x).drop (j + 1) = rows.drop (j + 1) := by
      rw [exch, List.drop_append_of_le_length (by simp; omega), List.drop_of_length_le (by simp; omega), List.nil_append]
      congr 1
      omega
    rw [e1, e2, e3, List.append_assoc]
    have e4 : (rows.drop j).take 1 ++ rows.drop (j + 1) = rows.drop j := by
      rw [← List.drop_drop]
      exact List.take_append_drop 1 (rows.drop j)
    rw [e4, List.take_append_drop]
  · have : rows = [] := List.eq_nil_of_length_eq_zero h
    subst this
    rfl
theorem exch_mem {rows : List RG.Row} {j : Nat} {x r : RG.Row} (h : r ∈ exch rows j x) : r = x ∨ r ∈ rows := by
  unfold exch at h
  rcases List.mem_append.mp h with h | h
  · rcases List.mem_append.mp h with h | h
    · exact .inr (List.mem_of_mem_take h)
    · exact .inl (List.mem_singleton.mp h)
  · exact .inr (List.mem_of_mem_drop h)
def sp_law : GSp := sp1 fun a Q => ∃ ns : List Int, ns.length ≤ 63 ∧ a = .klst (ns.map .int) ∧ Q (.d (.bl true)) []
theorem pure_law : Keeps N_law b_law sp_law := keeps1 fun a Q h => by
  obtain ⟨ns, hn, rfl, q⟩ := h
  walk_at "g"
  refine ⟨⟨ns, hn, .inl rfl⟩, ?_⟩
  walk_at "g"
  refine fun n rows side n0 n1 hf hl ho => ?_
  walk_at "g"
  refine ⟨n, rows, rfl, rfl, hf, n0, by omega, fun s xs hs => ?_⟩
  have xl := hs.len
  have xp := hs.pos n0
  walk_at "g"
  refine ⟨hs.noL, n, rows, s, xs, rfl, rfl, rfl, hf, by omega, by omega, hs, ?_⟩
  walk_at "g"
  refine ⟨.inl ⟨rfl, rfl⟩, ?_⟩
  rw [show inD (.str side) [.str "any", .str s] = true by
    rcases told_side hs ho with h | h
    · subst h; rfl
    · subst h
      show (_ || (D.eqv (.str side) (.str side) || false)) = true
      rw [hs.eqv]
      exact Bool.or_true _]
  walk_at "s"
  walk_at "n"
  refine Ln.mk ?_
  refine seq_join (fun σ h => σ = [some (.d (.klst (ns.map .int))), some (.d .rng), some (.d (.int (n : Nat))), some (.d (.lst (rows.map dR))), some (.d (.str side)), some (.ref 0), some (.tc [.d (.str s), .r 1]), some (.d (.str s)), some (.ref 1), none, none, none] ∧ h = [.lst (rows.map dR), .lst xs]) ?_ ?_
  · intro N hN
    walk_at "g"
    refine Br.dec (fun h => ?_) (fun h => ?_)
    · subst h
      rcases hs with ⟨t, _, rfl, y⟩ | ⟨ks, e, _⟩
      · walk_at "g"
        refine ⟨n, rows, (List.range n).map t, rfl, rfl, by rw [tab_int], hf, by omega, by simp; omega, ?_⟩
        rw [tk_yes hf y]
        walk_at "g"
        exact hN _ _ ⟨rfl, rfl⟩
      · cases e
    · walk_at "g"
      exact hN _ _ ⟨rfl, rfl⟩
  rintro σ h ⟨rfl, rfl⟩
  walk_at "s"
  refine Ln.mk ?_
  refine seq_join (fun σ h => σ = [some (.d (.klst (ns.map .int))), some (.d .rng), some (.d (.int (n : Nat))), some (.d (.lst (rows.map dR))), some (.d (.str side)), some (.ref 0), some (.tc [.d (.str s), .r 1]), some (.d (.str s)), some (.ref 1), none, none, none] ∧ h = [.lst (rows.map dR), .lst xs]) ?_ ?_
  · intro N hN
    walk_at "g"
    refine Br.dec (fun h => ?_) (fun h => ?_)
    · subst h
      rcases hs with ⟨t, e, _⟩ | ⟨ks, _, rfl, R, hk⟩
      · cases e
      · walk_at "g"
        refine ⟨_, rows, ks.map fun k : Nat => (k : Int), rfl, rfl, by rw [List.map_map]; rfl, by simp; omega, ?_⟩
        rw [rb_yes R]
        walk_at "g"
        exact hN _ _ ⟨rfl, rfl⟩
    · walk_at "g"
      exact hN _ _ ⟨rfl, rfl⟩
  rintro σ h ⟨rfl, rfl⟩
  walk_at "g"
  refine ⟨⟨encRw.lst.cmp (by decide) _, encRw.lst.cmp (by decide) _⟩, ?_⟩
  rw [show D.eqv (.lst (rows.map dR)) (.lst (rows.map dR)) = true from (encRw.lst.eqv rows rows).trans (decide_eq_true rfl)]
  walk_at "g"
  refine Ix.nat (j := 0) rfl xp ?_
  walk_at "g"
  refine ⟨szl (by rw [List.length_set]; omega), ?_⟩
  walk_at "g"
  rw [List.length_map]
  obtain ⟨mm, emm, hmm⟩ : ∃ mm : Nat, imax 1 (rows.length : Nat) = (mm : Nat) ∧ 0 < mm ∧ mm ≤ 600 ∧ (0 < rows.length → mm = rows.length) ∧ (rows.length = 0 → mm = 1) := by
    unfold imax
    split
    · exact ⟨rows.length, rfl, by omega, by omega, fun _ => rfl, fun _ => by omega⟩
    · exact ⟨1, rfl, by omega, by omega, fun _ => by omega, fun _ => rfl⟩
  rw [emm]
  refine ⟨DivX.le (by omega) (by omega), fun j j0 j1 => ?_⟩
  obtain ⟨j, rfl⟩ := Int.eq_ofNat_of_zero_le j0
  walk_at "g"
  refine ⟨DivX.le (by omega) (by omega), fun a a0 a1 => ?_⟩
  obtain ⟨a, rfl⟩ := Int.eq_ofNat_of_zero_le a0
  walk_at "g"
  refine ⟨DivX.le (by omega) (by omega), fun w w0 w1 => ?_⟩
  walk_at "g"
  rw [List.length_map]
  have hj : j < rows.length ∨ rows.length = 0 ∧ j = 0 := by omega
  refine SlB.one (m := j) rfl rfl hj ⟨?_, ?_⟩
  · exact szo (by simp; omega)
  have hR2 : exch rows j (a, a, -1 - w) = exch rows j (a, a, -1 - w) := rfl
  have eR : (rows.map dR).take j ++ [D.tup [.int (a : Nat), .int (a : Nat), .int (-1 - w)]] ++ (rows.map dR).drop (min (j + 1) rows.length) = (exch rows j (a, a, -1 - w)).map dR := by
    rw [exch, List.map_append, List.map_append, List.map_take, List.map_drop]
    rfl
  rw [eR]
  have l2 := exch_len (x := (a, a, -1 - w)) hj
  have f2 : Fits n (exch rows j (a, a, -1 - w)) := fun r hr => by
    rcases exch_mem hr with rfl | hr
    · exact ⟨show a < n by omega, show a < n by omega⟩
    · exact hf r hr
  have n2 : ∀ t, ¬ RG.Keeps (exch rows j (a, a, -1 - w)) t := fun t k => by
    have := k a a (-1 - w) (List.mem_append_left _ (List.mem_append_right _ List.mem_cons_self))
    omega
  have b2 := exch_back (x := (a, a, -1 - w)) hj
  have l2' : (exch rows j (a, a, -1 - w)).length ≤ 601 := by rw [l2]; split <;> omega
  generalize exch rows j (a, a, -1 - w) = R2 at *
  walk_at "g"
  refine ⟨n, R2, rfl, rfl, f2, n0, by omega, fun s2 xs2 hs2 => ?_⟩
  obtain rfl : s2 = "no" := by
    rcases hs2 with ⟨t, _, _, y⟩ | ⟨ks, h, _⟩
    · exact (n2 t y.keeps).elim
    · exact h
  walk_at "g"
  refine ⟨hs2.noL, n, R2, "no", xs2, rfl, rfl, rfl, f2, by omega, by omega, hs2, ?_⟩
  walk_at "g"
  refine ⟨⟨encRw.lst.cmp (by decide) _, encRw.lst.cmp (by decide) _⟩, ?_⟩
  rw [show D.eqv (.lst (R2.map dR)) (.lst (R2.map dR)) = true from (encRw.lst.eqv R2 R2).trans (decide_eq_true rfl)]
  walk_at "g"
  rw [List.length_map]
  have hj2 : j < R2.length ∨ R2.length = 0 ∧ j = 0 := by
    left
    rw [l2]
    split <;> omega
  have ecut : Sc.cutD (rows.map dR) (some (j : Int)) (some ((j : Int) + 1)) = ((rows.drop j).take 1).map dR := by
    rw [show ((j : Int) + 1) = ((j + 1 : Nat) : Int) by omega, cut_both (by omega), show j + 1 - j = 1 by omega, List.map_take, List.map_drop]
  rw [ecut]
  refine SlB.one (m := j) rfl rfl hj2 ⟨?_, ?_⟩
  · exact szo (by simp; omega)
  rw [← List.map_take, ← List.map_drop, ← List.map_append, ← List.map_append, b2]
  walk_at "g"
  refine ⟨n, rows, rfl, rfl, hf, n0, by omega, fun s3 xs3 hs3 => ?_⟩
  obtain rfl := hs.one hs3
  walk_at "g"
  refine ⟨hs3.noL, n, rows, s, xs3, rfl, rfl, rfl, hf, by omega, by omega, hs3, ?_⟩
  walk_at "g"
  refine Br.dec (fun _ => ?_) (fun h => (h rfl).elim)
  walk_at "g"
  refine ⟨⟨encRw.lst.cmp (by decide) _, encRw.lst.cmp (by decide) _⟩, ?_⟩
  rw [show D.eqv (.lst (rows.map dR)) (.lst (rows.map dR)) = true from (encRw.lst.eqv rows rows).trans (decide_eq_true rfl)]
  exact q
end K43

set_option Elab.async false
set_option linter.all false
set_option maxRecDepth 100000
set_option maxHeartbeats 4000000
namespace K43
open PySem PySem.Spec PyProof.Rows L2 Sc
def top (i : Nat) : Stmt := PySem.Challenge.pw_scorestead_k43_whole_rings.main.body.getD i (.Pass ⟨0, 0, 0, 0⟩)
abbrev FnP (K : PySem.W.Frag) (x : Str) (st : Stmt) (f : Addr) (fd : FuncData) : Prop := FunD K x x (defArgs st) (defBody st) (defScope st) [] [] f fd
abbrev s_start : Stmt := top 13
theorem sc_start : FnScope ["script", "seed", "great", "cell"] ["script"] (defScope s_start) := ⟨rfl, rfl, rfl, by decide +kernel, rfl, by decide +kernel, by decide +kernel⟩
abbrev s_draw : Stmt := top 14
theorem sc_draw : FnScope ["st", "many", "rest", "k", "number", "t"] ["st", "many"] (defScope s_draw) := ⟨rfl, rfl, rfl, by decide +kernel, rfl, by decide +kernel, by decide +kernel⟩
abbrev s_lift_round : Stmt := top 1
theorem sc_lift_round : FnScope N_lift_round ["constraints", "table", "lifters"] (defScope s_lift_round) := ⟨rfl, rfl, rfl, by decide +kernel, rfl, by decide +kernel, by decide +kernel⟩
abbrev s_lift_table : Stmt := top 2
theorem sc_lift_table : FnScope N_lift_table ["n", "constraints"] (defScope s_lift_table) := ⟨rfl, rfl, rfl, by decide +kernel, rfl, by decide +kernel, by decide +kernel⟩
abbrev s_lifted_from : Stmt := top 3
theorem sc_lifted_from : FnScope N_lifted_from ["member", "constraints", "lifters"] (defScope s_lifted_from) := ⟨rfl, rfl, rfl, by decide +kernel, rfl, by decide +kernel, by decide +kernel⟩
abbrev s_member_of_ring : Stmt := top 4
theorem sc_member_of_ring : FnScope N_member_of_ring ["constraints", "lifters", "member"] (defScope s_member_of_ring) := ⟨rfl, rfl, rfl, by decide +kernel, rfl, by decide +kernel, by decide +kernel⟩
abbrev s_ring_of : Stmt := top 5
theorem sc_ring_of : FnScope N_ring_of ["constraints", "lifters", "member"] (defScope s_ring_of) := ⟨rfl, rfl, rfl, by decide +kernel, rfl, by decide +kernel, by decide +kernel⟩
abbrev s_solve_rings : Stmt := top 6
theorem sc_solve_rings : FnScope N_solve_rings ["n", "constraints"] (defScope s_solve_rings) := ⟨rfl, rfl, rfl, by decide +kernel, rfl, by decide +kernel, by decide +kernel⟩
abbrev s_table_keeps : Stmt := top 7
theorem sc_table_keeps : FnScope N_table_keeps ["n", "constraints", "table"] (defScope s_table_keeps) := ⟨rfl, rfl, rfl, by decide +kernel, rfl, by decide +kernel, by decide +kernel⟩
abbrev s_are_numbers : Stmt := top 8
theorem sc_are_numbers : FnScope N_are_numbers ["members", "constraints"] (defScope s_are_numbers) := ⟨rfl, rfl, rfl, by decide +kernel, rfl, by decide +kernel, by decide +kernel⟩
abbrev s_total_bound : Stmt := top 9
theorem sc_total_bound : FnScope N_total_bound ["rows"] (defScope s_total_bound) := ⟨rfl, rfl, rfl, by decide +kernel, rfl, by decide +kernel, by decide +kernel⟩
abbrev s_closes : Stmt := top 10
theorem sc_closes : FnScope N_closes ["rows"] (defScope s_closes) := ⟨rfl, rfl, rfl, by decide +kernel, rfl, by decide +kernel, by decide +kernel⟩
abbrev s_ring_breaks : Stmt := top 11
theorem sc_ring_breaks : FnScope N_ring_breaks ["n", "constraints", "ring"] (defScope s_ring_breaks) := ⟨rfl, rfl, rfl, by decide +kernel, rfl, by decide +kernel, by decide +kernel⟩
abbrev s_law_shuffled : Stmt := top 15
theorem sc_law_shuffled : FnScope N_law_shuffled ["st", "row"] (defScope s_law_shuffled) := ⟨rfl, rfl, rfl, by decide +kernel, rfl, by decide +kernel, by decide +kernel⟩
abbrev s_law_int : Stmt := top 16
theorem sc_law_int : FnScope N_law_int ["x"] (defScope s_law_int) := ⟨rfl, rfl, rfl, by decide +kernel, rfl, by decide +kernel, by decide +kernel⟩
abbrev s_law_signed : Stmt := top 17
theorem sc_law_signed : FnScope N_law_signed ["st", "top"] (defScope s_law_signed) := ⟨rfl, rfl, rfl, by decide +kernel, rfl, by decide +kernel, by decide +kernel⟩
abbrev s_law_case : Stmt := top 18
theorem sc_law_case : FnScope N_law_case ["st"] (defScope s_law_case) := ⟨rfl, rfl, rfl, by decide +kernel, rfl, by decide +kernel, by decide +kernel⟩
abbrev s_law_keeps : Stmt := top 19
theorem sc_law_keeps : FnScope N_law_keeps ["n", "rows", "table"] (defScope s_law_keeps) := ⟨rfl, rfl, rfl, by decide +kernel, rfl, by decide +kernel, by decide +kernel⟩
abbrev s_law_held_up : Stmt := top 20
theorem sc_law_held_up : FnScope N_law_held_up ["rows", "table"] (defScope s_law_held_up) := ⟨rfl, rfl, rfl, by decide +kernel, rfl, by decide +kernel, by decide +kernel⟩
abbrev s_law_ring_ok : Stmt := top 21
theorem sc_law_ring_ok : FnScope N_law_ring_ok ["rows", "ring"] (defScope s_law_ring_ok) := ⟨rfl, rfl, rfl, by decide +kernel, rfl, by decide +kernel, by decide +kernel⟩
abbrev s_law_right : Stmt := top 22
theorem sc_law_right : FnScope N_law_right ["n", "rows", "told"] (defScope s_law_right) := ⟨rfl, rfl, rfl, by decide +kernel, rfl, by decide +kernel, by decide +kernel⟩
abbrev s_law : Stmt := top 23
theorem sc_law : FnScope N_law ["script"] (defScope s_law) := ⟨rfl, rfl, rfl, by decide +kernel, rfl, by decide +kernel, by decide +kernel⟩
section
variable {P₀ : Program} {w : World} {K : PySem.W.Frag} {mg : Str → Option Value} {base : Heap} {f : Addr} {fd : FuncData}
theorem ok_start (F : FnP K "_law_start" s_start f fd) (mlen : mg "len" = none) (mint : mg "int" = none) (mabs : mg "abs" = none) : FnOk P₀ w K mg base (L2.CX P₀ w) 1 f fd ["script"] (upSp K et spStart) := by
  refine F.ok sc_start (fun vs H Q E hh => ?_) (fun cdv A outer s H vs Q E hr hh => ?_)
  · obtain ⟨W, xs, post, _, _, _, r, ⟨⟨ns, _, e⟩, _⟩, _⟩ := hh
    rcases e with rfl | rfl <;> (rw [← r.len]; rfl)
  · obtain ⟨W, xs, post, _, ea, p, r, ⟨⟨ns, hn, e⟩, q⟩, ff, _⟩ := hh
    have hS : ∃ a, vs = [.ref a] ∧ SqL K H a (ns.map V.int) := by
      rcases e with rfl | rfl
      · simp only [RDs, RD] at r
        obtain ⟨y, r', rfl, ⟨a, ys, rfl, q1, s1⟩, rfl⟩ := r
        rw [ns_of s1] at q1
        exact ⟨a, rfl, q1.sq⟩
      · simp only [RDs, RD] at r
        obtain ⟨y, r', rfl, ⟨a, ys, rfl, q1, s1⟩, rfl⟩ := r
        rw [ns_of s1] at q1
        exact ⟨a, rfl, q1.sq⟩
    obtain ⟨a, rfl, hS⟩ := hS
    refine ⟨_, PSs.nox (pss_cons (ps_set (i := 1) sc_start.nd rfl (.inl rfl) (pe_callB call_len_seq (by rfl) mlen PySem.boot_len (pa_cons (pv 0) pa_nil)))
      (pss_cons (ps_set (i := 2) sc_start.nd rfl (.inl rfl) (pe_lst pa_nil))
      (pss_cons (ps_for PassesOwn.never rfl (pi_list (pv 0)) (pg_name (i := 3) sc_start.nd rfl (.inl rfl))
        (pss_cons (ps_set (i := 1) sc_start.nd rfl (.inl rfl) (pe_op op_mod (pe_callTy call_int1 (by rfl) mint (by decide +kernel) (pa_cons (pe_op op_add (pe_op op_add (pe_op op_mul (pv 1) pe_int) (pe_op op_mul (pe_callB call_abs (by rfl) mabs (by decide +kernel) (pa_cons (pv 3) pa_nil)) pe_int)) (pe_callTy call_int1 (by rfl) mint (by decide +kernel) (pa_cons (pe_cmpR op_lt (pv 3) pe_int (nomark _)) pa_nil))) pa_nil)) pe_int))
        (pss_one (ps_if (pt_cmpR op_ge (pe_callB call_abs (by rfl) mabs (by decide +kernel) (pa_cons (pv 3) pa_nil)) (pe_op op_pow pe_int pe_int) (nomark _))
          (pss_one (ps_set (i := 2) sc_start.nd rfl (.inl rfl) (pe_op op_cat (pe_lst (pa_cons (pe_op op_sub (pe_callB call_abs (by rfl) mabs (by decide +kernel) (pa_cons (pv 3) pa_nil)) (pe_op op_pow pe_int pe_int)) pa_nil)) (pv 2)))) pss_nil))))
      (pss_one (ps_ret (pe_lst (pa_cons (pv 1) (pa_cons pe_int (pa_cons (pv 2) pa_nil))))))))), ?_⟩
    refine ⟨_, rfl, a, _, rfl, .inl hS, ?_⟩
    refine ⟨Nat.zero_le _, fun g0 ng0 => ?_⟩
    have s1 : Same H (upd H g0 (.lst [])) := fun b o e => by rw [upd_ne (ne_of_none e ng0)]; exact e
    refine ⟨_, rfl, a, rfl, ⟨_, s1.seq hS⟩, for_list (K := K) (a := a) (xs := ns.map V.int) (fun i σ H3 => ∃ (sd : Int) (g : Addr) (gs : List Int) (y : Option V), σ = [some (.ref a), some (.int sd), some (.ref g), y] ∧ Same H H3 ∧ H g = none ∧ H3 g = some (.lst (gs.map V.int)) ∧ gs.length ≤ i ∧ ∀ x ∈ gs, 0 ≤ x)
      ⟨_, g0, [], none, rfl, s1, ng0, upd_same, Nat.le_refl _, fun x hx => by cases hx⟩ (fun i σ H3 _ ⟨_, _, _, _, _, s, _⟩ => s.seq hS) ?_ ?_⟩
    · rintro i x σ H3 hx ⟨sd, g, gs, y, rfl, s3, ng, eg, lg, pg⟩
      obtain ⟨n, rfl⟩ : ∃ n, x = V.int n := by
        rw [List.getElem?_map] at hx
        cases e : ns[i]? with
        | none => rw [e] at hx; cases hx
        | some n => rw [e] at hx; exact ⟨n, (Option.some.inj hx).symm⟩
      have hil : i < (ns.map V.int).length := (List.getElem?_eq_some_iff.mp hx).1
      rw [List.length_map] at hil
      refine ⟨_, rfl, _, _, rfl, rfl, .inr (by decide), _, rfl, _, rfl, _, _, rfl, rfl, .inr (by decide), _, _, rfl, rfl, _, rfl, _, _, rfl, rfl, .inr ⟨_, rfl, _, _, rfl, rfl, .inl ⟨_, rfl, _, _, rfl, rfl, (show (0 : Int) < 2305843009213693951 by decide), ?_⟩⟩⟩
      refine ⟨_, rfl, _, rfl, _, _, rfl, rfl, cpow, _, _, rfl, rfl, _, rfl, ?_⟩
      refine ite2 (fun hc => ?_) (fun _ => ?_)
      · refine ⟨_, rfl, _, rfl, _, _, rfl, rfl, cpow, _, _, rfl, rfl, Nat.le_of_lt (small1000 (by show 1 ≤ 1000; decide)), fun l1 nl1 => ?_⟩
        have hne : l1 ≠ g := fun e => by rw [e, eg] at nl1; cases nl1
        refine ⟨_, rfl, l1, g, _, _, rfl, rfl, upd_same, by rw [upd_ne hne.symm]; exact eg, ?_, fun g2 ng2 => ?_⟩
        · have : gs.length < 1000 := by omega
          have h2 := small1000 (show gs.length + 1 ≤ 1000 by omega)
          simp only [List.length_cons, List.length_nil, List.length_map]
          omega
        · have ng2' : H3 g2 = none := by
            by_cases e : g2 = l1
            · rw [e]; exact nl1
            · rw [upd_ne e] at ng2; exact ng2
          refine ⟨_, g2, (_ - _) :: gs, _, rfl, fun b o e => ?_, s3.free ng2', by rw [upd_same]; rfl, by rw [List.length_cons]; omega, fun x hx => ?_⟩
          · have e3 := s3 b o e
            rw [upd_ne (ne_of_none e3 ng2'), upd_ne (ne_of_none e3 nl1)]
            exact e3
          · cases hx with
            | head =>
              have := of_decide_eq_true hc
              omega
            | tail _ hx => exact pg x hx
      · exact ⟨_, g, gs, _, rfl, s3, ng, eg, by omega, pg⟩
    · rintro σ H3 ⟨sd, g, gs, y, rfl, s3, ng, eg, lg, pg⟩
      refine ⟨_, rfl, _, rfl, Nat.le_of_lt (small1000 (by show 3 ≤ 1000; decide)), fun l nl => ?_⟩
      have hne : l ≠ g := fun e => by rw [e, eg] at nl; cases nl
      have nl0 : H l = none := s3.free nl
      have kk : ∀ b o, H b = some o → (upd H3 l (.lst [.int sd, .int 0, .ref g])) b = some o := fun b o e => by
        have e3 := s3 b o e
        rw [upd_ne (ne_of_none e3 nl)]
        exact e3
      rw [List.length_map] at lg
      obtain ⟨p2, x2⟩ := Pre0.newRng (a := l) (g := g) (H' := upd H3 l (.lst [.int sd, .int 0, .ref g])) p nl0 ng hne ⟨sd, 0, gs, upd_same, by rw [upd_ne hne.symm]; exact eg, pg, by omega⟩ kk
      exact ff (.d .rng) _ _ _ _ trivial q p2 x2 (rp_rng List.mem_cons_self)
theorem ok_draw (F : FnP K "_law_draw" s_draw f fd) (mlen : mg "len" = none) (mint : mg "int" = none) (mrange : mg "range" = none) : FnOk P₀ w K mg base (L2.CX P₀ w) 1 f fd ["st", "many"] (upSp K et spDraw) := by
  refine F.ok sc_draw (fun vs H Q E hh => ?_) (fun cdv A outer s H vs Q E hr hh => ?_)
  · obtain ⟨W, xs, post, _, _, _, r, q, _⟩ := hh
    obtain ⟨m, rfl, _⟩ := spDraw_of q
    rw [← r.len]; rfl
  · obtain ⟨W, xs, post, _, ea, p, r, q, ff, _⟩ := hh
    obtain ⟨m, rfl, dm, q⟩ := spDraw_of q
    simp only [RDs, RD] at r
    obtain ⟨y, r', rfl, ⟨a, g, rfl, mem⟩, y2, r2, rfl, rfl, rfl⟩ := r
    obtain ⟨sd, ct, gs, ea1, eg1, pg, lg⟩ := p.rng _ mem
    have hne : a ≠ g := (p.nd3 _ mem _ mem).1
    have hm0 : 0 < m := dm.1
    refine ⟨_, PSs.nox (pss_cons (ps_set (i := 2) sc_draw.nd rfl (.inl rfl) (pe_ix ix_list (pv 0) pe_int (fun _ _ => rfl)))
      (pss_cons (ps_for PassesOwn.never rfl (pi_range1 rfl mrange (pa_cons (pe_callB call_len_seq (by rfl) mlen PySem.boot_len (pa_cons (pv 2) pa_nil)) pa_nil)) (pg_name (i := 3) sc_draw.nd rfl (.inl rfl))
        (pss_cons (ps_if (pt_cmpR op_gt (pe_ix ix_list (pv 2) (pe_un un_neg pe_int) (fun _ _ => rfl)) pe_int (nomark _))
          (pss_cons (ps_set (i := 4) sc_draw.nd rfl (.inl rfl) (pe_ix ix_list (pv 2) (pe_un un_neg pe_int) (fun _ _ => rfl)))
          (pss_cons (ps_asg (pe_op op_fdivW (pv 4) (pv 1)) (pg_sub (pv 2) (pe_un un_neg pe_int) set_list))
          (pss_one (ps_ret (pe_op op_mod (pe_callTy call_int1 (by rfl) mint (by decide +kernel) (pa_cons (pv 4) pa_nil)) (pv 1)))))) pss_nil)
        (pss_one (ps_expr (pe_bm0 PySem.F.plainAttrs_list PySem.F.slot_list_pop PySem.F.type_list_pop mt_pop (pv 2))))))
      (pss_cons (ps_asg (pe_op op_add (pe_ix ix_list (pv 0) pe_int (fun _ _ => rfl)) pe_int) (pg_sub (pv 0) pe_int set_list))
      (pss_cons (ps_set (i := 5) sc_draw.nd rfl (.inl rfl) (pe_op op_mod (pe_callTy call_int1 (by rfl) mint (by decide +kernel) (pa_cons (pe_op op_add (pe_op op_add (pe_ix ix_list (pv 0) pe_int (fun _ _ => rfl)) (pe_op op_mul (pe_ix ix_list (pv 0) pe_int (fun _ _ => rfl)) pe_int)) pe_int) pa_nil)) pe_int))
      (pss_cons (ps_set (i := 5) sc_draw.nd rfl (.inl rfl) (pe_op op_mod (pe_callTy call_int1 (by rfl) mint (by decide +kernel) (pa_cons (pe_op op_add (pe_op op_add (pe_op op_mul (pv 5) (pv 5)) (pe_op op_mul (pe_ix ix_list (pv 0) pe_int (fun _ _ => rfl)) pe_int)) (pe_ix ix_list (pv 0) pe_int (fun _ _ => rfl))) pa_nil)) pe_int))
      (pss_cons (ps_set (i := 5) sc_draw.nd rfl (.inl rfl) (pe_op op_mod (pe_callTy call_int1 (by rfl) mint (by decide +kernel) (pa_cons (pe_op op_add (pe_op op_add (pe_op op_mul (pv 5) (pv 5)) (pe_op op_mul (pe_ix ix_list (pv 0) pe_int (fun _ _ => rfl)) pe_int)) pe_int) pa_nil)) pe_int))
      (pss_one (ps_ret (pe_op op_mod (pe_callTy call_int1 (by rfl) mint (by decide +kernel) (pa_cons (pe_op op_fdiv (pv 5) pe_int) pa_nil)) (pv 1)))))))))), ?_⟩
    refine ⟨_, rfl, a, _, _, _, rfl, rfl, SqL.of ea1, rfl, ?_⟩
    have lr : (gs.map V.int).length = gs.length := List.length_map _
    refine ⟨_, rfl, g, _, rfl, .inl (SqL.of eg1), _, rfl, by rw [lr]; omega, by rw [lr]; omega, for_range (lo := 0) (n := ((gs.map V.int).length : Int).toNat) (fun i σ H3 => ∃ (gs' : List Int) (y3 : Option V), σ = [some (.ref a), some (.int m), some (.ref g), y3, none, none] ∧ H3 a = some (.lst [.int sd, .int ct, .ref g]) ∧ H3 g = some (.lst (gs'.map V.int)) ∧ (∀ x ∈ gs', 0 ≤ x) ∧ gs'.length + i = gs.length ∧ ∀ b o, b ≠ a → b ≠ g → H b = some o → H3 b = some o)
      ⟨gs, none, rfl, ea1, eg1, pg, rfl, fun b o _ _ e => e⟩ ?_ ?_⟩
    · rintro i σ H3 hi ⟨gs', y3, rfl, ea3, eg3, pg3, lg3, k3⟩
      rw [lr] at hi
      have hpos : gs'.length ≠ 0 := by omega
      obtain ⟨init, last, rfl⟩ : ∃ init last, gs' = init ++ [last] := ⟨gs'.dropLast, gs'.getLast (by intro e; rw [e] at hpos; exact hpos rfl), (List.dropLast_concat_getLast _).symm⟩
      have eg4 : H3 g = some (.lst (init.map V.int ++ [.int last])) := by rw [eg3, List.map_append]; rfl
      refine ⟨_, rfl, _, rfl, g, _, _, _, rfl, rfl, SqL.of eg4, atI_last _ _, _, _, rfl, rfl, _, rfl, ?_⟩
      refine ite2 (fun hc => ?_) (fun _ => ?_)
      · refine ⟨_, rfl, _, rfl, g, _, _, _, rfl, rfl, SqL.of eg4, atI_last _ _, ?_⟩
        refine ⟨_, rfl, _, rfl, _, _, rfl, rfl, dm.ok, _, rfl, _, rfl, g, _, _, init.length, rfl, rfl, eg4, ?_, ?_⟩
        · unfold ixN
          rw [if_neg (by decide), if_pos (by simp; omega)]
          congr 1
          simp
          omega
        · refine ⟨_, rfl, .inl ⟨_, rfl, _, rfl, _, _, rfl, rfl, hm0, ?_⟩⟩
          have hnn : ∀ x ∈ init ++ [last / m], 0 ≤ x := fun x hx => by
            rcases List.mem_append.mp hx with hx | hx
            · exact pg3 x (List.mem_append_left _ hx)
            · rw [List.mem_singleton] at hx
              subst hx
              have := of_decide_eq_true hc
              exact Int.ediv_nonneg (by omega) (by omega)
          have hset : (init.map V.int ++ [V.int last]).set init.length (V.int (last / m)) = (init ++ [last / m]).map V.int := by
            rw [List.map_append, List.set_append]
            simp
          have hlen : (init ++ [last / m]).length ≤ 1000 := by
            simp at lg3 ⊢
            omega
          obtain ⟨p4, x4⟩ := Pre0.turn (H' := upd H3 g (.lst ((init.map V.int ++ [V.int last]).set init.length (V.int (last / m))))) p mem ⟨sd, ct, init ++ [last / m], by rw [upd_ne hne]; exact ea3, by rw [upd_same, hset], hnn, hlen⟩ (fun b o n1 n2 e => by rw [upd_ne n2]; exact k3 b o n1 n2 e)
          exact ff (.d (.int _)) _ W _ _ trivial (q _ (Int.emod_nonneg _ (by omega)) (Int.emod_lt_of_pos _ hm0)) p4 x4 rp_int
      · refine ⟨_, rfl, .inl ⟨rfl, _, SqL.of eg4⟩, g, _, V.int last, rfl, rfl, eg4, ?_, ?_⟩
        · simp
        · refine ⟨init, _, rfl, by rw [upd_ne hne]; exact ea3, by rw [upd_same, List.dropLast_concat], fun x hx => pg3 x (List.mem_append_left _ hx), by simp at lg3; omega, fun b o n1 n2 e => by rw [upd_ne n2]; exact k3 b o n1 n2 e⟩
    · rintro σ H3 ⟨gs', y3, rfl, ea3, eg3, pg3, lg3, k3⟩
      have ea5 : ∀ z, (upd H3 a (.lst [.int sd, .int z, .ref g])) a = some (.lst [.int sd, .int z, .ref g]) := fun z => upd_same
      have big : ∀ x : Int, 0 ≤ x → x < 2147483647 → -(2 ^ 64) < x ∧ x < 2 ^ 64 := fun x h1 h2 => by omega
      refine ⟨_, rfl, a, _, _, _, rfl, rfl, SqL.of ea3, rfl, _, _, rfl, rfl, _, rfl, a, _, _, 1, rfl, rfl, ea3, rfl, ?_⟩
      refine ⟨_, rfl, a, _, _, _, rfl, rfl, SqL.of (ea5 (ct + 1)), rfl, _, rfl, a, _, _, _, rfl, rfl, SqL.of (ea5 (ct + 1)), rfl, _, _, rfl, rfl, mulR _ _ (by decide), _, _, rfl, rfl, _, _, rfl, rfl, .inl ⟨_, rfl, _, _, rfl, rfl, (show (0 : Int) < 2147483647 by decide), ?_⟩⟩
      refine ⟨_, rfl, _, rfl, _, _, rfl, rfl, mulL _ _ (big _ (Int.emod_nonneg _ (by decide)) (Int.emod_lt_of_pos _ (by decide))), _, rfl, a, _, _, _, rfl, rfl, SqL.of (ea5 (ct + 1)), rfl, _, _, rfl, rfl, mulR _ _ (by decide), _, _, rfl, rfl, _, rfl, a, _, _, _, rfl, rfl, SqL.of (ea5 (ct + 1)), rfl, _, _, rfl, rfl, .inl ⟨_, rfl, _, _, rfl, rfl, (show (0 : Int) < 2147483629 by decide), ?_⟩⟩
      refine ⟨_, rfl, _, rfl, _, _, rfl, rfl, mulL _ _ (big _ (Int.emod_nonneg _ (by decide)) (Int.lt_trans (Int.emod_lt_of_pos _ (by decide)) (by decide))), _, rfl, a, _, _, _, rfl, rfl, SqL.of (ea5 (ct + 1)), rfl, _, _, rfl, rfl, mulR _ _ (by decide), _, _, rfl, rfl, _, _, rfl, rfl, .inl ⟨_, rfl, _, _, rfl, rfl, (show (0 : Int) < 2147483587 by decide), ?_⟩⟩
      refine ⟨_, rfl, _, _, rfl, rfl, (show CDiv _ 7 from ⟨by decide, by decide⟩), .inl ⟨_, rfl, _, rfl, _, _, rfl, rfl, hm0, ?_⟩⟩
      obtain ⟨p4, x4⟩ := Pre0.turn (H' := upd H3 a (.lst [.int sd, .int (ct + 1), .ref g])) p mem ⟨sd, ct + 1, gs', upd_same, by rw [upd_ne hne.symm]; exact eg3, pg3, by omega⟩ (fun b o n1 n2 e => by rw [upd_ne n1]; exact k3 b o n1 n2 e)
      exact ff (.d (.int _)) _ W _ _ trivial (q _ (Int.emod_nonneg _ (by omega)) (Int.emod_lt_of_pos _ hm0)) p4 x4 rp_int
abbrev s_law_start : Stmt := s_start
abbrev s_law_draw : Stmt := s_draw
theorem ok_lift_round (m_enumerate : mg "enumerate" = none) (F : FnP K "lift_round" s_lift_round f fd) : FnOk P₀ w K mg base (L2.CX P₀ w) 1 f fd ["constraints", "table", "lifters"] (upSpM K et sp_lift_round) :=
  fn_okM (t := b_lift_round) F sc_lift_round sp3M_len sp3M_no (fun cdv A outer s H E hr => have nd := sc_lift_round.nd; have hu := hr.units; have hu5 := hu5_of hr; (ss_cons 4 (s_set nd e_non)
  (ss_cons 10 (s_for [4, 5, 6, 7, 8] PassesOwn.never rfl (i_enum m_enumerate (ea_cons (e_var 0) ea_nil)) (g_tup rfl (gs_cons (g_name nd) (gs_cons (g_tup rfl (gs_cons (g_name nd) (gs_cons (g_name nd) (gs_cons (g_name nd) gs_nil)))) gs_nil)))
  (ss_cons 6 (s_set nd (e_op og_sub (e_ix (e_var 1) (e_var 6)) (e_var 7)))
  (ss_one (s_if (eb_cmp og_lt (e_ix (e_var 1) (e_var 5)) (e_var 8))
  (ss_cons 8 (s_asg (e_var 8) (g_sub (e_var 1) (e_var 5)))
  (ss_cons 9 (s_asg (e_var 4) (g_sub (e_var 2) (e_var 5)))
  (ss_one (s_set nd (e_var 5)))))
  ss_nil))))
  (ss_one (s_ret (e_var 3)))))) pure_lift_round
theorem ok_lift_table (m_range : mg "range" = none) {f_lift_round : Addr} {fd_lift_round : FuncData} (G_lift_round : FnOk P₀ w K mg base (L2.CX P₀ w) 1 f_lift_round fd_lift_round ["constraints", "table", "lifters"] (upSpM K et sp_lift_round)) (g_lift_round : mg "lift_round" = some (.ref f_lift_round)) (F_lift_round : FnP K "lift_round" s_lift_round f_lift_round fd_lift_round) (B_lift_round : Binds K fd_lift_round ["constraints", "table", "lifters"] []) (F : FnP K "lift_table" s_lift_table f fd) : FnOk P₀ w K mg base (L2.CX P₀ w) 2 f fd ["n", "constraints"] (upSp K et sp_lift_table) :=
  fn_ok (t := b_lift_table) F sc_lift_table sp2_len (fun cdv A outer s H E hr => have nd := sc_lift_table.nd; have hu := hr.units; have hu5 := hu5_of hr; (ss_cons 13 (s_set nd (e_op og_mulM (e_lst (ea_cons e_int ea_nil)) (e_var 0)))
  (ss_cons 14 (s_set nd (e_op og_mulM (e_lst (ea_cons e_non ea_nil)) (e_var 0)))
  (ss_cons 15 (s_set nd e_non)
  (ss_cons 19 (s_for [5] PassesOwn.never rfl (i_rng1 m_range (ea_cons (e_var 0) ea_nil)) (g_name nd)
  (ss_cons 17 (s_set nd (e_callM G_lift_round (hr.mono (by omega)) g_lift_round F_lift_round.kp B_lift_round (ea_cons (e_var 1) (ea_cons (e_var 2) (ea_cons (e_var 3) ea_nil)))))
  (ss_one (s_if (eb_cmp og_is (e_var 4) e_non)
  (ss_one s_break)
  ss_nil))))
  (ss_one (s_frz [3] (s_ret (e_tupC (ea_cons (e_var 2) (ea_cons (e_var 3) (ea_cons (e_var 4) ea_nil)))))))))))) pure_lift_table
theorem ok_lifted_from (F : FnP K "lifted_from" s_lifted_from f fd) : FnOk P₀ w K mg base (L2.CX P₀ w) 1 f fd ["member", "constraints", "lifters"] (upSp K et sp_lifted_from) :=
  fn_ok (t := b_lifted_from) F sc_lifted_from sp3_len (fun cdv A outer s H E hr => have nd := sc_lifted_from.nd; have hu := hr.units; have hu5 := hu5_of hr; (ss_one (s_ret (e_ix (e_ix (e_var 1) (e_ix (e_var 2) (e_var 0))) e_int)))) pure_lifted_from
theorem ok_member_of_ring (m_len : mg "len" = none) (m_range : mg "range" = none) {f_lifted_from : Addr} {fd_lifted_from : FuncData} (G_lifted_from : FnOk P₀ w K mg base (L2.CX P₀ w) 1 f_lifted_from fd_lifted_from ["member", "constraints", "lifters"] (upSp K et sp_lifted_from)) (g_lifted_from : mg "lifted_from" = some (.ref f_lifted_from)) (F_lifted_from : FnP K "lifted_from" s_lifted_from f_lifted_from fd_lifted_from) (B_lifted_from : Binds K fd_lifted_from ["member", "constraints", "lifters"] []) (F : FnP K "member_of_ring" s_member_of_ring f fd) : FnOk P₀ w K mg base (L2.CX P₀ w) 2 f fd ["constraints", "lifters", "member"] (upSp K et sp_member_of_ring) :=
  fn_ok (t := b_member_of_ring) F sc_member_of_ring sp3_len (fun cdv A outer s H E hr => have nd := sc_member_of_ring.nd; have hu := hr.units; have hu5 := hu5_of hr; (ss_cons 25 (s_for [3] PassesOwn.never rfl (i_rng1 m_range (ea_cons (e_cb cg_lenC (by rfl) m_len (by decide +kernel) (ea_cons (e_var 1) ea_nil)) ea_nil)) (g_name nd)
  (ss_one (s_set nd (e_callF G_lifted_from (hr.mono (by omega)) g_lifted_from F_lifted_from.kp B_lifted_from (ea_cons (e_var 2) (ea_cons (e_var 0) (ea_cons (e_var 1) ea_nil)))))))
  (ss_one (s_ret (e_var 2))))) pure_member_of_ring
theorem ok_ring_of {f_lifted_from : Addr} {fd_lifted_from : FuncData} (G_lifted_from : FnOk P₀ w K mg base (L2.CX P₀ w) 1 f_lifted_from fd_lifted_from ["member", "constraints", "lifters"] (upSp K et sp_lifted_from)) (g_lifted_from : mg "lifted_from" = some (.ref f_lifted_from)) (F_lifted_from : FnP K "lifted_from" s_lifted_from f_lifted_from fd_lifted_from) (B_lifted_from : Binds K fd_lifted_from ["member", "constraints", "lifters"] []) (F : FnP K "ring_of" s_ring_of f fd) : FnOk P₀ w K mg base (L2.CX P₀ w) 2 f fd ["constraints", "lifters", "member"] (upSp K et sp_ring_of) :=
  fn_ok (t := b_ring_of) F sc_ring_of sp3_len (fun cdv A outer s H E hr => have nd := sc_ring_of.nd; have hu := hr.units; have hu5 := hu5_of hr; (ss_cons 28 (s_set nd (e_lstM (ea_cons (e_ix (e_var 1) (e_var 2)) ea_nil)))
  (ss_cons 29 (s_set nd (e_callF G_lifted_from (hr.mono (by omega)) g_lifted_from F_lifted_from.kp B_lifted_from (ea_cons (e_var 2) (ea_cons (e_var 0) (ea_cons (e_var 1) ea_nil)))))
  (ss_cons 32 (s_while [] PassesOwn.never (eb_cmp (og_ne hu) (e_var 4) (e_var 2))
  (ss_cons 31 (s_expr (e_lm PySem.F.slot_list_append PySem.F.type_list_append mg_append (e_var 3) (ea_cons (e_ix (e_var 1) (e_var 4)) ea_nil)))
  (ss_one (s_set nd (e_callF G_lifted_from (hr.mono (by omega)) g_lifted_from F_lifted_from.kp B_lifted_from (ea_cons (e_var 4) (ea_cons (e_var 0) (ea_cons (e_var 1) ea_nil))))))))
  (ss_one (s_ret (e_var 3))))))) pure_ring_of
theorem ok_solve_rings {f_ring_of : Addr} {fd_ring_of : FuncData} (G_ring_of : FnOk P₀ w K mg base (L2.CX P₀ w) 2 f_ring_of fd_ring_of ["constraints", "lifters", "member"] (upSp K et sp_ring_of)) (g_ring_of : mg "ring_of" = some (.ref f_ring_of)) (F_ring_of : FnP K "ring_of" s_ring_of f_ring_of fd_ring_of) (B_ring_of : Binds K fd_ring_of ["constraints", "lifters", "member"] []) {f_member_of_ring : Addr} {fd_member_of_ring : FuncData} (G_member_of_ring : FnOk P₀ w K mg base (L2.CX P₀ w) 2 f_member_of_ring fd_member_of_ring ["constraints", "lifters", "member"] (upSp K et sp_member_of_ring)) (g_member_of_ring : mg "member_of_ring" = some (.ref f_member_of_ring)) (F_member_of_ring : FnP K "member_of_ring" s_member_of_ring f_member_of_ring fd_member_of_ring) (B_member_of_ring : Binds K fd_member_of_ring ["constraints", "lifters", "member"] []) {f_lift_table : Addr} {fd_lift_table : FuncData} (G_lift_table : FnOk P₀ w K mg base (L2.CX P₀ w) 2 f_lift_table fd_lift_table ["n", "constraints"] (upSp K et sp_lift_table)) (g_lift_table : mg "lift_table" = some (.ref f_lift_table)) (F_lift_table : FnP K "lift_table" s_lift_table f_lift_table fd_lift_table) (B_lift_table : Binds K fd_lift_table ["n", "constraints"] []) (F : FnP K "solve_rings" s_solve_rings f fd) : FnOk P₀ w K mg base (L2.CX P₀ w) 3 f fd ["n", "constraints"] (upSp K et sp_solve_rings) :=
  fn_ok (t := b_solve_rings) F sc_solve_rings sp2_len (fun cdv A outer s H E hr => have nd := sc_solve_rings.nd; have hu := hr.units; have hu5 := hu5_of hr; (ss_cons 35 (s_asg (e_call G_lift_table (hr.mono (by omega)) g_lift_table F_lift_table.kp B_lift_table (ea_cons (e_var 0) (ea_cons (e_var 1) ea_nil))) (g_tupN rfl (cn_cons nd (cn_cons nd (cn_cons nd cn_nil)))))
  (ss_cons 37 (s_if (eb_cmp og_is (e_var 4) e_non)
  (ss_one (s_ret (e_tupC (ea_cons e_str (ea_cons (e_var 2) ea_nil)))))
  ss_nil)
  (ss_cons 38 (s_set nd (e_callF G_member_of_ring (hr.mono (by omega)) g_member_of_ring F_member_of_ring.kp B_member_of_ring (ea_cons (e_var 1) (ea_cons (e_var 3) (ea_cons (e_var 4) ea_nil)))))
  (ss_one (s_ret (e_tupC (ea_cons e_str (ea_cons (e_call G_ring_of (hr.mono (by omega)) g_ring_of F_ring_of.kp B_ring_of (ea_cons (e_var 1) (ea_cons (e_var 3) (ea_cons (e_var 5) ea_nil)))) ea_nil))))))))) pure_solve_rings
theorem ok_table_keeps (m_all : mg "all" = none) (m_any : mg "any" = none) (m_len : mg "len" = none) (F : FnP K "table_keeps" s_table_keeps f fd) : FnOk P₀ w K mg base (L2.CX P₀ w) 1 f fd ["n", "constraints", "table"] (upSp K et sp_table_keeps) :=
  fn_ok (t := b_table_keeps) F sc_table_keeps sp3_len (fun cdv A outer s H E hr => have nd := sc_table_keeps.nd; have hu := hr.units; have hu5 := hu5_of hr; (ss_cons 42 (s_if (eb_cmp (og_ne hu) (e_cb cg_lenC (by rfl) m_len (by decide +kernel) (ea_cons (e_var 2) ea_nil)) (e_var 0))
  (ss_one (s_ret e_bl))
  ss_nil)
  (ss_cons 44 (s_if (eb_tru (e_cb (cg_any rfl) (by rfl) m_any (by decide +kernel) (ea_cons (e_lc [("member", 3)] rfl nd (i_val (e_var 2)) (blkOk_by (N := N_table_keeps) (sc := defScope s_table_keeps) (by decide +kernel)) (by decide) (fun _ _ _ _ _ => ct_one nd) (fun _ _ _ _ _ => ets_nil) (fun _ _ _ _ _ => (e_cmp og_lt (e_var 3) e_int))) ea_nil)))
  (ss_one (s_ret e_bl))
  ss_nil)
  (ss_one (s_ret (e_cb (cg_all rfl) (by rfl) m_all (by decide +kernel) (ea_cons (e_lc [("u", 4), ("v", 5), ("c", 6)] rfl nd (i_val (e_var 1)) (blkOk_by (N := N_table_keeps) (sc := defScope s_table_keeps) (by decide +kernel)) (by decide) (fun _ _ _ _ _ => ct_tup rfl (cn_cons nd (cn_cons nd (cn_cons nd cn_nil)))) (fun _ _ _ _ _ => ets_nil) (fun _ _ _ _ _ => (e_cmp og_le (e_op og_sub (e_ix (e_var 2) (e_var 5)) (e_ix (e_var 2) (e_var 4))) (e_var 6)))) ea_nil))))))) pure_table_keeps
theorem ok_are_numbers (m_all : mg "all" = none) (m_len : mg "len" = none) (F : FnP K "are_numbers" s_are_numbers f fd) : FnOk P₀ w K mg base (L2.CX P₀ w) 1 f fd ["members", "constraints"] (upSp K et sp_are_numbers) :=
  fn_ok (t := b_are_numbers) F sc_are_numbers sp2_len (fun cdv A outer s H E hr => have nd := sc_are_numbers.nd; have hu := hr.units; have hu5 := hu5_of hr; (ss_one (s_ret (e_cb (cg_all rfl) (by rfl) m_all (by decide +kernel) (ea_cons (e_lc [("member", 2)] rfl nd (i_val (e_var 0)) (blkOk_by (N := N_are_numbers) (sc := defScope s_are_numbers) (by decide +kernel)) (by decide) (fun _ _ _ _ _ => ct_one nd) (fun _ _ _ _ _ => ets_nil) (fun _ _ _ _ _ => (e_chain og_le og_lt e_int (e_var 2) (e_cb cg_lenC (by rfl) m_len (by decide +kernel) (ea_cons (e_var 1) ea_nil))))) ea_nil))))) pure_are_numbers
theorem ok_total_bound (m_sum : mg "sum" = none) (F : FnP K "total_bound" s_total_bound f fd) : FnOk P₀ w K mg base (L2.CX P₀ w) 1 f fd ["rows"] (upSp K et sp_total_bound) :=
  fn_ok (t := b_total_bound) F sc_total_bound sp1_len (fun cdv A outer s H E hr => have nd := sc_total_bound.nd; have hu := hr.units; have hu5 := hu5_of hr; (ss_one (s_ret (e_cb (cg_sum rfl) (by rfl) m_sum (by decide +kernel) (ea_cons (e_lc [("row", 1)] rfl nd (i_val (e_var 0)) (blkOk_by (N := N_total_bound) (sc := defScope s_total_bound) (by decide +kernel)) (by decide) (fun _ _ _ _ _ => ct_one nd) (fun _ _ _ _ _ => ets_nil) (fun _ _ _ _ _ => (e_ix (e_var 1) e_int))) ea_nil))))) pure_total_bound
theorem ok_closes (m_enumerate : mg "enumerate" = none) (m_len : mg "len" = none) (F : FnP K "closes" s_closes f fd) : FnOk P₀ w K mg base (L2.CX P₀ w) 1 f fd ["rows"] (upSp K et sp_closes) :=
  fn_ok (t := b_closes) F sc_closes sp1_len (fun cdv A outer s H E hr => have nd := sc_closes.nd; have hu := hr.units; have hu5 := hu5_of hr; (ss_cons 54 (s_for [1, 2, 3] PassesOwn.never rfl (i_enum m_enumerate (ea_cons (e_var 0) ea_nil)) (g_tup rfl (gs_cons (g_name nd) (gs_cons (g_name nd) gs_nil)))
  (ss_cons 52 (s_set nd (e_ix (e_var 0) (e_op og_mod (e_op og_add (e_var 1) e_int) (e_cb cg_lenC (by rfl) m_len (by decide +kernel) (ea_cons (e_var 0) ea_nil)))))
  (ss_one (s_if (eb_cmp (og_ne hu) (e_ix (e_var 2) e_int) (e_ix (e_var 3) e_int))
  (ss_one (s_ret e_bl))
  ss_nil))))
  (ss_one (s_ret e_bl)))) pure_closes
theorem ok_ring_breaks (m_len : mg "len" = none) {f_total_bound : Addr} {fd_total_bound : FuncData} (G_total_bound : FnOk P₀ w K mg base (L2.CX P₀ w) 1 f_total_bound fd_total_bound ["rows"] (upSp K et sp_total_bound)) (g_total_bound : mg "total_bound" = some (.ref f_total_bound)) (F_total_bound : FnP K "total_bound" s_total_bound f_total_bound fd_total_bound) (B_total_bound : Binds K fd_total_bound ["rows"] []) {f_closes : Addr} {fd_closes : FuncData} (G_closes : FnOk P₀ w K mg base (L2.CX P₀ w) 1 f_closes fd_closes ["rows"] (upSp K et sp_closes)) (g_closes : mg "closes" = some (.ref f_closes)) (F_closes : FnP K "closes" s_closes f_closes fd_closes) (B_closes : Binds K fd_closes ["rows"] []) {f_are_numbers : Addr} {fd_are_numbers : FuncData} (G_are_numbers : FnOk P₀ w K mg base (L2.CX P₀ w) 1 f_are_numbers fd_are_numbers ["members", "constraints"] (upSp K et sp_are_numbers)) (g_are_numbers : mg "are_numbers" = some (.ref f_are_numbers)) (F_are_numbers : FnP K "are_numbers" s_are_numbers f_are_numbers fd_are_numbers) (B_are_numbers : Binds K fd_are_numbers ["members", "constraints"] []) (F : FnP K "ring_breaks" s_ring_breaks f fd) : FnOk P₀ w K mg base (L2.CX P₀ w) 2 f fd ["n", "constraints", "ring"] (upSp K et sp_ring_breaks) :=
  fn_ok (t := b_ring_breaks) F sc_ring_breaks sp3_len (fun cdv A outer s H E hr => have nd := sc_ring_breaks.nd; have hu := hr.units; have hu5 := hu5_of hr; (ss_cons 58 (s_if (EW.pt (ew_or (eb_cmp (og_eq hu) (e_cb cg_lenC (by rfl) m_len (by decide +kernel) (ea_cons (e_var 2) ea_nil)) e_int) (ew_or1 (eb_not (eb_tru (e_callF G_are_numbers (hr.mono (by omega)) g_are_numbers F_are_numbers.kp B_are_numbers (ea_cons (e_var 2) (ea_cons (e_var 1) ea_nil))))))))
  (ss_one (s_ret e_bl))
  ss_nil)
  (ss_cons 59 (s_setLc [("number", 4)] rfl nd (sw_true rfl rfl rfl (by decide +kernel)) (i_val (e_var 2)) (blkOk_by (N := N_ring_breaks) (sc := defScope s_ring_breaks) (by decide +kernel)) (by decide) (fun _ _ _ _ _ => ct_one nd) (fun _ _ _ _ _ => ets_nil) (fun _ _ _ _ _ => (e_ix (e_var 1) (e_var 4))))
  (ss_cons 61 (s_if (eb_not (eb_tru (e_callF G_closes (hr.mono (by omega)) g_closes F_closes.kp B_closes (ea_cons (e_var 3) ea_nil))))
  (ss_one (s_ret e_bl))
  ss_nil)
  (ss_cons 63 (s_if (eb_cmp (og_ne hu) (e_lenSc [("row", 5)] m_len rfl nd (i_val (e_var 3)) (blkOk_by (N := N_ring_breaks) (sc := defScope s_ring_breaks) (by decide +kernel)) (by decide) (fun _ _ _ _ _ => ct_one nd) (fun _ _ _ _ _ => ets_nil) (fun _ _ _ _ _ => (e_ix (e_var 5) e_int))) (e_cb cg_lenC (by rfl) m_len (by decide +kernel) (ea_cons (e_var 3) ea_nil)))
  (ss_one (s_ret e_bl))
  ss_nil)
  (ss_one (s_ret (e_cmp og_lt (e_callF G_total_bound (hr.mono (by omega)) g_total_bound F_total_bound.kp B_total_bound (ea_cons (e_var 3) ea_nil)) e_int)))))))) pure_ring_breaks
theorem ok_law_shuffled (m_len : mg "len" = none) (m_list : mg "list" = none) (m_range : mg "range" = none) {f_law_draw : Addr} {fd_law_draw : FuncData} (G_law_draw : FnOk P₀ w K mg base (L2.CX P₀ w) 1 f_law_draw fd_law_draw ["st", "many"] (upSp K et sp_law_draw)) (g_law_draw : mg "_law_draw" = some (.ref f_law_draw)) (F_law_draw : FnP K "_law_draw" s_law_draw f_law_draw fd_law_draw) (B_law_draw : Binds K fd_law_draw ["st", "many"] []) (F : FnP K "_law_shuffled" s_law_shuffled f fd) : FnOk P₀ w K mg base (L2.CX P₀ w) 2 f fd ["st", "row"] (upSp K et sp_law_shuffled) :=
  fn_ok (t := b_law_shuffled) F sc_law_shuffled sp2_len (fun cdv A outer s H E hr => have nd := sc_law_shuffled.nd; have hu := hr.units; have hu5 := hu5_of hr; (ss_cons 88 (s_set nd (e_ct cg_listM (by rfl) m_list (by decide +kernel) (ea_cons (e_var 1) ea_nil)))
  (ss_cons 89 (s_set nd (e_lstM ea_nil))
  (ss_cons 91 (s_for [4] PassesOwn.never rfl (i_rng1 m_range (ea_cons (e_cb cg_lenC (by rfl) m_len (by decide +kernel) (ea_cons (e_var 1) ea_nil)) ea_nil)) (g_name nd)
  (ss_one (s_expr (e_lm PySem.F.slot_list_append PySem.F.type_list_append mg_append (e_var 3) (ea_cons (e_lm PySem.F.slot_list_pop PySem.F.type_list_pop mg_popAt (e_var 2) (ea_cons (e_callF G_law_draw (hr.mono (by omega)) g_law_draw F_law_draw.kp B_law_draw (ea_cons (e_var 0) (ea_cons (e_cb cg_lenC (by rfl) m_len (by decide +kernel) (ea_cons (e_var 2) ea_nil)) ea_nil))) ea_nil)) ea_nil)))))
  (ss_one (s_ret (e_var 3))))))) pure_law_shuffled
theorem ok_law_int (m_bool : mg "bool" = none) (m_int : mg "int" = none) (m_isinstance : mg "isinstance" = none) (F : FnP K "_law_int" s_law_int f fd) : FnOk P₀ w K mg base (L2.CX P₀ w) 1 f fd ["x"] (upSp K et sp_law_int) :=
  fn_ok (t := b_law_int) F sc_law_int sp1_len (fun cdv A outer s H E hr => have nd := sc_law_int.nd; have hu := hr.units; have hu5 := hu5_of hr; (ss_one (s_ret (e_and (e_isi m_isinstance m_int (by decide +kernel) (isi_int) (e_var 0)) (e_one (e_not (e_isi m_isinstance m_bool (by decide +kernel) (isi_bool) (e_var 0)))))))) pure_law_int
theorem ok_law_signed {f_law_draw : Addr} {fd_law_draw : FuncData} (G_law_draw : FnOk P₀ w K mg base (L2.CX P₀ w) 1 f_law_draw fd_law_draw ["st", "many"] (upSp K et sp_law_draw)) (g_law_draw : mg "_law_draw" = some (.ref f_law_draw)) (F_law_draw : FnP K "_law_draw" s_law_draw f_law_draw fd_law_draw) (B_law_draw : Binds K fd_law_draw ["st", "many"] []) (F : FnP K "_law_signed" s_law_signed f fd) : FnOk P₀ w K mg base (L2.CX P₀ w) 2 f fd ["st", "top"] (upSp K et sp_law_signed) :=
  fn_ok (t := b_law_signed) F sc_law_signed sp2_len (fun cdv A outer s H E hr => have nd := sc_law_signed.nd; have hu := hr.units; have hu5 := hu5_of hr; (ss_one (s_ret (e_op og_mul (e_ix (e_lst (ea_cons e_int (ea_cons (e_neg e_int) ea_nil))) (e_callF G_law_draw (hr.mono (by omega)) g_law_draw F_law_draw.kp B_law_draw (ea_cons (e_var 0) (ea_cons e_int ea_nil)))) (e_callF G_law_draw (hr.mono (by omega)) g_law_draw F_law_draw.kp B_law_draw (ea_cons (e_var 0) (ea_cons (e_op og_add (e_var 1) e_int) ea_nil))))))) pure_law_signed
theorem ok_law_case (m_int : mg "int" = none) (m_len : mg "len" = none) (m_list : mg "list" = none) (m_min : mg "min" = none) (m_range : mg "range" = none) {f_law_shuffled : Addr} {fd_law_shuffled : FuncData} (G_law_shuffled : FnOk P₀ w K mg base (L2.CX P₀ w) 2 f_law_shuffled fd_law_shuffled ["st", "row"] (upSp K et sp_law_shuffled)) (g_law_shuffled : mg "_law_shuffled" = some (.ref f_law_shuffled)) (F_law_shuffled : FnP K "_law_shuffled" s_law_shuffled f_law_shuffled fd_law_shuffled) (B_law_shuffled : Binds K fd_law_shuffled ["st", "row"] []) {f_law_draw : Addr} {fd_law_draw : FuncData} (G_law_draw : FnOk P₀ w K mg base (L2.CX P₀ w) 1 f_law_draw fd_law_draw ["st", "many"] (upSp K et sp_law_draw)) (g_law_draw : mg "_law_draw" = some (.ref f_law_draw)) (F_law_draw : FnP K "_law_draw" s_law_draw f_law_draw fd_law_draw) (B_law_draw : Binds K fd_law_draw ["st", "many"] []) {f_law_signed : Addr} {fd_law_signed : FuncData} (G_law_signed : FnOk P₀ w K mg base (L2.CX P₀ w) 2 f_law_signed fd_law_signed ["st", "top"] (upSp K et sp_law_signed)) (g_law_signed : mg "_law_signed" = some (.ref f_law_signed)) (F_law_signed : FnP K "_law_signed" s_law_signed f_law_signed fd_law_signed) (B_law_signed : Binds K fd_law_signed ["st", "top"] []) (F : FnP K "_law_case" s_law_case f fd) : FnOk P₀ w K mg base (L2.CX P₀ w) 3 f fd ["st"] (upSp K et sp_law_case) :=
  fn_ok (t := b_law_case) F sc_law_case sp1_len (fun cdv A outer s H E hr => have nd := sc_law_case.nd; have hu := hr.units; have hu5 := hu5_of hr; (ss_cons 98 (s_set nd (e_callF G_law_draw (hr.mono (by omega)) g_law_draw F_law_draw.kp B_law_draw (ea_cons (e_var 0) (ea_cons e_int ea_nil))))
  (ss_cons 99 (s_set nd (e_op og_add e_int (e_callF G_law_draw (hr.mono (by omega)) g_law_draw F_law_draw.kp B_law_draw (ea_cons (e_var 0) (ea_cons (e_ix (e_lst (ea_cons e_int (ea_cons e_int (ea_cons e_int (ea_cons e_int (ea_cons e_int (ea_cons e_int (ea_cons e_int (ea_cons e_int ea_nil))))))))) (e_var 1)) ea_nil)))))
  (ss_cons 100 (s_set nd (e_callF G_law_draw (hr.mono (by omega)) g_law_draw F_law_draw.kp B_law_draw (ea_cons (e_var 0) (ea_cons e_int ea_nil))))
  (ss_cons 102 (s_if (eb_cmp og_gt (e_var 1) e_int)
  (ss_one (s_set nd (e_callF G_law_draw (hr.mono (by omega)) g_law_draw F_law_draw.kp B_law_draw (ea_cons (e_var 0) (ea_cons (e_ix (e_lst (ea_cons e_int (ea_cons e_int ea_nil))) (e_ct cg_intA (by rfl) m_int (by decide +kernel) (ea_cons (e_cmp (og_eq hu) (e_callF G_law_draw (hr.mono (by omega)) g_law_draw F_law_draw.kp B_law_draw (ea_cons (e_var 0) (ea_cons e_int ea_nil))) e_int) ea_nil))) ea_nil)))))
  ss_nil)
  (ss_cons 103 (s_set nd (e_ix (e_lst (ea_cons e_int (ea_cons e_int (ea_cons e_int (ea_cons (e_op og_pow e_int e_int) ea_nil))))) (e_callF G_law_draw (hr.mono (by omega)) g_law_draw F_law_draw.kp B_law_draw (ea_cons (e_var 0) (ea_cons e_int ea_nil)))))
  (ss_cons 105 (s_if (eb_cmp (og_eq hu) (e_op og_mod (e_ct cg_intA (by rfl) m_int (by decide +kernel) (ea_cons (e_var 1) ea_nil)) e_int) e_int)
  (ss_one (s_ret (e_tup (ea_cons (e_var 2) (ea_cons (e_lc [("k", 7)] rfl nd (i_rng1 m_range (ea_cons (e_var 3) ea_nil)) (blkOk_by (N := N_law_case) (sc := defScope s_law_case) (by decide +kernel)) (by decide) (fun _ _ _ _ _ => ct_one nd) (fun _ _ _ _ _ => ets_nil) (fun _ _ _ _ _ => (e_tup (ea_cons (e_callF G_law_draw (hr.mono (by omega)) g_law_draw F_law_draw.kp B_law_draw (ea_cons (e_var 0) (ea_cons (e_var 2) ea_nil))) (ea_cons (e_callF G_law_draw (hr.mono (by omega)) g_law_draw F_law_draw.kp B_law_draw (ea_cons (e_var 0) (ea_cons (e_var 2) ea_nil))) (ea_cons (e_callF G_law_signed (hr.mono (by omega)) g_law_signed F_law_signed.kp B_law_signed (ea_cons (e_var 0) (ea_cons (e_var 4) ea_nil))) ea_nil)))))) (ea_cons e_str ea_nil))))))
  ss_nil)
  (ss_cons 106 (s_setLc [("k", 7)] rfl nd (sw_true rfl rfl rfl (by decide +kernel)) (i_rng1 m_range (ea_cons (e_var 2) ea_nil)) (blkOk_by (N := N_law_case) (sc := defScope s_law_case) (by decide +kernel)) (by decide) (fun _ _ _ _ _ => ct_one nd) (fun _ _ _ _ _ => ets_nil) (fun _ _ _ _ _ => (e_callF G_law_draw (hr.mono (by omega)) g_law_draw F_law_draw.kp B_law_draw (ea_cons (e_var 0) (ea_cons (e_op og_add (e_cb (cg_min2 rfl) (by rfl) m_min (by decide +kernel) (ea_cons (e_var 4) (ea_cons (e_op og_sub (e_op og_pow e_int e_int) e_int) ea_nil))) e_int) ea_nil)))))
  (ss_cons 107 (s_set nd (e_lstM ea_nil))
  (ss_cons 112 (s_for [7, 8, 9, 10] PassesOwn.never rfl (i_rng1 m_range (ea_cons (e_cb (cg_min2 rfl) (by rfl) m_min (by decide +kernel) (ea_cons (e_var 3) (ea_cons e_int ea_nil))) ea_nil)) (g_name nd)
  (ss_cons 109 (s_set nd (e_callF G_law_draw (hr.mono (by omega)) g_law_draw F_law_draw.kp B_law_draw (ea_cons (e_var 0) (ea_cons (e_var 2) ea_nil))))
  (ss_cons 110 (s_set nd (e_callF G_law_draw (hr.mono (by omega)) g_law_draw F_law_draw.kp B_law_draw (ea_cons (e_var 0) (ea_cons (e_var 2) ea_nil))))
  (ss_cons 111 (s_set nd (e_op og_mul (e_callF G_law_draw (hr.mono (by omega)) g_law_draw F_law_draw.kp B_law_draw (ea_cons (e_var 0) (ea_cons e_int ea_nil))) (e_callF G_law_draw (hr.mono (by omega)) g_law_draw F_law_draw.kp B_law_draw (ea_cons (e_var 0) (ea_cons (e_op og_add (e_var 4) e_int) ea_nil)))))
  (ss_one (s_expr (e_lm PySem.F.slot_list_append PySem.F.type_list_append mg_append (e_var 6) (ea_cons (e_tup (ea_cons (e_var 8) (ea_cons (e_var 9) (ea_cons (e_cb (cg_min2 rfl) (by rfl) m_min (by decide +kernel) (ea_cons (e_op og_pow e_int e_int) (ea_cons (e_op og_add (e_op og_sub (e_ix (e_var 5) (e_var 9)) (e_ix (e_var 5) (e_var 8))) (e_var 10)) ea_nil))) ea_nil)))) ea_nil))))))))
  (ss_cons 113 (s_set nd (e_slice sg_sl (e_callF G_law_shuffled (hr.mono (by omega)) g_law_shuffled F_law_shuffled.kp B_law_shuffled (ea_cons (e_var 0) (ea_cons (e_lstR m_list (er_1 m_range (e_var 2))) ea_nil))) eo_none (eo_some (e_callF G_law_draw (hr.mono (by omega)) g_law_draw F_law_draw.kp B_law_draw (ea_cons (e_var 0) (ea_cons (e_op og_add (e_var 2) e_int) ea_nil))))))
  (ss_cons 114 (s_set nd (e_callF G_law_draw (hr.mono (by omega)) g_law_draw F_law_draw.kp B_law_draw (ea_cons (e_var 0) (ea_cons e_int ea_nil))))
  (ss_cons 117 (s_for [9, 13] PassesOwn.never rfl (i_rng1 m_range (ea_cons (e_cb cg_lenC (by rfl) m_len (by decide +kernel) (ea_cons (e_var 11) ea_nil)) ea_nil)) (g_name nd)
  (ss_cons 116 (s_set nd (e_ix (e_var 11) (e_op og_mod (e_ct cg_intA (by rfl) m_int (by decide +kernel) (ea_cons (e_op og_add (e_var 13) e_int) ea_nil)) (e_cb cg_lenC (by rfl) m_len (by decide +kernel) (ea_cons (e_var 11) ea_nil)))))
  (ss_one (s_expr (e_lm PySem.F.slot_list_append PySem.F.type_list_append mg_append (e_var 6) (ea_cons (e_tup (ea_cons (e_ix (e_var 11) (e_var 13)) (ea_cons (e_var 9) (ea_cons (e_op og_sub (e_op og_sub (e_ix (e_var 5) (e_var 9)) (e_ix (e_var 5) (e_ix (e_var 11) (e_var 13)))) (e_op og_mul (e_var 12) (e_ct cg_intA (by rfl) m_int (by decide +kernel) (ea_cons (e_cmp (og_eq hu) (e_var 13) e_int) ea_nil)))) ea_nil)))) ea_nil))))))
  (ss_cons 119 (s_frz [6] (s_if (EW.pt (ew_and (eb_cmp (og_eq hu) (e_var 12) e_int) (ew_and1 (eb_cmp (og_ne hu) (e_var 11) (e_lst ea_nil)))))
  (ss_one (s_ret (e_tup (ea_cons (e_var 2) (ea_cons (e_callF G_law_shuffled (hr.mono (by omega)) g_law_shuffled F_law_shuffled.kp B_law_shuffled (ea_cons (e_var 0) (ea_cons (e_var 6) ea_nil))) (ea_cons e_str ea_nil))))))
  ss_nil))
  (ss_one (s_ret (e_tup (ea_cons (e_var 2) (ea_cons (e_callF G_law_shuffled (hr.mono (by omega)) g_law_shuffled F_law_shuffled.kp B_law_shuffled (ea_cons (e_var 0) (ea_cons (e_var 6) ea_nil))) (ea_cons e_str ea_nil)))))))))))))))))))) pure_law_case
theorem ok_law_keeps (m_isinstance : mg "isinstance" = none) (m_len : mg "len" = none) (m_list : mg "list" = none) {f_law_int : Addr} {fd_law_int : FuncData} (G_law_int : FnOk P₀ w K mg base (L2.CX P₀ w) 1 f_law_int fd_law_int ["x"] (upSp K et sp_law_int)) (g_law_int : mg "_law_int" = some (.ref f_law_int)) (F_law_int : FnP K "_law_int" s_law_int f_law_int fd_law_int) (B_law_int : Binds K fd_law_int ["x"] []) (F : FnP K "_law_keeps" s_law_keeps f fd) : FnOk P₀ w K mg base (L2.CX P₀ w) 2 f fd ["n", "rows", "table"] (upSp K et sp_law_keeps) :=
  fn_ok (t := b_law_keeps) F sc_law_keeps sp3_len (fun cdv A outer s H E hr => have nd := sc_law_keeps.nd; have hu := hr.units; have hu5 := hu5_of hr; (ss_cons 123 (s_if (EW.pt (ew_or (eb_not (eb_tru (e_isi m_isinstance m_list (by decide +kernel) (isi_list) (e_var 2)))) (ew_or1 (eb_cmp (og_ne hu) (e_cb cg_lenC (by rfl) m_len (by decide +kernel) (ea_cons (e_var 2) ea_nil)) (e_var 0)))))
  (ss_one (s_ret e_bl))
  ss_nil)
  (ss_cons 126 (s_for [3] PassesOwn.never rfl (i_val (e_var 2)) (g_name nd)
  (ss_one (s_if (EW.pt (ew_or (eb_not (eb_tru (e_callF G_law_int (hr.mono (by omega)) g_law_int F_law_int.kp B_law_int (ea_cons (e_var 3) ea_nil)))) (ew_or1 (eb_cmp og_lt (e_var 3) e_int))))
  (ss_one (s_ret e_bl))
  ss_nil)))
  (ss_cons 129 (s_for [4, 5, 6] PassesOwn.never rfl (i_val (e_var 1)) (g_tup rfl (gs_cons (g_name nd) (gs_cons (g_name nd) (gs_cons (g_name nd) gs_nil))))
  (ss_one (s_if (eb_cmp og_gt (e_op og_sub (e_ix (e_var 2) (e_var 5)) (e_ix (e_var 2) (e_var 4))) (e_var 6))
  (ss_one (s_ret e_bl))
  ss_nil)))
  (ss_one (s_ret e_bl)))))) pure_law_keeps
theorem ok_law_held_up (m_len : mg "len" = none) (m_range : mg "range" = none) (F : FnP K "_law_held_up" s_law_held_up f fd) : FnOk P₀ w K mg base (L2.CX P₀ w) 1 f fd ["rows", "table"] (upSp K et sp_law_held_up) :=
  fn_ok (t := b_law_held_up) F sc_law_held_up sp2_len (fun cdv A outer s H E hr => have nd := sc_law_held_up.nd; have hu := hr.units; have hu5 := hu5_of hr; (ss_cons 132 (s_setLcM [("x", 7)] rfl nd (sw_true rfl rfl rfl (by decide +kernel)) (i_val (e_var 1)) (blkOk_by (N := N_law_held_up) (sc := defScope s_law_held_up) (by decide +kernel)) (by decide) (fun _ _ _ _ _ => ct_one nd) (fun _ _ _ _ _ => ets_nil) (fun _ _ _ _ _ => (e_cmp (og_eq hu) (e_var 7) e_int)))
  (ss_cons 136 (s_for [3, 4, 5, 6] PassesOwn.never rfl (i_rng1 m_range (ea_cons (e_cb cg_lenC (by rfl) m_len (by decide +kernel) (ea_cons (e_var 1) ea_nil)) ea_nil)) (g_name nd)
  (ss_one (s_for [4, 5, 6] PassesOwn.never rfl (i_val (e_var 0)) (g_tup rfl (gs_cons (g_name nd) (gs_cons (g_name nd) (gs_cons (g_name nd) gs_nil))))
  (ss_one (s_if (EW.pt (ew_and (eb_tru (e_ix (e_var 2) (e_var 5))) (ew_and1 (eb_cmp (og_eq hu) (e_op og_sub (e_ix (e_var 1) (e_var 5)) (e_ix (e_var 1) (e_var 4))) (e_var 6)))))
  (ss_one (s_asg e_bl (g_sub (e_var 2) (e_var 4))))
  ss_nil)))))
  (ss_one (s_frz [2] (s_ret (e_cmp (og_notin hu5) e_bl (e_var 2)))))))) pure_law_held_up
theorem ok_law_ring_ok (m_int : mg "int" = none) (m_isinstance : mg "isinstance" = none) (m_len : mg "len" = none) (m_list : mg "list" = none) (m_range : mg "range" = none) {f_law_int : Addr} {fd_law_int : FuncData} (G_law_int : FnOk P₀ w K mg base (L2.CX P₀ w) 1 f_law_int fd_law_int ["x"] (upSp K et sp_law_int)) (g_law_int : mg "_law_int" = some (.ref f_law_int)) (F_law_int : FnP K "_law_int" s_law_int f_law_int fd_law_int) (B_law_int : Binds K fd_law_int ["x"] []) (F : FnP K "_law_ring_ok" s_law_ring_ok f fd) : FnOk P₀ w K mg base (L2.CX P₀ w) 2 f fd ["rows", "ring"] (upSp K et sp_law_ring_ok) :=
  fn_ok (t := b_law_ring_ok) F sc_law_ring_ok sp2_len (fun cdv A outer s H E hr => have nd := sc_law_ring_ok.nd; have hu := hr.units; have hu5 := hu5_of hr; (ss_cons 140 (s_if (EW.pt (ew_or (eb_not (eb_tru (e_isi m_isinstance m_list (by decide +kernel) (isi_list) (e_var 1)))) (ew_or1 (eb_cmp (og_eq hu) (e_var 1) (e_lst ea_nil)))))
  (ss_one (s_ret e_bl))
  ss_nil)
  (ss_cons 143 (s_for [2] PassesOwn.never rfl (i_val (e_var 1)) (g_name nd)
  (ss_one (s_if (EW.pt (ew_or (eb_not (eb_tru (e_callF G_law_int (hr.mono (by omega)) g_law_int F_law_int.kp B_law_int (ea_cons (e_var 2) ea_nil)))) (ew_or (eb_cmp og_lt (e_var 2) e_int) (ew_or1 (eb_cmp og_ge (e_var 2) (e_cb cg_lenC (by rfl) m_len (by decide +kernel) (ea_cons (e_var 0) ea_nil)))))))
  (ss_one (s_ret e_bl))
  ss_nil)))
  (ss_cons 144 (s_set nd e_int)
  (ss_cons 145 (s_set nd (e_lstM ea_nil))
  (ss_cons 150 (s_for [5] PassesOwn.never rfl (i_rng1 m_range (ea_cons (e_cb cg_lenC (by rfl) m_len (by decide +kernel) (ea_cons (e_var 1) ea_nil)) ea_nil)) (g_name nd)
  (ss_cons 148 (s_if (EW.pt (ew_or (eb_cmp (og_ne hu) (e_ix (e_ix (e_var 0) (e_ix (e_var 1) (e_var 5))) e_int) (e_ix (e_ix (e_var 0) (e_ix (e_var 1) (e_op og_mod (e_ct cg_intA (by rfl) m_int (by decide +kernel) (ea_cons (e_op og_add (e_var 5) e_int) ea_nil)) (e_cb cg_lenC (by rfl) m_len (by decide +kernel) (ea_cons (e_var 1) ea_nil))))) e_int)) (ew_or1 (eb_cmp (og_in hu5) (e_ix (e_ix (e_var 0) (e_ix (e_var 1) (e_var 5))) e_int) (e_var 4)))))
  (ss_one (s_ret e_bl))
  ss_nil)
  (ss_cons 149 (s_expr (e_lm PySem.F.slot_list_append PySem.F.type_list_append mg_append (e_var 4) (ea_cons (e_ix (e_ix (e_var 0) (e_ix (e_var 1) (e_var 5))) e_int) ea_nil)))
  (ss_one (s_set nd (e_op og_add (e_var 3) (e_ix (e_ix (e_var 0) (e_ix (e_var 1) (e_var 5))) e_int)))))))
  (ss_one (s_frz [4] (s_ret (e_cmp og_lt (e_var 3) e_int)))))))))) pure_law_ring_ok
theorem ok_law_right (m_isinstance : mg "isinstance" = none) (m_len : mg "len" = none) (m_str : mg "str" = none) (m_tuple : mg "tuple" = none) {f_law_ring_ok : Addr} {fd_law_ring_ok : FuncData} (G_law_ring_ok : FnOk P₀ w K mg base (L2.CX P₀ w) 2 f_law_ring_ok fd_law_ring_ok ["rows", "ring"] (upSp K et sp_law_ring_ok)) (g_law_ring_ok : mg "_law_ring_ok" = some (.ref f_law_ring_ok)) (F_law_ring_ok : FnP K "_law_ring_ok" s_law_ring_ok f_law_ring_ok fd_law_ring_ok) (B_law_ring_ok : Binds K fd_law_ring_ok ["rows", "ring"] []) {f_law_keeps : Addr} {fd_law_keeps : FuncData} (G_law_keeps : FnOk P₀ w K mg base (L2.CX P₀ w) 2 f_law_keeps fd_law_keeps ["n", "rows", "table"] (upSp K et sp_law_keeps)) (g_law_keeps : mg "_law_keeps" = some (.ref f_law_keeps)) (F_law_keeps : FnP K "_law_keeps" s_law_keeps f_law_keeps fd_law_keeps) (B_law_keeps : Binds K fd_law_keeps ["n", "rows", "table"] []) {f_law_held_up : Addr} {fd_law_held_up : FuncData} (G_law_held_up : FnOk P₀ w K mg base (L2.CX P₀ w) 1 f_law_held_up fd_law_held_up ["rows", "table"] (upSp K et sp_law_held_up)) (g_law_held_up : mg "_law_held_up" = some (.ref f_law_held_up)) (F_law_held_up : FnP K "_law_held_up" s_law_held_up f_law_held_up fd_law_held_up) (B_law_held_up : Binds K fd_law_held_up ["rows", "table"] []) (F : FnP K "_law_right" s_law_right f fd) : FnOk P₀ w K mg base (L2.CX P₀ w) 3 f fd ["n", "rows", "told"] (upSp K et sp_law_right) :=
  fn_ok (t := b_law_right) F sc_law_right sp3_len (fun cdv A outer s H E hr => have nd := sc_law_right.nd; have hu := hr.units; have hu5 := hu5_of hr; (ss_cons 154 (s_if (EW.pt (ew_or (eb_not (eb_tru (e_isi m_isinstance m_tuple (by decide +kernel) (isi_tuple) (e_var 2)))) (ew_or (eb_cmp (og_ne hu) (e_cb cg_lenC (by rfl) m_len (by decide +kernel) (ea_cons (e_var 2) ea_nil)) e_int) (ew_or1 (eb_not (eb_tru (e_isi m_isinstance m_str (by decide +kernel) (isi_str) (e_ix (e_var 2) e_int))))))))
  (ss_one (s_ret e_bl))
  ss_nil)
  (ss_cons 156 (s_if (eb_cmp (og_eq hu) (e_ix (e_var 2) e_int) e_str)
  (ss_one (s_ret (e_and (e_callF G_law_keeps (hr.mono (by omega)) g_law_keeps F_law_keeps.kp B_law_keeps (ea_cons (e_var 0) (ea_cons (e_var 1) (ea_cons (e_ix (e_var 2) e_int) ea_nil)))) (e_one (e_callF G_law_held_up (hr.mono (by omega)) g_law_held_up F_law_held_up.kp B_law_held_up (ea_cons (e_var 1) (ea_cons (e_ix (e_var 2) e_int) ea_nil)))))))
  ss_nil)
  (ss_one (s_ret (e_and (e_cmp (og_eq hu) (e_ix (e_var 2) e_int) e_str) (e_one (e_callF G_law_ring_ok (hr.mono (by omega)) g_law_ring_ok F_law_ring_ok.kp B_law_ring_ok (ea_cons (e_var 1) (ea_cons (e_ix (e_var 2) e_int) ea_nil)))))))))) pure_law_right
theorem ok_law (m_len : mg "len" = none) (m_list : mg "list" = none) (m_max : mg "max" = none) {f_law_right : Addr} {fd_law_right : FuncData} (G_law_right : FnOk P₀ w K mg base (L2.CX P₀ w) 3 f_law_right fd_law_right ["n", "rows", "told"] (upSp K et sp_law_right)) (g_law_right : mg "_law_right" = some (.ref f_law_right)) (F_law_right : FnP K "_law_right" s_law_right f_law_right fd_law_right) (B_law_right : Binds K fd_law_right ["n", "rows", "told"] []) {f_solve_rings : Addr} {fd_solve_rings : FuncData} (G_solve_rings : FnOk P₀ w K mg base (L2.CX P₀ w) 3 f_solve_rings fd_solve_rings ["n", "constraints"] (upSp K et sp_solve_rings)) (g_solve_rings : mg "solve_rings" = some (.ref f_solve_rings)) (F_solve_rings : FnP K "solve_rings" s_solve_rings f_solve_rings fd_solve_rings) (B_solve_rings : Binds K fd_solve_rings ["n", "constraints"] []) {f_law_draw : Addr} {fd_law_draw : FuncData} (G_law_draw : FnOk P₀ w K mg base (L2.CX P₀ w) 1 f_law_draw fd_law_draw ["st", "many"] (upSp K et sp_law_draw)) (g_law_draw : mg "_law_draw" = some (.ref f_law_draw)) (F_law_draw : FnP K "_law_draw" s_law_draw f_law_draw fd_law_draw) (B_law_draw : Binds K fd_law_draw ["st", "many"] []) {f_ring_breaks : Addr} {fd_ring_breaks : FuncData} (G_ring_breaks : FnOk P₀ w K mg base (L2.CX P₀ w) 2 f_ring_breaks fd_ring_breaks ["n", "constraints", "ring"] (upSp K et sp_ring_breaks)) (g_ring_breaks : mg "ring_breaks" = some (.ref f_ring_breaks)) (F_ring_breaks : FnP K "ring_breaks" s_ring_breaks f_ring_breaks fd_ring_breaks) (B_ring_breaks : Binds K fd_ring_breaks ["n", "constraints", "ring"] []) {f_table_keeps : Addr} {fd_table_keeps : FuncData} (G_table_keeps : FnOk P₀ w K mg base (L2.CX P₀ w) 1 f_table_keeps fd_table_keeps ["n", "constraints", "table"] (upSp K et sp_table_keeps)) (g_table_keeps : mg "table_keeps" = some (.ref f_table_keeps)) (F_table_keeps : FnP K "table_keeps" s_table_keeps f_table_keeps fd_table_keeps) (B_table_keeps : Binds K fd_table_keeps ["n", "constraints", "table"] []) {f_law_case : Addr} {fd_law_case : FuncData} (G_law_case : FnOk P₀ w K mg base (L2.CX P₀ w) 3 f_law_case fd_law_case ["st"] (upSp K et sp_law_case)) (g_law_case : mg "_law_case" = some (.ref f_law_case)) (F_law_case : FnP K "_law_case" s_law_case f_law_case fd_law_case) (B_law_case : Binds K fd_law_case ["st"] []) {f_law_start : Addr} {fd_law_start : FuncData} (G_law_start : FnOk P₀ w K mg base (L2.CX P₀ w) 1 f_law_start fd_law_start ["script"] (upSp K et sp_law_start)) (g_law_start : mg "_law_start" = some (.ref f_law_start)) (F_law_start : FnP K "_law_start" s_law_start f_law_start fd_law_start) (B_law_start : Binds K fd_law_start ["script"] []) (F : FnP K "law" s_law f fd) : FnOk P₀ w K mg base (L2.CX P₀ w) 4 f fd ["script"] (upSp K et sp_law) :=
  fn_ok (t := b_law) F sc_law sp1_len (fun cdv A outer s H E hr => have nd := sc_law.nd; have hu := hr.units; have hu5 := hu5_of hr; (ss_cons 159 (s_set nd (e_callF G_law_start (hr.mono (by omega)) g_law_start F_law_start.kp B_law_start (ea_cons (e_var 0) ea_nil)))
  (ss_cons 160 (s_asg (e_callF G_law_case (hr.mono (by omega)) g_law_case F_law_case.kp B_law_case (ea_cons (e_var 1) ea_nil)) (g_tup rfl (gs_cons (g_name nd) (gs_cons (g_name nd) (gs_cons (g_name nd) gs_nil)))))
  (ss_cons 161 (s_set nd (e_ct cg_listM (by rfl) m_list (by decide +kernel) (ea_cons (e_var 3) ea_nil)))
  (ss_cons 162 (s_set nd (e_callVC G_solve_rings (hr.mono (by omega)) g_solve_rings F_solve_rings.kp B_solve_rings (ea_cons (e_var 2) (ea_cons (e_var 5) ea_nil))))
  (ss_cons 164 (s_if (EW.pt (ew_or (eb_not (eb_tru (e_callVF G_law_right (hr.mono (by omega)) g_law_right F_law_right.kp B_law_right (ea_cons (e_var 2) (ea_cons (e_var 3) (ea_cons (e_var 6) ea_nil)))))) (ew_or1 (eb_cmp (og_notin hu5) (e_var 4) (e_lst (ea_cons e_str (ea_cons (e_ix (e_var 6) e_int) ea_nil)))))))
  (ss_one (s_ret e_bl))
  ss_nil)
  (ss_cons 165 (s_asg (e_var 6) (g_tupN rfl (cn_cons nd (cn_cons nd cn_nil))))
  (ss_cons 167 (s_if (EW.pt (ew_and (eb_cmp (og_eq hu) (e_var 7) e_str) (ew_and1 (eb_cmp og_isnotB (e_callVF G_table_keeps (hr.mono (by omega)) g_table_keeps F_table_keeps.kp B_table_keeps (ea_cons (e_var 2) (ea_cons (e_ct cg_list (by rfl) m_list (by decide +kernel) (ea_cons (e_var 3) ea_nil)) (ea_cons (e_var 8) ea_nil)))) e_bl))))
  (ss_one (s_ret e_bl))
  ss_nil)
  (ss_cons 169 (s_if (EW.pt (ew_and (eb_cmp (og_eq hu) (e_var 7) e_str) (ew_and1 (eb_cmp og_isnotB (e_callVF G_ring_breaks (hr.mono (by omega)) g_ring_breaks F_ring_breaks.kp B_ring_breaks (ea_cons (e_var 2) (ea_cons (e_ct cg_list (by rfl) m_list (by decide +kernel) (ea_cons (e_var 3) ea_nil)) (ea_cons (e_var 8) ea_nil)))) e_bl))))
  (ss_one (s_ret e_bl))
  ss_nil)
  (ss_cons 171 (s_if (eb_cmp (og_ne hu) (e_var 5) (e_var 3))
  (ss_one (s_ret e_bl))
  ss_nil)
  (ss_cons 172 (s_asg (e_neg e_int) (g_sub (e_var 8) e_int))
  (ss_cons 173 (s_expr (e_lm PySem.F.slot_list_append PySem.F.type_list_append mg_append (e_var 8) (ea_cons (e_var 2) ea_nil)))
  (ss_cons 174 (s_set nd (e_callF G_law_draw (hr.mono (by omega)) g_law_draw F_law_draw.kp B_law_draw (ea_cons (e_var 1) (ea_cons (e_cb (cg_max2 rfl) (by rfl) m_max (by decide +kernel) (ea_cons e_int (ea_cons (e_cb cg_lenC (by rfl) m_len (by decide +kernel) (ea_cons (e_var 3) ea_nil)) ea_nil))) ea_nil))))
  (ss_cons 175 (s_set nd (e_callF G_law_draw (hr.mono (by omega)) g_law_draw F_law_draw.kp B_law_draw (ea_cons (e_var 1) (ea_cons (e_var 2) ea_nil))))
  (ss_cons 176 (s_asg (e_lst (ea_cons (e_tup (ea_cons (e_var 10) (ea_cons (e_var 10) (ea_cons (e_op og_sub (e_neg e_int) (e_callF G_law_draw (hr.mono (by omega)) g_law_draw F_law_draw.kp B_law_draw (ea_cons (e_var 1) (ea_cons e_int ea_nil)))) ea_nil)))) ea_nil)) (g_slS (e_var 5) (eo_some (e_var 9)) (eo_some (e_op og_add (e_var 9) e_int))))
  (ss_cons 177 (s_set nd (e_ct cg_list (by rfl) m_list (by decide +kernel) (ea_cons (e_var 5) ea_nil)))
  (ss_cons 178 (s_set nd (e_callVC G_solve_rings (hr.mono (by omega)) g_solve_rings F_solve_rings.kp B_solve_rings (ea_cons (e_var 2) (ea_cons (e_var 5) ea_nil))))
  (ss_cons 180 (s_if (EW.pt (ew_or (eb_not (eb_tru (e_callVF G_law_right (hr.mono (by omega)) g_law_right F_law_right.kp B_law_right (ea_cons (e_var 2) (ea_cons (e_var 11) (ea_cons (e_var 6) ea_nil)))))) (ew_or (eb_cmp (og_ne hu) (e_ix (e_var 6) e_int) e_str) (ew_or1 (eb_cmp (og_ne hu) (e_var 5) (e_var 11))))))
  (ss_one (s_ret e_bl))
  ss_nil)
  (ss_cons 181 (s_asg (e_slice sg_sl (e_var 3) (eo_some (e_var 9)) (eo_some (e_op og_add (e_var 9) e_int))) (g_slS (e_var 5) (eo_some (e_var 9)) (eo_some (e_op og_add (e_var 9) e_int))))
  (ss_cons 182 (s_frz [5] (s_set nd (e_callVC G_solve_rings (hr.mono (by omega)) g_solve_rings F_solve_rings.kp B_solve_rings (ea_cons (e_var 2) (ea_cons (e_var 5) ea_nil)))))
  (ss_one (s_ret (e_and (e_callVF G_law_right (hr.mono (by omega)) g_law_right F_law_right.kp B_law_right (ea_cons (e_var 2) (ea_cons (e_var 3) (ea_cons (e_var 6) ea_nil)))) (e_and (e_cmp (og_eq hu) (e_ix (e_var 6) e_int) (e_var 7)) (e_one (e_cmp (og_eq hu) (e_var 5) (e_var 3))))))))))))))))))))))))))) pure_law
end
/-! the head: facts by names, the run -/
abbrev PP : Program := (PySem.W.OpenLaw.row PySem.Challenge.rw_scorestead_k43_whole_rings).prog
def d_law_start : He.DefD := ⟨("_law_start", none), "_law_start", "_law_start", defArgs s_law_start, defBody s_law_start, defScope s_law_start, [], []⟩
def d_law_draw : He.DefD := ⟨("_law_draw", none), "_law_draw", "_law_draw", defArgs s_law_draw, defBody s_law_draw, defScope s_law_draw, [], []⟩
def d_lift_round : He.DefD := ⟨("lift_round", none), "lift_round", "lift_round", defArgs s_lift_round, defBody s_lift_round, defScope s_lift_round, [], []⟩
def d_lift_table : He.DefD := ⟨("lift_table", none), "lift_table", "lift_table", defArgs s_lift_table, defBody s_lift_table, defScope s_lift_table, [], []⟩
def d_lifted_from : He.DefD := ⟨("lifted_from", none), "lifted_from", "lifted_from", defArgs s_lifted_from, defBody s_lifted_from, defScope s_lifted_from, [], []⟩
def d_member_of_ring : He.DefD := ⟨("member_of_ring", none), "member_of_ring", "member_of_ring", defArgs s_member_of_ring, defBody s_member_of_ring, defScope s_member_of_ring, [], []⟩
def d_ring_of : He.DefD := ⟨("ring_of", none), "ring_of", "ring_of", defArgs s_ring_of, defBody s_ring_of, defScope s_ring_of, [], []⟩
def d_solve_rings : He.DefD := ⟨("solve_rings", none), "solve_rings", "solve_rings", defArgs s_solve_rings, defBody s_solve_rings, defScope s_solve_rings, [], []⟩
def d_table_keeps : He.DefD := ⟨("table_keeps", none), "table_keeps", "table_keeps", defArgs s_table_keeps, defBody s_table_keeps, defScope s_table_keeps, [], []⟩
def d_are_numbers : He.DefD := ⟨("are_numbers", none), "are_numbers", "are_numbers", defArgs s_are_numbers, defBody s_are_numbers, defScope s_are_numbers, [], []⟩
def d_total_bound : He.DefD := ⟨("total_bound", none), "total_bound", "total_bound", defArgs s_total_bound, defBody s_total_bound, defScope s_total_bound, [], []⟩
def d_closes : He.DefD := ⟨("closes", none), "closes", "closes", defArgs s_closes, defBody s_closes, defScope s_closes, [], []⟩
def d_ring_breaks : He.DefD := ⟨("ring_breaks", none), "ring_breaks", "ring_breaks", defArgs s_ring_breaks, defBody s_ring_breaks, defScope s_ring_breaks, [], []⟩
def d_law_shuffled : He.DefD := ⟨("_law_shuffled", none), "_law_shuffled", "_law_shuffled", defArgs s_law_shuffled, defBody s_law_shuffled, defScope s_law_shuffled, [], []⟩
def d_law_int : He.DefD := ⟨("_law_int", none), "_law_int", "_law_int", defArgs s_law_int, defBody s_law_int, defScope s_law_int, [], []⟩
def d_law_signed : He.DefD := ⟨("_law_signed", none), "_law_signed", "_law_signed", defArgs s_law_signed, defBody s_law_signed, defScope s_law_signed, [], []⟩
def d_law_case : He.DefD := ⟨("_law_case", none), "_law_case", "_law_case", defArgs s_law_case, defBody s_law_case, defScope s_law_case, [], []⟩
def d_law_keeps : He.DefD := ⟨("_law_keeps", none), "_law_keeps", "_law_keeps", defArgs s_law_keeps, defBody s_law_keeps, defScope s_law_keeps, [], []⟩
def d_law_held_up : He.DefD := ⟨("_law_held_up", none), "_law_held_up", "_law_held_up", defArgs s_law_held_up, defBody s_law_held_up, defScope s_law_held_up, [], []⟩
def d_law_ring_ok : He.DefD := ⟨("_law_ring_ok", none), "_law_ring_ok", "_law_ring_ok", defArgs s_law_ring_ok, defBody s_law_ring_ok, defScope s_law_ring_ok, [], []⟩
def d_law_right : He.DefD := ⟨("_law_right", none), "_law_right", "_law_right", defArgs s_law_right, defBody s_law_right, defScope s_law_right, [], []⟩
def d_law : He.DefD := ⟨("law", none), "law", "law", defArgs s_law, defBody s_law, defScope s_law, [], []⟩
def fn : List He.DefD := [d_law_start, d_law_draw, d_lift_round, d_lift_table, d_lifted_from, d_member_of_ring, d_ring_of, d_solve_rings, d_table_keeps, d_are_numbers, d_total_bound, d_closes, d_ring_breaks, d_law_shuffled, d_law_int, d_law_signed, d_law_case, d_law_keeps, d_law_held_up, d_law_ring_ok, d_law_right, d_law]
def fa : List He.Fa := [.glo "_law_start", .glo "_law_draw", .glo "lift_round", .glo "lift_table", .glo "lifted_from", .glo "member_of_ring", .glo "ring_of", .glo "solve_rings", .glo "table_keeps", .glo "are_numbers", .glo "total_bound", .glo "closes", .glo "ring_breaks", .glo "_law_shuffled", .glo "_law_int", .glo "_law_signed", .glo "_law_case", .glo "_law_keeps", .glo "_law_held_up", .glo "_law_ring_ok", .glo "_law_right", .glo "law", .free "abs", .free "all", .free "any", .free "bool", .free "enumerate", .free "int", .free "isinstance", .free "len", .free "list", .free "max", .free "min", .free "range", .free "str", .free "sum", .free "tuple"]
def ex : List ExD := []
def more : List (PySem.W.Frag → Bool) := []
abbrev R : PySem.W.OpenRow := PySem.W.OpenLaw.row PySem.Challenge.rw_scorestead_k43_whole_rings
abbrev hk : PySem.W.Hook := hookS 4 fa fn ex (allB more)
def ob (s : PySem.W.SharedT) : AlS := obsSG 4 fa fn ex (allB more) (HandSHeadRun.getT s)
theorem ob_eq (s : PySem.W.SharedT) : ob s = hk.obs s.abs := obsSG_eq (HandSHeadRun.getT_eq s)
def names : List PySem.Str := "lift_round" :: "lift_table" :: "lifted_from" :: "member_of_ring" :: "ring_of" :: "solve_rings" :: "table_keeps" :: "are_numbers" :: "total_bound" :: "closes" :: "ring_breaks" :: "_law_start" :: "_law_draw" :: "_law_shuffled" :: "_law_int" :: "_law_signed" :: "_law_case" :: "_law_keeps" :: "_law_held_up" :: "_law_ring_ok" :: "_law_right" :: []
theorem run (w : World) : HandSHeadRun.RunEq R (PySem.W.view R.prog [23]) hk ob 20000 names w := by
  intro os
  kernel_rfl
theorem super_top : (PP.main.scope.names.lookup ("super" : Str)).isSome = false := by kernel_rfl
theorem facts {w : World} {K : PySem.W.Frag} {h : Heap} {mg : Str → Option Value} {f : Addr} (X : K.In h) (G : h.Ns mainGlobals mg) (hfa : mg ("law" : Str) = some (.ref f)) (c : SaysS fa fn ex (allB more) K) :
    ∃ fd : FuncData, (∀ (s : Shared) (v : Value), BindsTo s fd ⟨[v], []⟩ [("script", v)]) ∧ ∀ base : Heap, K.In base → base.Ns mainGlobals mg → FnOk PP w K mg base (L2.CX PP w) 4 f fd ["script"] (upSp K et sp_law) := by
  obtain ⟨fd_law_start, F_law_start⟩ := c.d.def_ 0 (d := d_law_start) rfl
  have g_law_start := He.glo_ok X G (c.d.fact 0 (f := .glo "_law_start") rfl)
  have B_law_start : Binds K fd_law_start ["script"] [] := FunD.bindsN F_law_start fun _ _ _ _ _ _ us hl => match us, hl with | [_], _ => rfl
  obtain ⟨fd_law_draw, F_law_draw⟩ := c.d.def_ 1 (d := d_law_draw) rfl
  have g_law_draw := He.glo_ok X G (c.d.fact 1 (f := .glo "_law_draw") rfl)
  have B_law_draw : Binds K fd_law_draw ["st", "many"] [] := FunD.bindsN F_law_draw fun _ _ _ _ _ _ us hl => match us, hl with | [_, _], _ => rfl
  obtain ⟨fd_lift_round, F_lift_round⟩ := c.d.def_ 2 (d := d_lift_round) rfl
  have g_lift_round := He.glo_ok X G (c.d.fact 2 (f := .glo "lift_round") rfl)
  have B_lift_round : Binds K fd_lift_round ["constraints", "table", "lifters"] [] := FunD.bindsN F_lift_round fun _ _ _ _ _ _ us hl => match us, hl with | [_, _, _], _ => rfl
  obtain ⟨fd_lift_table, F_lift_table⟩ := c.d.def_ 3 (d := d_lift_table) rfl
  have g_lift_table := He.glo_ok X G (c.d.fact 3 (f := .glo "lift_table") rfl)
  have B_lift_table : Binds K fd_lift_table ["n", "constraints"] [] := FunD.bindsN F_lift_table fun _ _ _ _ _ _ us hl => match us, hl with | [_, _], _ => rfl
  obtain ⟨fd_lifted_from, F_lifted_from⟩ := c.d.def_ 4 (d := d_lifted_from) rfl
  have g_lifted_from := He.glo_ok X G (c.d.fact 4 (f := .glo "lifted_from") rfl)
  have B_lifted_from : Binds K fd_lifted_from ["member", "constraints", "lifters"] [] := FunD.bindsN F_lifted_from fun _ _ _ _ _ _ us hl => match us, hl with | [_, _, _], _ => rfl
  obtain ⟨fd_member_of_ring, F_member_of_ring⟩ := c.d.def_ 5 (d := d_member_of_ring) rfl
  have g_member_of_ring := He.glo_ok X G (c.d.fact 5 (f := .glo "member_of_ring") rfl)
  have B_member_of_ring : Binds K fd_member_of_ring ["constraints", "lifters", "member"] [] := FunD.bindsN F_member_of_ring fun _ _ _ _ _ _ us hl => match us, hl with | [_, _, _], _ => rfl
  obtain ⟨fd_ring_of, F_ring_of⟩ := c.d.def_ 6 (d := d_ring_of) rfl
  have g_ring_of := He.glo_ok X G (c.d.fact 6 (f := .glo "ring_of") rfl)
  have B_ring_of : Binds K fd_ring_of ["constraints", "lifters", "member"] [] := FunD.bindsN F_ring_of fun _ _ _ _ _ _ us hl => match us, hl with | [_, _, _], _ => rfl
  obtain ⟨fd_solve_rings, F_solve_rings⟩ := c.d.def_ 7 (d := d_solve_rings) rfl
  have g_solve_rings := He.glo_ok X G (c.d.fact 7 (f := .glo "solve_rings") rfl)
  have B_solve_rings : Binds K fd_solve_rings ["n", "constraints"] [] := FunD.bindsN F_solve_rings fun _ _ _ _ _ _ us hl => match us, hl with | [_, _], _ => rfl
  obtain ⟨fd_table_keeps, F_table_keeps⟩ := c.d.def_ 8 (d := d_table_keeps) rfl
  have g_table_keeps := He.glo_ok X G (c.d.fact 8 (f := .glo "table_keeps") rfl)
  have B_table_keeps : Binds K fd_table_keeps ["n", "constraints", "table"] [] := FunD.bindsN F_table_keeps fun _ _ _ _ _ _ us hl => match us, hl with | [_, _, _], _ => rfl
  obtain ⟨fd_are_numbers, F_are_numbers⟩ := c.d.def_ 9 (d := d_are_numbers) rfl
  have g_are_numbers := He.glo_ok X G (c.d.fact 9 (f := .glo "are_numbers") rfl)
  have B_are_numbers : Binds K fd_are_numbers ["members", "constraints"] [] := FunD.bindsN F_are_numbers fun _ _ _ _ _ _ us hl => match us, hl with | [_, _], _ => rfl
  obtain ⟨fd_total_bound, F_total_bound⟩ := c.d.def_ 10 (d := d_total_bound) rfl
  have g_total_bound := He.glo_ok X G (c.d.fact 10 (f := .glo "total_bound") rfl)
  have B_total_bound : Binds K fd_total_bound ["rows"] [] := FunD.bindsN F_total_bound fun _ _ _ _ _ _ us hl => match us, hl with | [_], _ => rfl
  obtain ⟨fd_closes, F_closes⟩ := c.d.def_ 11 (d := d_closes) rfl
  have g_closes := He.glo_ok X G (c.d.fact 11 (f := .glo "closes") rfl)
  have B_closes : Binds K fd_closes ["rows"] [] := FunD.bindsN F_closes fun _ _ _ _ _ _ us hl => match us, hl with | [_], _ => rfl
  obtain ⟨fd_ring_breaks, F_ring_breaks⟩ := c.d.def_ 12 (d := d_ring_breaks) rfl
  have g_ring_breaks := He.glo_ok X G (c.d.fact 12 (f := .glo "ring_breaks") rfl)
  have B_ring_breaks : Binds K fd_ring_breaks ["n", "constraints", "ring"] [] := FunD.bindsN F_ring_breaks fun _ _ _ _ _ _ us hl => match us, hl with | [_, _, _], _ => rfl
  obtain ⟨fd_law_shuffled, F_law_shuffled⟩ := c.d.def_ 13 (d := d_law_shuffled) rfl
  have g_law_shuffled := He.glo_ok X G (c.d.fact 13 (f := .glo "_law_shuffled") rfl)
  have B_law_shuffled : Binds K fd_law_shuffled ["st", "row"] [] := FunD.bindsN F_law_shuffled fun _ _ _ _ _ _ us hl => match us, hl with | [_, _], _ => rfl
  obtain ⟨fd_law_int, F_law_int⟩ := c.d.def_ 14 (d := d_law_int) rfl
  have g_law_int := He.glo_ok X G (c.d.fact 14 (f := .glo "_law_int") rfl)
  have B_law_int : Binds K fd_law_int ["x"] [] := FunD.bindsN F_law_int fun _ _ _ _ _ _ us hl => match us, hl with | [_], _ => rfl
  obtain ⟨fd_law_signed, F_law_signed⟩ := c.d.def_ 15 (d := d_law_signed) rfl
  have g_law_signed := He.glo_ok X G (c.d.fact 15 (f := .glo "_law_signed") rfl)
  have B_law_signed : Binds K fd_law_signed ["st", "top"] [] := FunD.bindsN F_law_signed fun _ _ _ _ _ _ us hl => match us, hl with | [_, _], _ => rfl
  obtain ⟨fd_law_case, F_law_case⟩ := c.d.def_ 16 (d := d_law_case) rfl
  have g_law_case := He.glo_ok X G (c.d.fact 16 (f := .glo "_law_case") rfl)
  have B_law_case : Binds K fd_law_case ["st"] [] := FunD.bindsN F_law_case fun _ _ _ _ _ _ us hl => match us, hl with | [_], _ => rfl
  obtain ⟨fd_law_keeps, F_law_keeps⟩ := c.d.def_ 17 (d := d_law_keeps) rfl
  have g_law_keeps := He.glo_ok X G (c.d.fact 17 (f := .glo "_law_keeps") rfl)
  have B_law_keeps : Binds K fd_law_keeps ["n", "rows", "table"] [] := FunD.bindsN F_law_keeps fun _ _ _ _ _ _ us hl => match us, hl with | [_, _, _], _ => rfl
  obtain ⟨fd_law_held_up, F_law_held_up⟩ := c.d.def_ 18 (d := d_law_held_up) rfl
  have g_law_held_up := He.glo_ok X G (c.d.fact 18 (f := .glo "_law_held_up") rfl)
  have B_law_held_up : Binds K fd_law_held_up ["rows", "table"] [] := FunD.bindsN F_law_held_up fun _ _ _ _ _ _ us hl => match us, hl with | [_, _], _ => rfl
  obtain ⟨fd_law_ring_ok, F_law_ring_ok⟩ := c.d.def_ 19 (d := d_law_ring_ok) rfl
  have g_law_ring_ok := He.glo_ok X G (c.d.fact 19 (f := .glo "_law_ring_ok") rfl)
  have B_law_ring_ok : Binds K fd_law_ring_ok ["rows", "ring"] [] := FunD.bindsN F_law_ring_ok fun _ _ _ _ _ _ us hl => match us, hl with | [_, _], _ => rfl
  obtain ⟨fd_law_right, F_law_right⟩ := c.d.def_ 20 (d := d_law_right) rfl
  have g_law_right := He.glo_ok X G (c.d.fact 20 (f := .glo "_law_right") rfl)
  have B_law_right : Binds K fd_law_right ["n", "rows", "told"] [] := FunD.bindsN F_law_right fun _ _ _ _ _ _ us hl => match us, hl with | [_, _, _], _ => rfl
  obtain ⟨fd_law, F_law⟩ := c.d.def_ 21 (d := d_law) rfl
  have g_law := He.glo_ok X G (c.d.fact 21 (f := .glo "law") rfl)
  have B_law : Binds K fd_law ["script"] [] := FunD.bindsN F_law fun _ _ _ _ _ _ us hl => match us, hl with | [_], _ => rfl
  have m_abs := He.free_ok X G (c.d.fact 22 (f := .free "abs") rfl)
  have m_all := He.free_ok X G (c.d.fact 23 (f := .free "all") rfl)
  have m_any := He.free_ok X G (c.d.fact 24 (f := .free "any") rfl)
  have m_bool := He.free_ok X G (c.d.fact 25 (f := .free "bool") rfl)
  have m_enumerate := He.free_ok X G (c.d.fact 26 (f := .free "enumerate") rfl)
  have m_int := He.free_ok X G (c.d.fact 27 (f := .free "int") rfl)
  have m_isinstance := He.free_ok X G (c.d.fact 28 (f := .free "isinstance") rfl)
  have m_len := He.free_ok X G (c.d.fact 29 (f := .free "len") rfl)
  have m_list := He.free_ok X G (c.d.fact 30 (f := .free "list") rfl)
  have m_max := He.free_ok X G (c.d.fact 31 (f := .free "max") rfl)
  have m_min := He.free_ok X G (c.d.fact 32 (f := .free "min") rfl)
  have m_range := He.free_ok X G (c.d.fact 33 (f := .free "range") rfl)
  have m_str := He.free_ok X G (c.d.fact 34 (f := .free "str") rfl)
  have m_sum := He.free_ok X G (c.d.fact 35 (f := .free "sum") rfl)
  have m_tuple := He.free_ok X G (c.d.fact 36 (f := .free "tuple") rfl)
  have e := hfa.symm.trans g_law
  cases e
  have b := FunD.bindsA (ps := ["script"]) F_law fun _ _ _ _ _ _ us hl => match us, hl with | [_], _ => rfl
  refine ⟨fd_law, fun s v => b s [v] rfl, fun base _ _ => ?_⟩
  have G_law_start : FnOk PP w K mg base (L2.CX PP w) 1 _ fd_law_start ["script"] (upSp K et sp_law_start) := ok_start F_law_start m_len m_int m_abs
  have G_law_draw : FnOk PP w K mg base (L2.CX PP w) 1 _ fd_law_draw ["st", "many"] (upSp K et sp_law_draw) := ok_draw F_law_draw m_len m_int m_range
  have G_lift_round : FnOk PP w K mg base (L2.CX PP w) 1 _ fd_lift_round ["constraints", "table", "lifters"] (upSpM K et sp_lift_round) := ok_lift_round m_enumerate F_lift_round
  have G_lift_table : FnOk PP w K mg base (L2.CX PP w) 2 _ fd_lift_table ["n", "constraints"] (upSp K et sp_lift_table) := ok_lift_table m_range G_lift_round g_lift_round F_lift_round B_lift_round F_lift_table
  have G_lifted_from : FnOk PP w K mg base (L2.CX PP w) 1 _ fd_lifted_from ["member", "constraints", "lifters"] (upSp K et sp_lifted_from) := ok_lifted_from F_lifted_from
  have G_member_of_ring : FnOk PP w K mg base (L2.CX PP w) 2 _ fd_member_of_ring ["constraints", "lifters", "member"] (upSp K et sp_member_of_ring) := ok_member_of_ring m_len m_range G_lifted_from g_lifted_from F_lifted_from B_lifted_from F_member_of_ring
  have G_ring_of : FnOk PP w K mg base (L2.CX PP w) 2 _ fd_ring_of ["constraints", "lifters", "member"] (upSp K et sp_ring_of) := ok_ring_of G_lifted_from g_lifted_from F_lifted_from B_lifted_from F_ring_of
  have G_solve_rings : FnOk PP w K mg base (L2.CX PP w) 3 _ fd_solve_rings ["n", "constraints"] (upSp K et sp_solve_rings) := ok_solve_rings G_ring_of g_ring_of F_ring_of B_ring_of G_member_of_ring g_member_of_ring F_member_of_ring B_member_of_ring G_lift_table g_lift_table F_lift_table B_lift_table F_solve_rings
  have G_table_keeps : FnOk PP w K mg base (L2.CX PP w) 1 _ fd_table_keeps ["n", "constraints", "table"] (upSp K et sp_table_keeps) := ok_table_keeps m_all m_any m_len F_table_keeps
  have G_are_numbers : FnOk PP w K mg base (L2.CX PP w) 1 _ fd_are_numbers ["members", "constraints"] (upSp K et sp_are_numbers) := ok_are_numbers m_all m_len F_are_numbers
  have G_total_bound : FnOk PP w K mg base (L2.CX PP w) 1 _ fd_total_bound ["rows"] (upSp K et sp_total_bound) := ok_total_bound m_sum F_total_bound
  have G_closes : FnOk PP w K mg base (L2.CX PP w) 1 _ fd_closes ["rows"] (upSp K et sp_closes) := ok_closes m_enumerate m_len F_closes
  have G_ring_breaks : FnOk PP w K mg base (L2.CX PP w) 2 _ fd_ring_breaks ["n", "constraints", "ring"] (upSp K et sp_ring_breaks) := ok_ring_breaks m_len G_total_bound g_total_bound F_total_bound B_total_bound G_closes g_closes F_closes B_closes G_are_numbers g_are_numbers F_are_numbers B_are_numbers F_ring_breaks
  have G_law_shuffled : FnOk PP w K mg base (L2.CX PP w) 2 _ fd_law_shuffled ["st", "row"] (upSp K et sp_law_shuffled) := ok_law_shuffled m_len m_list m_range G_law_draw g_law_draw F_law_draw B_law_draw F_law_shuffled
  have G_law_int : FnOk PP w K mg base (L2.CX PP w) 1 _ fd_law_int ["x"] (upSp K et sp_law_int) := ok_law_int m_bool m_int m_isinstance F_law_int
  have G_law_signed : FnOk PP w K mg base (L2.CX PP w) 2 _ fd_law_signed ["st", "top"] (upSp K et sp_law_signed) := ok_law_signed G_law_draw g_law_draw F_law_draw B_law_draw F_law_signed
  have G_law_case : FnOk PP w K mg base (L2.CX PP w) 3 _ fd_law_case ["st"] (upSp K et sp_law_case) := ok_law_case m_int m_len m_list m_min m_range G_law_shuffled g_law_shuffled F_law_shuffled B_law_shuffled G_law_draw g_law_draw F_law_draw B_law_draw G_law_signed g_law_signed F_law_signed B_law_signed F_law_case
  have G_law_keeps : FnOk PP w K mg base (L2.CX PP w) 2 _ fd_law_keeps ["n", "rows", "table"] (upSp K et sp_law_keeps) := ok_law_keeps m_isinstance m_len m_list G_law_int g_law_int F_law_int B_law_int F_law_keeps
  have G_law_held_up : FnOk PP w K mg base (L2.CX PP w) 1 _ fd_law_held_up ["rows", "table"] (upSp K et sp_law_held_up) := ok_law_held_up m_len m_range F_law_held_up
  have G_law_ring_ok : FnOk PP w K mg base (L2.CX PP w) 2 _ fd_law_ring_ok ["rows", "ring"] (upSp K et sp_law_ring_ok) := ok_law_ring_ok m_int m_isinstance m_len m_list m_range G_law_int g_law_int F_law_int B_law_int F_law_ring_ok
  have G_law_right : FnOk PP w K mg base (L2.CX PP w) 3 _ fd_law_right ["n", "rows", "told"] (upSp K et sp_law_right) := ok_law_right m_isinstance m_len m_str m_tuple G_law_ring_ok g_law_ring_ok F_law_ring_ok B_law_ring_ok G_law_keeps g_law_keeps F_law_keeps B_law_keeps G_law_held_up g_law_held_up F_law_held_up B_law_held_up F_law_right
  have G_law : FnOk PP w K mg base (L2.CX PP w) 4 _ fd_law ["script"] (upSp K et sp_law) := ok_law m_len m_list m_max G_law_right g_law_right F_law_right B_law_right G_solve_rings g_solve_rings F_solve_rings B_solve_rings G_law_draw g_law_draw F_law_draw B_law_draw G_ring_breaks g_ring_breaks F_ring_breaks B_ring_breaks G_table_keeps g_table_keeps F_table_keeps B_table_keeps G_law_case g_law_case F_law_case B_law_case G_law_start g_law_start F_law_start B_law_start F_law
  exact G_law
end K43
open PySem PySem.W PySem.Calls PyProof.Rows
theorem PySem.Challenge.cw_scorestead_k43_whole_rings_holds : PySem.Challenge.rw_scorestead_k43_whole_rings.Holds := by
  w_on; o_law
  refine HandSHeadRun.head_any (r := OpenLaw.row PySem.Challenge.rw_scorestead_k43_whole_rings) (q := view (OpenLaw.row PySem.Challenge.rw_scorestead_k43_whole_rings).prog [23]) (H := K43.hk) (ob := K43.ob) (M := 20000) (loose := K43.names) (d := HandSHeadRun.topDef (OpenLaw.row PySem.Challenge.rw_scorestead_k43_whole_rings).prog 23) (kwd := []) K43.ob_eq
    (by kernel_rfl) (fun s => by kernel_rfl) K43.run (by kernel_rfl) (by kernel_rfl) (by kernel_rfl) (by rfl) (by first | assumption | decide +kernel) (by decide +kernel) ⟨rfl, rfl, rfl, rfl, rfl, by decide +kernel⟩ ?hw ?hc
  case hw => w_witness2
  case hc =>
    refine L2.walk_ofE (l := PySem.Challenge.rw_scorestead_k43_whole_rings) (n := 63) (k := 4) (x := "script") (CX := Sc.CXA K43.PP) rfl (by decide) (by kernel_rfl) ⟨rfl, by decide, by decide⟩ ?F Sc.cxa_no
    intro w mg fa h Y G hmg0
    obtain ⟨K, KX, c⟩ := Y
    have hmg : mg ("law" : PySem.Str) = some (.ref fa) := by
      have e : (HandSHeadRun.topDef (OpenLaw.row PySem.Challenge.rw_scorestead_k43_whole_rings).prog 23).name = ("law" : PySem.Str) := by kernel_rfl
      rw [← e]
      exact hmg0
    obtain ⟨fd, hb, hF⟩ := K43.facts (w := w) KX G hmg c
    exact ⟨K, fd, Sc.upSp K K43.et K43.sp_law, KX, hb, fun H a ns hl ho hS => Sc.law_sp ⟨ns, hl, rfl, rfl⟩ ho hS, fun base h1 h2 => Sc.fn_cxa (hF base h1 h2)⟩
